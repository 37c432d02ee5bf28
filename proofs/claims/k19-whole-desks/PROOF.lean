import PyProof.Rows.All
import Wide.All
import OpenK.AllK
import Wide.FinOn
import HandS.ForMost
import HandS.ForExc
import HandS.Deep
import HandS.Conv
import HandS.IsInst
import HandS.TupAny
import HandS.TupLe
import PyProof.Walk
import PyProof.WalkLemmas
import PyProof.SeqWrite
import PyProof.AutoSeq1
import HandS.Style
import KE.KSortedM
import KE.SortData
import KE.KExcSuper
import HandS.Exc
import HandS.ExcOwn
import HandS.TryMany
import HandS.TryOnly
import HandS.More
import HandS.Property
import HandS.EndTab
import HandS.EndOwn
import KE.KNestM
import PySem.Challenge.RW_threemoods_k19_whole_desks
set_option Elab.async false
set_option linter.all false
set_option maxRecDepth 100000
set_option maxHeartbeats 4000000
/-! The layer: a frozen heap F inside the real one H; what a piece evaluates to, as data; slots of a def. -/
namespace Tm
open PySem L2

/-! ### growth: nothing is changed, the frozen part takes new objects alone -/
/-- an object, no tuple -/
def Keep (o : Option HO) : Prop := ∃ u, o = some u ∧ ∀ xs, u ≠ .tup xs
theorem keep_lst {o : Option HO} {vs : List V} (h : o = some (.lst vs)) : Keep o := ⟨_, h, fun _ z => by cases z⟩
theorem Keep.ne {o : Option HO} (h : Keep o) : o ≠ none := by
  obtain ⟨u, e, _⟩ := h
  rw [e]
  exact fun z => nomatch z
theorem Keep.up {H H2 : Hp} (s : Same H H2) {b : Addr} (h : Keep (H b)) : Keep (H2 b) := by
  obtain ⟨u, e, n⟩ := h
  exact ⟨u, s b u e, n⟩
theorem Keep.back {H H2 : Hp} (s : Same H H2) {b : Addr} (h : H b ≠ none) (k : Keep (H2 b)) : Keep (H b) := by
  cases e : H b with
  | none => exact absurd e h
  | some u =>
    rw [s b u e] at k
    exact k
theorem Keep.mv {o o2 : Option HO} (h : Keep o) (m : ∀ u, o = some u → o2 = some u) : Keep o2 := by
  obtain ⟨u, e, n⟩ := h
  exact ⟨u, m u e, n⟩
/-- growth: the frozen part takes new objects, and tuples -/
structure Grow (F H F2 H2 : Hp) : Prop where
  f : Same F F2
  i : Same F2 H2
  h : Same H H2
  n : ∀ b, F b = none → Keep (H b) → F2 b = none
theorem n_step {F H F2 H2 : Hp} {b : Addr} (i : Same F H) (f : Same F F2) (i2 : Same F2 H2) (n : Keep (H b) → F b = none) (k : Keep (H2 b)) : F b = none := by
  cases e : F b with
  | none => rfl
  | some u =>
    rw [i2 b u (f b u e)] at k
    rw [← e]
    exact n (by rw [i b u e]; exact k)
theorem Grow.refl {F H : Hp} (i : Same F H) : Grow F H F H := ⟨Same.refl _, i, Same.refl _, fun _ a _ => a⟩
theorem some_ne {α : Type} {o : Option α} {x : α} (h : o = some x) : o ≠ none := by rw [h]; exact fun z => nomatch z
theorem sameKeeps {H H2 : Hp} (s : Same H H2) {b : Addr} (h : H b ≠ none) : H2 b ≠ none := by
  cases e : H b with
  | none => exact absurd e h
  | some o => exact some_ne (s b o e)
theorem Grow.trans {F H F2 H2 F3 H3 : Hp} (a : Grow F H F2 H2) (b : Grow F2 H2 F3 H3) : Grow F H F3 H3 :=
  ⟨a.f.trans b.f, b.i, a.h.trans b.h, fun x e1 e2 => b.n x (a.n x e1 e2) (e2.up a.h)⟩
theorem same_new {H : Hp} {p : Addr} {o : HO} (h : H p = none) : Same H (upd H p o) := fun b u e => by rw [upd_ne (ne_of_none e h)]; exact e

/-- a new frozen object -/
theorem Grow.new {F H : Hp} (s : Same F H) {p : Addr} {o : HO} (h : H p = none) : Grow F H (upd F p o) (upd H p o) := by
  have hf := s.free h
  refine ⟨same_new hf, fun b u e => ?_, same_new h, fun b e1 e2 => ?_⟩
  · by_cases q : b = p
    · subst q; rw [upd_same] at e ⊢; exact e
    · rw [upd_ne q] at e ⊢; exact s b u e
  · have q : b ≠ p := fun z => by subst z; exact e2.ne h
    rw [upd_ne q]; exact e1
/-- a new object, not frozen -/
theorem Grow.newM {F H : Hp} (s : Same F H) {p : Addr} {o : HO} (h : H p = none) : Grow F H F (upd H p o) :=
  ⟨Same.refl _, fun b u e => same_new h b u (s b u e), same_new h, fun _ a _ => a⟩

/-! ### data -/
theorem rd_up {F F2 : Hp} (s : Same F F2) {a : Addr} {u : HO} (h : Rd F a u) : Rd F2 a u := by
  rcases h with h | ⟨o, h⟩
  · exact .inl (s _ _ h)
  · exact .inr ⟨o, s _ _ h⟩
theorem sl_up {K : PySem.W.Frag} {F F2 : Hp} (s : Same F F2) {a : Addr} {xs : List V} (h : SqL K F a xs) : SqL K F2 a xs := s.seq h
theorem st_up {K : PySem.W.Frag} {F F2 : Hp} (s : Same F F2) {a : Addr} {xs : List V} (h : SqT K F a xs) : SqT K F2 a xs := by
  rcases h with h | h
  · exact .inl (rd_up s h)
  · exact .inr h
end Tm
namespace L2
open PySem
mutual
theorem Dp.up {K : PySem.W.Frag} {F F2 : Hp} (s : Same F F2) : ∀ (d : PyData) (v : V), Dp K F v d → Dp K F2 v d
  | .none, _, h => by cases h; exact .non
  | .bool b, _, h => by cases h; exact .bl b
  | .int i, _, h => by cases h; exact .int i
  | .str x, _, h => by cases h; exact .str x
  | .list ds, _, h => by
    cases h with
    | lst a b => exact .lst (Tm.sl_up s a) (DpAll.up s ds _ b)
  | .tuple ds, _, h => by
    cases h with
    | tup a b => exact .tup (Tm.st_up s a) (DpAll.up s ds _ b)
  | .dict _, _, h => by cases h
theorem DpAll.up {K : PySem.W.Frag} {F F2 : Hp} (s : Same F F2) : ∀ (ds : List PyData) (vs : List V), DpAll K F vs ds → DpAll K F2 vs ds
  | [], _, h => by cases h; exact .nil
  | d :: ds, _, h => by
    cases h with
    | cons a b => exact .cons (Dp.up s d _ a) (DpAll.up s ds _ b)
end
section
variable {K : PySem.W.Frag} {F F2 H H2 : Hp}
theorem DpAll.len : ∀ {vs : List V} {ds : List PyData}, DpAll K F vs ds → vs.length = ds.length
  | _, _, .nil => rfl
  | _, _, .cons _ t => by rw [List.length_cons, List.length_cons, DpAll.len t]
theorem DpAll.get : ∀ {vs : List V} {ds : List PyData} {i : Nat} {d : PyData}, DpAll K F vs ds → ds[i]? = some d → ∃ v, vs[i]? = some v ∧ Dp K F v d
  | _, _, i, _, .nil, e => by simp at e
  | _, _, 0, _, .cons a _, e => by simp at e; subst e; exact ⟨_, rfl, a⟩
  | _, _, i + 1, _, .cons _ t, e => by
    obtain ⟨v, h1, h2⟩ := DpAll.get (i := i) t (by simpa using e)
    exact ⟨v, by simpa using h1, h2⟩
theorem DpAll.getV : ∀ {vs : List V} {ds : List PyData} {i : Nat} {v : V}, DpAll K F vs ds → vs[i]? = some v → ∃ d, ds[i]? = some d ∧ Dp K F v d
  | _, _, i, _, .nil, e => by simp at e
  | _, _, 0, _, .cons a _, e => by simp at e; subst e; exact ⟨_, rfl, a⟩
  | _, _, i + 1, _, .cons _ t, e => by
    obtain ⟨d, h1, h2⟩ := DpAll.getV (i := i) t (by simpa using e)
    exact ⟨d, by simpa using h1, h2⟩
theorem DpAll.app : ∀ {vs ws : List V} {ds es : List PyData}, DpAll K F vs ds → DpAll K F ws es → DpAll K F (vs ++ ws) (ds ++ es)
  | _, _, _, _, .nil, h => h
  | _, _, _, _, .cons a t, h => .cons a (DpAll.app t h)
theorem DpAll.one {v : V} {d : PyData} (h : Dp K F v d) : DpAll K F [v] [d] := .cons h .nil
theorem DpAll.set : ∀ {vs : List V} {ds : List PyData} {v : V} {d : PyData} (i : Nat), DpAll K F vs ds → Dp K F v d → DpAll K F (vs.set i v) (ds.set i d)
  | _, _, _, _, _, .nil, _ => .nil
  | _, _, _, _, 0, .cons _ t, h => .cons h t
  | _, _, _, _, i + 1, .cons a t, h => .cons a (DpAll.set i t h)
theorem DpAll.take : ∀ {vs : List V} {ds : List PyData} (n : Nat), DpAll K F vs ds → DpAll K F (vs.take n) (ds.take n)
  | _, _, 0, _ => .nil
  | _, _, _ + 1, .nil => .nil
  | _, _, n + 1, .cons a t => .cons a (DpAll.take n t)
theorem DpAll.drop : ∀ {vs : List V} {ds : List PyData} (n : Nat), DpAll K F vs ds → DpAll K F (vs.drop n) (ds.drop n)
  | _, _, 0, h => h
  | _, _, _ + 1, .nil => .nil
  | _, _, n + 1, .cons _ t => DpAll.drop n t
theorem DpAll.ints : ∀ (ns : List Int), DpAll K F (ns.map V.int) (ns.map PyData.int)
  | [] => .nil
  | n :: r => .cons (.int n) (DpAll.ints r)
theorem DpAll.of_ints : ∀ {ns : List Int} {vs : List V}, DpAll K F vs (ns.map PyData.int) → vs = ns.map V.int
  | [], _, h => by cases h; rfl
  | n :: r, _, h => by
    cases h with
    | cons a t =>
      cases a
      rw [DpAll.of_ints t]
      rfl
theorem DpAll.of_bools : ∀ {ns : List Bool} {vs : List V}, DpAll K F vs (ns.map PyData.bool) → vs = ns.map V.bl
  | [], _, h => by cases h; rfl
  | n :: r, _, h => by
    cases h with
    | cons a t =>
      cases a
      rw [DpAll.of_bools t]
      rfl
theorem DpAll.of_strs : ∀ {ns : List Str} {vs : List V}, DpAll K F vs (ns.map PyData.str) → vs = ns.map V.str
  | [], _, h => by cases h; rfl
  | n :: r, _, h => by
    cases h with
    | cons a t =>
      cases a
      rw [DpAll.of_strs t]
      rfl
end
end L2
namespace Tm
open PySem L2
/-- scalars: told by themselves -/
inductive Sca : V → PyData → Prop
  | non : Sca .non .none
  | bl (b : Bool) : Sca (.bl b) (.bool b)
  | int (i : Int) : Sca (.int i) (.int i)
  | str (x : Str) : Sca (.str x) (.str x)
theorem Sca.dp {K : PySem.W.Frag} {F : Hp} {v : V} {d : PyData} (h : Sca v d) : Dp K F v d := by
  cases h with
  | non => exact .non
  | bl b => exact .bl b
  | int i => exact .int i
  | str x => exact .str x

/-! ### a def's slots -/
/-- what a desk holds: web, state, ticks, the states and ticks before -/
structure DeskD where
  w : PyData
  s : PyData
  t : Int
  ps : List PyData
def deskF (vw vs : V) (t : Int) (pl : Addr) : List (Str × V) := [("_web", vw), ("_state", vs), ("_ticks", .int t), ("_past", .ref pl)]
def DeskH (K : PySem.W.Frag) (F H : Hp) (C a dx pl : Addr) (D : DeskD) : Prop := ∃ vw vs vps, H a = some (.ins C dx (deskF vw vs D.t pl)) ∧ H dx = some (.own a) ∧ H pl = some (.lst vps) ∧ Dp K F vw D.w ∧ Dp K F vs D.s ∧ DpAll K F vps D.ps
structure DeskO (K : PySem.W.Frag) (M : Addr → Prop) (H0 F H : Hp) (C a dx pl : Addr) (D : DeskD) : Prop where
  fa : ∀ b, b = a ∨ b = dx ∨ b = pl → F b = none ∧ M b ∧ H0 b ≠ none
  mr : H0 pl = some (.own a)
  h : DeskH K F H C a dx pl D
theorem DeskO.to {K : PySem.W.Frag} {M : Addr → Prop} {H0 F H F2 H2 : Hp} {C a dx pl : Addr} {D : DeskD} (d : DeskO K M H0 F H C a dx pl D) (f : Same F F2) (nf : ∀ b, b = a ∨ b = dx ∨ b = pl → F2 b = none) (k : ∀ b, b = a ∨ b = dx ∨ b = pl → ∀ o, H b = some o → H2 b = some o) : DeskO K M H0 F2 H2 C a dx pl D := by
  obtain ⟨vw, vs, vps, h1, h2, h3, h4, h5, h6⟩ := d.h
  exact ⟨fun b hb => ⟨nf b hb, (d.fa b hb).2⟩, d.mr, vw, vs, vps, k a (.inl rfl) _ h1, k dx (.inr (.inl rfl)) _ h2, k pl (.inr (.inr rfl)) _ h3, Dp.up f _ _ h4, Dp.up f _ _ h5, DpAll.up f _ _ h6⟩
theorem DeskO.kp {K : PySem.W.Frag} {M : Addr → Prop} {H0 F H : Hp} {C a dx pl : Addr} {D : DeskD} (d : DeskO K M H0 F H C a dx pl D) : ∀ b, b = a ∨ b = dx ∨ b = pl → Keep (H b) := by
  obtain ⟨vw, vs, vps, h1, h2, h3, _⟩ := d.h
  rintro b (rfl | rfl | rfl)
  · exact ⟨_, h1, fun _ z => by cases z⟩
  · exact ⟨_, h2, fun _ z => by cases z⟩
  · exact ⟨_, h3, fun _ z => by cases z⟩
theorem DeskO.ne {K : PySem.W.Frag} {M : Addr → Prop} {H0 F H : Hp} {C a dx pl : Addr} {D : DeskD} (d : DeskO K M H0 F H C a dx pl D) {p : Addr} {ws : List V} (hp : H p = some (.lst ws)) (hz : ∀ x, H0 p ≠ some (.own x)) : ∀ b, b = a ∨ b = dx ∨ b = pl → b ≠ p := by
  obtain ⟨vw, vs, vps, h1, h2, h3, _⟩ := d.h
  rintro b (rfl | rfl | rfl) e
  · rw [e, hp] at h1; cases h1
  · rw [e, hp] at h2; cases h2
  · exact hz a (e ▸ d.mr)
theorem DeskO.upd {K : PySem.W.Frag} {M : Addr → Prop} {H0 F H : Hp} {C a dx pl : Addr} {D : DeskD} (d : DeskO K M H0 F H C a dx pl D) {p : Addr} {ws : List V} {o : HO} (hp : H p = some (.lst ws)) (hz : ∀ x, H0 p ≠ some (.own x)) : DeskO K M H0 F (L2.upd H p o) C a dx pl D :=
  d.to (Same.refl _) (fun b hb => (d.fa b hb).1) fun b hb o e => by rw [upd_ne (d.ne hp hz b hb)]; exact e
/-- over another base -/
theorem DeskO.on {K : PySem.W.Frag} {M : Addr → Prop} {H0 H1 F H : Hp} {C a dx pl : Addr} {D : DeskD} (d : DeskO K M H0 F H C a dx pl D) (h : ∀ b o, M b → H0 b = some o → H1 b = some o) : DeskO K M H1 F H C a dx pl D := by
  refine ⟨fun b hb => ⟨(d.fa b hb).1, (d.fa b hb).2.1, ?_⟩, h pl _ (d.fa pl (.inr (.inr rfl))).2.1 d.mr, d.h⟩
  cases e : H0 b with
  | none => exact absurd e (d.fa b hb).2.2
  | some o => exact some_ne (h b o (d.fa b hb).2.1 e)
theorem not_own {H0 : Hp} {p : Addr} (h : H0 p = none) : ∀ x, H0 p ≠ some (.own x) := fun x z => by rw [h] at z; cases z
/-- a list that was given -/
def MOk (M : Addr → Prop) (H0 : Hp) (p : Addr) : Prop := M p ∧ ∀ x, H0 p ≠ some (.own x)
inductive Slo where
  /-- not known -/
  | no
  /-- frozen data -/
  | fz (d : PyData)
  /-- a list of the def's own, its items frozen -/
  | mu (ds : List PyData)
  /-- a list that the caller gave to be changed -/
  | pm (ds : List PyData)
  /-- this very value; of what stands behind it others tell -/
  | ad (w : V)
  /-- the desk -/
  | dk (C a dx pl : Addr) (D : DeskD)
def Slo.mut : Slo → Bool
  | .mu _ => true
  | .pm _ => true
  | _ => false
def VOk (K : PySem.W.Frag) (M : Addr → Prop) (H0 F H : Hp) (v : V) : Slo → Prop
  | .no => True
  | .fz d => Dp K F v d
  | .mu ds => ∃ p vs, v = .ref p ∧ F p = none ∧ H0 p = none ∧ H p = some (.lst vs) ∧ DpAll K F vs ds
  | .pm ds => ∃ p vs, v = .ref p ∧ F p = none ∧ MOk M H0 p ∧ H p = some (.lst vs) ∧ DpAll K F vs ds
  | .ad w => v = w
  | .dk C a dx pl D => v = .ref a ∧ DeskO K M H0 F H C a dx pl D
structure Sta (K : PySem.W.Frag) (M : Addr → Prop) (F0 H0 : Hp) (r : List Slo) (s : L2.St) (F H : Hp) : Prop where
  f0 : Same F0 F
  i : Same F H
  h0 : ∀ b o, ¬ M b → H0 b = some o → H b = some o
  hd : ∀ b, H0 b ≠ none → H b ≠ none
  n0 : ∀ b, F0 b = none → H0 b ≠ none → Keep (H b) → F b = none
  len : s.length = r.length
  sl : ∀ (i : Nat) (t : Slo), r[i]? = some t → t = .no ∨ ∃ v, s[i]? = some (some v) ∧ VOk K M H0 F H v t
  dj : ∀ (i j : Nat) (t u : Slo) (p : Addr), r[i]? = some t → r[j]? = some u → t.mut = true → u.mut = true → s[i]? = some (some (.ref p)) → s[j]? = some (some (.ref p)) → i = j
section
variable {K : PySem.W.Frag} {M : Addr → Prop} {F0 H0 F H F2 H2 : Hp} {r : List Slo} {s : L2.St}
theorem VOk.grow {v : V} {t : Slo} (g : Grow F H F2 H2) (h : VOk K M H0 F H v t) : VOk K M H0 F2 H2 v t := by
  cases t with
  | no => trivial
  | ad w => exact h
  | dk C a dx pl D => exact ⟨h.1, h.2.to g.f (fun b hb => g.n b (h.2.fa b hb).1 (h.2.kp b hb)) fun b _ o e => g.h b o e⟩
  | fz d => exact Dp.up g.f _ _ h
  | mu ds =>
    obtain ⟨p, vs, e, f, h0, hp, a⟩ := h
    exact ⟨p, vs, e, g.n p f (keep_lst hp), h0, g.h _ _ hp, DpAll.up g.f _ _ a⟩
  | pm ds =>
    obtain ⟨p, vs, e, f, h0, hp, a⟩ := h
    exact ⟨p, vs, e, g.n p f (keep_lst hp), h0, g.h _ _ hp, DpAll.up g.f _ _ a⟩
theorem Sta.grow (S : Sta K M F0 H0 r s F H) (g : Grow F H F2 H2) : Sta K M F0 H0 r s F2 H2 where
  f0 := S.f0.trans g.f
  i := g.i
  h0 := fun b o n e => g.h _ _ (S.h0 b o n e)
  hd := fun b e => sameKeeps g.h (S.hd b e)
  n0 := fun b e1 e2 e3 => g.n b (S.n0 b e1 e2 (e3.back g.h (S.hd b e2))) (e3.back g.h (S.hd b e2))
  len := S.len
  sl := fun i t e => (S.sl i t e).imp id fun ⟨v, h1, h2⟩ => ⟨v, h1, h2.grow g⟩
  dj := S.dj
theorem Sta.fz (S : Sta K M F0 H0 r s F H) {i : Nat} {d : PyData} (e : r[i]? = some (.fz d)) : ∃ v, s[i]? = some (some v) ∧ Dp K F v d := by
  rcases S.sl i _ e with z | z
  · cases z
  · exact z
theorem Sta.mu (S : Sta K M F0 H0 r s F H) {i : Nat} {ds : List PyData} (e : r[i]? = some (.mu ds)) : ∃ p vs, s[i]? = some (some (.ref p)) ∧ F p = none ∧ H0 p = none ∧ H p = some (.lst vs) ∧ DpAll K F vs ds := by
  rcases S.sl i _ e with z | ⟨v, h, p, vs, rfl, a⟩
  · cases z
  · exact ⟨p, vs, h, a⟩
theorem Sta.pm (S : Sta K M F0 H0 r s F H) {i : Nat} {ds : List PyData} (e : r[i]? = some (.pm ds)) : ∃ p vs, s[i]? = some (some (.ref p)) ∧ F p = none ∧ MOk M H0 p ∧ H p = some (.lst vs) ∧ DpAll K F vs ds := by
  rcases S.sl i _ e with z | ⟨v, h, p, vs, rfl, a⟩
  · cases z
  · exact ⟨p, vs, h, a⟩
/-- a slot gets a value that is not one of the lists of the other slots -/
theorem Sta.set (S : Sta K M F0 H0 r s F H) {i : Nat} {v : V} {t : Slo} (h : VOk K M H0 F H v t)
    (hn : t.mut = true → ∀ j u p, j ≠ i → r[j]? = some u → u.mut = true → v = .ref p → s[j]? ≠ some (some (.ref p))) : Sta K M F0 H0 (r.set i t) (s.set i (some v)) F H where
  f0 := S.f0
  i := S.i
  h0 := S.h0
  hd := S.hd
  n0 := S.n0
  len := by rw [List.length_set, List.length_set, S.len]
  sl := fun j u e => by
    by_cases q : i = j
    · subst q
      rw [List.getElem?_set] at e
      simp only [if_true] at e
      split at e
      · rename_i hl
        cases e
        refine .inr ⟨v, ?_, h⟩
        rw [List.getElem?_set_self (by rw [S.len]; exact hl)]
      · cases e
    · rw [List.getElem?_set_ne q] at e
      rw [List.getElem?_set_ne q]
      exact S.sl j u e
  dj := fun a b t1 t2 p e1 e2 m1 m2 s1 s2 => by
    by_cases qa : i = a
    · subst qa
      by_cases qb : i = b
      · exact qb
      · rw [List.getElem?_set] at e1
        simp only [if_true] at e1
        split at e1
        · rename_i hl
          cases e1
          rw [List.getElem?_set_self (by rw [S.len]; exact hl)] at s1
          cases s1
          rw [List.getElem?_set_ne qb] at e2 s2
          exact absurd s2 (hn m1 b t2 p (Ne.symm qb) e2 m2 rfl)
        · cases e1
    · by_cases qb : i = b
      · subst qb
        rw [List.getElem?_set] at e2
        simp only [if_true] at e2
        split at e2
        · rename_i hl
          cases e2
          rw [List.getElem?_set_self (by rw [S.len]; exact hl)] at s2
          cases s2
          rw [List.getElem?_set_ne qa] at e1 s1
          exact absurd s1 (hn m2 a t1 p (Ne.symm qa) e1 m1 rfl)
        · cases e2
      · rw [List.getElem?_set_ne qa] at e1 s1
        rw [List.getElem?_set_ne qb] at e2 s2
        exact S.dj a b t1 t2 p e1 e2 m1 m2 s1 s2
theorem Sta.setF (S : Sta K M F0 H0 r s F H) {i : Nat} {v : V} {d : PyData} (h : Dp K F v d) : Sta K M F0 H0 (r.set i (.fz d)) (s.set i (some v)) F H :=
  S.set (t := .fz d) h fun z => by cases z
/-- .. a new list -/
theorem Sta.setN (S : Sta K M F0 H0 r s F H) {i : Nat} {p : Addr} {vs : List V} {ds : List PyData} (hf : F p = none) (hz : H0 p = none) (hp : H p = some (.lst vs)) (h : DpAll K F vs ds)
    (hn : ∀ j u, j ≠ i → r[j]? = some u → u.mut = true → s[j]? ≠ some (some (.ref p))) : Sta K M F0 H0 (r.set i (.mu ds)) (s.set i (some (.ref p))) F H :=
  S.set (t := .mu ds) ⟨p, vs, rfl, hf, hz, hp, h⟩ fun _ j u q a b c d => by cases d; exact hn j u a b c
/-- where the slots' lists stand, the heap knows them -/
theorem Sta.known (S : Sta K M F0 H0 r s F H) {j : Nat} {u : Slo} {p : Addr} (e : r[j]? = some u) (m : u.mut = true) (h : s[j]? = some (some (.ref p))) : ∃ vs, H p = some (.lst vs) := by
  cases u with
  | no => cases m
  | ad w => cases m
  | dk C a dx pl D => cases m
  | fz d => cases m
  | mu ds =>
    obtain ⟨q, vs, a, _, _, b, _⟩ := S.mu e
    rw [a] at h
    cases h
    exact ⟨vs, b⟩
  | pm ds =>
    obtain ⟨q, vs, a, _, _, b, _⟩ := S.pm e
    rw [a] at h
    cases h
    exact ⟨vs, b⟩
theorem Sta.ad (S : Sta K M F0 H0 r s F H) {i : Nat} {w : V} (e : r[i]? = some (.ad w)) : s[i]? = some (some w) := by
  rcases S.sl i _ e with h | ⟨v, h1, h2⟩
  · cases h
  · rw [h1, show v = w from h2]
/-- a list of the def's own is changed -/
theorem Sta.write (S : Sta K M F0 H0 r s F H) {i : Nat} {ds es : List PyData} {p : Addr} {ws : List V} (e : r[i]? = some (.mu ds)) (hs : s[i]? = some (some (.ref p))) (h : DpAll K F ws es) :
    Sta K M F0 H0 (r.set i (.mu es)) s F (upd H p (.lst ws)) := by
  obtain ⟨q, vs, a, f, z, b, _⟩ := S.mu e
  rw [hs] at a
  cases a
  have hi : i < r.length := (List.getElem?_eq_some_iff.mp e).1
  have other : ∀ j u, i ≠ j → r[j]? = some u → u.mut = true → ∀ q, s[j]? = some (some (.ref q)) → q ≠ p := fun j u ne ej m q hq w => ne (S.dj i j _ u p e ej rfl m hs (by rw [← w]; exact hq))
  refine ⟨S.f0, fun b u x => ?_, fun b o nm x => ?_, fun b x => ?_, fun b x y k => ?_, by rw [List.length_set]; exact S.len, fun j t x => ?_, fun a b t1 t2 q e1 e2 m1 m2 s1 s2 => ?_⟩
  · rw [upd_ne (ne_of_none x f)]
    exact S.i b u x
  · rw [upd_ne (ne_of_none x z)]
    exact S.h0 b o nm x
  · by_cases w : b = p
    · subst w
      rw [upd_same]
      exact fun y => nomatch y
    · rw [upd_ne w]
      exact S.hd b x
  · by_cases w : b = p
    · subst w
      exact f
    · rw [upd_ne w] at k
      exact S.n0 b x y k
  · by_cases w : i = j
    · subst w
      rw [List.getElem?_set_self hi] at x
      cases x
      exact .inr ⟨_, hs, p, ws, rfl, f, z, upd_same, h⟩
    · rw [List.getElem?_set_ne w] at x
      rcases S.sl j t x with y | ⟨v, h1, h2⟩
      · exact .inl y
      · refine .inr ⟨v, h1, ?_⟩
        cases t with
        | no => trivial
        | ad w => exact h2
        | dk C a dx pl D => exact ⟨h2.1, h2.2.upd b (not_own z)⟩
        | fz d => exact h2
        | mu ds2 =>
          obtain ⟨q2, vs2, rfl, a2⟩ := h2
          exact ⟨q2, vs2, rfl, a2.1, a2.2.1, by rw [upd_ne (other j _ w x rfl q2 h1)]; exact a2.2.2.1, a2.2.2.2⟩
        | pm ds2 =>
          obtain ⟨q2, vs2, rfl, a2⟩ := h2
          exact ⟨q2, vs2, rfl, a2.1, a2.2.1, by rw [upd_ne (other j _ w x rfl q2 h1)]; exact a2.2.2.1, a2.2.2.2⟩
  · have back : ∀ (c : Nat) (t : Slo), (r.set i (.mu es))[c]? = some t → t.mut = true → ∃ t' : Slo, r[c]? = some t' ∧ t'.mut = true := fun c t ec m => by
      by_cases w : i = c
      · subst w
        exact ⟨_, e, rfl⟩
      · rw [List.getElem?_set_ne w] at ec
        exact ⟨t, ec, m⟩
    obtain ⟨u1, x1, y1⟩ := back a t1 e1 m1
    obtain ⟨u2, x2, y2⟩ := back b t2 e2 m2
    exact S.dj a b u1 u2 q x1 x2 y1 y2 s1 s2
/-- .. a list that was given -/
theorem Sta.writeP (S : Sta K M F0 H0 r s F H) {i : Nat} {ds es : List PyData} {p : Addr} {ws : List V} (e : r[i]? = some (.pm ds)) (hs : s[i]? = some (some (.ref p))) (h : DpAll K F ws es) :
    Sta K M F0 H0 (r.set i (.pm es)) s F (upd H p (.lst ws)) := by
  obtain ⟨q, vs, a, f, z, b, _⟩ := S.pm e
  rw [hs] at a
  cases a
  have hi : i < r.length := (List.getElem?_eq_some_iff.mp e).1
  have other : ∀ j u, i ≠ j → r[j]? = some u → u.mut = true → ∀ q, s[j]? = some (some (.ref q)) → q ≠ p := fun j u ne ej m q hq w => ne (S.dj i j _ u p e ej rfl m hs (by rw [← w]; exact hq))
  refine ⟨S.f0, fun b u x => ?_, fun b o nm x => ?_, fun b x => ?_, fun b x y k => ?_, by rw [List.length_set]; exact S.len, fun j t x => ?_, fun a b t1 t2 q e1 e2 m1 m2 s1 s2 => ?_⟩
  · rw [upd_ne (ne_of_none x f)]
    exact S.i b u x
  · have w : b ≠ p := fun w => nm (by rw [w]; exact z.1)
    rw [upd_ne w]
    exact S.h0 b o nm x
  · by_cases w : b = p
    · subst w
      rw [upd_same]
      exact fun y => nomatch y
    · rw [upd_ne w]
      exact S.hd b x
  · by_cases w : b = p
    · subst w
      exact f
    · rw [upd_ne w] at k
      exact S.n0 b x y k
  · by_cases w : i = j
    · subst w
      rw [List.getElem?_set_self hi] at x
      cases x
      exact .inr ⟨_, hs, p, ws, rfl, f, z, upd_same, h⟩
    · rw [List.getElem?_set_ne w] at x
      rcases S.sl j t x with y | ⟨v, h1, h2⟩
      · exact .inl y
      · refine .inr ⟨v, h1, ?_⟩
        cases t with
        | no => trivial
        | ad w => exact h2
        | dk C a dx pl D => exact ⟨h2.1, h2.2.upd b z.2⟩
        | fz d => exact h2
        | mu ds2 =>
          obtain ⟨q2, vs2, rfl, a2⟩ := h2
          exact ⟨q2, vs2, rfl, a2.1, a2.2.1, by rw [upd_ne (other j _ w x rfl q2 h1)]; exact a2.2.2.1, a2.2.2.2⟩
        | pm ds2 =>
          obtain ⟨q2, vs2, rfl, a2⟩ := h2
          exact ⟨q2, vs2, rfl, a2.1, a2.2.1, by rw [upd_ne (other j _ w x rfl q2 h1)]; exact a2.2.2.1, a2.2.2.2⟩
  · have back : ∀ (c : Nat) (t : Slo), (r.set i (.pm es))[c]? = some t → t.mut = true → ∃ t' : Slo, r[c]? = some t' ∧ t'.mut = true := fun c t ec m => by
      by_cases w : i = c
      · subst w
        exact ⟨_, e, rfl⟩
      · rw [List.getElem?_set_ne w] at ec
        exact ⟨t, ec, m⟩
    obtain ⟨u1, x1, y1⟩ := back a t1 e1 m1
    obtain ⟨u2, x2, y2⟩ := back b t2 e2 m2
    exact S.dj a b u1 u2 q x1 x2 y1 y2 s1 s2
/-- a list of the def's own is frozen from now on -/
theorem Sta.freeze (S : Sta K M F0 H0 r s F H) {i : Nat} {ds : List PyData} (e : r[i]? = some (.mu ds)) : ∃ F2, Sta K M F0 H0 (r.set i (.fz (.list ds))) s F2 H := by
  obtain ⟨p, vs, hs, f, z, b, d⟩ := S.mu e
  have hi : i < r.length := (List.getElem?_eq_some_iff.mp e).1
  have other : ∀ j u, i ≠ j → r[j]? = some u → u.mut = true → ∀ q, s[j]? = some (some (.ref q)) → q ≠ p := fun j u ne ej m q hq w => ne (S.dj i j _ u p e ej rfl m hs (by rw [← w]; exact hq))
  have up : Same F (upd F p (.lst vs)) := same_new f
  refine ⟨upd F p (.lst vs), S.f0.trans up, fun c u x => ?_, S.h0, S.hd, fun c x y k => ?_, by rw [List.length_set]; exact S.len, fun j t x => ?_, fun a c t1 t2 q e1 e2 m1 m2 s1 s2 => ?_⟩
  · by_cases w : c = p
    · subst w
      rw [upd_same] at x
      cases x
      exact b
    · rw [upd_ne w] at x
      exact S.i c u x
  · have w : c ≠ p := fun w => y (by rw [w]; exact z)
    rw [upd_ne w]
    exact S.n0 c x y k
  · by_cases w : i = j
    · subst w
      rw [List.getElem?_set_self hi] at x
      cases x
      exact .inr ⟨_, hs, .lst (SqL.of upd_same) (DpAll.up up _ _ d)⟩
    · rw [List.getElem?_set_ne w] at x
      rcases S.sl j t x with y | ⟨v, h1, h2⟩
      · exact .inl y
      · refine .inr ⟨v, h1, ?_⟩
        cases t with
        | no => trivial
        | ad w => exact h2
        | dk C a dx pl D => exact ⟨h2.1, h2.2.to up (fun c hc => by rw [upd_ne (h2.2.ne b (not_own z) c hc)]; exact (h2.2.fa c hc).1) fun _ _ _ e => e⟩
        | fz d => exact Dp.up up _ _ h2
        | mu ds2 =>
          obtain ⟨q2, vs2, rfl, a1, a2, a3, a4⟩ := h2
          exact ⟨q2, vs2, rfl, by rw [upd_ne (other j _ w x rfl q2 h1)]; exact a1, a2, a3, DpAll.up up _ _ a4⟩
        | pm ds2 =>
          obtain ⟨q2, vs2, rfl, a1, a2, a3, a4⟩ := h2
          exact ⟨q2, vs2, rfl, by rw [upd_ne (other j _ w x rfl q2 h1)]; exact a1, a2, a3, DpAll.up up _ _ a4⟩
  · have back : ∀ (c : Nat) (t : Slo), (r.set i (.fz (.list ds)))[c]? = some t → t.mut = true → r[c]? = some t := fun c t ec m => by
      by_cases w : i = c
      · subst w
        rw [List.getElem?_set_self hi] at ec
        cases ec
        cases m
      · rw [List.getElem?_set_ne w] at ec
        exact ec
    exact S.dj a c t1 t2 q (back a t1 e1 m1) (back c t2 e2 m2) m1 m2 s1 s2
/-- slots forgotten -/
theorem Sta.forget (S : Sta K M F0 H0 r s F H) (i : Nat) (v : Option V) : Sta K M F0 H0 (r.set i .no) (s.set i v) F H where
  f0 := S.f0
  i := S.i
  h0 := S.h0
  hd := S.hd
  n0 := S.n0
  len := by rw [List.length_set, List.length_set, S.len]
  sl := fun j u e => by
    by_cases q : i = j
    · subst q
      rw [List.getElem?_set] at e
      simp only [if_true] at e
      split at e
      · cases e
        exact .inl rfl
      · cases e
    · rw [List.getElem?_set_ne q] at e
      rw [List.getElem?_set_ne q]
      exact S.sl j u e
  dj := fun a b t1 t2 p e1 e2 m1 m2 s1 s2 => by
    have nope : ∀ (c : Nat) (t : Slo), (r.set i .no)[c]? = some t → t.mut = true → i ≠ c := fun c t ec m w => by
      subst w
      rw [List.getElem?_set] at ec
      simp only [if_true] at ec
      split at ec
      · cases ec
        cases m
      · cases ec
    have n1 := nope a t1 e1 m1
    have n2 := nope b t2 e2 m2
    rw [List.getElem?_set_ne n1] at e1 s1
    rw [List.getElem?_set_ne n2] at e2 s2
    exact S.dj a b t1 t2 p e1 e2 m1 m2 s1 s2
theorem Sta.same (S : Sta K M F0 H0 r s F H) {F3 H3 : Hp} (i : Same F H) : Grow F H F H := Grow.refl i
end
end Tm
set_option maxRecDepth 100000
set_option maxHeartbeats 4000000
/-! What a piece evaluates to: rules by construct. -/
namespace L2
open PySem
section
variable {K : PySem.W.Frag} {ds : List PyData}
theorem DpAll.rep {F : Hp} {vs : List V} (h : DpAll K F vs ds) : ∀ n : Nat, DpAll K F (List.replicate n vs).flatten (List.replicate n ds).flatten
  | 0 => .nil
  | n + 1 => by
    rw [List.replicate_succ, List.replicate_succ, List.flatten_cons, List.flatten_cons]
    exact h.app (DpAll.rep h n)
end
end L2
namespace Tm
open PySem L2

def Ef (K : PySem.W.Frag) (te : TE) (r : List Slo) (d : PyData) : Prop := ∀ M F0 H0 s F H, Sta K M F0 H0 r s F H → ∀ Q : VK, (∀ v F2 H2, Grow F H F2 H2 → Dp K F2 v d → Q v H2) → te s H Q
def El (K : PySem.W.Frag) (te : TE) (r : List Slo) (ds : List PyData) : Prop := ∀ M F0 H0 s F H, Sta K M F0 H0 r s F H → ∀ Q : VK, (∀ p vs F2 H2, Grow F H F2 H2 → SqL K H2 p vs → DpAll K F2 vs ds → Q (.ref p) H2) → te s H Q
def Er (K : PySem.W.Frag) (te : TE) (r : List Slo) (d : PyData) : Prop := ∀ M F0 H0 s F H, Sta K M F0 H0 r s F H → ∀ Q : VK, (∀ v F2 H2, Grow F H F2 H2 → Dp K H2 v d → Q v H2) → te s H Q
def En (K : PySem.W.Frag) (te : TE) (r : List Slo) (ds : List PyData) : Prop := ∀ M F0 H0 s F H, Sta K M F0 H0 r s F H → ∀ Q : VK, (∀ p vs F2 H2, Grow F H F2 H2 → H p = none → F2 p = none → H2 p = some (.lst vs) → DpAll K F2 vs ds → Q (.ref p) H2) → te s H Q
def Eb (K : PySem.W.Frag) (tt : TT) (r : List Slo) (b : Bool) : Prop := ∀ M F0 H0 s F H, Sta K M F0 H0 r s F H → ∀ Q : Bool → Hp → Prop, (∀ F2 H2, Grow F H F2 H2 → Q b H2) → tt s H Q
def Ea (K : PySem.W.Frag) (ta : TA) (r : List Slo) (ds : List PyData) : Prop := ∀ M F0 H0 s F H, Sta K M F0 H0 r s F H → ∀ Q : List V → Hp → Prop, (∀ vs F2 H2, Grow F H F2 H2 → DpAll K F2 vs ds → Q vs H2) → ta s H Q
def Eo (K : PySem.W.Frag) (to : TO) (r : List Slo) (o : Option Int) : Prop := ∀ M F0 H0 s F H, Sta K M F0 H0 r s F H → ∀ Q : Option Int → Hp → Prop, (∀ F2 H2, Grow F H F2 H2 → Q o H2) → to s H Q
theorem szOf {n : Nat} (h : n ≤ 100000) : n ≤ sizeLine := Nat.le_trans h (by decide)
theorem szLt {n : Nat} (h : n < 100000) : n < sizeLine := Nat.lt_of_lt_of_le h (by decide)
section
variable {K : PySem.W.Frag} {r : List Slo} {te ta tb tc : TE} {tt tu : TT} {d e d1 d2 : PyData} {ds es : List PyData} {rr : R2} {i j : Int}
/-! ### kinds -/
theorem En.ef (h : En K te r ds) : Ef K te r (.list ds) := fun M F0 H0 s F H S Q q => h M F0 H0 s F H S Q fun p vs F2 H2 g hp hf hh a => by
  have up : Same F2 (upd F2 p (.lst vs)) := same_new hf
  refine q _ (upd F2 p (.lst vs)) H2 ⟨g.f.trans up, fun b u x => ?_, g.h, fun b x y => ?_⟩ (.lst (SqL.of upd_same) (DpAll.up up _ _ a))
  · by_cases w : b = p
    · subst w
      rw [upd_same] at x
      cases x
      exact hh
    · rw [upd_ne w] at x
      exact g.i b u x
  · have w : b ≠ p := fun w => y.ne (by rw [w]; exact hp)
    rw [upd_ne w]
    exact g.n b x y
theorem Ef.er (h : Ef K te r d) : Er K te r d := fun M F0 H0 s F H S Q q => h M F0 H0 s F H S Q fun v F2 H2 g a => q v F2 H2 g (Dp.up g.i _ _ a)
theorem El.er (h : El K te r ds) : Er K te r (.list ds) := fun M F0 H0 s F H S Q q => h M F0 H0 s F H S Q fun p vs F2 H2 g a b => q _ F2 H2 g (.lst a (DpAll.up g.i _ _ b))
theorem Ef.el (h : Ef K te r (.list ds)) : El K te r ds := fun M F0 H0 s F H S Q q => h M F0 H0 s F H S Q fun v F2 H2 g a => by
  cases a with
  | lst a b => exact q _ _ F2 H2 g (sl_up g.i a) b
theorem En.el (h : En K te r ds) : El K te r ds := fun M F0 H0 s F H S Q q => h M F0 H0 s F H S Q fun p vs F2 H2 g _ _ hh a => q p vs F2 H2 g (SqL.of hh) a
/-! ### names, constants -/
theorem ef_var {i : Nat} (h : r[i]? = some (.fz d)) : Ef K (tVar i) r d := fun M F0 H0 s F H S Q q => by
  obtain ⟨v, a, b⟩ := S.fz h
  exact ⟨v, a, q v F H (Grow.refl S.i) b⟩
theorem el_var {i : Nat} (h : r[i]? = some (.mu ds)) : El K (tVar i) r ds := fun M F0 H0 s F H S Q q => by
  obtain ⟨p, vs, a, f, z, b, c⟩ := S.mu h
  exact ⟨_, a, q p vs F H (Grow.refl S.i) (SqL.of b) c⟩
theorem el_varP {i : Nat} (h : r[i]? = some (.pm ds)) : El K (tVar i) r ds := fun M F0 H0 s F H S Q q => by
  obtain ⟨p, vs, a, f, z, b, c⟩ := S.pm h
  exact ⟨_, a, q p vs F H (Grow.refl S.i) (SqL.of b) c⟩
theorem ef_int : Ef K (tC (.int i)) r (.int i) := fun M F0 H0 s F H S Q q => q _ F H (Grow.refl S.i) (.int i)
theorem ef_bl {b : Bool} : Ef K (tC (.bl b)) r (.bool b) := fun M F0 H0 s F H S Q q => q _ F H (Grow.refl S.i) (.bl b)
theorem ef_str {x : Str} : Ef K (tC (.str x)) r (.str x) := fun M F0 H0 s F H S Q q => q _ F H (Grow.refl S.i) (.str x)
theorem ef_non : Ef K (tC .non) r .none := fun M F0 H0 s F H S Q q => q _ F H (Grow.refl S.i) .non
theorem ef_is (h : Ef K te r d) (e' : d = e) : Ef K te r e := e' ▸ h
theorem eb_is {a b : Bool} (h : Eb K tt r a) (e' : a = b) : Eb K tt r b := e' ▸ h
theorem en_is (h : En K te r ds) (e' : ds = es) : En K te r es := e' ▸ h
theorem el_is (h : El K te r ds) (e' : ds = es) : El K te r es := e' ▸ h
/-! ### two places -/
theorem ef_op (ha : Ef K ta r d1) (hb : Ef K tb r d2) (h : ∀ x y F H, Same F H → Dp K F x d1 → Dp K F y d2 → ∀ Q : VK, (∀ v F2 H2, Grow F H F2 H2 → Dp K F2 v d → Q v H2) → rr x y H Q) : Ef K (tOp rr ta tb) r d := by
  intro M F0 H0 s F H S Q q
  refine ha _ _ _ _ _ _ S _ fun x F1 H1 g1 dx => ?_
  refine hb _ _ _ _ _ _ (S.grow g1) _ fun y F2 H2 g2 dy => ?_
  exact h x y F2 H2 g2.i (Dp.up g2.f _ _ dx) dy Q fun v F3 H3 g3 dv => q v F3 H3 ((g1.trans g2).trans g3) dv
theorem er_op (ha : Er K ta r d1) (hb : Er K tb r d2) (h : ∀ x y H, Dp K H x d1 → Dp K H y d2 → ∀ Q : VK, (∀ v, Sca v d → Q v H) → rr x y H Q) : Ef K (tOp rr ta tb) r d := by
  intro M F0 H0 s F H S Q q
  refine ha _ _ _ _ _ _ S _ fun x F1 H1 g1 dx => ?_
  refine hb _ _ _ _ _ _ (S.grow g1) _ fun y F2 H2 g2 dy => ?_
  exact h x y H2 (Dp.up g2.h _ _ dx) dy Q fun v sv => q v F2 H2 (g1.trans g2) sv.dp
theorem ef_I0 {g : Int → Int → Int} (ha : Ef K ta r (.int i)) (hb : Ef K tb r (.int j)) : Ef K (tOp (rI0 fun i j => .int (g i j)) ta tb) r (.int (g i j)) :=
  er_op ha.er hb.er fun x y H dx dy Q q => by cases dx; cases dy; exact ⟨_, _, rfl, rfl, q _ (.int _)⟩
theorem ef_B0 {g : Int → Int → Bool} (ha : Ef K ta r (.int i)) (hb : Ef K tb r (.int j)) : Ef K (tOp (rI0 fun i j => .bl (g i j)) ta tb) r (.bool (g i j)) :=
  er_op ha.er hb.er fun x y H dx dy Q q => by cases dx; cases dy; exact ⟨_, _, rfl, rfl, q _ (.bl _)⟩
theorem ef_I {C : Int → Int → Prop} {g : Int → Int → Int} (ha : Ef K ta r (.int i)) (hb : Ef K tb r (.int j)) (hc : C i j) : Ef K (tOp (rI C fun i j => .int (g i j)) ta tb) r (.int (g i j)) :=
  er_op ha.er hb.er fun x y H dx dy Q q => by cases dx; cases dy; exact ⟨_, _, rfl, rfl, hc, q _ (.int _)⟩
theorem ef_mod (ha : Ef K ta r (.int i)) (hb : Ef K tb r (.int j)) (hc : 0 < j) : Ef K (tOp (rI (fun _ j => 0 < j) fun i j => .int (i % j)) ta tb) r (.int (i % j)) := ef_I ha hb hc
theorem ef_fdiv (ha : Ef K ta r (.int i)) (hb : Ef K tb r (.int j)) (h0 : 0 < j) (h1 : j < 1073741824) : Ef K (tOp (rI CDiv fun i j => .int (i / j)) ta tb) r (.int (i / j)) := ef_I ha hb ⟨h0, h1⟩
theorem ef_mul (ha : Ef K ta r (.int i)) (hb : Ef K tb r (.int j)) (h : -1000000000 < i ∧ i < 1000000000) : Ef K (tOp (rI CMul fun i j => .int (i * j)) ta tb) r (.int (i * j)) := ef_I ha hb (.inl ⟨by omega, by omega⟩)
theorem ef_mulR (ha : Ef K ta r (.int i)) (hb : Ef K tb r (.int j)) (h : -1000000000 < j ∧ j < 1000000000) : Ef K (tOp (rI CMul fun i j => .int (i * j)) ta tb) r (.int (i * j)) := ef_I ha hb (.inr ⟨by omega, by omega⟩)
theorem ef_pow (ha : Ef K ta r (.int i)) (hb : Ef K tb r (.int j)) (h : CPow i j) : Ef K (tOp (rI CPow fun i j => .int (i ^ j.toNat)) ta tb) r (.int (i ^ j.toNat)) := ef_I ha hb h
/-- == of ints, of texts -/
theorem ef_eqI (ha : Ef K ta r (.int i)) (hb : Ef K tb r (.int j)) : Ef K (tOp rEq ta tb) r (.bool (decide (i = j))) :=
  er_op ha.er hb.er fun x y H dx dy Q q => by
    cases dx; cases dy
    refine ⟨rfl, ?_⟩
    have e : decide (V.int i = V.int j) = decide (i = j) := by rw [decide_eq_decide]; exact ⟨V.int.inj, fun h => by rw [h]⟩
    rw [e]
    exact q _ (.bl _)
theorem ef_neI (ha : Ef K ta r (.int i)) (hb : Ef K tb r (.int j)) : Ef K (tOp rNe ta tb) r (.bool (!decide (i = j))) :=
  er_op ha.er hb.er fun x y H dx dy Q q => by
    cases dx; cases dy
    refine ⟨rfl, ?_⟩
    have e : decide (V.int i = V.int j) = decide (i = j) := by rw [decide_eq_decide]; exact ⟨V.int.inj, fun h => by rw [h]⟩
    rw [e]
    exact q _ (.bl _)
theorem ef_eqS {x y : Str} (ha : Ef K ta r (.str x)) (hb : Ef K tb r (.str y)) : Ef K (tOp rEq ta tb) r (.bool (decide (x = y))) :=
  er_op ha.er hb.er fun x' y' H dx dy Q q => by
    cases dx; cases dy
    refine ⟨rfl, ?_⟩
    have e : decide (V.str x = V.str y) = decide (x = y) := by rw [decide_eq_decide]; exact ⟨V.str.inj, fun h => by rw [h]⟩
    rw [e]
    exact q _ (.bl _)
/-- == of data -/
theorem ef_eqD (ha : Er K ta r d1) (hb : Er K tb r d2) (h1 : SeqAt.shaped d1 = true) (h2 : SeqAt.shaped d2 = true) : Ef K (tOp (rEqD K) ta tb) r (.bool (PyData.eqv d1 d2)) :=
  er_op ha hb fun x y H dx dy Q q => ⟨d1, d2, dx, dy, h1, h2, q _ (.bl _)⟩
theorem ef_neD (ha : Er K ta r d1) (hb : Er K tb r d2) (h1 : SeqAt.shaped d1 = true) (h2 : SeqAt.shaped d2 = true) : Ef K (tOp (rNeD K) ta tb) r (.bool (!PyData.eqv d1 d2)) :=
  er_op ha hb fun x y H dx dy Q q => ⟨d1, d2, dx, dy, h1, h2, q _ (.bl _)⟩
theorem ef_inD (ha : Er K ta r d1) (hb : Er K tb r (.list ds)) (h1 : SeqAt.shaped d1 = true) (h2 : SeqAt.shaped (.list ds) = true) : Ef K (tOp (rInD K) ta tb) r (.bool (ds.any fun z => PyData.eqv z d1)) :=
  er_op ha hb fun x y H dx dy Q q => ⟨d1, ds, dx, dy, h1, h2, q _ (.bl _)⟩
theorem ef_niD (ha : Er K ta r d1) (hb : Er K tb r (.list ds)) (h1 : SeqAt.shaped d1 = true) (h2 : SeqAt.shaped (.list ds) = true) : Ef K (tOp (rNotInD K) ta tb) r (.bool (!ds.any fun z => PyData.eqv z d1)) :=
  er_op ha hb fun x y H dx dy Q q => ⟨d1, ds, dx, dy, h1, h2, q _ (.bl _)⟩
/-- is None -/
def isN : PyData → Bool
  | .none => true
  | _ => false
theorem isN_of {F : Hp} {v : V} (h : Dp K F v d) : decide (v = V.non) = isN d := by
  cases h <;> first | rfl | exact decide_eq_false (fun z => nomatch z)
theorem ef_isN (ha : Er K ta r d) : Ef K (tOp (fun x y H Q => y = .non ∧ Q (.bl (decide (x = .non))) H) ta (tC .non)) r (.bool (isN d)) :=
  er_op ha ef_non.er fun x y H dx dy Q q => by
    cases dy
    rw [isN_of dx]
    exact ⟨rfl, q _ (.bl _)⟩
theorem ef_notN (ha : Er K ta r d) : Ef K (tOp (fun x y H Q => y = .non ∧ Q (.bl (!decide (x = .non))) H) ta (tC .non)) r (.bool (!isN d)) :=
  er_op ha ef_non.er fun x y H dx dy Q q => by
    cases dy
    rw [isN_of dx]
    exact ⟨rfl, q _ (.bl _)⟩
/-- items -/
theorem atI_get {xs : List PyData} {vs : List V} {F : Hp} (a : DpAll K F vs xs) (h : atI xs i = some d) : ∃ v, atI vs i = some v ∧ Dp K F v d := by
  unfold atI at h ⊢
  rw [a.len]
  cases e : ixN xs.length i with
  | none => rw [e] at h; cases h
  | some k =>
    rw [e] at h
    exact a.get h
theorem ef_ixL (ha : El K ta r ds) (hb : Ef K tb r (.int i)) (h : atI ds i = some d) : Ef K (tOp (rIxL K) ta tb) r d := by
  intro M F0 H0 s F H S Q q
  refine ha _ _ _ _ _ _ S _ fun p vs F1 H1 g1 sq dx => ?_
  refine hb _ _ _ _ _ _ (S.grow g1) _ fun y F2 H2 g2 dy => ?_
  cases dy
  obtain ⟨v, h1, h2⟩ := atI_get dx h
  exact ⟨p, vs, i, v, rfl, rfl, sl_up g2.h sq, h1, q v F2 H2 (g1.trans g2) (Dp.up g2.f _ _ h2)⟩
theorem ef_ixT (ha : Ef K ta r (.tuple ds)) (hb : Ef K tb r (.int i)) (h : atI ds i = some d) : Ef K (tOp (rIxT K) ta tb) r d :=
  ef_op ha hb fun x y F H s dx dy Q q => by
    cases dy
    cases dx with
    | tup a b =>
      obtain ⟨v, h1, h2⟩ := atI_get b h
      exact ⟨_, _, i, v, rfl, rfl, st_up s a, h1, q v F H (Grow.refl s) h2⟩
theorem ef_ixS {x : Str} {c : Nat} (ha : Ef K ta r (.str x)) (hb : Ef K tb r (.int i)) (hl : x.length ≤ 100000) (h : atI x.cps.toList i = some c) : Ef K (tOp rIxS ta tb) r (.str ⟨#[c]⟩) :=
  er_op ha.er hb.er fun x' y H dx dy Q q => by
    cases dx; cases dy
    exact ⟨_, _, c, rfl, rfl, szOf hl, h, q _ (.str _)⟩
/-- in a list, a tuple of scalars -/
def scaD : PyData → Bool
  | .none => true
  | .bool _ => true
  | .int _ => true
  | .str _ => true
  | _ => false
def toV : PyData → V
  | .none => .non
  | .bool b => .bl b
  | .int i => .int i
  | .str x => .str x
  | _ => .non
theorem toV_of {F : Hp} {v : V} (h : Dp K F v d) (s : scaD d = true) : v = toV d := by
  cases h <;> first | rfl | cases s
theorem toVs_of {F : Hp} : ∀ {vs : List V} {ds : List PyData}, DpAll K F vs ds → ds.all scaD = true → vs = ds.map toV
  | _, _, .nil, _ => rfl
  | _, _, .cons a t, h => by
    rw [List.all_cons, Bool.and_eq_true] at h
    rw [toV_of a h.1, toVs_of t h.2]
    rfl
theorem flat_toV : ∀ {d : PyData}, scaD d = true → flatV (toV d) = true := fun {d} h => by cases d <;> first | rfl | cases h
theorem flat_toVs : ∀ {ds : List PyData}, ds.all scaD = true → (ds.map toV).all flatV = true
  | [], _ => rfl
  | d :: ds, h => by
    rw [List.all_cons, Bool.and_eq_true] at h
    rw [List.map_cons, List.all_cons, flat_toV h.1, flat_toVs h.2]
    rfl
theorem ef_inL {neg : Bool} (ha : Ef K ta r d) (hb : El K tb r ds) (h1 : scaD d = true) (h2 : ds.all scaD = true) : Ef K (tOp (rIn K neg) ta tb) r (.bool (if neg then !inV (toV d) (ds.map toV) else inV (toV d) (ds.map toV))) := by
  intro M F0 H0 s F H S Q q
  refine ha _ _ _ _ _ _ S _ fun x F1 H1 g1 dx => ?_
  refine hb _ _ _ _ _ _ (S.grow g1) _ fun p vs F2 H2 g2 sq dv => ?_
  obtain rfl := toV_of dx h1
  obtain rfl := toVs_of dv h2
  exact ⟨p, _, rfl, .inl sq, flat_toV h1, flat_toVs h2, q _ F2 H2 (g1.trans g2) (.bl _)⟩
theorem ef_inT {neg : Bool} (ha : Ef K ta r d) (hb : Ef K tb r (.tuple ds)) (h1 : scaD d = true) (h2 : ds.all scaD = true) : Ef K (tOp (rIn K neg) ta tb) r (.bool (if neg then !inV (toV d) (ds.map toV) else inV (toV d) (ds.map toV))) :=
  er_op ha.er hb.er fun x y H dx dy Q q => by
    obtain rfl := toV_of dx h1
    cases dy with
    | tup a b =>
      obtain rfl := toVs_of b h2
      exact ⟨_, _, rfl, .inr a, flat_toV h1, flat_toVs h2, q _ (.bl _)⟩
/-! ### arguments, displays -/
theorem ea_nil : Ea K tNil r [] := fun M F0 H0 s F H S Q q => q [] F H (Grow.refl S.i) .nil
theorem ea_cons {t : TA} (h : Ef K te r d) (ht : Ea K t r ds) : Ea K (tCons te t) r (d :: ds) := by
  intro M F0 H0 s F H S Q q
  refine h _ _ _ _ _ _ S _ fun x F1 H1 g1 dx => ?_
  refine ht _ _ _ _ _ _ (S.grow g1) _ fun vs F2 H2 g2 dv => ?_
  exact q _ F2 H2 (g1.trans g2) (.cons (Dp.up g2.f _ _ dx) dv)
theorem ef_tup {t : TA} (h : Ea K t r ds) (hl : ds.length ≤ 100000) : Ef K (tTup t) r (.tuple ds) := by
  intro M F0 H0 s F H S Q q
  refine h _ _ _ _ _ _ S _ fun vs F1 H1 g1 dv => ?_
  refine ⟨by rw [dv.len]; exact szOf hl, fun p hp => ?_⟩
  have g2 : Grow F1 H1 _ _ := Grow.new (o := .tup vs) g1.i hp
  exact q _ _ _ (g1.trans g2) (.tup (SqT.of upd_same) (DpAll.up g2.f _ _ dv))
theorem en_lst {t : TA} (h : Ea K t r ds) (hl : ds.length ≤ 100000) : En K (tLst t) r ds := by
  intro M F0 H0 s F H S Q q
  refine h _ _ _ _ _ _ S _ fun vs F1 H1 g1 dv => ?_
  refine ⟨by rw [dv.len]; exact szOf hl, fun p hp => ?_⟩
  have g2 : Grow F1 H1 F1 _ := Grow.newM (o := .lst vs) g1.i hp
  exact q p vs F1 _ (g1.trans g2) (g1.h.free hp) (g1.i.free hp) upd_same dv
/-- [a, ..] * n -/
theorem en_rep {t : TA} (h : Ea K t r ds) (hb : Ef K tb r (.int i)) (hl : ds.length ≤ 300) (hi : 0 ≤ i ∧ i ≤ 300) : En K (tOp rRep (tLst t) tb) r (List.replicate i.toNat ds).flatten := by
  intro M F0 H0 s F H S Q q
  refine en_lst h (by omega) _ _ _ _ _ _ S _ fun p vs F1 H1 g1 hp0 hf hh dv => ?_
  refine hb _ _ _ _ _ _ (S.grow g1) _ fun y F2 H2 g2 dy => ?_
  cases dy
  refine ⟨p, i, vs, rfl, rfl, g2.h _ _ hh, by omega, by omega, ?_, fun z hz => ?_⟩
  · rw [dv.len]
    refine szOf (Nat.le_trans (Nat.mul_le_mul hl (show i.toNat ≤ 300 by omega)) (by decide))
  · have g3 : Grow F2 H2 F2 _ := Grow.newM (o := .lst (List.replicate i.toNat vs).flatten) g2.i hz
    exact q z _ F2 _ ((g1.trans g2).trans g3) ((g1.trans g2).h.free hz) (g2.i.free hz) upd_same (DpAll.rep (DpAll.up g2.f _ _ dv) _)
/-- t + u of tuples -/
theorem ef_catT (ha : Ef K ta r (.tuple ds)) (hb : Ef K tb r (.tuple es)) (h1 : ds ≠ []) (h2 : es ≠ []) (hl : ds.length + es.length ≤ 100000) : Ef K (tOp (rCatT K) ta tb) r (.tuple (ds ++ es)) :=
  ef_op ha hb fun x y F H s dx dy Q q => by
    cases dx with
    | tup a b =>
      cases dy with
      | tup a' b' =>
        have nn : ∀ {vs : List V} {zs : List PyData}, DpAll K F vs zs → zs ≠ [] → vs ≠ [] := fun h ne z => ne (by have := h.len; rw [z] at this; exact List.eq_nil_of_length_eq_zero this.symm)
        refine ⟨_, _, _, _, rfl, rfl, st_up s a, st_up s a', nn b h1, by rw [b.len, b'.len]; exact szOf hl, fun z => absurd z (nn b' h2), fun _ p hp => ?_⟩
        exact q _ _ _ (Grow.new s hp) (.tup (SqT.of upd_same) (DpAll.up (same_new (s.free hp)) _ _ (b.app b')))
/-! ### tests -/
theorem eb_test {b : Bool} (h : Ef K te r (.bool b)) : Eb K (tTest te) r b := fun M F0 H0 s F H S Q q => h _ _ _ _ _ _ S _ fun v F2 H2 g dv => by cases dv; exact ⟨b, rfl, q F2 H2 g⟩
theorem eb_B {b : Bool} (h : Ef K te r (.bool b)) : Eb K (tB te) r b := fun M F0 H0 s F H S Q q => h _ _ _ _ _ _ S _ fun v F2 H2 g dv => by cases dv; exact ⟨b, rfl, q F2 H2 g⟩
theorem eb_yes : Eb K tYes r true := fun M F0 H0 s F H S Q q => q F H (Grow.refl S.i)
theorem eb_not {b : Bool} (h : Eb K tt r b) : Eb K (tNot tt) r (!b) := fun M F0 H0 s F H S Q q => h _ _ _ _ _ _ S _ q
theorem eb_and {a b : Bool} (h : Eb K tt r a) (h2 : a = true → Eb K tu r b) : Eb K (tAnd tt tu) r (a && b) := by
  intro M F0 H0 s F H S Q q
  refine h _ _ _ _ _ _ S _ fun F1 H1 g1 => ?_
  cases a with
  | true => exact iteT (h2 rfl _ _ _ _ _ _ (S.grow g1) _ fun F2 H2 g2 => q F2 H2 (g1.trans g2))
  | false => exact iteF (q F1 H1 g1)
theorem eb_or {a b : Bool} (h : Eb K tt r a) (h2 : a = false → Eb K tu r b) : Eb K (tOr tt tu) r (a || b) := by
  intro M F0 H0 s F H S Q q
  refine h _ _ _ _ _ _ S _ fun F1 H1 g1 => ?_
  cases a with
  | true => exact iteT (q F1 H1 g1)
  | false => exact iteF (h2 rfl _ _ _ _ _ _ (S.grow g1) _ fun F2 H2 g2 => q F2 H2 (g1.trans g2))
theorem ef_andV {a b : Bool} (h : Ef K ta r (.bool a)) (h2 : a = true → Ef K tb r (.bool b)) : Ef K (tAndV ta tb) r (.bool (a && b)) := by
  intro M F0 H0 s F H S Q q
  refine h _ _ _ _ _ _ S _ fun v F1 H1 g1 dv => ?_
  cases dv
  refine ⟨a, rfl, ?_⟩
  cases a with
  | true => exact iteT (h2 rfl _ _ _ _ _ _ (S.grow g1) _ fun v F2 H2 g2 => q v F2 H2 (g1.trans g2))
  | false => exact iteF (q _ F1 H1 g1 (.bl false))
theorem ef_orV {a b : Bool} (h : Ef K ta r (.bool a)) (h2 : a = false → Ef K tb r (.bool b)) : Ef K (tOrV ta tb) r (.bool (a || b)) := by
  intro M F0 H0 s F H S Q q
  refine h _ _ _ _ _ _ S _ fun v F1 H1 g1 dv => ?_
  cases dv
  refine ⟨a, rfl, ?_⟩
  cases a with
  | true => exact iteT (q _ F1 H1 g1 (.bl true))
  | false => exact iteF (h2 rfl _ _ _ _ _ _ (S.grow g1) _ fun v F2 H2 g2 => q v F2 H2 (g1.trans g2))
theorem ef_notV {a : Bool} (h : Ef K ta r (.bool a)) : Ef K (tNotV ta) r (.bool (!a)) := fun M F0 H0 s F H S Q q => h _ _ _ _ _ _ S _ fun v F2 H2 g dv => by cases dv; exact ⟨a, rfl, q _ F2 H2 g (.bl _)⟩
theorem ef_if {b : Bool} (h : Eb K tt r b) (h1 : b = true → Ef K ta r d) (h2 : b = false → Ef K tb r d) : Ef K (tIf tt ta tb) r d := by
  intro M F0 H0 s F H S Q q
  refine h _ _ _ _ _ _ S _ fun F1 H1 g1 => ?_
  cases b with
  | true => exact iteT (h1 rfl _ _ _ _ _ _ (S.grow g1) _ fun v F2 H2 g2 => q v F2 H2 (g1.trans g2))
  | false => exact iteF (h2 rfl _ _ _ _ _ _ (S.grow g1) _ fun v F2 H2 g2 => q v F2 H2 (g1.trans g2))
/-- a < b < c -/
theorem ef_chainI {g g' : Int → Int → Bool} {k : Int} (ha : Ef K ta r (.int i)) (hb : Ef K tb r (.int j)) (hc : Ef K tc r (.int k)) :
    Ef K (tChain (rI0 fun i j => .bl (g i j)) (rI0 fun i j => .bl (g' i j)) ta tb tc) r (.bool (g i j && g' j k)) := by
  intro M F0 H0 s F H S Q q
  refine ha _ _ _ _ _ _ S _ fun x F1 H1 g1 dx => ?_
  refine hb _ _ _ _ _ _ (S.grow g1) _ fun y F2 H2 g2 dy => ?_
  cases dx; cases dy
  refine ⟨_, _, rfl, rfl, _, rfl, ?_⟩
  cases e : g i j with
  | false => exact iteF (q _ F2 H2 (g1.trans g2) (by rw [e]; exact .bl _))
  | true => exact iteT (hc _ _ _ _ _ _ (S.grow (g1.trans g2)) _ fun z F3 H3 g3 dz => by cases dz; exact ⟨_, _, rfl, rfl, q _ F3 H3 ((g1.trans g2).trans g3) (by rw [e]; exact .bl _)⟩)
/-! ### slices -/
theorem eo_none : Eo K tNoPart r none := fun M F0 H0 s F H S Q q => q F H (Grow.refl S.i)
theorem eo_some (h : Ef K te r (.int i)) : Eo K (tPart te) r (some i) := fun M F0 H0 s F H S Q q => h _ _ _ _ _ _ S _ fun v F2 H2 g dv => by cases dv; exact ⟨i, rfl, q F2 H2 g⟩
def cutD (xs : List PyData) (lo hi : Option Int) : List PyData := (xs.drop (HT.sIx xs.length 0 lo)).take (HT.sIx xs.length xs.length hi - HT.sIx xs.length 0 lo)
theorem cut_of {F : Hp} {vs : List V} {lo hi : Option Int} (h : DpAll K F vs ds) : DpAll K F (cutV vs lo hi) (cutD ds lo hi) := by
  unfold cutV cutD
  rw [h.len]
  exact (h.drop _).take _
theorem en_sl {tl th : TO} {lo hi : Option Int} (h : El K te r ds) (h1 : Eo K tl r lo) (h2 : Eo K th r hi) : En K (tSl (rSlL K) te tl th) r (cutD ds lo hi) := by
  intro M F0 H0 s F H S Q q
  refine h _ _ _ _ _ _ S _ fun p vs F1 H1 g1 sq dv => ?_
  refine h1 _ _ _ _ _ _ (S.grow g1) _ fun F2 H2 g2 => ?_
  refine h2 _ _ _ _ _ _ (S.grow (g1.trans g2)) _ fun F3 H3 g3 => ?_
  refine ⟨p, vs, rfl, sl_up (g2.trans g3).h sq, fun z hz => ?_⟩
  have g4 : Grow F3 H3 F3 _ := Grow.newM (o := .lst (cutV vs lo hi)) g3.i hz
  exact q z _ F3 _ (((g1.trans g2).trans g3).trans g4) (((g1.trans g2).trans g3).h.free hz) (g3.i.free hz) upd_same (cut_of (DpAll.up (g2.trans g3).f _ _ dv))
/-! ### built-ins -/
theorem ef_len {rl : List V → Hp → VK → Prop} (hr : ∀ p vs H Q, SqL K H p vs → Q (.int (vs.length : Int)) H → rl [.ref p] H Q) (h : El K te r ds) : Ef K (tCB rl (tCons te tNil)) r (.int ds.length) := by
  intro M F0 H0 s F H S Q q
  refine h _ _ _ _ _ _ S _ fun p vs F1 H1 g1 sq dv => ?_
  refine hr p vs H1 Q sq ?_
  rw [dv.len]
  exact q _ F1 H1 g1 (.int _)
theorem ef_lenL (h : El K te r ds) : Ef K (tCB (fun xs H Q => ∃ x n, xs = [x] ∧ LenV K x H n ∧ Q (.int n) H) (tCons te tNil)) r (.int ds.length) :=
  ef_len (fun p vs H Q sq q => ⟨_, _, rfl, .inl ⟨vs, sq, rfl⟩, q⟩) h
theorem ef_lenT (h : Ef K te r (.tuple ds)) : Ef K (tCB (fun xs H Q => ∃ x n, xs = [x] ∧ LenV K x H n ∧ Q (.int n) H) (tCons te tNil)) r (.int ds.length) := by
  intro M F0 H0 s F H S Q q
  refine h _ _ _ _ _ _ S _ fun v F1 H1 g1 dv => ?_
  cases dv with
  | tup a b => exact ⟨_, _, rfl, .inr ⟨_, st_up g1.i a, rfl⟩, by rw [b.len]; exact q _ F1 H1 g1 (.int _)⟩
theorem ef_lenS {x : Str} (h : Ef K te r (.str x)) (hl : x.length ≤ 100000) : Ef K (tCB (fun xs H Q => ∃ x n, xs = [x] ∧ LenV K x H n ∧ Q (.int n) H) (tCons te tNil)) r (.int x.length) := by
  intro M F0 H0 s F H S Q q
  refine h _ _ _ _ _ _ S _ fun v F1 H1 g1 dv => ?_
  cases dv
  exact ⟨_, _, rfl, ⟨szOf hl, rfl⟩, q _ F1 H1 g1 (.int _)⟩
theorem ef_cb {rl : List V → Hp → VK → Prop} {t : TA} (h : Ea K t r ds) (hr : ∀ vs F H, Same F H → DpAll K F vs ds → ∀ Q : VK, (∀ v F2 H2, Grow F H F2 H2 → Dp K F2 v d → Q v H2) → rl vs H Q) : Ef K (tCB rl t) r d := by
  intro M F0 H0 s F H S Q q
  refine h _ _ _ _ _ _ S _ fun vs F1 H1 g1 dv => ?_
  exact hr vs F1 H1 g1.i dv Q fun v F2 H2 g2 => q v F2 H2 (g1.trans g2)
theorem ef_cbL {rl : List V → Hp → VK → Prop} (h : El K te r ds) (hr : ∀ p vs F H, Same F H → SqL K H p vs → DpAll K F vs ds → ∀ Q : VK, (∀ v F2 H2, Grow F H F2 H2 → Dp K F2 v d → Q v H2) → rl [.ref p] H Q) : Ef K (tCB rl (tCons te tNil)) r d := by
  intro M F0 H0 s F H S Q q
  refine h _ _ _ _ _ _ S _ fun p vs F1 H1 g1 sq dv => ?_
  exact hr p vs F1 H1 g1.i sq dv Q fun v F2 H2 g2 => q v F2 H2 (g1.trans g2)
theorem ef_sum {ns : List Int} (h : El K te r (ns.map .int)) : Ef K (tCB (rSum K) (tCons te tNil)) r (.int ns.sum) :=
  ef_cbL h fun p vs F H s sq dv Q q => by
    obtain rfl := dv.of_ints
    exact ⟨p, ns, rfl, sq, q _ F H (Grow.refl s) (.int _)⟩
theorem ef_max {ns : List Int} {m : Int} (h : El K te r (ns.map .int)) (h0 : 0 < ns.length) (hm : ∀ k, k ∈ ns → (∀ y, y ∈ ns → y ≤ k) → k = m) : Ef K (tCB (rMax K) (tCons te tNil)) r (.int m) :=
  ef_cbL h fun p vs F H s sq dv Q q => by
    obtain rfl := dv.of_ints
    exact ⟨p, ns, rfl, sq, h0, fun k a b => by rw [hm k a b]; exact q _ F H (Grow.refl s) (.int _)⟩
theorem ef_min {ns : List Int} {m : Int} (h : El K te r (ns.map .int)) (h0 : 0 < ns.length) (hm : ∀ k, k ∈ ns → (∀ y, y ∈ ns → k ≤ y) → k = m) : Ef K (tCB (rMin K) (tCons te tNil)) r (.int m) :=
  ef_cbL h fun p vs F H s sq dv Q q => by
    obtain rfl := dv.of_ints
    exact ⟨p, ns, rfl, sq, h0, fun k a b => by rw [hm k a b]; exact q _ F H (Grow.refl s) (.int _)⟩
theorem ef_any {bs : List Bool} (h : El K te r (bs.map .bool)) : Ef K (tCB (rAny K) (tCons te tNil)) r (.bool (bs.any id)) :=
  ef_cbL h fun p vs F H s sq dv Q q => by
    obtain rfl := dv.of_bools
    exact ⟨p, bs, rfl, sq, q _ F H (Grow.refl s) (.bl _)⟩
theorem ef_all {bs : List Bool} (h : El K te r (bs.map .bool)) : Ef K (tCB (rAll K) (tCons te tNil)) r (.bool (bs.all id)) :=
  ef_cbL h fun p vs F H s sq dv Q q => by
    obtain rfl := dv.of_bools
    exact ⟨p, bs, rfl, sq, q _ F H (Grow.refl s) (.bl _)⟩
theorem ef_tupleOf (h : El K te r ds) : Ef K (tCB (fun xs H Q => ∃ p ys, xs = [.ref p] ∧ ((SqL K H p ys ∧ ∀ l, H l = none → Q (.ref l) (upd H l (.tup ys))) ∨ (SqT K H p ys ∧ Q (.ref p) H))) (tCons te tNil)) r (.tuple ds) :=
  ef_cbL h fun p vs F H s sq dv Q q => ⟨p, vs, rfl, .inl ⟨sq, fun l hl => by
    have g := Grow.new (o := .tup vs) s hl
    exact q _ _ _ g (.tup (SqT.of upd_same) (DpAll.up g.f _ _ dv))⟩⟩
theorem en_listOfT (h : Ef K te r (.tuple ds)) : En K (tCB (fun xs H Q => ∃ p ys, xs = [.ref p] ∧ (SqL K H p ys ∨ SqT K H p ys) ∧ ∀ l, H l = none → Q (.ref l) (upd H l (.lst ys))) (tCons te tNil)) r ds := by
  intro M F0 H0 s F H S Q q
  refine h _ _ _ _ _ _ S _ fun v F1 H1 g1 dv => ?_
  cases dv with
  | tup a b =>
    refine ⟨_, _, rfl, .inr (st_up g1.i a), fun l hl => ?_⟩
    exact q l _ F1 _ (g1.trans (Grow.newM g1.i hl)) (g1.h.free hl) (g1.i.free hl) upd_same b
theorem ef_abs (h : Ef K te r (.int i)) : Ef K (tCB (fun xs H Q => ∃ i, xs = [.int i] ∧ Q (.int (if i < 0 then -i else i)) H) (tCons te tNil)) r (.int (if i < 0 then -i else i)) :=
  ef_cb (ea_cons h ea_nil) fun vs F H s dv Q q => by
    obtain rfl := DpAll.of_ints (ns := [i]) dv
    exact ⟨i, rfl, q _ F H (Grow.refl s) (.int _)⟩
theorem ef_intI (h : Ef K te r (.int i)) : Ef K (tCB (fun xs H Q => (∃ i, xs = [.int i] ∧ Q (.int i) H) ∨ ∃ k, xs = [.bl k] ∧ Q (.int (if k then 1 else 0)) H) (tCons te tNil)) r (.int i) :=
  ef_cb (ea_cons h ea_nil) fun vs F H s dv Q q => by
    obtain rfl := DpAll.of_ints (ns := [i]) dv
    exact .inl ⟨i, rfl, q _ F H (Grow.refl s) (.int _)⟩
theorem ef_intB {b : Bool} (h : Ef K te r (.bool b)) : Ef K (tCB (fun xs H Q => (∃ i, xs = [.int i] ∧ Q (.int i) H) ∨ ∃ k, xs = [.bl k] ∧ Q (.int (if k then 1 else 0)) H) (tCons te tNil)) r (.int (if b then 1 else 0)) :=
  ef_cb (ea_cons h ea_nil) fun vs F H s dv Q q => by
    obtain rfl := DpAll.of_bools (ns := [b]) dv
    exact .inr ⟨b, rfl, q _ F H (Grow.refl s) (.int _)⟩
theorem ef_max2 (ha : Ef K ta r (.int i)) (hb : Ef K tb r (.int j)) : Ef K (tCB (fun xs H Q => ∃ i j, xs = [.int i, .int j] ∧ Q (.int (if j > i then j else i)) H) (tCons ta (tCons tb tNil))) r (.int (if j > i then j else i)) :=
  ef_cb (ea_cons ha (ea_cons hb ea_nil)) fun vs F H s dv Q q => by
    obtain rfl := DpAll.of_ints (ns := [i, j]) dv
    exact ⟨i, j, rfl, q _ F H (Grow.refl s) (.int _)⟩
theorem ef_min2 (ha : Ef K ta r (.int i)) (hb : Ef K tb r (.int j)) : Ef K (tCB (fun xs H Q => ∃ i j, xs = [.int i, .int j] ∧ Q (.int (if j < i then j else i)) H) (tCons ta (tCons tb tNil))) r (.int (if j < i then j else i)) :=
  ef_cb (ea_cons ha (ea_cons hb ea_nil)) fun vs F H s dv Q q => by
    obtain rfl := DpAll.of_ints (ns := [i, j]) dv
    exact ⟨i, j, rfl, q _ F H (Grow.refl s) (.int _)⟩
theorem ef_strI (h : Ef K te r (.int i)) (hl : i.natAbs.log2 < 1920) : Ef K (tCB (fun xs H Q => ∃ i, xs = [.int i] ∧ i.natAbs.log2 < 1920 ∧ Q (.str (toString i)) H) (tCons te tNil)) r (.str (toString i)) :=
  ef_cb (ea_cons h ea_nil) fun vs F H s dv Q q => by
    obtain rfl := DpAll.of_ints (ns := [i]) dv
    exact ⟨i, rfl, hl, q _ F H (Grow.refl s) (.str _)⟩
end
end Tm
set_option maxRecDepth 100000
set_option maxHeartbeats 4000000
/-! Statements, comprehensions, calls; what a pure def promises. -/
namespace Tm
open PySem PyProof.Rows L2

structure Af where
  nx : List Slo → Prop
  rt : PyData → List Slo → Prop := fun _ _ => False
  bk : List Slo → Prop := fun _ => False
  ct : List Slo → Prop := fun _ => False
structure Holds (K : PySem.W.Frag) (M : Addr → Prop) (F0 H0 : Hp) (A : Af) (D : Ends) : Prop where
  nx : ∀ r s F H, A.nx r → Sta K M F0 H0 r s F H → D.nx s H
  rt : ∀ d v r s F H, A.rt d r → Sta K M F0 H0 r s F H → Dp K F v d → D.rt v H
  bk : ∀ r s F H, A.bk r → Sta K M F0 H0 r s F H → D.bk s H
  ct : ∀ r s F H, A.ct r → Sta K M F0 H0 r s F H → D.ct s H
def Sd (K : PySem.W.Frag) (ts : TS) (r : List Slo) (A : Af) : Prop := ∀ M F0 H0 s F H D, Sta K M F0 H0 r s F H → Holds K M F0 H0 A D → ts D s H
section
variable {K : PySem.W.Frag} {r : List Slo} {te ta tb tc : TE} {tt tu : TT} {d e d1 d2 : PyData} {ds es : List PyData} {rr : R2} {i j : Int} {A B : Af} {t u : TS}
theorem sd_next (h : A.nx r) : Sd K tNext r A := fun M F0 H0 s F H D S W => W.nx r s F H h S
theorem sd_brk (h : A.bk r) : Sd K tBreak r A := fun M F0 H0 s F H D S W => W.bk r s F H h S
theorem sd_cont (h : A.ct r) : Sd K tCont r A := fun M F0 H0 s F H D S W => W.ct r s F H h S
theorem sd_seq (h : Sd K t r { A with nx := fun r' => Sd K u r' A }) : Sd K (tSeq t u) r A := fun M F0 H0 s F H D S W =>
  h M F0 H0 s F H { D with nx := u D } S ⟨fun r' s' F' H' a S' => a M F0 H0 s' F' H' D S' W, W.rt, W.bk, W.ct⟩
theorem sd_weak (h : Sd K t r B) (h1 : ∀ r, B.nx r → A.nx r) (h2 : ∀ d r, B.rt d r → A.rt d r) (h3 : ∀ r, B.bk r → A.bk r) (h4 : ∀ r, B.ct r → A.ct r) : Sd K t r A := fun M F0 H0 s F H D S W =>
  h M F0 H0 s F H D S ⟨fun r s F H a => W.nx r s F H (h1 r a), fun d v r s F H a => W.rt d v r s F H (h2 d r a), fun r s F H a => W.bk r s F H (h3 r a), fun r s F H a => W.ct r s F H (h4 r a)⟩
theorem sd_set {k : Nat} (h : Ef K te r d) (q : A.nx (r.set k (.fz d))) : Sd K (tAsg te (gName k)) r A := fun M F0 H0 s F H D S W =>
  h _ _ _ _ _ _ S _ fun v F2 H2 g a => W.nx _ _ F2 H2 q ((S.grow g).setF a)
theorem sd_setN {k : Nat} (h : En K te r ds) (q : A.nx (r.set k (.mu ds))) : Sd K (tAsg te (gName k)) r A := fun M F0 H0 s F H D S W =>
  h _ _ _ _ _ _ S _ fun p vs F2 H2 g hp hf hh a => W.nx _ _ F2 H2 q (by
    have S2 := S.grow g
    refine S2.setN hf ?_ hh a fun j u _ e m w => ?_
    · cases z : H0 p with
      | none => rfl
      | some o => exact absurd hp (S.hd p (some_ne z))
    · obtain ⟨vs', x⟩ := S.known e m w
      rw [hp] at x
      cases x)
theorem sd_ret (h : Ef K te r d) (q : A.rt d r) : Sd K (tRet te) r A := fun M F0 H0 s F H D S W =>
  h _ _ _ _ _ _ S _ fun v F2 H2 g a => W.rt d v r s F2 H2 q (S.grow g) a
theorem sd_retN (q : A.rt .none r) : Sd K tRetN r A := fun M F0 H0 s F H D S W => W.rt _ _ r s F H q S .non
theorem sd_drop (h : Ef K te r d) (q : A.nx r) : Sd K (tDrop te) r A := fun M F0 H0 s F H D S W =>
  h _ _ _ _ _ _ S _ fun v F2 H2 g a => W.nx r s F2 H2 q (S.grow g)
theorem sd_if {b : Bool} (h : Eb K tt r b) (h1 : b = true → Sd K t r A) (h2 : b = false → Sd K u r A) : Sd K (tIfS tt t u) r A := fun M F0 H0 s F H D S W =>
  h _ _ _ _ _ _ S _ fun F2 H2 g => by
    cases b with
    | true => exact iteT (h1 rfl _ _ _ _ _ _ _ (S.grow g) W)
    | false => exact iteF (h2 rfl _ _ _ _ _ _ _ (S.grow g) W)
theorem sd_freeze {k : Nat} (e : r[k]? = some (.mu ds)) (h : Sd K t (r.set k (.fz (.list ds))) A) : Sd K t r A := fun M F0 H0 s F H D S W => by
  obtain ⟨F2, S2⟩ := S.freeze e
  exact h M F0 H0 s F2 H D S2 W
theorem nx_freeze {k : Nat} (e : r[k]? = some (.mu ds)) (h : Sd K t (r.set k (.fz (.list ds))) A) : Sd K t r A := sd_freeze e h
/-- xs.append(e), xs the list in slot k -/
theorem sd_app {k : Nat} (e : r[k]? = some (.mu ds)) (h : Ef K te r d) (hz : ds.length < 100000) (q : A.nx (r.set k (.mu (ds ++ [d])))) : Sd K (tDrop (tBM K "list" rAppend (tVar k) (tCons te tNil))) r A := fun M F0 H0 s F H D S W => by
  obtain ⟨p, vs, hs, f, z, b, c⟩ := S.mu e
  refine ⟨_, hs, .inl ⟨rfl, _, SqL.of b⟩, ?_⟩
  refine h _ _ _ _ _ _ S _ fun v F2 H2 g a => ?_
  have S2 := S.grow g
  exact ⟨p, vs, v, rfl, rfl, g.h _ _ b, by rw [c.len]; exact szLt hz, W.nx _ _ F2 _ q (S2.write e hs ((DpAll.up g.f _ _ c).app (.one a)))⟩
/-- xs.append(a new list) -/
theorem sd_appP {k : Nat} (e : r[k]? = some (.pm ds)) (h : Ef K te r d) (hz : ds.length < 100000) (q : A.nx (r.set k (.pm (ds ++ [d])))) : Sd K (tDrop (tBM K "list" rAppend (tVar k) (tCons te tNil))) r A := fun M F0 H0 s F H D S W => by
  obtain ⟨p, vs, hs, f, z, b, c⟩ := S.pm e
  refine ⟨_, hs, .inl ⟨rfl, _, SqL.of b⟩, ?_⟩
  refine h _ _ _ _ _ _ S _ fun v F2 H2 g a => ?_
  have S2 := S.grow g
  exact ⟨p, vs, v, rfl, rfl, g.h _ _ b, by rw [c.len]; exact szLt hz, W.nx _ _ F2 _ q (S2.writeP e hs ((DpAll.up g.f _ _ c).app (.one a)))⟩
/-- xs[i] = e -/
theorem sd_item {k m : Nat} (e : r[k]? = some (.mu ds)) (h : Ef K te r d) (hi : Ef K tb r (.int i)) (hx : ixN ds.length i = some m) (q : A.nx (r.set k (.mu (ds.set m d)))) : Sd K (tAsg te (gSub (tVar k) tb rSetL)) r A := fun M F0 H0 s F H D S W => by
  obtain ⟨p, vs, hs, f, z, b, c⟩ := S.mu e
  refine h _ _ _ _ _ _ S _ fun v F2 H2 g a => ?_
  refine ⟨_, hs, ?_⟩
  have S2 := S.grow g
  refine hi _ _ _ _ _ _ S2 _ fun y F3 H3 g3 dy => ?_
  cases dy
  have S3 := S2.grow g3
  exact ⟨p, vs, i, m, rfl, rfl, (g.trans g3).h _ _ b, by rw [c.len]; exact hx, W.nx _ _ F3 _ q (S3.write e hs ((DpAll.up (g.trans g3).f _ _ c).set m (Dp.up g3.f _ _ a)))⟩
theorem sd_itemP {k m : Nat} (e : r[k]? = some (.pm ds)) (h : Ef K te r d) (hi : Ef K tb r (.int i)) (hx : ixN ds.length i = some m) (q : A.nx (r.set k (.pm (ds.set m d)))) : Sd K (tAsg te (gSub (tVar k) tb rSetL)) r A := fun M F0 H0 s F H D S W => by
  obtain ⟨p, vs, hs, f, z, b, c⟩ := S.pm e
  refine h _ _ _ _ _ _ S _ fun v F2 H2 g a => ?_
  refine ⟨_, hs, ?_⟩
  have S2 := S.grow g
  refine hi _ _ _ _ _ _ S2 _ fun y F3 H3 g3 dy => ?_
  cases dy
  have S3 := S2.grow g3
  exact ⟨p, vs, i, m, rfl, rfl, (g.trans g3).h _ _ b, by rw [c.len]; exact hx, W.nx _ _ F3 _ q (S3.writeP e hs ((DpAll.up (g.trans g3).f _ _ c).set m (Dp.up g3.f _ _ a)))⟩
theorem dp_split {F : Hp} {vs : List V} (h : DpAll K F vs (ds ++ [d])) : ∃ ws v, vs = ws ++ [v] ∧ DpAll K F ws ds ∧ Dp K F v d := by
  have hl := h.len
  rw [List.length_append, List.length_singleton] at hl
  obtain ⟨v, h1, h2⟩ := h.get (i := ds.length) (d := d) (by simp)
  refine ⟨vs.take ds.length, v, ?_, by have z := h.take ds.length; rwa [List.take_left] at z, h2⟩
  have e : vs = vs.take ds.length ++ vs.drop ds.length := (List.take_append_drop _ _).symm
  have e2 : vs.drop ds.length = [v] := by
    have l : (vs.drop ds.length).length = 1 := by rw [List.length_drop]; omega
    obtain ⟨x, hx⟩ := List.length_eq_one_iff.mp l
    have : (vs.drop ds.length)[0]? = some v := by rw [List.getElem?_drop]; exact h1
    rw [hx] at this
    cases this
    exact hx
  rw [e2] at e
  exact e
/-- x = xs.pop() -/
theorem sd_pop {k m : Nat} (e : r[k]? = some (.mu (ds ++ [d]))) (hkm : k ≠ m) (q : A.nx ((r.set k (.mu ds)).set m (.fz d))) : Sd K (tAsg (tBM0 K "list" rPop (tVar k)) (gName m)) r A := fun M F0 H0 s F H D S W => by
  obtain ⟨p, vs, hs, f, z, b, c⟩ := S.mu e
  obtain ⟨ws, v, rfl, cw, cv⟩ := dp_split c
  refine ⟨_, hs, .inl ⟨rfl, _, SqL.of b⟩, p, ws ++ [v], v, rfl, rfl, b, by simp, ?_⟩
  rw [List.dropLast_concat]
  exact W.nx _ _ F _ q ((S.write e hs cw).setF cv)
theorem dp_cons {F : Hp} {vs : List V} (h : DpAll K F vs (d :: ds)) : ∃ v ws, vs = v :: ws ∧ Dp K F v d ∧ DpAll K F ws ds := by
  cases h with
  | cons a b => exact ⟨_, _, rfl, a, b⟩
/-- x = xs.pop(0) -/
theorem sd_pop0 {k m : Nat} (e : r[k]? = some (.mu (d :: ds))) (hkm : k ≠ m) (q : A.nx ((r.set k (.mu ds)).set m (.fz d))) : Sd K (tAsg (tBM K "list" rPopAt (tVar k) (tCons (tC (.int 0)) tNil)) (gName m)) r A := fun M F0 H0 s F H D S W => by
  obtain ⟨p, vs, hs, f, z, b, c⟩ := S.mu e
  obtain ⟨v, ws, rfl, cv, cw⟩ := dp_cons c
  refine ⟨_, hs, .inl ⟨rfl, _, SqL.of b⟩, p, v :: ws, 0, 0, v, rfl, rfl, b, by decide, by decide, ?_, by simp, ?_⟩
  · unfold seqIndex?
    simp
  · exact W.nx _ _ F _ q ((S.write e hs cw).setF cv)
/-! ### loops -/
theorem Sta.rebase {M : Addr → Prop} {F0 H0 F H : Hp} {s : L2.St} (S : Sta K M F0 H0 r s F H) : Sta K M F H0 r s F H :=
  ⟨Same.refl _, S.i, S.h0, S.hd, fun _ a _ _ => a, S.len, S.sl, S.dj⟩
theorem Sta.unbase {M : Addr → Prop} {F0 H0 F H F2 H2 : Hp} {r2 : List Slo} {s s2 : L2.St} (S : Sta K M F0 H0 r s F H) (T : Sta K M F H0 r2 s2 F2 H2) : Sta K M F0 H0 r2 s2 F2 H2 :=
  ⟨S.f0.trans T.f0, T.i, T.h0, T.hd, fun b e1 e2 e3 => T.n0 b (n_step S.i T.f0 T.i (S.n0 b e1 e2) e3) e2 e3, T.len, T.sl, T.dj⟩
theorem Holds.rebase {M : Addr → Prop} {F0 H0 F H : Hp} {s : L2.St} {D : Ends} (S : Sta K M F0 H0 r s F H) (W : Holds K M F0 H0 A D) : Holds K M F H0 A D :=
  ⟨fun r2 s2 F2 H2 a T => W.nx r2 s2 F2 H2 a (S.unbase T), fun d v r2 s2 F2 H2 a T => W.rt d v r2 s2 F2 H2 a (S.unbase T), fun r2 s2 F2 H2 a T => W.bk r2 s2 F2 H2 a (S.unbase T), fun r2 s2 F2 H2 a T => W.ct r2 s2 F2 H2 a (S.unbase T)⟩
/-- the ends of a loop's body -/
def Af.loop (A : Af) (I : List Slo → Prop) : Af := { nx := I, rt := A.rt, bk := A.nx, ct := I }
theorem Holds.loop {M : Addr → Prop} {F0 H0 : Hp} {D : Ends} {I : List Slo → Prop} {N : L2.St → Hp → Prop} (W : Holds K M F0 H0 A D) (h : ∀ r s F H, I r → Sta K M F0 H0 r s F H → N s H) : Holds K M F0 H0 (A.loop I) { D with nx := N, ct := N, bk := D.nx } :=
  ⟨h, W.rt, W.nx, h⟩
theorem sd_for1 {t1 : TA} {k : Nat} {n : Int} (h : Ea K t1 r [.int n]) (hn : -100000 ≤ n ∧ n ≤ 100000) (I : Nat → List Slo → Prop) (h0 : I 0 r) (hs : ∀ (m : Nat) r', (m : Int) < n → I m r' → Sd K t (r'.set k (.fz (.int m))) (A.loop (I (m + 1)))) (hd : ∀ r', I n.toNat r' → A.nx r') : Sd K (tFor (iRng1 t1) (gName k) t) r A := fun M F0 H0 s F H D S W => by
  refine h _ _ _ _ _ _ S _ fun vs F1 H1 g a => ?_
  obtain rfl := DpAll.of_ints (ns := [n]) a
  have S1 := S.grow g
  refine ⟨n, rfl, by omega, by omega, for_range (lo := 0) (n := n.toNat) (fun m s' H' => ∃ r' F', I m r' ∧ Sta K M F0 H0 r' s' F' H') ⟨r, F1, h0, S1⟩ (fun m s' H' hm => ?_) (fun s' H' => ?_)⟩
  · rintro ⟨r', F', a, S'⟩
    have e : (0 : Int) + (m : Int) = m := by omega
    rw [e]
    exact hs m r' (by omega) a M F0 H0 _ F' H' _ (S'.setF (.int _)) (W.loop fun r s F H b T => ⟨r, F, b, T⟩)
  · rintro ⟨r', F', a, S'⟩
    exact W.nx r' s' F' H' (hd r' a) S'
theorem sd_for2 {t1 : TA} {k : Nat} {lo n : Int} (h : Ea K t1 r [.int lo, .int n]) (hn : 0 ≤ lo ∧ lo ≤ 100000 ∧ -100000 ≤ n ∧ n ≤ 100000) (I : Nat → List Slo → Prop) (h0 : I 0 r) (hs : ∀ (m : Nat) r', lo + (m : Int) < n → I m r' → Sd K t (r'.set k (.fz (.int (lo + m)))) (A.loop (I (m + 1)))) (hd : ∀ r', I (n - lo).toNat r' → A.nx r') : Sd K (tFor (iRng2 t1) (gName k) t) r A := fun M F0 H0 s F H D S W => by
  refine h _ _ _ _ _ _ S _ fun vs F1 H1 g a => ?_
  obtain rfl := DpAll.of_ints (ns := [lo, n]) a
  have S1 := S.grow g
  refine ⟨lo, n, rfl, ⟨by omega, by omega, by omega, by omega⟩, for_range (lo := lo) (n := (n - lo).toNat) (fun m s' H' => ∃ r' F', I m r' ∧ Sta K M F0 H0 r' s' F' H') ⟨r, F1, h0, S1⟩ (fun m s' H' hm => ?_) (fun s' H' => ?_)⟩
  · rintro ⟨r', F', a, S'⟩
    exact hs m r' (by omega) a M F0 H0 _ F' H' _ (S'.setF (.int _)) (W.loop fun r s F H b T => ⟨r, F, b, T⟩)
  · rintro ⟨r', F', a, S'⟩
    exact W.nx r' s' F' H' (hd r' a) S'
/-- over a frozen list -/
theorem sd_forL {tl : TE} {k : Nat} (h : Ef K tl r (.list ds)) (I : Nat → List Slo → Prop) (h0 : I 0 r) (hs : ∀ (m : Nat) d r', ds[m]? = some d → I m r' → Sd K t (r'.set k (.fz d)) (A.loop (I (m + 1)))) (hd : ∀ r', I ds.length r' → A.nx r') : Sd K (tFor (iList K tl) (gName k) t) r A := fun M F0 H0 s F H D S W => by
  refine h _ _ _ _ _ _ S _ fun v F1 H1 g a => ?_
  have S0 := S.grow g
  have S1 := S0.rebase
  have W1 := W.rebase S0
  cases a with
  | @lst p vs _ sq dv =>
    refine ⟨p, rfl, ⟨vs, sl_up g.i sq⟩, for_list (K := K) (a := p) (xs := vs) (fun m s' H' => ∃ r' F', I m r' ∧ Sta K M F1 H0 r' s' F' H') ⟨r, F1, h0, S1⟩ (fun m s' H' _ => ?_) (fun m x s' H' hx => ?_) (fun s' H' => ?_)⟩
    · rintro ⟨r', F', a, S'⟩
      exact sl_up (S'.f0.trans S'.i) sq
    · rintro ⟨r', F', a, S'⟩
      obtain ⟨d, e1, e2⟩ := dv.getV hx
      exact hs m d r' e1 a M F1 H0 _ F' H' _ (S'.setF (Dp.up S'.f0 _ _ e2)) (W1.loop fun r s F H b T => ⟨r, F, b, T⟩)
    · rintro ⟨r', F', a, S'⟩
      rw [dv.len] at a
      exact W1.nx r' s' F' H' (hd r' a) S'
/-- over a tuple -/
theorem sd_forT {tl : TE} {k : Nat} (h : Ef K tl r (.tuple ds)) (I : Nat → List Slo → Prop) (h0 : I 0 r) (hs : ∀ (m : Nat) d r', ds[m]? = some d → I m r' → Sd K t (r'.set k (.fz d)) (A.loop (I (m + 1)))) (hd : ∀ r', I ds.length r' → A.nx r') : Sd K (tFor (iTup K tl) (gName k) t) r A := fun M F0 H0 s F H D S W => by
  refine h _ _ _ _ _ _ S _ fun v F1 H1 g a => ?_
  have S0 := S.grow g
  have S1 := S0.rebase
  have W1 := W.rebase S0
  cases a with
  | @tup p vs _ sq dv =>
    refine ⟨p, rfl, ⟨vs, st_up g.i sq⟩, for_tup (K := K) (a := p) (xs := vs) (fun m s' H' => ∃ r' F', I m r' ∧ Sta K M F1 H0 r' s' F' H') ⟨r, F1, h0, S1⟩ (fun m s' H' _ => ?_) (fun m x s' H' hx => ?_) (fun s' H' => ?_)⟩
    · rintro ⟨r', F', a, S'⟩
      exact st_up (S'.f0.trans S'.i) sq
    · rintro ⟨r', F', a, S'⟩
      obtain ⟨d, e1, e2⟩ := dv.getV hx
      exact hs m d r' e1 a M F1 H0 _ F' H' _ (S'.setF (Dp.up S'.f0 _ _ e2)) (W1.loop fun r s F H b T => ⟨r, F, b, T⟩)
    · rintro ⟨r', F', a, S'⟩
      rw [dv.len] at a
      exact W1.nx r' s' F' H' (hd r' a) S'
theorem sd_while (I : Nat → List Slo → Prop) (n : Nat) (h0 : I n r) (hs : ∀ n r', I n r' → ∃ b, Eb K tt r' b ∧ (b = true → Sd K t r' (A.loop fun r2 => ∃ m, m < n ∧ I m r2)) ∧ (b = false → A.nx r')) : Sd K (tWhile tt t) r A := fun M F0 H0 s F H D S W => by
  refine ⟨fun m s' H' => ∃ r' F', I m r' ∧ Sta K M F0 H0 r' s' F' H', ⟨n, r, F, h0, S⟩, ?_⟩
  rintro m s' H' ⟨r', F', a, S'⟩
  obtain ⟨b, e, h1, h2⟩ := hs m r' a
  refine e _ _ _ _ _ _ S' _ fun F2 H2 g => ?_
  have S2 := S'.grow g
  cases b with
  | true =>
    refine iteT ⟨fun s2 H2 => ∃ k, k < m ∧ ∃ r' F', I k r' ∧ Sta K M F0 H0 r' s2 F' H2, fun s2 H2 ⟨k, l, x⟩ => ⟨k, l, x⟩, ?_⟩
    exact h1 rfl M F0 H0 _ F2 H2 _ S2 (W.loop fun r s F H ⟨k, l, x⟩ T => ⟨k, l, r, F, x, T⟩)
  | false => exact iteF (W.nx r' s' F2 H2 (h2 rfl) S2)
/-! ### comprehensions -/
theorem wipe_one (s : L2.St) (k : Nat) (v : V) : wipe ((wipe s [k]).set k (some v)) [k] = wipe s [k] := by
  show ((s.set k none).set k (some v)).set k none = s.set k none
  rw [List.set_set, List.set_set]
theorem set_wipe (s : L2.St) (k : Nat) (v : V) : (wipe s [k]).set k (some v) = s.set k (some v) := by
  show (s.set k none).set k (some v) = s.set k (some v)
  rw [List.set_set]
/-- the state of a comprehension's loop: what was made so far -/
structure Cst (K : PySem.W.Frag) (F H : Hp) (Dl : Addr) (es : List PyData) (H' : Hp) : Prop where
  ex : ∃ F' acc, Grow F H F' H' ∧ F' Dl = none ∧ H' Dl = some (.lst acc) ∧ DpAll K F' acc es
theorem Cst.start {F H : Hp} {Dl : Addr} (i : Same F H) (h : H Dl = none) : Cst K F H Dl [] (upd H Dl (.lst [])) := ⟨F, [], Grow.newM i h, i.free h, upd_same, .nil⟩
theorem Cst.turn {M : Addr → Prop} {F0 H0 F H H' : Hp} {Dl : Addr} {b : Bool} {r2 : List Slo} {s2 : L2.St} {Nx : Hp → Prop} (hD : H Dl = none) (C : Cst K F H Dl es H')
    (hS : ∀ F', Grow F H F' H' → Sta K M F0 H0 r2 s2 F' H') (ht : Eb K tt r2 b) (he : b = true → Ef K te r2 d) (hl : es.length < 100000) (hn : ∀ H2, Cst K F H Dl (if b then es ++ [d] else es) H2 → Nx H2) :
    tt s2 H' fun b H3 => if b = true then te s2 H3 fun y H4 => ∃ acc, H4 Dl = some (.lst acc) ∧ acc.length < sizeLine ∧ Nx (upd H4 Dl (.lst (acc ++ [y]))) else Nx H3 := by
  obtain ⟨F', acc, g, nF, hh, dv⟩ := C.ex
  refine ht _ _ _ _ _ _ (hS F' g) _ fun F3 H3 g3 => ?_
  cases b with
  | false => exact iteF (hn H3 ⟨F3, acc, g.trans g3, g3.n _ nF (keep_lst hh), g3.h _ _ hh, DpAll.up g3.f _ _ dv⟩)
  | true =>
    refine iteT ?_
    refine he rfl _ _ _ _ _ _ ((hS F' g).grow g3) _ fun y F4 H4 g4 dy => ?_
    have g5 := g3.trans g4
    have nF4 := g5.n _ nF (keep_lst hh)
    refine ⟨acc, g5.h _ _ hh, by rw [dv.len]; exact szLt hl, hn _ ⟨F4, acc ++ [y], ?_, nF4, upd_same, (DpAll.up g5.f _ _ dv).app (.one dy)⟩⟩
    have g6 := g.trans g5
    refine ⟨g6.f, fun c u x => ?_, fun c u x => ?_, g6.n⟩
    · rw [upd_ne (ne_of_none x nF4)]
      exact g6.i c u x
    · rw [upd_ne (ne_of_none x hD)]
      exact g6.h c u x
theorem take_more {α : Type} : ∀ {l : List α} {m : Nat} {x : α}, l[m]? = some x → l.take (m + 1) = l.take m ++ [x]
  | [], m, x, h => by simp at h
  | a :: l, 0, x, h => by simp at h; subst h; rfl
  | a :: l, m + 1, x, h => by
    have ih := take_more (l := l) (m := m) (x := x) (by simpa using h)
    rw [List.take_succ_cons, ih, List.take_succ_cons]
    rfl
theorem took {α β : Type} {l : List α} {m : Nat} {x : α} (p : α → Bool) (g : α → β) (h : l[m]? = some x) : ((l.take (m + 1)).filter p).map g = if p x then ((l.take m).filter p).map g ++ [g x] else ((l.take m).filter p).map g := by
  rw [take_more h, List.filter_append, List.map_append, List.filter_cons]
  cases p x with
  | true => rfl
  | false => simp
theorem took_len {α β : Type} {l : List α} (m : Nat) (p : α → Bool) (g : α → β) : (((l.take m).filter p).map g).length ≤ m := by
  rw [List.length_map]
  exact Nat.le_trans (List.length_filter_le _ _) (by rw [List.length_take]; omega)
theorem Cst.fin {M : Addr → Prop} {F0 H0 F1 H1 F H H' : Hp} {Dl : Addr} (C : Cst K F1 H1 Dl es H') (hD : H1 Dl = none) (g1 : Grow F H F1 H1) {Q : VK} (q : ∀ p vs F2 H2, Grow F H F2 H2 → H p = none → F2 p = none → H2 p = some (.lst vs) → DpAll K F2 vs es → Q (.ref p) H2) : Q (.ref Dl) H' := by
  obtain ⟨F', acc, g, nF, hh, dv⟩ := C.ex
  exact q Dl acc F' H' (g1.trans g) (g1.h.free hD) nF hh dv
/-- [e for x in xs if t], x a name -/
theorem en_lcL {α : Type} {tl : TE} {k : Nat} (xs : List α) (f : α → PyData) (p : α → Bool) (g : α → PyData) (h : El K tl r (xs.map f)) (hz : xs.length ≤ 90000) (ht : ∀ x, x ∈ xs → Eb K tt (r.set k (.fz (f x))) (p x)) (he : ∀ x, x ∈ xs → p x = true → Ef K te (r.set k (.fz (f x))) (g x)) :
    En K (tLc (iList K tl) (gName k) tt te [k]) r ((xs.filter p).map g) := by
  intro M F0 H0 s F H S Q q
  refine h _ _ _ _ _ _ S _ fun a vs F1 H1 g1 sq dv => ?_
  have S1 := S.grow g1
  refine ⟨a, rfl, ⟨vs, sq⟩, fun Dl hD => ?_⟩
  have hlen : vs.length = xs.length := by rw [dv.len, List.length_map]
  refine lc_list (K := K) (a := a) (xs := vs) (fun m H' => Cst K F1 H1 Dl (((xs.take m).filter p).map g) H') (by simpa using Cst.start g1.i hD) (fun m H' _ C => ?_) (fun m x H' hx C => ?_) (fun H' C => ?_)
  · obtain ⟨F', acc, g2, _⟩ := C.ex
    exact sl_up g2.h sq
  · obtain ⟨d, e1, e2⟩ := dv.getV hx
    rw [List.getElem?_map] at e1
    cases ex : xs[m]? with
    | none => rw [ex] at e1; cases e1
    | some y =>
      rw [ex] at e1
      cases e1
      have hm : m < xs.length := (List.getElem?_eq_some_iff.mp ex).1
      have hmem : y ∈ xs := List.mem_of_getElem? ex
      refine ⟨wipe_one s k x, ?_⟩
      refine C.turn (M := M) (F0 := F0) (H0 := H0) (r2 := r.set k (.fz (f y))) hD (fun F' g2 => by rw [set_wipe]; exact (S1.grow g2).setF (Dp.up g2.f _ _ e2)) (ht y hmem) (he y hmem) (Nat.lt_of_le_of_lt (took_len m p g) (by omega)) fun H2 C2 => ?_
      rw [took p g ex]
      exact C2
  · rw [hlen, List.take_length] at C
    exact C.fin (M := M) (F0 := F0) (H0 := H0) hD g1 q
/-- .. over a range -/
theorem en_lcR {t1 : TA} {k : Nat} {n : Int} (p : Nat → Bool) (g : Nat → PyData) (h : Ea K t1 r [.int n]) (hz : -1000 ≤ n ∧ n ≤ 90000) (ht : ∀ m : Nat, (m : Int) < n → Eb K tt (r.set k (.fz (.int m))) (p m)) (he : ∀ m : Nat, (m : Int) < n → p m = true → Ef K te (r.set k (.fz (.int m))) (g m)) :
    En K (tLc (iRng1 t1) (gName k) tt te [k]) r (((List.range n.toNat).filter p).map g) := by
  intro M F0 H0 s F H S Q q
  refine h _ _ _ _ _ _ S _ fun vs F1 H1 g1 a => ?_
  obtain rfl := DpAll.of_ints (ns := [n]) a
  have S1 := S.grow g1
  refine ⟨n, rfl, by omega, by omega, fun Dl hD => ?_⟩
  refine lc_range (lo := 0) (n := n.toNat) (fun m H' => Cst K F1 H1 Dl ((((List.range n.toNat).take m).filter p).map g) H') (by simpa using Cst.start g1.i hD) (fun m H' hm C => ?_) (fun H' C => ?_)
  · have e : (0 : Int) + (m : Int) = m := by omega
    rw [e]
    have ex : (List.range n.toNat)[m]? = some m := by simp [hm]
    refine ⟨wipe_one s k _, ?_⟩
    refine C.turn (M := M) (F0 := F0) (H0 := H0) (r2 := r.set k (.fz (.int m))) hD (fun F' g2 => by rw [set_wipe]; exact (S1.grow g2).setF (.int _)) (ht m (by omega)) (he m (by omega)) (Nat.lt_of_le_of_lt (took_len m p g) (by omega)) fun H2 C2 => ?_
    rw [took p g ex]
    exact C2
  · have e : (List.range n.toNat).take n.toNat = List.range n.toNat := List.take_of_length_le (by simp)
    rw [e] at C
    exact C.fin (M := M) (F0 := F0) (H0 := H0) hD g1 q
/-- .. over a range from 1 on, say -/
theorem en_lcR2 {t1 : TA} {k : Nat} {lo n : Int} (p : Nat → Bool) (g : Nat → PyData) (h : Ea K t1 r [.int lo, .int n]) (hz : -1000 ≤ n ∧ n ≤ 90000 ∧ 0 ≤ lo ∧ lo ≤ 1000) (ht : ∀ m : Nat, lo + (m : Int) < n → Eb K tt (r.set k (.fz (.int (lo + m)))) (p m)) (he : ∀ m : Nat, lo + (m : Int) < n → p m = true → Ef K te (r.set k (.fz (.int (lo + m)))) (g m)) :
    En K (tLc (iRng2 t1) (gName k) tt te [k]) r (((List.range (n - lo).toNat).filter p).map g) := by
  intro M F0 H0 s F H S Q q
  refine h _ _ _ _ _ _ S _ fun vs F1 H1 g1 a => ?_
  obtain rfl := DpAll.of_ints (ns := [lo, n]) a
  have S1 := S.grow g1
  refine ⟨lo, n, rfl, ⟨by omega, by omega, by omega, by omega⟩, fun Dl hD => ?_⟩
  refine lc_range (lo := lo) (n := (n - lo).toNat) (fun m H' => Cst K F1 H1 Dl ((((List.range (n - lo).toNat).take m).filter p).map g) H') (by simpa using Cst.start g1.i hD) (fun m H' hm C => ?_) (fun H' C => ?_)
  · have ex : (List.range (n - lo).toNat)[m]? = some m := by simp [hm]
    refine ⟨wipe_one s k _, ?_⟩
    refine C.turn (M := M) (F0 := F0) (H0 := H0) (r2 := r.set k (.fz (.int (lo + m)))) hD (fun F' g2 => by rw [set_wipe]; exact (S1.grow g2).setF (.int _)) (ht m (by omega)) (he m (by omega)) (Nat.lt_of_le_of_lt (took_len m p g) (by omega)) fun H2 C2 => ?_
    rw [took p g ex]
    exact C2
  · have e : (List.range (n - lo).toNat).take (n - lo).toNat = List.range (n - lo).toNat := List.take_of_length_le (by simp)
    rw [e] at C
    exact C.fin (M := M) (F0 := F0) (H0 := H0) hD g1 q
/-- .. over a tuple -/
theorem en_lcT {α : Type} {tl : TE} {k : Nat} (xs : List α) (f : α → PyData) (p : α → Bool) (g : α → PyData) (h : Ef K tl r (.tuple (xs.map f))) (hz : xs.length ≤ 90000) (ht : ∀ x, x ∈ xs → Eb K tt (r.set k (.fz (f x))) (p x)) (he : ∀ x, x ∈ xs → p x = true → Ef K te (r.set k (.fz (f x))) (g x)) :
    En K (tLc (iTup K tl) (gName k) tt te [k]) r ((xs.filter p).map g) := by
  intro M F0 H0 s F H S Q q
  refine h _ _ _ _ _ _ S _ fun v F1 H1 g1 dw => ?_
  have S1 := S.grow g1
  cases dw with
  | @tup a vs _ sq dv =>
  refine ⟨a, rfl, ⟨vs, st_up g1.i sq⟩, fun Dl hD => ?_⟩
  have hlen : vs.length = xs.length := by rw [dv.len, List.length_map]
  refine lc_tup (K := K) (a := a) (xs := vs) (fun m H' => Cst K F1 H1 Dl (((xs.take m).filter p).map g) H') (by simpa using Cst.start g1.i hD) (fun m H' _ C => ?_) (fun m x H' hx C => ?_) (fun H' C => ?_)
  · obtain ⟨F', acc, g2, _⟩ := C.ex
    exact st_up g2.h (st_up g1.i sq)
  · obtain ⟨d, e1, e2⟩ := dv.getV hx
    rw [List.getElem?_map] at e1
    cases ex : xs[m]? with
    | none => rw [ex] at e1; cases e1
    | some y =>
      rw [ex] at e1
      cases e1
      have hm : m < xs.length := (List.getElem?_eq_some_iff.mp ex).1
      have hmem : y ∈ xs := List.mem_of_getElem? ex
      refine ⟨wipe_one s k x, ?_⟩
      refine C.turn (M := M) (F0 := F0) (H0 := H0) (r2 := r.set k (.fz (f y))) hD (fun F' g2 => by rw [set_wipe]; exact (S1.grow g2).setF (Dp.up g2.f _ _ e2)) (ht y hmem) (he y hmem) (Nat.lt_of_le_of_lt (took_len m p g) (by omega)) fun H2 C2 => ?_
      rw [took p g ex]
      exact C2
  · rw [hlen, List.take_length] at C
    exact C.fin (M := M) (F0 := F0) (H0 := H0) hD g1 q
/-! ### calls of pure defs -/
/-- a pure def: of frozen data, frozen data; nothing is changed -/
def SpP (K : PySem.W.Frag) (pre : List PyData → PyData → Prop) : Sp := fun vs H Q _ => ∃ F ds d, Same F H ∧ DpAll K F vs ds ∧ pre ds d ∧ ∀ v F2 H2, Grow F H F2 H2 → Dp K F2 v d → Q v H2
theorem ef_call {pre : List PyData → PyData → Prop} {E : XK} {t1 : TA} (h : Ea K t1 r ds) (hp : pre ds d) : Ef K (tCall (SpP K pre) [] E t1) r d := by
  intro M F0 H0 s F H S Q q
  refine h _ _ _ _ _ _ S _ fun vs F1 H1 g1 dv => ?_
  rw [List.append_nil]
  exact ⟨F1, ds, d, g1.i, dv, hp, fun v F2 H2 g2 a => q v F2 H2 (g1.trans g2) a⟩
end
/-- the slots at a def's entry -/
def rho (n : Nat) (ds : List PyData) : List Slo := ds.map .fz ++ List.replicate (n - ds.length) .no
def outA (d : PyData) : Af := { nx := fun _ => d = .none, rt := fun d' _ => d' = d }
theorem sta_start {K : PySem.W.Frag} {F H : Hp} {N : List Str} {vs : List V} {ds : List PyData} (i : Same F H) (a : DpAll K F vs ds) : Sta K (fun _ => False) F H (rho N.length ds) (L2.start N vs) F H where
  f0 := Same.refl _
  i := i
  h0 := fun _ _ _ e => e
  hd := fun _ e => e
  n0 := fun _ e _ _ => e
  len := by unfold L2.start rho; rw [List.length_append, List.length_append, List.length_map, List.length_map, List.length_replicate, List.length_replicate, a.len]
  sl := fun k t e => by
    unfold rho at e
    unfold L2.start
    by_cases hk : k < ds.length
    · rw [List.getElem?_append_left (by rw [List.length_map]; exact hk), List.getElem?_map] at e
      cases ex : ds[k]? with
      | none => rw [ex] at e; cases e
      | some d =>
        rw [ex] at e
        cases e
        obtain ⟨v, h1, h2⟩ := a.get ex
        refine .inr ⟨v, ?_, h2⟩
        rw [List.getElem?_append_left (by rw [List.length_map, a.len]; exact hk), List.getElem?_map, h1]
        rfl
    · rw [List.getElem?_append_right (by rw [List.length_map]; omega), List.getElem?_replicate] at e
      split at e
      · cases e
        exact .inl rfl
      · cases e
  dj := fun k m t u p e1 _ m1 _ _ _ => by
    unfold rho at e1
    by_cases hk : k < ds.length
    · rw [List.getElem?_append_left (by rw [List.length_map]; exact hk), List.getElem?_map] at e1
      cases ex : ds[k]? with
      | none => rw [ex] at e1; cases e1
      | some d => rw [ex] at e1; cases e1; cases m1
    · rw [List.getElem?_append_right (by rw [List.length_map]; omega), List.getElem?_replicate] at e1
      split at e1
      · cases e1; cases m1
      · cases e1
theorem Sta.grown {K : PySem.W.Frag} {F0 H0 F H : Hp} {r : List Slo} {s : L2.St} (S : Sta K (fun _ => False) F0 H0 r s F H) : Grow F0 H0 F H := ⟨S.f0, S.i, fun b o e => S.h0 b o (fun z => z) e, fun b e k => S.n0 b e k.ne (k.up fun b o e => S.h0 b o (fun z => z) e)⟩
/-- a pure def that may be called by its name -/
structure Cl (P : Program) (w : World) (K : PySem.W.Frag) (mg : Str → Option Value) (base : Heap) (k : Nat) (x : Str) (sp : Sp) : Prop where
  ex : ∃ (f : Addr) (fd : FuncData) (ps : List Str), FnOk P w K mg base L2.CX0 k f fd ps sp ∧ mg x = some (.ref f) ∧ PySem.W.keepIn K (.ref f) = true ∧ Binds K fd ps []
theorem pe_cl {X : Cx} {x : Str} {k j : Nat} {sp : Sp} {e : Expr} {es : List Expr} {t : TA} {p pos : Pos} (c : Cl X.prog X.w X.K X.mg X.base k x sp) (hr : Room j X.A) (hk : k ≤ j) (hg : Gl X x) (ha : PA X (e :: es) t)
    (hdb : (x == ("__debug__" : Str)) = false := by decide) (he : starEach (e :: es) X.env = (false, eval e X.env) :: starEach es X.env := by rfl) (hpl : (backTo pos (starEach es X.env)).any (·.1) = false := by rfl) :
    PE X (.Call (.Name x p) (e :: es) [] pos) (tCall sp [] L2.E0 t) := by
  obtain ⟨f, fd, ps, F, hm, kp, b⟩ := c.ex
  exact pe_call F (hr.mono hk) hg hm kp b .nil pass0 ha hdb he hpl
/-- a def as the top has left it -/
structure Ft (K : PySem.W.Frag) (mg : Str → Option Value) (x : Str) (st : Stmt) : Prop where
  ex : ∃ (f : Addr) (fd : FuncData), Fun K x x st f fd ∧ mg x = some (.ref f)
/-- THE RULE of a pure def -/
theorem cl_pure {P : Program} {w : World} {K : PySem.W.Frag} {mg : Str → Option Value} {base : Heap} {x : Str} {st : Stmt} {N ps : List Str} {k : Nat} {pre : List PyData → PyData → Prop} (T : Ft K mg x st) (S : FnScope N ps (defScope st))
    (hb : ∀ (kV doc pm : Value) (an : Option Addr) (cdv ct : Value) (us : List Value), us.length = ps.length → bindArgs (PySem.W.fnOf x x (defArgs st) (defBody st) (defScope st) .none kV doc pm an cdv ct) ⟨us, []⟩ = pure (ps.zip us))
    (len : ∀ ds d, pre ds d → ds.length = ps.length)
    (body : ∀ (f : Addr) (cdv : Value) (A : Around) (outer : List Env) (s : Shared) (H : Hp) (E : XK), Room k (A.deeper (envOfC x (defScope st) s.heap.objs.size f cdv)) →
      ∃ t, PSs (cxOf L2.CX0 P w K mg base N x (defScope st) f cdv A outer s H E).nox (defBody st) t ∧ ∀ ds d, pre ds d → Sd K t (rho N.length ds) (outA d)) : Cl P w K mg base (k + 1) x (SpP K pre) := by
  obtain ⟨f, fd, F, hm⟩ := T.ex
  refine ⟨f, fd, ps, F.ok S (fun vs H Q E h => ?_) (fun cdv A outer s H vs Q E hr h => ?_), hm, F.kp, F.binds hb⟩
  · obtain ⟨F, ds, d, _, a, p, _⟩ := h
    rw [a.len]
    exact len ds d p
  · obtain ⟨t, h1, h2⟩ := body f cdv A outer s H E hr
    obtain ⟨F, ds, d, i, a, p, q⟩ := h
    refine ⟨t, h1, h2 ds d p _ _ _ _ _ _ _ (sta_start i a) ⟨fun r s' F' H' e S' => ?_, fun d' v r s' F' H' e S' dv => ?_, fun _ _ _ _ z => z.elim, fun _ _ _ _ z => z.elim⟩⟩
    · refine q .non F' H' S'.grown ?_
      rw [show d = PyData.none from e]
      exact .non
    · refine q v F' H' S'.grown ?_
      rw [← show d' = d from e]
      exact dv
end Tm
set_option maxRecDepth 100000
set_option maxHeartbeats 4000000
/-! Rules that the layer has not: order of pairs, a list extended by a tuple, kinds. -/
namespace Tm
open PySem PyProof.Rows L2
/-! ### t >= u, tuples of ints -/
def geP (ns ms : List Int) : Bool := Ob.lexAt (fun j => decide (ns.getD j 0 = ms.getD j 0)) (fun j => decide (ms.getD j 0 ≤ ns.getD j 0)) (decide (ns.length ≥ ms.length)) 0 (min ns.length ms.length)
def rGeT (K : PySem.W.Frag) : R2 := fun x y H Q => ∃ a b ns ms, x = .ref a ∧ y = .ref b ∧ SqT K H a (ns.map V.int) ∧ SqT K H b (ms.map V.int) ∧ Q (.bl (geP ns ms)) H
theorem eqb {a b : Int} : (a == b) = decide (a = b) := by
  by_cases h : a = b
  · subst h; simp
  · rw [decide_eq_false h]; simpa using h
theorem op_geT {X : Cx} (hu : X.A.units < cLine) : OpR X (compareOp .GtE) (rGeT X.K) := fun pins s σ H x y v u Q I rx ry h => by
  obtain ⟨a, b, ns, ms, rfl, rfl, ha, hb, q⟩ := h
  cases rx
  cases ry
  obtain ⟨l1, r1, t1, _⟩ := I.tuple ha
  obtain ⟨l2, r2, t2, _⟩ := I.tuple hb
  have i1 : IntsAre l1 ns := Vals.ints r1
  have i2 : IntsAre l2 ms := Vals.ints r2
  have n1 : l1.toArray.size = ns.length := (List.size_toArray).trans i1.length
  have n2 : l2.toArray.size = ms.length := (List.size_toArray).trans i2.length
  have pick1 : ∀ j (hj : j < l1.toArray.size), ∃ t, l1.toArray[j] = .int (ns.getD j 0) t := fun j hj => IntsAre.int_at i1 _ _ (by simp at hj; simp [hj])
  have pick2 : ∀ j (hj : j < l2.toArray.size), ∃ t, l2.toArray[j] = .int (ms.getD j 0) t := fun j hj => IntsAre.int_at i2 _ _ (by simp at hj; simp [hj])
  have main := Ob.RcOp.tuples_ge (A := X.A) (s := s) (e := fun j => decide (ns.getD j 0 = ms.getD j 0)) (r := fun j => decide (ms.getD j 0 ≤ ns.getD j 0)) t1 t2 hu
    (fun j h1 h2 => by
      obtain ⟨t, e⟩ := pick1 j h1
      obtain ⟨t', e'⟩ := pick2 j h2
      rw [e, e', ← eqb]
      exact SeqAt.EqAt.int_int _ _ _ _)
    (fun j h1 h2 _ => by
      obtain ⟨t, e⟩ := pick1 j h1
      obtain ⟨t', e'⟩ := pick2 j h2
      rw [e, e']
      exact Ob.RcOp.ge_int _ _ _ _)
  rw [n1, n2] at main
  exact main X.prog X.w X.xe (EP X pins σ Q) ⟨.bl _, H, I, rfl, q⟩
theorem geP_two (a b c d : Int) : geP [a, b] [c, d] = if a = c then (if b = d then true else decide (d ≤ b)) else decide (c ≤ a) := by
  unfold geP
  simp [Ob.lexAt]
section
variable {K : PySem.W.Frag} {r : List Slo} {te ta tb : TE} {d : PyData}
theorem ef_geT {ns ms : List Int} (ha : Ef K ta r (.tuple (ns.map .int))) (hb : Ef K tb r (.tuple (ms.map .int))) : Ef K (tOp (rGeT K) ta tb) r (.bool (geP ns ms)) :=
  er_op ha.er hb.er fun x y H dx dy Q q => by
    cases dx with
    | tup a b =>
      cases dy with
      | tup a' b' =>
        obtain rfl := b.of_ints
        obtain rfl := b'.of_ints
        exact ⟨_, _, ns, ms, rfl, rfl, a, a', q _ (.bl _)⟩
/-! ### kinds -/
def tyD : PyData → String
  | .none => "NoneType"
  | .bool _ => "bool"
  | .int _ => "int"
  | .str _ => "str"
  | .list _ => "list"
  | .tuple _ => "tuple"
  | .dict _ => "dict"
theorem tyx_of {H : Hp} {v : V} (h : Dp K H v d) : TyX K H v (.type (tyD d)) := by
  cases h with
  | non => exact .base .non
  | bl b => exact .base (.bl b)
  | int i => exact .base (.int i)
  | str x => exact .base (.str x)
  | lst a b =>
    rcases a with (a | ⟨o, a⟩) | ⟨o, its, n, a, c, _⟩
    · exact .base (.lst a)
    · exact .base (.frz a)
    · exact .kList a c
  | tup a b =>
    rcases a with (a | ⟨o, a⟩) | ⟨o, its, n, a, c, _⟩
    · exact .base (.tup a)
    · exact .fTuple a
    · exact .kTuple a c
theorem ef_isi {T : String} {b : Bool} (h : Er K te r d) (hk : kitB (tyD d) T = some b) : Ef K (tCB (rIsi K) (tCons te (tCons (tC (.ty T)) tNil))) r (.bool b) := by
  intro M F0 H0 s F H S Q q
  refine h _ _ _ _ _ _ S _ fun v F1 H1 g1 dv => ?_
  exact ⟨v, .ty T, _, _, b, rfl, .ty T, tyx_of dv, kit_ty hk, q _ F1 H1 g1 (.bl b)⟩
theorem kt_ii : kitB "int" "int" = some true := by decide +kernel
theorem kt_ib : kitB "int" "bool" = some false := by decide +kernel
theorem kt_tt : kitB "tuple" "tuple" = some true := by decide +kernel
theorem kt_tl : kitB "tuple" "list" = some false := by decide +kernel
theorem kt_lt : kitB "list" "tuple" = some false := by decide +kernel
theorem kt_ll : kitB "list" "list" = some true := by decide +kernel
theorem kt_ss : kitB "str" "str" = some true := by decide +kernel
theorem kt_is : kitB "int" "str" = some false := by decide +kernel
theorem kt_it : kitB "int" "tuple" = some false := by decide +kernel
theorem kt_il : kitB "int" "list" = some false := by decide +kernel
theorem kt_st : kitB "str" "tuple" = some false := by decide +kernel
theorem kt_sl : kitB "str" "list" = some false := by decide +kernel
theorem kt_ns : kitB "NoneType" "str" = some false := by decide +kernel
theorem kt_ls : kitB "list" "str" = some false := by decide +kernel
theorem kt_bs : kitB "bool" "str" = some false := by decide +kernel
/-- isinstance(x, (T, U)) -/
theorem ef_isi2 {T U : String} {b c : Bool} (h : Er K te r d) (hk : kitB (tyD d) T = some b) (hl : kitB (tyD d) U = some c) : Ef K (tCB (rIsiT K) (tCons te (tCons (tTup (tCons (tC (.ty T)) (tCons (tC (.ty U)) tNil))) tNil))) r (.bool (b || c)) := by
  intro M F0 H0 s F H S Q q
  refine h _ _ _ _ _ _ S _ fun v F1 H1 g1 dv => ?_
  refine ⟨by show 2 ≤ sizeLine; decide, fun p hp => ?_⟩
  have g2 : Grow F1 H1 F1 _ := Grow.newM (o := .tup [.ty T, .ty U]) g1.i hp
  have dv2 := Dp.up (same_new (o := .tup [.ty T, .ty U]) hp) _ _ dv
  refine ⟨v, p, _, _, _, (b || c), rfl, upd_same, .cons (.ty T) (.cons (.ty U) .nil), tyx_of dv2, ?_, q _ F1 _ (g1.trans g2) (.bl _)⟩
  refine kitAny_cons (b := b) (kit_ty hk) (fun e => ?_) (fun e => by rw [e]; rfl)
  rw [e, Bool.false_or]
  exact kitAny_cons (b := c) (kit_ty hl) (fun e => by rw [e]; exact kitAny_nil) (fun e => e)
end
/-! ### xs.extend(t), t a tuple -/
def rExtT (K : PySem.W.Frag) : V → List V → Hp → VK → Prop := fun x vs H Q => ∃ l b xs zs, x = .ref l ∧ vs = [.ref b] ∧ H l = some (.lst xs) ∧ SqT K H b zs ∧ xs.length + zs.length ≤ 100000 ∧ Q .non (upd H l (.lst (xs ++ zs)))
theorem meets_extT (l : Addr) (xs : Array Value) (n : Nat) (b : Addr) (zs : Array Value) (m : Nat) (od : Option Addr) (sl : Array (Option Value)) (h0 : ¬(!xs.isEmpty && Builtin.List.listTooLong (xs.size + zs.size)) = true) (h1 : xs.size ≤ sizeLine) (h2 : xs.size + zs.size ≤ sizeLine + 1) :
    Meets (Builtin.«list.extend» ⟨[.ref l, .ref b], []⟩) (fun _ R s => s.heap.get? l = some { cls := .type "list", data := .seq xs n } ∧ s.heap.get? b = some { cls := .type "tuple", dict := od, data := .seq zs m, slots := sl } ∧
      R (.ok (.ret Value.none)) { s with heap := s.heap.update l (Obj.mapSeq fun x => x ++ zs), toks := s.toks }) :=
  .of_wp fun prog w A R s h => by
    obtain ⟨hp, g, d, tk, os⟩ := s
    obtain ⟨hl, hb, h⟩ := h
    have k1 := AutoSeq1.idx_int
    have k2 := AutoSeq1.sub_tuple_tuple
    have k3 := AutoSeq1.sub_list_list
    have k4 := AutoSeq1.sub_tuple_list
    have k5 := AutoSeq1.sub_list_tuple
    have k6 : (xs ++ zs).size ≤ sizeLine + 1 := by rw [Array.size_append]; exact h2
    wp_walk using (wpAny_updateSeq hl rfl (hz := h1) (_hz' := k6)), AutoSeq1.wpAny_loadPart' hl, AutoSeq1.wpAny_loadPart' hb
    exact ⟨_, rfl, h⟩
theorem mt_extendT {X : Cx} : MtM X "list.extend" (rExtT X.K) := fun pins s σ H x vs v us Q I rx rv h => by
  obtain ⟨l, b, xs, zs, rfl, rfl, hH, hB, hz, q⟩ := h
  cases rx
  obtain ⟨u, rfl, ru⟩ := rv.one
  cases ru
  obtain ⟨_, its, n, r, hl, e⟩ := I.lstM hH
  obtain ⟨its2, r2, ⟨⟨cls, od, dat, sl⟩, e2, ec, m, ed⟩, _⟩ := I.tuple hB
  simp only at ec ed
  subst ec ed
  have l2 := r2.length
  have big : its.length + its2.length ≤ 100000 := by omega
  have fits : its.toArray.size + its2.toArray.size ≤ sizeLine := by
    rw [List.size_toArray, List.size_toArray]
    exact szOf big
  have room : ¬ (!its.toArray.isEmpty && Builtin.List.listTooLong (its.toArray.size + its2.toArray.size)) = true := by
    rw [notLongL fits, Bool.and_false]
    exact Bool.false_ne_true
  refine call_meets F.slot_list_extend ⟨_, e, rfl⟩ F.entry_list_extend (F.args_list_extend_2 _ _) (meets_extT l its.toArray n b its2.toArray m od sl room (Nat.le_trans (Nat.le_add_right _ _) fits) (Nat.le_succ_of_le fits)) ⟨e, e2, ?_⟩
  refine ⟨.non, _, I.lset (its' := its ++ its2) hH e (by simp) (r.append r2) ?_, rfl, q⟩
  rw [List.length_append]
  exact szOf hz
section
variable {K : PySem.W.Frag} {r : List Slo} {te ta tb : TE} {d : PyData} {ds es : List PyData} {A : Af}
theorem sd_ext {k : Nat} (e : r[k]? = some (.mu ds)) (h : Ef K te r (.tuple es)) (hz : ds.length + es.length ≤ 100000) (q : A.nx (r.set k (.mu (ds ++ es)))) : Sd K (tDrop (tBM K "list" (rExtT K) (tVar k) (tCons te tNil))) r A := fun M F0 H0 s F H D S W => by
  obtain ⟨p, vs, hs, f, z, b, c⟩ := S.mu e
  refine ⟨_, hs, .inl ⟨rfl, _, SqL.of b⟩, ?_⟩
  refine h _ _ _ _ _ _ S _ fun v F2 H2 g a => ?_
  have S2 := S.grow g
  cases a with
  | tup a1 a2 => exact ⟨p, _, vs, _, rfl, rfl, g.h _ _ b, st_up g.i a1, by rw [c.len, a2.len]; exact hz, W.nx _ _ F2 _ q (S2.write e hs ((DpAll.up g.f _ _ c).app a2))⟩
end
end Tm
set_option maxRecDepth 100000
set_option maxHeartbeats 4000000
/-! Webs, states, steps: plain. -/
namespace Tm
open PySem
structure Web where
  n : Nat
  es : List (Nat × Nat)
def iN (k : Nat) : PyData := .int (k : Int)
def eI (e : Nat × Nat) : PyData := .tuple [iN e.1, iN e.2]
def encW (g : Web) : PyData := .tuple [iN g.n, .tuple (g.es.map eI)]
def ltE (e f : Nat × Nat) : Prop := e.1 < f.1 ∨ (e.1 = f.1 ∧ e.2 < f.2)
structure WOk (g : Web) : Prop where
  n1 : 1 ≤ g.n
  n6 : g.n ≤ 6
  el : g.es.length ≤ 100
  ed : ∀ e, e ∈ g.es → e.1 < e.2 ∧ e.2 < g.n
  asc : ∀ k e f, g.es[k]? = some e → g.es[k + 1]? = some f → ltE e f
  nd : g.es.Nodup
def nbr (g : Web) (i j : Nat) : Bool := decide ((min i j, max i j) ∈ g.es)
def nrow (g : Web) (i : Nat) : List Nat := (List.range g.n).filter (nbr g i)
def near (g : Web) : List (List Nat) := (List.range g.n).map (nrow g)
def encL (l : List Nat) : PyData := .list (l.map iN)
def encNear (g : Web) : PyData := .list ((near g).map encL)
structure SOk (n : Nat) (st : List Int) : Prop where
  len : st.length = n
  mood : ∀ x, x ∈ st → 0 ≤ x ∧ x ≤ 2
def encS (st : List Int) : PyData := .tuple (st.map .int)
def stepI (a b : Int) : Int := (b - a + 1) % 3 - 1
def ms (st : List Int) (i : Nat) : Int := st.getD i 0
def stp (st : List Int) (i j : Nat) : Int := stepI (ms st i) (ms st j)
def stirB (g : Web) (st : List Int) (i : Nat) : Bool := (nrow g i).any fun j => decide (stp st i j = 1)
def stirL (g : Web) (st : List Int) : List Nat := (List.range g.n).filter (stirB g st)
def nxt (g : Web) (st : List Int) : List Int := (List.range g.n).map fun i => (ms st i + if stirB g st i then 1 else 0) % 3
theorem nrow_mem {g : Web} {i j : Nat} : j ∈ nrow g i ↔ j < g.n ∧ nbr g i j = true := by unfold nrow; rw [List.mem_filter, List.mem_range]
theorem near_get {g : Web} {i : Nat} (h : i < g.n) : (near g)[i]? = some (nrow g i) := by unfold near; rw [List.getElem?_map, List.getElem?_range h]; rfl
theorem near_len (g : Web) : (near g).length = g.n := by unfold near; rw [List.length_map, List.length_range]
theorem ms_get {st : List Int} {i : Nat} (h : i < st.length) : st[i]? = some (ms st i) := by unfold ms; rw [List.getD_eq_getElem?_getD, List.getElem?_eq_getElem h]; rfl
theorem SOk.get {n : Nat} {st : List Int} (s : SOk n st) {i : Nat} (h : i < n) : st[i]? = some (ms st i) := ms_get (by rw [s.len]; exact h)
theorem SOk.lim {n : Nat} {st : List Int} (s : SOk n st) {i : Nat} (h : i < n) : 0 ≤ ms st i ∧ ms st i ≤ 2 := s.mood _ (List.mem_of_getElem? (s.get h))
theorem nrow_len (g : Web) (i : Nat) : (nrow g i).length ≤ g.n := by
  unfold nrow
  exact Nat.le_trans (List.length_filter_le _ _) (by rw [List.length_range]; exact Nat.le_refl _)
theorem nbr_symm {g : Web} {i j : Nat} : nbr g i j = nbr g j i := by unfold nbr; rw [Nat.min_comm, Nat.max_comm]
theorem nbr_lt {g : Web} (w : WOk g) {i j : Nat} (h : nbr g i j = true) : i < g.n ∧ j < g.n ∧ i ≠ j := by
  unfold nbr at h
  have e := w.ed _ (of_decide_eq_true h)
  simp only at e
  omega
theorem nxt_len (g : Web) (st : List Int) : (nxt g st).length = g.n := by unfold nxt; rw [List.length_map, List.length_range]
theorem ms_nxt {g : Web} {st : List Int} {i : Nat} (h : i < g.n) : ms (nxt g st) i = (ms st i + if stirB g st i then 1 else 0) % 3 := by
  unfold nxt ms
  rw [List.getD_eq_getElem?_getD, List.getElem?_map, List.getElem?_range h]
  rfl
theorem nxt_ok {g : Web} (st : List Int) : SOk g.n (nxt g st) := ⟨nxt_len g st, fun x hx => by
  unfold nxt at hx
  obtain ⟨i, _, rfl⟩ := List.mem_map.mp hx
  exact ⟨Int.emod_nonneg _ (by decide), by have := Int.emod_lt_of_pos (ms st i + if stirB g st i then 1 else 0) (show (0 : Int) < 3 by decide); omega⟩⟩
end Tm
set_option maxRecDepth 100000
set_option maxHeartbeats 4000000
/-! Several values at once: a, b = e, f; (a, b) = a pair. -/
namespace Tm
open PySem PyProof.Rows L2
/-- values by kinds; the new lists are new since H0, and apart -/
def KOk (K : PySem.W.Frag) (H0 F H : Hp) : List V → List Slo → Prop
  | [], [] => True
  | v :: vs, t :: ts => VOk K (fun _ => False) H0 F H v t ∧ (t.mut = true → ∀ (k : Nat) (u : Slo), ts[k]? = some u → u.mut = true → vs[k]? ≠ some v) ∧ KOk K H0 F H vs ts
  | _, _ => False
def Ek (K : PySem.W.Frag) (ta : TA) (r : List Slo) (ks : List Slo) : Prop := ∀ M F0 H0 s F H, Sta K M F0 H0 r s F H → ∀ Q : List V → Hp → Prop, (∀ vs F2 H2, Grow F H F2 H2 → KOk K H F2 H2 vs ks → Q vs H2) → ta s H Q
section
variable {K : PySem.W.Frag} {r : List Slo} {te ta tb tc : TE} {tt tu : TT} {d e d1 d2 d3 : PyData} {ds es : List PyData} {A B : Af} {t u : TS} {F H F2 H2 F0 H0 : Hp} {M : Addr → Prop} {s : L2.St}
theorem KOk.back {H1 : Hp} (b : ∀ p, H1 p = none → H p = none) : ∀ {vs : List V} {ks : List Slo}, KOk K H1 F2 H2 vs ks → KOk K H F2 H2 vs ks
  | [], [], _ => trivial
  | v :: vs, k :: ks, h => by
    refine ⟨?_, h.2.1, KOk.back b h.2.2⟩
    have h1 := h.1
    cases k with
    | no => trivial
    | ad w => exact h1
    | dk C a dx pl D => exact (h1.2.fa _ (.inl rfl)).2.1.elim
    | fz d => exact h1
    | mu ds =>
      obtain ⟨p, ws, e, f, z, a⟩ := h1
      exact ⟨p, ws, e, f, b p z, a⟩
    | pm ds =>
      obtain ⟨p, ws, e, f, z, a⟩ := h1
      exact z.1.elim
  | [], _ :: _, h => h.elim
  | _ :: _, [], h => h.elim
theorem KOk.fresh : ∀ {vs : List V} {ks : List Slo} {k : Nat} {u : Slo} {p : Addr}, KOk K H F2 H2 vs ks → ks[k]? = some u → u.mut = true → vs[k]? = some (.ref p) → H p = none
  | [], [], k, u, p, _, e, _, _ => by simp at e
  | v :: vs, x :: ks, 0, u, p, h, e, m, w => by
    simp at e w
    subst e w
    have h1 := h.1
    cases x with
    | no => cases m
    | ad w => cases m
    | dk C a dx pl D => cases m
    | fz d => cases m
    | mu ds =>
      obtain ⟨q, ws, e, f, z, a⟩ := h1
      cases e
      exact z
    | pm ds =>
      obtain ⟨q, ws, e, f, z, a⟩ := h1
      exact z.1.elim
  | v :: vs, x :: ks, k + 1, u, p, h, e, m, w => KOk.fresh (k := k) h.2.2 (by simpa using e) m (by simpa using w)
  | [], _ :: _, _, _, _, h, _, _, _ => h.elim
  | _ :: _, [], _, _, _, h, _, _, _ => h.elim
theorem ek_nil : Ek K tNil r [] := fun M F0 H0 s F H S Q q => q [] F H (Grow.refl S.i) trivial
theorem back_of (g : Grow F H F2 H2) : ∀ p, H2 p = none → H p = none := fun p h => g.h.free h
theorem ek_fz {ta : TA} {ks : List Slo} (h : Ef K te r d) (ht : Ek K ta r ks) : Ek K (tCons te ta) r (.fz d :: ks) := by
  intro M F0 H0 s F H S Q q
  refine h _ _ _ _ _ _ S _ fun x F1 H1 g1 dx => ?_
  refine ht _ _ _ _ _ _ (S.grow g1) _ fun vs F2 H2 g2 dv => ?_
  exact q _ F2 H2 (g1.trans g2) ⟨Dp.up g2.f _ _ dx, (fun z => by cases z), dv.back (back_of g1)⟩
theorem ek_mu {ta : TA} {ks : List Slo} (h : En K te r ds) (ht : Ek K ta r ks) : Ek K (tCons te ta) r (.mu ds :: ks) := by
  intro M F0 H0 s F H S Q q
  refine h _ _ _ _ _ _ S _ fun p vs F1 H1 g1 hp hf hh dx => ?_
  refine ht _ _ _ _ _ _ (S.grow g1) _ fun ws F2 H2 g2 dv => ?_
  refine q _ F2 H2 (g1.trans g2) ⟨⟨p, vs, rfl, g2.n p hf (keep_lst hh), hp, g2.h _ _ hh, DpAll.up g2.f _ _ dx⟩, fun _ k u e m w => ?_, dv.back (back_of g1)⟩
  have z := dv.fresh e m w
  rw [hh] at z
  cases z
/-- one of the values goes to its slot -/
theorem Sta.setK {v : V} {k : Slo} {i : Nat} (S : Sta K M F0 H0 r s F2 H2) (hb : ∀ p, H p = none → H0 p = none) (h : VOk K (fun _ => False) H F2 H2 v k) (hn : k.mut = true → ∀ (j : Nat) (u : Slo), r[j]? = some u → u.mut = true → s[j]? ≠ some (some v)) : Sta K M F0 H0 (r.set i k) (s.set i (some v)) F2 H2 := by
  refine S.set ?_ fun m j u p _ e mu ev w => ?_
  · cases k with
    | no => trivial
    | ad w => exact h
    | dk C a dx pl D => exact (h.2.fa _ (.inl rfl)).2.1.elim
    | fz d => exact h
    | mu ds =>
      obtain ⟨p, ws, e, f, z, a⟩ := h
      exact ⟨p, ws, e, f, hb p z, a⟩
    | pm ds =>
      obtain ⟨p, ws, e, f, z, a⟩ := h
      exact z.1.elim
  · subst ev
    exact hn m j u e mu w
theorem hb_of (S : Sta K M F0 H0 r s F H) : ∀ p, H p = none → H0 p = none := fun p h => by
  cases z : H0 p with
  | none => rfl
  | some o => exact absurd h (S.hd p (some_ne z))
/-- the slots' lists of before are none of the new ones -/
theorem old_ne (S : Sta K M F0 H0 r s F H) {v : V} {k : Slo} (h : VOk K (fun _ => False) H F2 H2 v k) (m : k.mut = true) (j : Nat) (u : Slo) (e : r[j]? = some u) (mu : u.mut = true) : s[j]? ≠ some (some v) := fun w => by
  cases k with
  | no => cases m
  | ad w => cases m
  | dk C a dx pl D => cases m
  | fz d => cases m
  | mu ds =>
    obtain ⟨p, ws, ev, f, z, a⟩ := h
    subst ev
    obtain ⟨vs, x⟩ := S.known e mu w
    rw [z] at x
    cases x
  | pm ds =>
    obtain ⟨p, ws, ev, f, z, a⟩ := h
    exact z.1.elim
theorem ne_set {k1 : Slo} {i : Nat} {v w : V} (h : ∀ (j : Nat) (u : Slo), r[j]? = some u → u.mut = true → s[j]? ≠ some (some v)) (hl : s.length = r.length) (hw : k1.mut = true → w ≠ v) : ∀ (j : Nat) (u : Slo), (r.set i k1)[j]? = some u → u.mut = true → (s.set i (some w))[j]? ≠ some (some v) := fun j u e m x => by
  by_cases q : i = j
  · subst q
    have hi : i < r.length := by
      have := (List.getElem?_eq_some_iff.mp e).1
      rwa [List.length_set] at this
    rw [List.getElem?_set_self hi] at e
    rw [List.getElem?_set_self (by rw [hl]; exact hi)] at x
    cases e
    cases x
    exact hw m rfl
  · rw [List.getElem?_set_ne q] at e x
    exact h j u e m x
theorem KOk.two {vs : List V} {k1 k2 : Slo} (h : KOk K H F2 H2 vs [k1, k2]) : ∃ v w, vs = [v, w] ∧ VOk K (fun _ => False) H F2 H2 v k1 ∧ VOk K (fun _ => False) H F2 H2 w k2 ∧ (k2.mut = true → k1.mut = true → v ≠ w) := by
  match vs, h with
  | [v, w], ⟨a, b, c, _, _⟩ => exact ⟨v, w, rfl, a, c, fun m2 m1 e => b m1 0 k2 rfl m2 (by rw [e]; rfl)⟩
  | [], h => exact h.elim
  | [_], h => exact h.2.2.elim
  | _ :: _ :: _ :: _, h => exact h.2.2.2.2.elim
theorem KOk.three {vs : List V} {k1 k2 k3 : Slo} (h : KOk K H F2 H2 vs [k1, k2, k3]) : ∃ v w x, vs = [v, w, x] ∧ VOk K (fun _ => False) H F2 H2 v k1 ∧ VOk K (fun _ => False) H F2 H2 w k2 ∧ VOk K (fun _ => False) H F2 H2 x k3 ∧
    (k2.mut = true → k1.mut = true → v ≠ w) ∧ (k3.mut = true → k1.mut = true → v ≠ x) ∧ (k3.mut = true → k2.mut = true → w ≠ x) := by
  match vs, h with
  | [v, w, x], ⟨a, b, c, b2, c2, _, _⟩ => exact ⟨v, w, x, rfl, a, c, c2, fun m2 m1 e => b m1 0 k2 rfl m2 (by rw [e]; rfl), fun m2 m1 e => b m1 1 k3 rfl m2 (by rw [e]; rfl), fun m2 m1 e => b2 m1 0 k3 rfl m2 (by rw [e]; rfl)⟩
  | [], h => exact h.elim
  | [_], h => exact h.2.2.elim
  | [_, _], h => exact h.2.2.2.2.elim
  | _ :: _ :: _ :: _ :: _, h => exact h.2.2.2.2.2.2.elim
theorem sta_two {v w : V} {k1 k2 : Slo} {i j : Nat} (S : Sta K M F0 H0 r s F H) (g : Grow F H F2 H2) (a : VOk K (fun _ => False) H F2 H2 v k1) (b : VOk K (fun _ => False) H F2 H2 w k2) (n : k2.mut = true → k1.mut = true → v ≠ w) : Sta K M F0 H0 ((r.set i k1).set j k2) ((s.set i (some v)).set j (some w)) F2 H2 := by
  have S2 := S.grow g
  have S3 : Sta K M F0 H0 (r.set i k1) (s.set i (some v)) F2 H2 := S2.setK (hb_of S) a (old_ne S a)
  exact S3.setK (hb_of S) b fun m => ne_set (old_ne S b m) S.len fun m1 => n m m1
theorem sd_par2 {ta : TA} {k1 k2 : Slo} {i j : Nat} (h : Ek K ta r [k1, k2]) (q : A.nx ((r.set i k1).set j k2)) : Sd K (tPar i j ta) r A := fun M F0 H0 s F H D S W =>
  h _ _ _ _ _ _ S _ fun vs F2 H2 g a => by
    obtain ⟨v, w, rfl, a1, a2, n⟩ := a.two
    exact ⟨v, w, rfl, W.nx _ _ F2 H2 q (sta_two S g a1 a2 n)⟩
theorem sd_tup2 {ta : TA} {k1 k2 : Slo} {i j : Nat} (h : Ek K ta r [k1, k2]) (q : A.nx ((r.set i k1).set j k2)) : Sd K (tAsg (tTup ta) (gTup K 2 (gCons (gName i) (gCons (gName j) gNil)))) r A := fun M F0 H0 s F H D S W =>
  h _ _ _ _ _ _ S _ fun vs F2 H2 g a => by
    obtain ⟨v, w, rfl, a1, a2, n⟩ := a.two
    refine ⟨by show 2 ≤ sizeLine; decide, fun p hp => ⟨p, [v, w], rfl, SqT.of upd_same, rfl, v, [w], rfl, w, [], rfl, rfl, ?_⟩⟩
    exact W.nx _ _ F2 _ q ((sta_two S g a1 a2 n).grow (Grow.newM g.i hp))
theorem sd_par3 {ta : TA} {k1 k2 k3 : Slo} {i j l : Nat} (h : Ek K ta r [k1, k2, k3]) (q : A.nx (((r.set i k1).set j k2).set l k3)) : Sd K (tPar3 i j l ta) r A := fun M F0 H0 s F H D S W =>
  h _ _ _ _ _ _ S _ fun vs F2 H2 g a => by
    obtain ⟨v, w, x, rfl, a1, a2, a3, n1, n2, n3⟩ := a.three
    refine ⟨v, w, x, rfl, W.nx _ _ F2 H2 q ?_⟩
    exact (sta_two S g a1 a2 n1).setK (hb_of S) a3 fun m => ne_set (ne_set (old_ne S a3 m) S.len fun m1 => n2 m m1) (by rw [List.length_set, List.length_set, S.len]) fun m1 => n3 m m1
/-- a, b = a pair -/
theorem sd_unp2 {i j : Nat} (h : Ef K te r (.tuple [d1, d2])) (q : A.nx ((r.set i (.fz d1)).set j (.fz d2))) : Sd K (tAsg te (gTup K 2 (gCons (gName i) (gCons (gName j) gNil)))) r A := fun M F0 H0 s F H D S W =>
  h _ _ _ _ _ _ S _ fun v F2 H2 g a => by
    cases a with
    | tup a1 a2 =>
      obtain ⟨x, ws, rfl, b1, b2⟩ := dp_cons a2
      obtain ⟨y, zs, rfl, c1, c2⟩ := dp_cons b2
      cases c2
      exact ⟨_, _, rfl, st_up g.i a1, rfl, x, [y], rfl, y, [], rfl, rfl, W.nx _ _ F2 H2 q (((S.grow g).setF b1).setF c1)⟩
/-- xs[i], b = e, f -/
theorem sd_itemTup {ta : TA} {ti : TE} {k2 : Slo} {k j m : Nat} {i : Int} (e : r[k]? = some (.mu ds)) (h : Ek K ta r [.fz d, k2]) (hi : Ef K ti r (.int i)) (hx : ixN ds.length i = some m) (hkj : k ≠ j) (q : A.nx ((r.set k (.mu (ds.set m d))).set j k2)) :
    Sd K (tAsg (tTup ta) (gTup K 2 (gCons (gSub (tVar k) ti rSetL) (gCons (gName j) gNil)))) r A := fun M F0 H0 s F H D S W =>
  h _ _ _ _ _ _ S _ fun vs F2 H2 g a => by
    obtain ⟨v, w, rfl, a1, a2, n⟩ := a.two
    obtain ⟨p, ws, hs, f, z, b, c⟩ := S.mu e
    refine ⟨by show 2 ≤ sizeLine; decide, fun t ht => ⟨t, [v, w], rfl, SqT.of upd_same, rfl, v, [w], rfl, ?_⟩⟩
    have g2 : Grow F2 H2 F2 (upd H2 t (.tup [v, w])) := Grow.newM g.i ht
    have S2 := (S.grow g).grow g2
    refine ⟨_, hs, hi _ _ _ _ _ _ S2 _ fun y F3 H3 g3 dy => ?_⟩
    cases dy
    have S3 := S2.grow g3
    have gg := (g.trans g2).trans g3
    refine ⟨p, ws, i, m, rfl, rfl, gg.h _ _ b, by rw [c.len]; exact hx, w, [], rfl, rfl, ?_⟩
    have S4 := S3.write e hs ((DpAll.up gg.f _ _ c).set m (Dp.up g3.f _ _ (Dp.up g2.f _ _ a1)))
    refine W.nx _ _ F3 _ q (S4.setK (hb_of S) (k := k2) ?_ fun mm x u ex mx => ?_)
    · have a3 := (show VOk K (fun _ => False) H F3 H3 w k2 from by
        have := a2
        cases k2 with
        | no => trivial
        | ad w => exact this
        | dk C a dx pl D => exact (this.2.fa _ (.inl rfl)).2.1.elim
        | fz d => exact Dp.up (g2.trans g3).f _ _ this
        | mu ds2 =>
          obtain ⟨p2, ws2, e2, f2, z2, b2, c2⟩ := this
          exact ⟨p2, ws2, e2, (g2.trans g3).n p2 f2 (keep_lst b2), z2, (g2.trans g3).h _ _ b2, DpAll.up (g2.trans g3).f _ _ c2⟩
        | pm ds2 =>
          obtain ⟨p2, ws2, e2, f2, z2, b2⟩ := this
          exact z2.1.elim)
      cases k2 with
      | no => trivial
      | ad w => exact a3
      | dk C a dx pl D => exact (a3.2.fa _ (.inl rfl)).2.1.elim
      | fz d => exact a3
      | mu ds2 =>
        obtain ⟨p2, ws2, e2, f2, z2, b2, c2⟩ := a3
        have np : p2 ≠ p := fun w => by rw [w, b] at z2; cases z2
        exact ⟨p2, ws2, e2, f2, z2, by rw [upd_ne np]; exact b2, c2⟩
      | pm ds2 =>
        obtain ⟨p2, ws2, e2, f2, z2, b2⟩ := a3
        exact z2.1.elim
    · have back : ∃ u', r[x]? = some u' ∧ u'.mut = true := by
        by_cases q : k = x
        · subst q
          exact ⟨_, e, rfl⟩
        · rw [List.getElem?_set_ne q] at ex
          exact ⟨u, ex, mx⟩
      obtain ⟨u', ex', mx'⟩ := back
      exact old_ne S a2 mm x u' ex' mx'
/-- .. xs given -/
theorem sd_itemTupP {ta : TA} {ti : TE} {k2 : Slo} {k j m : Nat} {i : Int} (e : r[k]? = some (.pm ds)) (h : Ek K ta r [.fz d, k2]) (hi : Ef K ti r (.int i)) (hx : ixN ds.length i = some m) (hkj : k ≠ j) (q : A.nx ((r.set k (.pm (ds.set m d))).set j k2)) :
    Sd K (tAsg (tTup ta) (gTup K 2 (gCons (gSub (tVar k) ti rSetL) (gCons (gName j) gNil)))) r A := fun M F0 H0 s F H D S W =>
  h _ _ _ _ _ _ S _ fun vs F2 H2 g a => by
    obtain ⟨v, w, rfl, a1, a2, n⟩ := a.two
    obtain ⟨p, ws, hs, f, z, b, c⟩ := S.pm e
    refine ⟨by show 2 ≤ sizeLine; decide, fun t ht => ⟨t, [v, w], rfl, SqT.of upd_same, rfl, v, [w], rfl, ?_⟩⟩
    have g2 : Grow F2 H2 F2 (upd H2 t (.tup [v, w])) := Grow.newM g.i ht
    have S2 := (S.grow g).grow g2
    refine ⟨_, hs, hi _ _ _ _ _ _ S2 _ fun y F3 H3 g3 dy => ?_⟩
    cases dy
    have S3 := S2.grow g3
    have gg := (g.trans g2).trans g3
    refine ⟨p, ws, i, m, rfl, rfl, gg.h _ _ b, by rw [c.len]; exact hx, w, [], rfl, rfl, ?_⟩
    have S4 := S3.writeP e hs ((DpAll.up gg.f _ _ c).set m (Dp.up g3.f _ _ (Dp.up g2.f _ _ a1)))
    refine W.nx _ _ F3 _ q (S4.setK (hb_of S) (k := k2) ?_ fun mm x u ex mx => ?_)
    · have a3 := (show VOk K (fun _ => False) H F3 H3 w k2 from by
        have := a2
        cases k2 with
        | no => trivial
        | ad w => exact this
        | dk C a dx pl D => exact (this.2.fa _ (.inl rfl)).2.1.elim
        | fz d => exact Dp.up (g2.trans g3).f _ _ this
        | mu ds2 =>
          obtain ⟨p2, ws2, e2, f2, z2, b2, c2⟩ := this
          exact ⟨p2, ws2, e2, (g2.trans g3).n p2 f2 (keep_lst b2), z2, (g2.trans g3).h _ _ b2, DpAll.up (g2.trans g3).f _ _ c2⟩
        | pm ds2 =>
          obtain ⟨p2, ws2, e2, f2, z2, b2⟩ := this
          exact z2.1.elim)
      cases k2 with
      | no => trivial
      | ad w => exact a3
      | dk C a dx pl D => exact (a3.2.fa _ (.inl rfl)).2.1.elim
      | fz d => exact a3
      | mu ds2 =>
        obtain ⟨p2, ws2, e2, f2, z2, b2, c2⟩ := a3
        have np : p2 ≠ p := fun w => by rw [w, b] at z2; cases z2
        exact ⟨p2, ws2, e2, f2, z2, by rw [upd_ne np]; exact b2, c2⟩
      | pm ds2 =>
        obtain ⟨p2, ws2, e2, f2, z2, b2⟩ := a3
        exact z2.1.elim
    · have back : ∃ u', r[x]? = some u' ∧ u'.mut = true := by
        by_cases q : k = x
        · subst q
          exact ⟨_, e, rfl⟩
        · rw [List.getElem?_set_ne q] at ex
          exact ⟨u, ex, mx⟩
      obtain ⟨u', ex', mx'⟩ := back
      exact old_ne S a2 mm x u' ex' mx'
end
end Tm
set_option maxRecDepth 100000
set_option maxHeartbeats 4000000
/-! The layer's rules with the written part told ahead (within a comprehension's block it must not hang on the block). -/
namespace Tm
open PySem PyProof.Rows L2
section
variable {X : Cx} (K : PySem.W.Frag) (e : X.K = K)
include e
theorem k_isi : CallR X (.builtin "isinstance") (rIsi K) := by subst e; exact call_isi
theorem k_isiT : CallR X (.builtin "isinstance") (rIsiT K) := by subst e; exact call_isiT
theorem k_len : CallR X (.builtin "len") (fun xs H Q => ∃ x n, xs = [x] ∧ LenV K x H n ∧ Q (.int n) H) := by subst e; exact call_len
theorem k_sum (hc : X.calm = true) : CallR X (.builtin "sum") (rSum K) := by subst e; exact cr_sum hc
theorem k_any (hc : X.calm = true) : CallR X (.builtin "any") (rAny K) := by subst e; exact cr_any hc
theorem k_all (hc : X.calm = true) : CallR X (.builtin "all") (rAll K) := by subst e; exact cr_all hc
theorem k_max (hc : X.calm = true) : CallR X (.builtin "max") (rMax K) := by subst e; exact cr_max hc
theorem k_min (hc : X.calm = true) : CallR X (.builtin "min") (rMin K) := by subst e; exact cr_min hc
theorem k_sorted : CallR X (.builtin "sorted") (rSorted K) := by subst e; exact cr_sorted
theorem k_tuple : CallR X (.type "tuple") (fun xs H Q => ∃ p ys, xs = [.ref p] ∧ ((SqL K H p ys ∧ ∀ l, H l = none → Q (.ref l) (upd H l (.tup ys))) ∨ (SqT K H p ys ∧ Q (.ref p) H))) := by subst e; exact call_tuple_of
theorem k_list : CallR X (.type "list") (fun xs H Q => ∃ p ys, xs = [.ref p] ∧ (SqL K H p ys ∨ SqT K H p ys) ∧ ∀ l, H l = none → Q (.ref l) (upd H l (.lst ys))) := by subst e; exact call_list_of
theorem k_ixL : IxR X (rIxL K) := by subst e; exact ix_list
theorem k_ixT : IxR X (rIxT K) := by subst e; exact ix_tup
theorem k_slL : SlR X (rSlL K) := by subst e; exact sl_list
theorem k_slA : SlR X (rSlA K) := by subst e; exact sl_tupA
theorem k_in : OpR X (compareOp .In) (rIn K false) := by subst e; exact op_in_seq
theorem k_ni : OpR X (compareOp .NotIn) (rIn K true) := by subst e; exact op_notIn_seq
theorem k_eqD (hu : X.A.units + 64 < cLine) : OpR X (compareOp .Eq) (rEqD K) := by subst e; exact op_eqD hu
theorem k_neD (hu : X.A.units + 64 < cLine) : OpR X (compareOp .NotEq) (rNeD K) := by subst e; exact op_neD hu
theorem k_inD (hu : X.A.units + 65 < cLine) : OpR X (compareOp .In) (rInD K) := by subst e; exact op_inD hu
theorem k_niD (hu : X.A.units + 65 < cLine) : OpR X (compareOp .NotIn) (rNotInD K) := by subst e; exact op_notInD hu
theorem k_geT (hu : X.A.units < cLine) : OpR X (compareOp .GtE) (rGeT K) := by subst e; exact op_geT hu
theorem k_catT : OpR X (binaryOp .Add) (rCatT K) := by subst e; exact op_catT
theorem k_extT : MtM X "list.extend" (rExtT K) := by subst e; exact mt_extendT
theorem k_indexD (hu : X.A.units + 65 < cLine) : MtR X "list.index" (rIndexD K) := by subst e; exact mt_indexD hu
section
variable {tg l o i t : Expr} {es : List Expr} {te ti tl : TE} {g : TG} {gs : TGs} {n k : Nat} {pos : Pos}
theorem kpi_list (h : PE X l tl) : PI X tg l (iList K tl) := by subst e; exact pi_list h
theorem kpi_tup (h : PE X l tl) : PI X tg l (iTup K tl) := by subst e; exact pi_tup h
theorem kpg_tup (hc : X.calm = true) (h : PGs X es gs) (hn : (assignEach es X.env).length = n := by rfl) (hst : (assignEach es X.env).findIdx? (·.1) = none := by rfl) : PG X (.Tuple es k pos) (gTup K n gs) := by subst e; exact pg_tup hc h hn hst
end
end
section
variable {K : PySem.W.Frag} {r : List Slo} {te : TE}
/-- sorted(xs), whole numbers: the one list in order -/
theorem en_sorted {ns ms : List Int} (h : El K te r (ns.map .int)) (hl : ns.length < 64) (hp : ms.Perm ns) (ho : ms.Pairwise (· ≤ ·)) : En K (tCB (rSorted K) (tCons te tNil)) r (ms.map .int) := by
  intro M F0 H0 s F H S Q q
  refine h _ _ _ _ _ _ S _ fun p vs F1 H1 g1 sq dv => ?_
  obtain rfl := dv.of_ints
  refine ⟨p, ns, rfl, sq, hl, fun zs z hz oz nz => ?_⟩
  obtain rfl : zs = ms := PySem.W.ksm_same (hz.trans hp.symm) oz ho
  exact q z _ F1 _ (g1.trans (Grow.newM g1.i nz)) (g1.h.free nz) (g1.i.free nz) upd_same (DpAll.ints _)
end
end Tm
set_option maxRecDepth 100000
set_option maxHeartbeats 4000000
/-! What the top has written: defs, constants, names left free. -/
namespace Tm
open PySem PyProof.Rows L2
def top (i : Nat) : Stmt := PySem.Challenge.pw_threemoods_k19_whole_desks.main.body.getD i (.Pass ⟨0, 0, 0, 0⟩)

theorem bb_isinstance : bootBuiltins "isinstance" = some (.builtin "isinstance") := by decide +kernel
theorem bb_int : bootBuiltins "int" = some (.type "int") := by decide +kernel
theorem bb_bool : bootBuiltins "bool" = some (.type "bool") := by decide +kernel
theorem bb_tuple : bootBuiltins "tuple" = some (.type "tuple") := by decide +kernel
theorem bb_len : bootBuiltins "len" = some (.builtin "len") := by decide +kernel
theorem bb_all : bootBuiltins "all" = some (.builtin "all") := by decide +kernel
theorem bb_any : bootBuiltins "any" = some (.builtin "any") := by decide +kernel
theorem bb_sum : bootBuiltins "sum" = some (.builtin "sum") := by decide +kernel
theorem bb_max : bootBuiltins "max" = some (.builtin "max") := by decide +kernel
theorem bb_min : bootBuiltins "min" = some (.builtin "min") := by decide +kernel
theorem bb_abs : bootBuiltins "abs" = some (.builtin "abs") := by decide +kernel
theorem bb_str : bootBuiltins "str" = some (.type "str") := by decide +kernel
theorem bb_list : bootBuiltins "list" = some (.type "list") := by decide +kernel
theorem bb_sorted : bootBuiltins "sorted" = some (.builtin "sorted") := by decide +kernel
structure Txt (K : PySem.W.Frag) (mg : Str → Option Value) : Prop where
  n_isinstance : mg "isinstance" = none
  n_int : mg "int" = none
  n_bool : mg "bool" = none
  n_tuple : mg "tuple" = none
  n_len : mg "len" = none
  n_range : mg "range" = none
  n_all : mg "all" = none
  n_any : mg "any" = none
  n_sum : mg "sum" = none
  n_max : mg "max" = none
  n_min : mg "min" = none
  n_abs : mg "abs" = none
  n_str : mg "str" = none
  n_list : mg "list" = none
  n_sorted : mg "sorted" = none
  k_MOST_FOLK : ∃ u, mg "MOST_FOLK" = some u ∧ RelV (.int 10) u
  k_MOODS : ∃ u, mg "MOODS" = some u ∧ RelV (.int 3) u
  k_MOST_FIGURES : ∃ u, mg "MOST_FIGURES" = some u ∧ RelV (.int 31) u
  k_FIGURES : ∃ u, mg "FIGURES" = some u ∧ RelV (.str "0123456789") u
  f_is_number : Ft K mg "is_number" (top 8)
  f_is_street : Ft K mg "is_street" (top 9)
  f_need_web : Ft K mg "need_web" (top 10)
  f_near_lists : Ft K mg "near_lists" (top 11)
  f_ways_from : Ft K mg "ways_from" (top 12)
  f_parts_of : Ft K mg "parts_of" (top 13)
  f_are_moods : Ft K mg "are_moods" (top 16)
  f_need_both : Ft K mg "need_both" (top 17)
  f_step : Ft K mg "step" (top 18)
  f_stirred_in : Ft K mg "stirred_in" (top 19)
  f_number_in : Ft K mg "number_in" (top 23)
  f_need_text : Ft K mg "need_text" (top 24)
  f_moods_text : Ft K mg "moods_text" (top 25)
  f_heights_from : Ft K mg "heights_from" (top 27)
  f_heights_in : Ft K mg "heights_in" (top 28)
  f_tick_by : Ft K mg "tick_by" (top 29)
  f_tick_in : Ft K mg "tick_in" (top 30)
  f_table_of : Ft K mg "table_of" (top 33)
  f_row_behind : Ft K mg "row_behind" (top 34)
  f_twice : Ft K mg "twice" (top 35)
  f_first_row : Ft K mg "first_row" (top 36)
  f_most_of : Ft K mg "most_of" (top 37)
  f_changes_in : Ft K mg "changes_in" (top 38)
  f_state_in : Ft K mg "state_in" (top 39)
  f_common : Ft K mg "common" (top 41)
  f_share : Ft K mg "share" (top 42)
  f_is_less : Ft K mg "is_less" (top 43)
  f_speed_in : Ft K mg "speed_in" (top 44)
  f_speeds_in : Ft K mg "speeds_in" (top 45)
  f_law_taken : Ft K mg "_law_taken" (top 50)
  f_law_pick : Ft K mg "_law_pick" (top 51)
  f_law_alike : Ft K mg "_law_alike" (top 52)
  f_law_web : Ft K mg "_law_web" (top 53)
  f_law_state : Ft K mg "_law_state" (top 54)
  f_law_near : Ft K mg "_law_near" (top 55)
  f_law_step : Ft K mg "_law_step" (top 56)
  f_law_next : Ft K mg "_law_next" (top 57)
  f_law_ways : Ft K mg "_law_ways" (top 58)
  f_law_parts : Ft K mg "_law_parts" (top 59)
  f_law_rings : Ft K mg "_law_rings" (top 60)
  f_law_round : Ft K mg "_law_round" (top 61)
  f_law_share : Ft K mg "_law_share" (top 62)
  f_law_speeds : Ft K mg "_law_speeds" (top 63)
  f_law_still : Ft K mg "_law_still" (top 64)
  f_law_round_trip : Ft K mg "_law_round_trip" (top 65)
  f_law_late : Ft K mg "_law_late" (top 66)
  f_law_speeds_by : Ft K mg "_law_speeds_by" (top 68)
  f_law_spot : Ft K mg "_law_spot" (top 69)
theorem pe_k {X : Cx} {x : Str} {v : V} {pos : Pos} (hg : Gl X x) (h : ∃ u, X.mg x = some u ∧ RelV v u) (hdb : (x == ("__debug__" : Str)) = false := by decide) : PE X (.Name x pos) (tC v) := by
  obtain ⟨u, a, b⟩ := h
  exact pe_glob (hd := hdb) hg a b
end Tm
set_option maxRecDepth 100000
set_option maxHeartbeats 4000000
/-! Walks, their greatest sums, and what they tell of the states. Plain. -/
namespace Tm
open PySem
section
variable {g : Web} {st : List Int}
theorem stepI_lim {a b : Int} (ha : 0 ≤ a ∧ a ≤ 2) (hb : 0 ≤ b ∧ b ≤ 2) : -1 ≤ stepI a b ∧ stepI a b ≤ 1 := by unfold stepI; omega
theorem stepI_self {a : Int} : stepI a a = 0 := by unfold stepI; omega
theorem stepI_neg {a b : Int} (ha : 0 ≤ a ∧ a ≤ 2) (hb : 0 ≤ b ∧ b ≤ 2) : stepI b a = - stepI a b := by unfold stepI; omega
theorem stp_neg (s : SOk g.n st) {i j : Nat} (hi : i < g.n) (hj : j < g.n) : stp st j i = - stp st i j := stepI_neg (s.lim hi) (s.lim hj)
theorem stp_lim (s : SOk g.n st) {i j : Nat} (hi : i < g.n) (hj : j < g.n) : -1 ≤ stp st i j ∧ stp st i j ≤ 1 := stepI_lim (s.lim hi) (s.lim hj)
/-- one step of a walk -/
def Eg (g : Web) (st : List Int) (i j : Nat) (b : Int) : Prop := i < g.n ∧ j < g.n ∧ ((i = j ∧ b = 0) ∨ (nbr g i j = true ∧ b = stp st i j))
def Wk (g : Web) (st : List Int) : Nat → Nat → Nat → Int → Prop
  | 0, i, j, s => i < g.n ∧ i = j ∧ s = 0
  | t + 1, i, j, s => ∃ k a b, Wk g st t i k a ∧ Eg g st k j b ∧ s = a + b
theorem Wk.lt : ∀ {t i j : Nat} {s : Int}, Wk g st t i j s → i < g.n ∧ j < g.n
  | 0, i, j, s, ⟨h, e, _⟩ => ⟨h, e ▸ h⟩
  | t + 1, i, j, s, ⟨k, a, b, w, e, _⟩ => ⟨w.lt.1, e.2.1⟩
theorem Wk.app {t i k : Nat} {a : Int} (w : Wk g st t i k a) : ∀ {u j : Nat} {b : Int}, Wk g st u k j b → Wk g st (t + u) i j (a + b)
  | 0, j, b, ⟨_, e, z⟩ => by subst e z; rw [Int.add_zero]; exact w
  | u + 1, j, b, ⟨m, x, y, w', e, z⟩ => ⟨m, a + x, y, Wk.app w w', e, by omega⟩
theorem Wk.cut {t i : Nat} : ∀ {u j : Nat} {s : Int}, Wk g st (t + u) i j s → ∃ k a b, Wk g st t i k a ∧ Wk g st u k j b ∧ s = a + b
  | 0, j, s, w => ⟨j, s, 0, w, ⟨w.lt.2, rfl, rfl⟩, by omega⟩
  | u + 1, j, s, ⟨m, x, y, w, e, z⟩ => by
    obtain ⟨k, a, b, w1, w2, q⟩ := Wk.cut (u := u) w
    exact ⟨k, a, b + y, w1, ⟨m, b, y, w2, e, rfl⟩, by omega⟩
theorem Wk.one {i j : Nat} {b : Int} (e : Eg g st i j b) : Wk g st 1 i j b := ⟨i, 0, b, ⟨e.1, rfl, rfl⟩, e, by omega⟩
theorem Wk.of_one {i j : Nat} {b : Int} (w : Wk g st 1 i j b) : Eg g st i j b := by
  obtain ⟨k, x, y, ⟨_, e, z⟩, e2, q⟩ := w
  subst e z
  rw [q, Int.zero_add]
  exact e2
/-! ### greatest sums -/
def MaxO (P : Int → Prop) : Option Int → Prop
  | none => ∀ s, ¬ P s
  | some m => P m ∧ ∀ s, P s → s ≤ m
theorem MaxO.inj {P : Int → Prop} {a b : Option Int} (h : MaxO P a) (h' : MaxO P b) : a = b := by
  cases a with
  | none =>
    cases b with
    | none => rfl
    | some m => exact absurd h'.1 (h m)
  | some m =>
    cases b with
    | none => exact absurd h.1 (h' m)
    | some k =>
      have := h.2 k h'.1
      have := h'.2 m h.1
      rw [show m = k by omega]
structure RowIs (g : Web) (st : List Int) (t i : Nat) (row : List (Option Int)) : Prop where
  len : row.length = g.n
  is : ∀ j, j < g.n → MaxO (Wk g st t i j) (row.getD j none)
structure TabIs (g : Web) (st : List Int) (u : Nat) (T : List (List (Option Int))) : Prop where
  len : T.length = g.n
  is : ∀ i, i < g.n → RowIs g st u i (T.getD i [])
def oadd : Option Int → Option Int → Option Int
  | some a, some b => some (a + b)
  | _, _ => none
/-- the greatest of a list, if any -/
def omax : List Int → Option Int
  | [] => none
  | x :: xs => some (xs.foldl max x)
theorem foldl_max : ∀ (xs : List Int) (x : Int), (xs.foldl max x ∈ x :: xs) ∧ ∀ y, y ∈ x :: xs → y ≤ xs.foldl max x
  | [], x => ⟨by simp, fun y h => by simp at h; subst h; exact Int.le_refl _⟩
  | z :: xs, x => by
    obtain ⟨h1, h2⟩ := foldl_max xs (max x z)
    rw [List.foldl_cons]
    refine ⟨?_, fun y hy => ?_⟩
    · rcases List.mem_cons.mp h1 with e | h
      · rw [e]
        rcases Int.le_total x z with l | l
        · rw [Int.max_eq_right l]; simp
        · rw [Int.max_eq_left l]; simp
      · exact List.mem_cons_of_mem _ (List.mem_cons_of_mem _ h)
    · have m := h2 (max x z) (by simp)
      rcases List.mem_cons.mp hy with e | hy
      · subst e; exact Int.le_trans (Int.le_max_left _ _) m
      · rcases List.mem_cons.mp hy with e | hy
        · subst e; exact Int.le_trans (Int.le_max_right _ _) m
        · exact h2 y (List.mem_cons_of_mem _ hy)
theorem omax_is (l : List Int) : MaxO (· ∈ l) (omax l) := by
  cases l with
  | nil => intro s h; cases h
  | cons x xs => exact foldl_max xs x
def rowB (row : List (Option Int)) (T : List (List (Option Int))) : List (Option Int) :=
  (List.range row.length).map fun t => omax ((List.range row.length).filterMap fun k => oadd (row.getD k none) ((T.getD k []).getD t none))
theorem getD_map {α : Type} {n j : Nat} (f : Nat → α) (d : α) (h : j < n) : ((List.range n).map f).getD j d = f j := by
  rw [List.getD_eq_getElem?_getD, List.getElem?_map, List.getElem?_range h]
  rfl
theorem MaxO.congr {P Q : Int → Prop} {o : Option Int} (h : ∀ s, P s ↔ Q s) (m : MaxO P o) : MaxO Q o := by
  cases o with
  | none => exact fun s q => m s ((h s).mpr q)
  | some x => exact ⟨(h x).mp m.1, fun s q => m.2 s ((h s).mpr q)⟩
theorem rowB_is {t u i : Nat} {row : List (Option Int)} {T : List (List (Option Int))} (R : RowIs g st t i row) (B : TabIs g st u T) : RowIs g st (t + u) i (rowB row T) := by
  refine ⟨by unfold rowB; rw [List.length_map, List.length_range, R.len], fun j hj => ?_⟩
  unfold rowB
  rw [getD_map _ _ (by rw [R.len]; exact hj), R.len]
  -- the list's members are sums of walks, and each walk is below one
  have mem : ∀ s, s ∈ ((List.range g.n).filterMap fun k => oadd (row.getD k none) ((T.getD k []).getD j none)) → Wk g st (t + u) i j s := fun s hs => by
    obtain ⟨k, hk, e⟩ := List.mem_filterMap.mp hs
    have hk := List.mem_range.mp hk
    have r1 := R.is k hk
    have r2 := (B.is k hk).is j hj
    cases ea : row.getD k none with
    | none => rw [ea] at e; cases e
    | some a =>
      cases eb : (T.getD k []).getD j none with
      | none => rw [ea, eb] at e; cases e
      | some b =>
        rw [ea, eb] at e
        cases e
        rw [ea] at r1
        rw [eb] at r2
        exact Wk.app r1.1 r2.1
  have top : ∀ s, Wk g st (t + u) i j s → ∃ m, m ∈ ((List.range g.n).filterMap fun k => oadd (row.getD k none) ((T.getD k []).getD j none)) ∧ s ≤ m := fun s w => by
    obtain ⟨k, a, b, w1, w2, e⟩ := Wk.cut w
    have hk := w1.lt.2
    have r1 := R.is k hk
    have r2 := (B.is k hk).is j hj
    cases ea : row.getD k none with
    | none => rw [ea] at r1; exact absurd w1 (r1 a)
    | some a' =>
      cases eb : (T.getD k []).getD j none with
      | none => rw [eb] at r2; exact absurd w2 (r2 b)
      | some b' =>
        rw [ea] at r1
        rw [eb] at r2
        have := r1.2 a w1
        have := r2.2 b w2
        exact ⟨a' + b', List.mem_filterMap.mpr ⟨k, List.mem_range.mpr hk, by rw [ea, eb]; rfl⟩, by omega⟩
  have z := omax_is ((List.range g.n).filterMap fun k => oadd (row.getD k none) ((T.getD k []).getD j none))
  cases eo : omax ((List.range g.n).filterMap fun k => oadd (row.getD k none) ((T.getD k []).getD j none)) with
  | none =>
    rw [eo] at z
    intro s w
    obtain ⟨m, hm, _⟩ := top s w
    exact z m hm
  | some m =>
    rw [eo] at z
    refine ⟨mem m z.1, fun s w => ?_⟩
    obtain ⟨m', hm, l⟩ := top s w
    exact Int.le_trans l (z.2 m' hm)
def firstR (n i : Nat) : List (Option Int) := (List.range n).map fun j => if j = i then some 0 else none
theorem firstR_is {i : Nat} (hi : i < g.n) : RowIs g st 0 i (firstR g.n i) := by
  refine ⟨by unfold firstR; rw [List.length_map, List.length_range], fun j hj => ?_⟩
  unfold firstR
  rw [getD_map _ _ hj]
  by_cases e : j = i
  · rw [if_pos e]
    exact ⟨⟨hi, e.symm, rfl⟩, fun s w => by rw [w.2.2]; exact Int.le_refl _⟩
  · rw [if_neg e]
    exact fun s w => e w.2.1.symm
def tabR (g : Web) (st : List Int) (i : Nat) : List (Option Int) := (List.range g.n).map fun j => if i = j then some 0 else if nbr g i j then some (stp st i j) else none
def tab (g : Web) (st : List Int) : List (List (Option Int)) := (List.range g.n).map (tabR g st)
theorem tab_is (ok : WOk g) : TabIs g st 1 (tab g st) := by
  refine ⟨by unfold tab; rw [List.length_map, List.length_range], fun i hi => ?_⟩
  unfold tab
  rw [getD_map _ _ hi]
  refine ⟨by unfold tabR; rw [List.length_map, List.length_range], fun j hj => ?_⟩
  unfold tabR
  rw [getD_map _ _ hj]
  by_cases e : i = j
  · rw [if_pos e]
    refine ⟨Wk.one ⟨hi, hj, .inl ⟨e, rfl⟩⟩, fun s w => ?_⟩
    rcases w.of_one.2.2 with ⟨_, z⟩ | ⟨nb, _⟩
    · rw [z]; exact Int.le_refl _
    · exact absurd e (nbr_lt ok nb).2.2
  · rw [if_neg e]
    cases nb : nbr g i j with
    | true =>
      rw [if_pos rfl]
      refine ⟨Wk.one ⟨hi, hj, .inr ⟨nb, rfl⟩⟩, fun s w => ?_⟩
      rcases w.of_one.2.2 with ⟨z, _⟩ | ⟨_, z⟩
      · exact absurd z e
      · rw [z]; exact Int.le_refl _
    | false =>
      rw [if_neg Bool.false_ne_true]
      intro s w
      rcases w.of_one.2.2 with ⟨z, _⟩ | ⟨z, _⟩
      · exact e z
      · rw [nb] at z; cases z
theorem twice_is {u : Nat} {T : List (List (Option Int))} (B : TabIs g st u T) : TabIs g st (u + u) (T.map fun row => rowB row T) := by
  refine ⟨by rw [List.length_map, B.len], fun i hi => ?_⟩
  have e : (T.map fun row => rowB row T).getD i [] = rowB (T.getD i []) T := by
    have hi' : i < T.length := by rw [B.len]; exact hi
    rw [List.getD_eq_getElem?_getD, List.getElem?_map, List.getElem?_eq_getElem hi', List.getD_eq_getElem?_getD, List.getElem?_eq_getElem hi']
    rfl
  rw [e]
  exact rowB_is (B.is i hi) B
/-! ### how often one has changed -/
def cnt (g : Web) (st : List Int) : Nat → Nat → Int
  | 0, _ => 0
  | t + 1, i => ((nrow g i).map fun j => stp st i j + cnt g st t j).foldl max (cnt g st t i)
theorem cnt_top : ∀ (t : Nat) {i : Nat}, i < g.n → (∃ j, Wk g st t i j (cnt g st t i)) ∧ ∀ j s, Wk g st t i j s → s ≤ cnt g st t i
  | 0, i, hi => ⟨⟨i, hi, rfl, rfl⟩, fun j s w => by rw [w.2.2]; exact Int.le_refl _⟩
  | t + 1, i, hi => by
    obtain ⟨h1, h2⟩ := foldl_max ((nrow g i).map fun j => stp st i j + cnt g st t j) (cnt g st t i)
    refine ⟨?_, fun j s w => ?_⟩
    · rcases List.mem_cons.mp h1 with e | h
      · obtain ⟨j, w⟩ := (cnt_top t hi).1
        refine ⟨j, ?_⟩
        have w2 := Wk.app (Wk.one (st := st) (b := 0) ⟨hi, hi, .inl ⟨rfl, rfl⟩⟩) w
        rw [Nat.add_comm, Int.zero_add] at w2
        show Wk g st (t + 1) i j (((nrow g i).map fun j => stp st i j + cnt g st t j).foldl max (cnt g st t i))
        rw [e]
        exact w2
      · obtain ⟨k, hk, e⟩ := List.mem_map.mp h
        have hk := nrow_mem.mp hk
        obtain ⟨j, w⟩ := (cnt_top t hk.1).1
        refine ⟨j, ?_⟩
        have w2 := Wk.app (Wk.one (st := st) (b := stp st i k) ⟨hi, hk.1, .inr ⟨hk.2, rfl⟩⟩) w
        rw [Nat.add_comm, e] at w2
        exact w2
    · rw [Nat.add_comm] at w
      obtain ⟨k, a, b, w1, w2, e⟩ := Wk.cut (t := 1) (u := t) w
      have hk := w1.lt.2
      have l := (cnt_top t hk).2 j b w2
      show s ≤ ((nrow g i).map fun j => stp st i j + cnt g st t j).foldl max (cnt g st t i)
      rcases w1.of_one.2.2 with ⟨z, za⟩ | ⟨nb, za⟩
      · subst z
        have := h2 (cnt g st t i) (by simp)
        omega
      · have := h2 (stp st i k + cnt g st t k) (List.mem_cons_of_mem _ (List.mem_map.mpr ⟨k, nrow_mem.mpr ⟨hk, nb⟩, rfl⟩))
        omega
/-- the state at a tick -/
def itr (g : Web) (st : List Int) : Nat → List Int
  | 0 => st
  | t + 1 => nxt g (itr g st t)
theorem itr_ok (s : SOk g.n st) : ∀ t, SOk g.n (itr g st t)
  | 0 => s
  | t + 1 => nxt_ok _
theorem stirB_iff {i : Nat} : stirB g st i = true ↔ ∃ j, j < g.n ∧ nbr g i j = true ∧ stp st i j = 1 := by
  unfold stirB
  rw [List.any_eq_true]
  constructor
  · rintro ⟨j, h1, h2⟩
    exact ⟨j, (nrow_mem.mp h1).1, (nrow_mem.mp h1).2, of_decide_eq_true h2⟩
  · rintro ⟨j, h1, h2, h3⟩
    exact ⟨j, nrow_mem.mpr ⟨h1, h2⟩, decide_eq_true h3⟩
/-- what the counts and the states have to do with one another -/
structure Lift (g : Web) (st : List Int) (t : Nat) : Prop where
  mood : ∀ i, i < g.n → ms (itr g st t) i = (ms st i + cnt g st t i) % 3
  gap : ∀ i j, i < g.n → j < g.n → nbr g i j = true → stp (itr g st t) i j = stp st i j + cnt g st t j - cnt g st t i
theorem lift (ok : WOk g) (s : SOk g.n st) : ∀ t, Lift g st t
  | 0 => ⟨fun i hi => by show ms st i = (ms st i + 0) % 3; have := s.lim hi; omega, fun i j _ _ _ => by show stp st i j = stp st i j + 0 - 0; omega⟩
  | t + 1 => by
    have L := lift ok s t
    have o := itr_ok s t
    have up : ∀ i, i < g.n → cnt g st (t + 1) i = cnt g st t i + if stirB g (itr g st t) i then 1 else 0 := fun i hi => by
      obtain ⟨h1, h2⟩ := foldl_max ((nrow g i).map fun j => stp st i j + cnt g st t j) (cnt g st t i)
      have cap : ∀ j, j ∈ nrow g i → stp st i j + cnt g st t j ≤ cnt g st t i + 1 := fun j hj => by
        have hj := nrow_mem.mp hj
        have := L.gap i j hi hj.1 hj.2
        have := stp_lim o hi hj.1
        omega
      show ((nrow g i).map fun j => stp st i j + cnt g st t j).foldl max (cnt g st t i) = _
      generalize hX : ((nrow g i).map fun j => stp st i j + cnt g st t j).foldl max (cnt g st t i) = X at *
      have lo := h2 (cnt g st t i) (by simp)
      cases hb : stirB g (itr g st t) i with
      | true =>
        obtain ⟨j, hj, nb, e⟩ := stirB_iff.mp hb
        have := L.gap i j hi hj nb
        have hm : j ∈ nrow g i := nrow_mem.mpr ⟨hj, nb⟩
        have := h2 (stp st i j + cnt g st t j) (List.mem_cons_of_mem _ (List.mem_map.mpr ⟨j, hm, rfl⟩))
        rw [if_pos rfl]
        rcases List.mem_cons.mp h1 with e | h
        · omega
        · obtain ⟨k, hk, ek⟩ := List.mem_map.mp h
          have := cap k hk
          omega
      | false =>
        rw [if_neg Bool.false_ne_true]
        rcases List.mem_cons.mp h1 with e | h
        · omega
        · obtain ⟨k, hk, ek⟩ := List.mem_map.mp h
          have hk' := nrow_mem.mp hk
          have := L.gap i k hi hk'.1 hk'.2
          have := cap k hk
          have : ¬ stp (itr g st t) i k = 1 := fun z => by
            have := stirB_iff.mpr ⟨k, hk'.1, hk'.2, z⟩
            rw [hb] at this
            cases this
          omega
    have mood : ∀ i, i < g.n → ms (itr g st (t + 1)) i = (ms st i + cnt g st (t + 1) i) % 3 := fun i hi => by
      show ms (nxt g (itr g st t)) i = _
      rw [ms_nxt hi, up i hi, L.mood i hi]
      split <;> omega
    refine ⟨mood, fun i j hi hj nb => ?_⟩
    have a := L.gap i j hi hj nb
    have b := up i hi
    have c := up j hj
    have li := s.lim hi
    have lj := s.lim hj
    have m1 := mood i hi
    have m2 := mood j hj
    have d := stp_lim o hi hj
    -- the gap stays within -1 .. 1, so it is told by its rest
    have e1 : stp (itr g st t) i j = 1 → stirB g (itr g st t) i = true := fun z => stirB_iff.mpr ⟨j, hj, nb, z⟩
    have e2 : stp (itr g st t) i j = -1 → stirB g (itr g st t) j = true := fun z => stirB_iff.mpr ⟨i, hi, by rw [nbr_symm]; exact nb, by rw [stp_neg o hi hj]; omega⟩
    have r1 : stp st i j = (ms st j - ms st i + 1) % 3 - 1 := rfl
    have r2 : stp (itr g st (t + 1)) i j = (ms (itr g st (t + 1)) j - ms (itr g st (t + 1)) i + 1) % 3 - 1 := rfl
    generalize cnt g st (t + 1) i = x at *
    generalize cnt g st (t + 1) j = y at *
    generalize cnt g st t i = x0 at *
    generalize cnt g st t j = y0 at *
    generalize stp (itr g st t) i j = z at *
    generalize stp (itr g st (t + 1)) i j = z1 at *
    generalize stp st i j = z0 at *
    cases hb : stirB g (itr g st t) i <;> cases hc : stirB g (itr g st t) j <;> rw [hb] at b e1 <;> rw [hc] at c e2 <;> simp at b c e1 e2 <;> omega
end
end Tm
set_option maxRecDepth 100000
set_option maxHeartbeats 4000000
/-! Shapes of data, == of data. -/
namespace Tm
open PySem L2
structure Sh (k : Nat) (d : PyData) : Prop where
  lay : d.canLay0 = true
  dp : d.depth ≤ k
theorem Sh.ok {k : Nat} {d : PyData} (h : Sh k d) (hk : k ≤ 64) : SeqAt.shaped d = true := by
  unfold SeqAt.shaped
  rw [h.lay, decide_eq_true (Nat.le_trans h.dp hk)]
  rfl
theorem sh_int {k : Nat} (i : Int) : Sh k (.int i) := ⟨rfl, Nat.zero_le _⟩
theorem sh_iN {k : Nat} (i : Nat) : Sh k (iN i) := sh_int _
theorem sh_bool {k : Nat} (b : Bool) : Sh k (.bool b) := ⟨rfl, Nat.zero_le _⟩
theorem sh_none {k : Nat} : Sh k .none := ⟨rfl, Nat.zero_le _⟩
theorem sh_all {k : Nat} : ∀ {ds : List PyData}, (∀ d, d ∈ ds → Sh k d) → PyData.canLayAll0 ds = true ∧ PyData.depthAll ds ≤ k
  | [], _ => ⟨rfl, Nat.zero_le _⟩
  | d :: ds, h => by
    have a := h d (by simp)
    obtain ⟨b, c⟩ := sh_all (ds := ds) fun e he => h e (List.mem_cons_of_mem _ he)
    refine ⟨?_, ?_⟩
    · show (d.canLay0 && PyData.canLayAll0 ds) = true
      rw [a.lay, b]
      rfl
    · show max d.depth (PyData.depthAll ds) ≤ k
      exact Nat.max_le.mpr ⟨a.dp, c⟩
theorem sh_list {k : Nat} {ds : List PyData} (h : ∀ d, d ∈ ds → Sh k d) : Sh (k + 1) (.list ds) := ⟨(sh_all h).1, Nat.succ_le_succ (sh_all h).2⟩
theorem sh_tup {k : Nat} {ds : List PyData} (h : ∀ d, d ∈ ds → Sh k d) : Sh (k + 1) (.tuple ds) := ⟨(sh_all h).1, Nat.succ_le_succ (sh_all h).2⟩
theorem sh_map {α : Type} {k : Nat} {f : α → PyData} {xs : List α} (h : ∀ x, x ∈ xs → Sh k (f x)) : ∀ d, d ∈ xs.map f → Sh k d := fun d hd => by
  obtain ⟨x, hx, rfl⟩ := List.mem_map.mp hd
  exact h x hx
theorem sh_nil {k : Nat} : Sh (k + 1) (.list []) := sh_list fun d h => by cases h
theorem sh_nilT {k : Nat} : Sh (k + 1) (.tuple []) := sh_tup fun d h => by cases h
theorem sh_encS {k : Nat} (st : List Int) : Sh (k + 1) (encS st) := sh_tup (sh_map fun x _ => sh_int x)
theorem sh_ints {k : Nat} (ns : List Int) : Sh (k + 1) (.list (ns.map .int)) := sh_list (sh_map fun x _ => sh_int x)
theorem eqv_nil (ds : List PyData) : PyData.eqv (.list ds) (.list []) = ds.isEmpty := by
  cases ds <;> simp [PyData.eqv, PyData.eqvAll]
theorem eqvAll_ints : ∀ (a b : List Int), PyData.eqvAll (a.map .int) (b.map .int) = decide (a = b)
  | [], [] => by simp [PyData.eqvAll]
  | [], _ :: _ => by simp [PyData.eqvAll]
  | _ :: _, [] => by simp [PyData.eqvAll]
  | x :: a, y :: b => by
    rw [List.map_cons, List.map_cons, PyData.eqvAll, eqvAll_ints a b, PyData.eqv, eqb, ← Bool.decide_and, decide_eq_decide, List.cons.injEq]
theorem eqv_encS (a b : List Int) : PyData.eqv (encS a) (encS b) = decide (a = b) := by
  unfold encS
  rw [PyData.eqv, eqvAll_ints]
/-! rows of numbers or None -/
def oD : Option Int → PyData
  | none => .none
  | some i => .int i
def encR (row : List (Option Int)) : PyData := .list (row.map oD)
def encT (T : List (List (Option Int))) : PyData := .list (T.map encR)
theorem isN_oD (o : Option Int) : isN (oD o) = o.isNone := by cases o <;> rfl
theorem oD_at {row : List (Option Int)} {k : Nat} (h : k < row.length) : atI (row.map oD) (k : Int) = some (oD (row.getD k none)) := atI_nat (by
  rw [List.getElem?_map, List.getD_eq_getElem?_getD, List.getElem?_eq_getElem h]
  rfl)
theorem encR_at {T : List (List (Option Int))} {k : Nat} (h : k < T.length) : atI (T.map encR) (k : Int) = some (encR (T.getD k [])) := atI_nat (by
  rw [List.getElem?_map, List.getD_eq_getElem?_getD, List.getElem?_eq_getElem h]
  rfl)
theorem getD_mem {α : Type} {l : List α} {k : Nat} {d : α} (h : k < l.length) : l.getD k d ∈ l := by
  rw [List.getD_eq_getElem?_getD, List.getElem?_eq_getElem h]
  exact List.getElem_mem h
end Tm
set_option maxRecDepth 100000
set_option maxHeartbeats 4000000
/-! A list of lists that a def fills. -/
namespace Tm
open PySem PyProof.Rows L2
structure Nest (K : PySem.W.Frag) (H0 F H : Hp) (p : Addr) (dss : List (List PyData)) : Prop where
  ex : ∃ qs : List Addr, H p = some (.lst (qs.map V.ref)) ∧ F p = none ∧ H0 p = none ∧ (p :: qs).Nodup ∧ qs.length = dss.length ∧
    ∀ (k : Nat) (q : Addr) (ds : List PyData), qs[k]? = some q → dss[k]? = some ds → F q = none ∧ H0 q = none ∧ ∃ vs, H q = some (.lst vs) ∧ DpAll K F vs ds
def noMut (r : List Slo) : Prop := ∀ u, u ∈ r → u.mut = false
structure Stn (K : PySem.W.Frag) (M : Addr → Prop) (F0 H0 : Hp) (r : List Slo) (s : L2.St) (F H : Hp) (i : Nat) (dss : List (List PyData)) : Prop where
  st : Sta K M F0 H0 r s F H
  nm : noMut r
  at_ : ∃ p, s[i]? = some (some (.ref p)) ∧ Nest K H0 F H p dss
section
variable {K : PySem.W.Frag} {r : List Slo} {te ta tb tc : TE} {tt tu : TT} {d e d1 d2 d3 : PyData} {ds es : List PyData} {dss : List (List PyData)} {A B : Af} {t u : TS} {F H F2 H2 F0 H0 : Hp} {s : L2.St} {p : Addr} {i : Nat} {M : Addr → Prop}
theorem Nest.grow (N : Nest K H0 F H p dss) (g : Grow F H F2 H2) : Nest K H0 F2 H2 p dss := by
  obtain ⟨qs, hp, fp, zp, nd, len, all⟩ := N.ex
  refine ⟨qs, g.h _ _ hp, g.n _ fp (keep_lst hp), zp, nd, len, fun k q ds e1 e2 => ?_⟩
  obtain ⟨a, b, vs, c, x⟩ := all k q ds e1 e2
  exact ⟨g.n _ a (keep_lst c), b, vs, g.h _ _ c, DpAll.up g.f _ _ x⟩
theorem Stn.grow (S : Stn K M F0 H0 r s F H i dss) (g : Grow F H F2 H2) : Stn K M F0 H0 r s F2 H2 i dss := by
  obtain ⟨p, a, N⟩ := S.at_
  exact ⟨S.st.grow g, S.nm, p, a, N.grow g⟩
/-- a list that no slot holds is written -/
theorem Sta.writeFree {o : HO} {q : Addr} (S : Sta K M F0 H0 r s F H) (nm : noMut r) (hf : F q = none) (hz : H0 q = none) : Sta K M F0 H0 r s F (upd H q o) where
  f0 := S.f0
  i := fun b u x => by rw [upd_ne (ne_of_none x hf)]; exact S.i b u x
  h0 := fun b u n x => by rw [upd_ne (ne_of_none x hz)]; exact S.h0 b u n x
  hd := fun b x => by
    by_cases w : b = q
    · subst w; exact absurd hz x
    · rw [upd_ne w]; exact S.hd b x
  n0 := fun b x y k => by
    by_cases w : b = q
    · rw [w]; exact hf
    · rw [upd_ne w] at k; exact S.n0 b x y k
  len := S.len
  sl := fun j t x => (S.sl j t x).imp id fun ⟨v, h1, h2⟩ => ⟨v, h1, by
    have m := nm t (List.mem_of_getElem? x)
    cases t with
    | no => trivial
    | ad w => exact h2
    | dk C a dx pl D => exact ⟨h2.1, h2.2.to (Same.refl _) (fun b hb => (h2.2.fa b hb).1) fun b hb o e => by rw [upd_ne (fun z => (h2.2.fa b hb).2.2 (by rw [z]; exact hz))]; exact e⟩
    | fz d => exact h2
    | mu d => cases m
    | pm d => cases m⟩
  dj := S.dj
theorem Nest.write (N : Nest K H0 F H p dss) {k : Nat} {ds' : List PyData} (hk : dss[k]? = some ds) : ∃ q vs, F q = none ∧ H0 q = none ∧ q ≠ p ∧ H q = some (.lst vs) ∧ DpAll K F vs ds ∧ (∃ xs, H p = some (.lst xs) ∧ xs[k]? = some (.ref q) ∧ xs.length = dss.length) ∧
    ∀ ws, DpAll K F ws ds' → Nest K H0 F (upd H q (.lst ws)) p (dss.set k ds') := by
  obtain ⟨qs, hp, fp, zp, nd, len, all⟩ := N.ex
  have hlt : k < qs.length := by rw [len]; exact (List.getElem?_eq_some_iff.mp hk).1
  cases eq : qs[k]? with
  | none => exact absurd (List.getElem?_eq_none_iff.mp eq) (by omega)
  | some q =>
  obtain ⟨a, b, vs, c, x⟩ := all k q ds eq hk
  have nd1 := (List.nodup_cons.mp nd).1
  have nd2 := (List.nodup_cons.mp nd).2
  have qp : q ≠ p := fun w => nd1 (by rw [← w]; exact List.mem_of_getElem? eq)
  refine ⟨q, vs, a, b, qp, c, x, ⟨_, hp, by rw [List.getElem?_map, eq]; rfl, by rw [List.length_map, len]⟩, fun ws hw => ⟨qs, by rw [upd_ne (Ne.symm qp)]; exact hp, fp, zp, nd, by rw [List.length_set]; exact len, fun m q' ds2 e1 e2 => ?_⟩⟩
  by_cases w : k = m
  · subst w
    rw [eq] at e1
    cases e1
    rw [List.getElem?_set_self (by rw [← len]; exact hlt)] at e2
    cases e2
    exact ⟨a, b, ws, upd_same, hw⟩
  · rw [List.getElem?_set_ne w] at e2
    obtain ⟨a', b', vs', c', x'⟩ := all m q' ds2 e1 e2
    have ne : q' ≠ q := fun z => w (L2.nd_ix nd2 eq (by rw [← z]; exact e1))
    exact ⟨a', b', vs', by rw [upd_ne ne]; exact c', x'⟩
/-- found[a].append(e) -/
theorem nest_app {D : Ends} {a : Nat} (S : Stn K M F0 H0 r s F H i dss) (hb : Ef K tb r (.int (a : Int))) (he : Ef K te r d) (hk : dss[a]? = some ds) (hz : ds.length < 100000) (q : ∀ F2 H2, Stn K M F0 H0 r s F2 H2 i (dss.set a (ds ++ [d])) → D.nx s H2) :
    tDrop (tBM K "list" rAppend (tOp (rIxL K) (tVar i) tb) (tCons te tNil)) D s H := by
  obtain ⟨p, hs, N⟩ := S.at_
  refine ⟨_, hs, hb _ _ _ _ _ _ S.st _ fun y F1 H1 g1 dy => ?_⟩
  cases dy
  obtain ⟨q1, vs, fq, zq, qp, hq, dv, ⟨xs, hx, ex, lx⟩, W⟩ := (N.grow g1).write (ds' := ds ++ [d]) hk
  refine ⟨p, xs, (a : Int), .ref q1, rfl, rfl, SqL.of hx, atI_nat ex, .inl ⟨rfl, _, SqL.of hq⟩, ?_⟩
  refine he _ _ _ _ _ _ (S.st.grow g1) _ fun v F2 H2 g2 dv2 => ?_
  obtain ⟨q2, vs2, fq2, zq2, qp2, hq2, dvs2, ⟨xs2, hx2, ex2, _⟩, W2⟩ := ((N.grow g1).grow g2).write (ds' := ds ++ [d]) hk
  have e1 : xs2 = xs := by rw [g2.h _ _ hx] at hx2; cases hx2; rfl
  subst e1
  rw [ex] at ex2
  cases ex2
  have e2 : vs2 = vs := by rw [g2.h _ _ hq] at hq2; cases hq2; rfl
  subst e2
  exact ⟨q1, vs2, v, rfl, rfl, hq2, by rw [dvs2.len]; exact szLt hz, q F2 _ ⟨((S.st.grow g1).grow g2).writeFree S.nm fq2 zq2, S.nm, p, hs, W2 _ (dvs2.app (.one dv2))⟩⟩
/-- found[a][b] = e -/
theorem nest_item {D : Ends} {a m : Nat} {b : Int} (S : Stn K M F0 H0 r s F H i dss) (he : Ef K te r d) (hb : Ef K tb r (.int (a : Int))) (hc : Ef K tc r (.int b)) (hk : dss[a]? = some ds) (hm : ixN ds.length b = some m) (q : ∀ F2 H2, Stn K M F0 H0 r s F2 H2 i (dss.set a (ds.set m d)) → D.nx s H2) :
    tAsg te (gSub (tOp (rIxL K) (tVar i) tb) tc rSetL) D s H := by
  obtain ⟨p, hs, N⟩ := S.at_
  refine he _ _ _ _ _ _ S.st _ fun v F1 H1 g1 dv => ?_
  refine ⟨_, hs, hb _ _ _ _ _ _ (S.st.grow g1) _ fun y F2 H2 g2 dy => ?_⟩
  cases dy
  obtain ⟨q1, vs, fq, zq, qp, hq, dvs, ⟨xs, hx, ex, lx⟩, W⟩ := ((N.grow g1).grow g2).write (ds' := ds.set m d) hk
  refine ⟨p, xs, (a : Int), .ref q1, rfl, rfl, SqL.of hx, atI_nat ex, ?_⟩
  refine hc _ _ _ _ _ _ ((S.st.grow g1).grow g2) _ fun z F3 H3 g3 dz => ?_
  cases dz
  obtain ⟨q2, vs2, fq2, zq2, qp2, hq2, dvs2, ⟨xs2, hx2, ex2, _⟩, W2⟩ := (((N.grow g1).grow g2).grow g3).write (ds' := ds.set m d) hk
  have e1 : xs2 = xs := by rw [g3.h _ _ hx] at hx2; cases hx2; rfl
  subst e1
  rw [ex] at ex2
  cases ex2
  have e2 : vs2 = vs := by rw [g3.h _ _ hq] at hq2; cases hq2; rfl
  subst e2
  exact ⟨q1, vs2, b, m, rfl, rfl, hq2, by rw [dvs2.len]; exact hm, q F3 _ ⟨(((S.st.grow g1).grow g2).grow g3).writeFree S.nm fq2 zq2, S.nm, p, hs, W2 _ (dvs2.set m (Dp.up (g2.trans g3).f _ _ dv))⟩⟩
theorem nm_set {k : Nat} {t : Slo} (nm : noMut r) (h : t.mut = false) : noMut (r.set k t) := fun u hu => by
  rcases List.mem_or_eq_of_mem_set hu with x | x
  · exact nm u x
  · subst x; exact h
/-- a frozen value goes to another slot -/
theorem Stn.setF {k : Nat} {v : V} (S : Stn K M F0 H0 r s F H i dss) (hki : k ≠ i) (h : Dp K F v d) : Stn K M F0 H0 (r.set k (.fz d)) (s.set k (some v)) F H i dss := by
  obtain ⟨p, a, N⟩ := S.at_
  exact ⟨S.st.setF h, nm_set S.nm rfl, p, by rw [List.getElem?_set_ne hki]; exact a, N⟩
/-- filled: from now on frozen -/
theorem Stn.freeze (S : Stn K M F0 H0 r s F H i dss) : ∃ F2, Sta K M F0 H0 (r.set i (.fz (.list (dss.map .list)))) s F2 H := by
  obtain ⟨p, hs, N⟩ := S.at_
  obtain ⟨qs, hp, fp, zp, nd, len, all⟩ := N.ex
  have nd1 := (List.nodup_cons.mp nd).1
  have here : ∀ b, b = p ∨ b ∈ qs → F b = none ∧ H0 b = none ∧ H b ≠ none := fun b hb => by
    rcases hb with rfl | hb
    · exact ⟨fp, zp, some_ne hp⟩
    · obtain ⟨k, hk, e⟩ := List.getElem_of_mem hb
      have e' : qs[k]? = some b := by rw [List.getElem?_eq_getElem hk, e]
      cases ed : dss[k]? with
      | none => exact absurd (List.getElem?_eq_none_iff.mp ed) (by omega)
      | some ds =>
        obtain ⟨a, c, vs, x, _⟩ := all k b ds e' ed
        exact ⟨a, c, some_ne x⟩
  let F2 : Hp := fun b => if b = p ∨ b ∈ qs then H b else F b
  have up : Same F F2 := fun b u x => by
    show (if b = p ∨ b ∈ qs then H b else F b) = some u
    rw [if_neg (fun hb => by rw [(here b hb).1] at x; cases x)]
    exact x
  have i2 : Same F2 H := fun b u x => by
    have x : (if b = p ∨ b ∈ qs then H b else F b) = some u := x
    split at x
    · exact x
    · exact S.st.i b u x
  have at2 : ∀ b, b = p ∨ b ∈ qs → F2 b = H b := fun b hb => if_pos hb
  have inner : ∀ (rs : List Addr) (dd : List (List PyData)), rs.length = dd.length → (∀ q, q ∈ rs → q ∈ qs) → (∀ (k : Nat) (q : Addr) (ds : List PyData), rs[k]? = some q → dd[k]? = some ds → ∃ vs, H q = some (.lst vs) ∧ DpAll K F vs ds) → DpAll K F2 (rs.map V.ref) (dd.map .list) := by
    intro rs
    induction rs with
    | nil =>
      intro dd hl _ _
      cases dd with
      | nil => exact .nil
      | cons x y => cases hl
    | cons q rs ih =>
      intro dd hl hm ha
      cases dd with
      | nil => cases hl
      | cons ds dd =>
        obtain ⟨vs, x, y⟩ := ha 0 q ds rfl rfl
        refine .cons (.lst (SqL.of ?_) (DpAll.up up _ _ y)) (ih dd (Nat.succ.inj hl) (fun z hz => hm z (List.mem_cons_of_mem _ hz)) fun k z ds2 e1 e2 => ha (k + 1) z ds2 (by simpa using e1) (by simpa using e2))
        rw [at2 q (.inr (hm q List.mem_cons_self))]
        exact x
  have whole : Dp K F2 (.ref p) (.list (dss.map .list)) := .lst (SqL.of (by rw [at2 p (.inl rfl)]; exact hp)) (inner qs dss len (fun _ h => h) fun k q ds e1 e2 => (all k q ds e1 e2).2.2)
  refine ⟨F2, S.st.f0.trans up, i2, S.st.h0, S.st.hd, fun b x y k => ?_, by rw [List.length_set]; exact S.st.len, fun j t x => ?_, fun a b t1 t2 q e1 e2 m1 m2 s1 s2 => ?_⟩
  · show (if b = p ∨ b ∈ qs then H b else F b) = none
    rw [if_neg (fun hb => y (here b hb).2.1)]
    exact S.st.n0 b x y k
  · by_cases w : i = j
    · subst w
      rw [List.getElem?_set] at x
      simp only [if_true] at x
      split at x
      · cases x
        exact .inr ⟨_, hs, whole⟩
      · cases x
    · rw [List.getElem?_set_ne w] at x
      rcases S.st.sl j t x with y | ⟨v, h1, h2⟩
      · exact .inl y
      · refine .inr ⟨v, h1, ?_⟩
        have m := S.nm t (List.mem_of_getElem? x)
        cases t with
        | no => trivial
        | ad w => exact h2
        | dk C a dx pl D => exact ⟨h2.1, h2.2.to up (fun c hc => by
            show (if c = p ∨ c ∈ qs then H c else F c) = none
            rw [if_neg (fun hb => (h2.2.fa c hc).2.2 (here c hb).2.1)]
            exact (h2.2.fa c hc).1) fun _ _ _ e => e⟩
        | fz d => exact Dp.up up _ _ h2
        | mu d => cases m
        | pm d => cases m
  · have m := nm_set (k := i) (t := .fz (.list (dss.map .list))) S.nm rfl t1 (List.mem_of_getElem? e1)
    rw [m] at m1
    cases m1
/-- [a new list for one in range(n)], filled later -/
structure Mst (K : PySem.W.Frag) (F H : Hp) (Dl : Addr) (ds : List PyData) (m : Nat) (H' : Hp) : Prop where
  ex : ∃ F' qs, Grow F H F' H' ∧ F' Dl = none ∧ H' Dl = some (.lst (qs.map V.ref)) ∧ (Dl :: qs).Nodup ∧ qs.length = m ∧ ∀ q, q ∈ qs → F' q = none ∧ H q = none ∧ ∃ vs, H' q = some (.lst vs) ∧ DpAll K F' vs ds
theorem nest_lc {t1 : TA} {k j : Nat} {n : Int} {D : Ends} (S : Sta K M F0 H0 r s F H) (nm : noMut r) (h : Ea K t1 r [.int n]) (hz : 0 ≤ n ∧ n ≤ 1000) (he : ∀ m : Nat, (m : Int) < n → En K te (r.set k (.fz (.int m))) ds)
    (hj : j < r.length) (q : ∀ s2 F2 H2, Stn K M F0 H0 (r.set j .no) s2 F2 H2 j (List.replicate n.toNat ds) → (∃ v, s2 = s.set j v) → D.nx s2 H2) : tAsg (tLc (iRng1 t1) (gName k) tYes te [k]) (gName j) D s H := by
  refine h _ _ _ _ _ _ S _ fun vs F1 H1 g1 a => ?_
  obtain rfl := DpAll.of_ints (ns := [n]) a
  have S1 := S.grow g1
  refine ⟨n, rfl, by omega, by omega, fun Dl hD => ?_⟩
  refine lc_range (lo := 0) (n := n.toNat) (fun m H' => Mst K F1 H1 Dl ds m H') ⟨F1, [], Grow.newM g1.i hD, g1.i.free hD, upd_same, by simp, rfl, fun q hq => by cases hq⟩ (fun m H' hm C => ?_) (fun H' C => ?_)
  · have e : (0 : Int) + (m : Int) = m := by omega
    rw [e]
    refine ⟨wipe_one s k _, ?_⟩
    obtain ⟨F', qs, g2, fD, hh, nd, len, all⟩ := C.ex
    refine iteT (B := Mst K F1 H1 Dl ds (m + 1) H') ?_
    rw [set_wipe]
    refine he m (by omega) _ _ _ _ _ _ ((S1.grow g2).setF (.int _)) _ fun p ws F3 H3 g3 hp fp hp3 dv => ?_
    have hD3 := g3.h _ _ hh
    have nF3 := g3.n _ fD (keep_lst hh)
    have pD : p ≠ Dl := fun w => by rw [w, hh] at hp; cases hp
    refine ⟨qs.map V.ref, hD3, by rw [List.length_map, len]; exact szLt (by omega), F3, qs ++ [p], ?_, nF3, by rw [upd_same, List.map_append]; rfl, ?_, by rw [List.length_append, len]; rfl, fun z hz => ?_⟩
    · have g6 := g2.trans g3
      refine ⟨g6.f, fun c u x => ?_, fun c u x => ?_, g6.n⟩
      · rw [upd_ne (ne_of_none x nF3)]
        exact g6.i c u x
      · rw [upd_ne (ne_of_none x hD)]
        exact g6.h c u x
    · have e2 : Dl :: (qs ++ [p]) = (Dl :: qs) ++ [p] := rfl
      rw [e2, List.nodup_append]
      refine ⟨nd, by simp, fun a ha b hb w => ?_⟩
      simp at hb
      subst hb w
      rcases List.mem_cons.mp ha with rfl | ha
      · exact pD rfl
      · obtain ⟨_, _, vs, x, _⟩ := all a ha
        rw [hp] at x
        cases x
    · rcases List.mem_append.mp hz with hz | hz
      · obtain ⟨a, b, vs, c, x⟩ := all z hz
        have zD : z ≠ Dl := fun w => (List.nodup_cons.mp nd).1 (by rw [← w]; exact hz)
        exact ⟨g3.n _ a (keep_lst c), b, vs, by rw [upd_ne zD]; exact g3.h _ _ c, DpAll.up g3.f _ _ x⟩
      · simp at hz
        subst hz
        exact ⟨fp, g2.h.free hp, ws, by rw [upd_ne pD]; exact hp3, dv⟩
  · obtain ⟨F', qs, g2, fD, hh, nd, len, all⟩ := C.ex
    have g := g1.trans g2
    refine q _ F' H' ⟨(S.grow g).forget j _, nm_set nm rfl, Dl, by rw [List.getElem?_set_self (by rw [S.len]; exact hj)], qs, hh, fD, ?_, nd, by rw [len, List.length_replicate], fun m z ds2 e1 e2 => ?_⟩ ⟨_, rfl⟩
    · cases z : H0 Dl with
      | none => rfl
      | some o => exact absurd (g1.h.free hD) (S.hd _ (some_ne z))
    · obtain ⟨a, b, x⟩ := all z (List.mem_of_getElem? e1)
      rw [List.getElem?_replicate] at e2
      split at e2
      · cases e2
        refine ⟨a, ?_, x⟩
        cases w : H0 z with
        | none => rfl
        | some o => exact absurd (g1.h.free b) (S.hd _ (some_ne w))
      · cases e2
end
end Tm
set_option maxRecDepth 100000
set_option maxHeartbeats 4000000
/-! Expressions with an effect on a list; defs that change a list that is given; objects beside the slots. -/
namespace Tm
open PySem PyProof.Rows L2
/-- the list at p is changed, all else stays -/
structure GrowM (p : Addr) (F H F2 H2 : Hp) : Prop where
  f : Same F F2
  i : Same F2 H2
  h : ∀ b o, b ≠ p → H b = some o → H2 b = some o
  k : ∀ b, H b ≠ none → H2 b ≠ none
  n : ∀ b, F b = none → H b ≠ none → Keep (H2 b) → F2 b = none
def Slo.with (t : Slo) (es : List PyData) : Slo := match t with
  | .pm _ => .pm es
  | _ => .mu es
def Slo.its : Slo → List PyData
  | .mu ds => ds
  | .pm ds => ds
  | _ => []
section
variable {K : PySem.W.Frag} {M : Addr → Prop} {F0 H0 F H F2 H2 F3 H3 : Hp} {r : List Slo} {s : L2.St} {te ta tb tc : TE} {tt tu : TT} {d e d1 d2 : PyData} {ds es : List PyData} {A : Af} {t u : TS} {i j : Int}
theorem VOk.mutP {v : V} {t : Slo} (m : t.mut = true) (h : VOk K M H0 F H v t) : ∃ p vs, v = .ref p ∧ F p = none ∧ H p = some (.lst vs) ∧ DpAll K F vs t.its ∧ (H0 p = none ∨ MOk M H0 p) := by
  cases t with
  | no => cases m
  | ad w => cases m
  | dk C a dx pl D => cases m
  | fz d => cases m
  | mu ds => obtain ⟨p, vs, h1, h2, h3, h4, h5⟩ := h; exact ⟨p, vs, h1, h2, h4, h5, .inl h3⟩
  | pm ds => obtain ⟨p, vs, h1, h2, h3, h4, h5⟩ := h; exact ⟨p, vs, h1, h2, h4, h5, .inr h3⟩
theorem Sta.mutP (S : Sta K M F0 H0 r s F H) {k : Nat} {t : Slo} (e : r[k]? = some t) (m : t.mut = true) : ∃ p vs, s[k]? = some (some (.ref p)) ∧ F p = none ∧ H p = some (.lst vs) ∧ DpAll K F vs t.its ∧ (H0 p = none ∨ MOk M H0 p) := by
  rcases S.sl k t e with h | ⟨v, h1, h2⟩
  · rw [h] at m; cases m
  · obtain ⟨p, vs, rfl, h3⟩ := h2.mutP m
    exact ⟨p, vs, h1, h3⟩
/-- a callee has changed the list in slot k -/
theorem Sta.growM (S : Sta K M F0 H0 r s F H) {k : Nat} {t : Slo} {p : Addr} {ws : List V} (e : r[k]? = some t) (m : t.mut = true) (hs : s[k]? = some (some (.ref p))) (g : GrowM p F H F2 H2) (hp : H2 p = some (.lst ws)) (h : DpAll K F2 ws es) : Sta K M F0 H0 (r.set k (t.with es)) s F2 H2 := by
  obtain ⟨p', vs, h1, hf, hh, _, ho⟩ := S.mutP e m
  rw [hs] at h1
  cases h1
  have hf2 : F2 p = none := g.n p hf (some_ne hh) (keep_lst hp)
  have kl : k < r.length := (List.getElem?_eq_some_iff.mp e).1
  have wm : (t.with es).mut = true := by cases t <;> rfl
  refine ⟨S.f0.trans g.f, g.i, fun b o hb ho' => ?_, fun b hb => g.k b (S.hd b hb), fun b h1 h2 k => g.n b (n_step S.i g.f g.i (S.n0 b h1 h2) k) (S.hd b h2) k, by rw [List.length_set]; exact S.len, fun i' t' e' => ?_, fun i' j' t' u' p' e1 e2 m1 m2 s1 s2 => ?_⟩
  · refine g.h b o (fun z => ?_) (S.h0 b o hb ho')
    subst z
    rcases ho with ho | ho
    · rw [ho] at ho'; cases ho'
    · exact hb ho.1
  · by_cases q : k = i'
    · subst q
      rw [List.getElem?_set_self kl] at e'
      cases e'
      refine .inr ⟨_, hs, ?_⟩
      rcases S.sl k t e with z | ⟨v, z1, z2⟩
      · rw [z] at m; cases m
      · rw [hs] at z1
        cases z1
        cases t with
        | no => cases m
        | ad w => cases m
        | dk C a dx pl D => cases m
        | fz d => cases m
        | mu ds =>
          obtain ⟨p', vs', q1, q2, q3, q4, q5⟩ := z2
          cases q1
          exact ⟨p, ws, rfl, hf2, q3, hp, h⟩
        | pm ds =>
          obtain ⟨p', vs', q1, q2, q3, q4, q5⟩ := z2
          cases q1
          exact ⟨p, ws, rfl, hf2, q3, hp, h⟩
    · rw [List.getElem?_set_ne q] at e'
      rcases S.sl i' t' e' with z | ⟨v, z1, z2⟩
      · exact .inl z
      · refine .inr ⟨v, z1, ?_⟩
        cases t' with
        | no => trivial
        | ad w => exact z2
        | dk C a dx pl D =>
          have ne := z2.2.ne hh (ho.elim not_own fun z => z.2)
          exact ⟨z2.1, z2.2.to g.f (fun b hb => g.n b (z2.2.fa b hb).1 (z2.2.kp b hb).ne ((z2.2.kp b hb).mv fun o e => g.h b o (ne b hb) e)) fun b hb o e => g.h b o (ne b hb) e⟩
        | fz d => exact Dp.up g.f _ _ z2
        | mu ds =>
          obtain ⟨p', vs', q1, q2, q3, q4, q5⟩ := z2
          subst q1
          have ne : p' ≠ p := fun z => q (S.dj _ _ _ _ p e e' m rfl hs (z ▸ z1))
          exact ⟨p', vs', rfl, g.n p' q2 (some_ne q4) (keep_lst (g.h p' _ ne q4)), q3, g.h p' _ ne q4, DpAll.up g.f _ _ q5⟩
        | pm ds =>
          obtain ⟨p', vs', q1, q2, q3, q4, q5⟩ := z2
          subst q1
          have ne : p' ≠ p := fun z => q (S.dj _ _ _ _ p e e' m rfl hs (z ▸ z1))
          exact ⟨p', vs', rfl, g.n p' q2 (some_ne q4) (keep_lst (g.h p' _ ne q4)), q3, g.h p' _ ne q4, DpAll.up g.f _ _ q5⟩
  · have back : ∀ {i' : Nat} {t' : Slo}, (r.set k (t.with es))[i']? = some t' → t'.mut = true → ∃ t0, r[i']? = some t0 ∧ t0.mut = true := fun {i' t'} e m' => by
      by_cases q : k = i'
      · subst q
        exact ⟨t, by assumption, m⟩
      · rw [List.getElem?_set_ne q] at e
        exact ⟨t', e, m'⟩
    obtain ⟨t0, a1, a2⟩ := back e1 m1
    obtain ⟨u0, b1, b2⟩ := back e2 m2
    exact S.dj _ _ _ _ p' a1 b1 a2 b2 s1 s2
/-! ### effects in expressions -/
/-- e is evaluated; what comes of it, and what the slots then hold, P tells -/
def Ev (K : PySem.W.Frag) (te : TE) (r : List Slo) (P : PyData → List Slo → Prop) : Prop := ∀ M F0 H0 s F H, Sta K M F0 H0 r s F H → ∀ Q : VK, (∀ v d r' F2 H2, P d r' → Same F F2 → Sta K M F0 H0 r' s F2 H2 → Dp K F2 v d → Q v H2) → te s H Q
def Evb (K : PySem.W.Frag) (tt : TT) (r : List Slo) (P : Bool → List Slo → Prop) : Prop := ∀ M F0 H0 s F H, Sta K M F0 H0 r s F H → ∀ Q : Bool → Hp → Prop, (∀ b r' F2 H2, P b r' → Same F F2 → Sta K M F0 H0 r' s F2 H2 → Q b H2) → tt s H Q
def Eva (K : PySem.W.Frag) (t : TA) (r : List Slo) (P : List PyData → List Slo → Prop) : Prop := ∀ M F0 H0 s F H, Sta K M F0 H0 r s F H → ∀ Q : List V → Hp → Prop, (∀ vs ds r' F2 H2, P ds r' → Same F F2 → Sta K M F0 H0 r' s F2 H2 → DpAll K F2 vs ds → Q vs H2) → t s H Q
variable {P P' : PyData → List Slo → Prop} {B B' : Bool → List Slo → Prop}
theorem ev_of (h : Ef K te r d) (q : P d r) : Ev K te r P := fun M F0 H0 s F H S Q k => h _ _ _ _ _ _ S Q fun v F2 H2 g a => k v d r F2 H2 q g.f (S.grow g) a
theorem evb_of {b : Bool} (h : Eb K tt r b) (q : B b r) : Evb K tt r B := fun M F0 H0 s F H S Q k => h _ _ _ _ _ _ S Q fun F2 H2 g => k b r F2 H2 q g.f (S.grow g)
theorem ev_I0 {g : Int → Int → Int} (ha : Ev K ta r P') (hb : ∀ d r', P' d r' → ∃ i, d = .int i ∧ Ev K tb r' fun e r2 => ∃ j, e = .int j ∧ P (.int (g i j)) r2) : Ev K (tOp (rI0 fun i j => .int (g i j)) ta tb) r P := by
  intro M F0 H0 s F H S Q k
  refine ha _ _ _ _ _ _ S _ fun v d r' F1 H1 p f1 S1 dv => ?_
  obtain ⟨i, rfl, hb⟩ := hb d r' p
  refine hb _ _ _ _ _ _ S1 _ fun y e r2 F2 H2 p2 f2 S2 dy => ?_
  obtain ⟨j, rfl, p2⟩ := p2
  cases dv
  cases dy
  exact ⟨i, j, rfl, rfl, k _ _ r2 F2 H2 p2 (f1.trans f2) S2 (.int _)⟩
theorem ev_B0 {g : Int → Int → Bool} (ha : Ev K ta r P') (hb : ∀ d r', P' d r' → ∃ i, d = .int i ∧ Ev K tb r' fun e r2 => ∃ j, e = .int j ∧ P (.bool (g i j)) r2) : Ev K (tOp (rI0 fun i j => .bl (g i j)) ta tb) r P := by
  intro M F0 H0 s F H S Q k
  refine ha _ _ _ _ _ _ S _ fun v d r' F1 H1 p f1 S1 dv => ?_
  obtain ⟨i, rfl, hb⟩ := hb d r' p
  refine hb _ _ _ _ _ _ S1 _ fun y e r2 F2 H2 p2 f2 S2 dy => ?_
  obtain ⟨j, rfl, p2⟩ := p2
  cases dv
  cases dy
  exact ⟨i, j, rfl, rfl, k _ _ r2 F2 H2 p2 (f1.trans f2) S2 (.bl _)⟩
theorem evb_test (h : Ev K te r fun d r' => ∃ b, d = .bool b ∧ B b r') : Evb K (tTest te) r B := by
  intro M F0 H0 s F H S Q k
  refine h _ _ _ _ _ _ S _ fun v d r' F1 H1 p f1 S1 dv => ?_
  obtain ⟨b, rfl, p⟩ := p
  cases dv
  exact ⟨b, rfl, k b r' F1 H1 p f1 S1⟩
theorem evb_B (h : Ev K te r fun d r' => ∃ b, d = .bool b ∧ B b r') : Evb K (tB te) r B := by
  intro M F0 H0 s F H S Q k
  refine h _ _ _ _ _ _ S _ fun v d r' F1 H1 p f1 S1 dv => ?_
  obtain ⟨b, rfl, p⟩ := p
  cases dv
  exact ⟨b, rfl, k b r' F1 H1 p f1 S1⟩
theorem evb_not (h : Evb K tt r fun b r' => B (!b) r') : Evb K (tNot tt) r B := by
  intro M F0 H0 s F H S Q k
  exact h _ _ _ _ _ _ S _ fun b r' F1 H1 p f1 S1 => k _ r' F1 H1 p f1 S1
theorem evb_or (h : Evb K tt r B') (h1 : ∀ r', B' true r' → B true r') (h2 : ∀ r', B' false r' → Evb K tu r' B) : Evb K (tOr tt tu) r B := by
  intro M F0 H0 s F H S Q k
  refine h _ _ _ _ _ _ S _ fun b r' F1 H1 p f1 S1 => ?_
  cases b with
  | true => exact iteT (k true r' F1 H1 (h1 r' p) f1 S1)
  | false => exact iteF (h2 r' p _ _ _ _ _ _ S1 _ fun b r2 F2 H2 p2 f2 S2 => k b r2 F2 H2 p2 (f1.trans f2) S2)
theorem ev_if (h : Evb K tt r B) (h1 : ∀ r', B true r' → Ev K ta r' P) (h2 : ∀ r', B false r' → Ev K tb r' P) : Ev K (tIf tt ta tb) r P := by
  intro M F0 H0 s F H S Q k
  refine h _ _ _ _ _ _ S _ fun b r' F1 H1 p f1 S1 => ?_
  cases b with
  | true => exact iteT (h1 r' p _ _ _ _ _ _ S1 _ fun v d r2 F2 H2 p2 f2 S2 => k v d r2 F2 H2 p2 (f1.trans f2) S2)
  | false => exact iteF (h2 r' p _ _ _ _ _ _ S1 _ fun v d r2 F2 H2 p2 f2 S2 => k v d r2 F2 H2 p2 (f1.trans f2) S2)
theorem eva_nil {C : List PyData → List Slo → Prop} (q : C [] r) : Eva K tNil r C := fun M F0 H0 s F H S Q k => k [] [] r F H q (Same.refl _) S .nil
theorem eva_cons {C : List PyData → List Slo → Prop} {t : TA} (h : Ev K te r P) (ht : ∀ d r', P d r' → Eva K t r' fun ds r2 => C (d :: ds) r2) : Eva K (tCons te t) r C := by
  intro M F0 H0 s F H S Q k
  refine h _ _ _ _ _ _ S _ fun v d r' F1 H1 p f1 S1 dv => ?_
  refine ht d r' p _ _ _ _ _ _ S1 _ fun vs ds r2 F2 H2 p2 f2 S2 dvs => ?_
  exact k (v :: vs) (d :: ds) r2 F2 H2 p2 (f1.trans f2) S2 (.cons (Dp.up f2 _ _ dv) dvs)
theorem Sta.gi (S : Sta K M F0 H0 r s F H) : Same F H := S.i
theorem ev_tup {t : TA} (h : Eva K t r fun ds r' => ds.length ≤ 100000 ∧ P (.tuple ds) r') : Ev K (tTup t) r P := by
  intro M F0 H0 s F H S Q k
  refine h _ _ _ _ _ _ S _ fun vs ds r' F1 H1 p f1 S1 dv => ?_
  refine ⟨by rw [dv.len]; exact szOf p.1, fun q hq => ?_⟩
  have g2 : Grow F1 H1 _ _ := Grow.new (o := .tup vs) S1.i hq
  exact k _ _ r' _ _ p.2 (f1.trans g2.f) (S1.grow g2) (.tup (SqT.of upd_same) (DpAll.up g2.f _ _ dv))
theorem ev_call {pre : List PyData → PyData → Prop} {E : XK} {t1 : TA} (h : Eva K t1 r fun ds r' => ∃ d, pre ds d ∧ P d r') : Ev K (tCall (SpP K pre) [] E t1) r P := by
  intro M F0 H0 s F H S Q k
  refine h _ _ _ _ _ _ S _ fun vs ds r' F1 H1 p f1 S1 dv => ?_
  obtain ⟨d, p, q⟩ := p
  rw [List.append_nil]
  exact ⟨F1, ds, d, S1.i, dv, p, fun v F2 H2 g2 a => k v d r' F2 H2 q (f1.trans g2.f) (S1.grow g2) a⟩
/-! ### a list given to be changed -/
/-- arguments: frozen data, and the list in slot k -/
def AOk (K : PySem.W.Frag) (F : Hp) (p : Addr) (es : List PyData) : List V → List Slo → Prop
  | [], [] => True
  | v :: vs, .fz d :: ks => Dp K F v d ∧ AOk K F p es vs ks
  | v :: vs, .pm es' :: ks => v = .ref p ∧ es' = es ∧ AOk K F p es vs ks
  | _, _ => False
theorem AOk.up {p : Addr} (g : Same F F2) : ∀ {vs : List V} {ks : List Slo}, AOk K F p es vs ks → AOk K F2 p es vs ks
  | [], [], _ => trivial
  | v :: vs, .fz d :: ks, h => ⟨Dp.up g _ _ h.1, AOk.up g h.2⟩
  | v :: vs, .pm es' :: ks, h => ⟨h.1, h.2.1, AOk.up g h.2.2⟩
theorem AOk.len {p : Addr} : ∀ {vs : List V} {ks : List Slo}, AOk K F p es vs ks → vs.length = ks.length
  | [], [], _ => rfl
  | v :: vs, .fz d :: ks, h => congrArg (· + 1) (AOk.len h.2)
  | v :: vs, .pm es' :: ks, h => congrArg (· + 1) (AOk.len h.2.2)
theorem AOk.get {p : Addr} : ∀ {vs : List V} {ks : List Slo} {m : Nat} {t : Slo}, AOk K F p es vs ks → ks[m]? = some t → (∃ d v, t = .fz d ∧ vs[m]? = some v ∧ Dp K F v d) ∨ (t = .pm es ∧ vs[m]? = some (.ref p))
  | [], [], _, _, _, e => by simp at e
  | v :: vs, .fz d :: ks, 0, t, h, e => by simp at e; subst e; exact .inl ⟨d, v, rfl, rfl, h.1⟩
  | v :: vs, .fz d :: ks, m + 1, t, h, e => AOk.get (vs := vs) h.2 (by simpa using e)
  | v :: vs, .pm es' :: ks, 0, t, h, e => by simp at e; subst e; exact .inr ⟨by rw [h.2.1], by rw [h.1]; rfl⟩
  | v :: vs, .pm es' :: ks, m + 1, t, h, e => AOk.get (vs := vs) h.2.2 (by simpa using e)
/-- a def that changes the list at its argument m -/
def SpM {ι : Type} (K : PySem.W.Frag) (m : Nat) (pre : ι → List Slo → Prop) (post : ι → PyData → List PyData → Prop) : Sp := fun vs H Q _ => ∃ x F ks es p ws, Same F H ∧ F p = none ∧ H p = some (.lst ws) ∧ DpAll K F ws es ∧ AOk K F p es vs ks ∧
  ks[m]? = some (.pm es) ∧ (∀ i, ks[i]? = some (.pm es) → i = m) ∧ pre x ks ∧ ∀ v d es' ws' F2 H2, post x d es' → GrowM p F H F2 H2 → H2 p = some (.lst ws') → DpAll K F2 ws' es' → Dp K F2 v d → Q v H2
def Egm (K : PySem.W.Frag) (ta : TA) (r : List Slo) (k : Nat) (ks : List Slo) : Prop := ∀ M F0 H0 s F H, Sta K M F0 H0 r s F H → ∀ t, r[k]? = some t → t.mut = true → ∀ p, s[k]? = some (some (.ref p)) → ∀ Q : List V → Hp → Prop, (∀ vs F2 H2, Grow F H F2 H2 → AOk K F2 p t.its vs ks → Q vs H2) → ta s H Q
theorem egm_nil {k : Nat} : Egm K tNil r k [] := fun M F0 H0 s F H S t _ _ p _ Q q => q [] F H (Grow.refl S.i) trivial
theorem egm_fz {k : Nat} {ks : List Slo} {ta : TA} (h : Ef K te r d) (ht : Egm K ta r k ks) : Egm K (tCons te ta) r k (.fz d :: ks) := by
  intro M F0 H0 s F H S t e m p hp Q q
  refine h _ _ _ _ _ _ S _ fun v F1 H1 g1 dv => ?_
  refine ht _ _ _ _ _ _ (S.grow g1) t e m p hp _ fun vs F2 H2 g2 a => ?_
  exact q (v :: vs) F2 H2 (g1.trans g2) ⟨Dp.up g2.f _ _ dv, a⟩
theorem egm_pm {k : Nat} {ks : List Slo} {ta : TA} {t : Slo} (e : r[k]? = some t) (ht : Egm K ta r k ks) : Egm K (tCons (tVar k) ta) r k (.pm t.its :: ks) := by
  intro M F0 H0 s F H S t' e' m p hp Q q
  rw [e] at e'
  cases e'
  refine ⟨.ref p, hp, ?_⟩
  refine ht _ _ _ _ _ _ S t e m p hp _ fun vs F2 H2 g2 a => ?_
  exact q (.ref p :: vs) F2 H2 g2 ⟨rfl, rfl, a⟩
theorem ev_callM {ι : Type} {k m : Nat} {t : Slo} {ks : List Slo} {pre : ι → List Slo → Prop} {post : ι → PyData → List PyData → Prop} {E : XK} {t1 : TA} (x : ι) (e : r[k]? = some t) (mt : t.mut = true) (h : Egm K t1 r k ks) (hm : ks[m]? = some (.pm t.its)) (hu : ∀ i, ks[i]? = some (.pm t.its) → i = m) (hp : pre x ks) (hq : ∀ d es, post x d es → P d (r.set k (t.with es))) : Ev K (tCall (SpM K m pre post) [] E t1) r P := by
  intro M F0 H0 s F H S Q q
  obtain ⟨p, ws, h1, h2, h3, h4, h5⟩ := S.mutP e mt
  refine h _ _ _ _ _ _ S t e mt p h1 _ fun vs F1 H1 g1 a => ?_
  rw [List.append_nil]
  have S1 := S.grow g1
  obtain ⟨p', ws', k1, k2, k3, k4, _⟩ := S1.mutP e mt
  rw [h1] at k1
  cases k1
  exact ⟨x, F1, ks, _, p, ws', g1.i, k2, k3, k4, a, hm, hu, hp, fun v d es' ws2 F2 H2 po g hp2 dv2 dv => q v d _ F2 H2 (hq d es' po) (g1.f.trans g.f) (S1.growM e mt h1 g hp2 dv2) dv⟩
/-! ### statements -/
theorem sd_setV {k : Nat} (h : Ev K te r fun d r' => A.nx (r'.set k (.fz d))) : Sd K (tAsg te (gName k)) r A := fun M F0 H0 s F H D S W =>
  h _ _ _ _ _ _ S _ fun v d r' F2 H2 p f S2 a => W.nx _ _ F2 H2 p (S2.setF a)
theorem sd_retV (h : Ev K te r fun d r' => A.rt d r') : Sd K (tRet te) r A := fun M F0 H0 s F H D S W =>
  h _ _ _ _ _ _ S _ fun v d r' F2 H2 p f S2 a => W.rt _ _ _ _ F2 H2 p S2 a
theorem sd_ifV (h : Evb K tt r fun b r' => if b = true then Sd K t r' A else Sd K u r' A) : Sd K (tIfS tt t u) r A := fun M F0 H0 s F H D S W =>
  h _ _ _ _ _ _ S _ fun b r' F2 H2 p f S2 => by
    cases b with
    | true => exact iteT (p _ _ _ _ _ _ _ S2 W)
    | false => exact iteF (p _ _ _ _ _ _ _ S2 W)
end
/-- slots at the entry of a def that is given a list to change -/
def rhoK (n : Nat) (ks : List Slo) : List Slo := ks ++ List.replicate (n - ks.length) .no
theorem sta_startK {K : PySem.W.Frag} {F H : Hp} {N : List Str} {vs ws : List V} {ks : List Slo} {es : List PyData} {p : Addr} {m : Nat} (i : Same F H) (hf : F p = none) (hp : H p = some (.lst ws)) (hw : DpAll K F ws es) (a : AOk K F p es vs ks) (hm : ks[m]? = some (.pm es)) (hu : ∀ i, ks[i]? = some (.pm es) → i = m) :
    Sta K (· = p) F H (rhoK N.length ks) (L2.start N vs) F H where
  f0 := Same.refl _
  i := i
  h0 := fun _ _ _ e => e
  hd := fun _ e => e
  n0 := fun _ e _ _ => e
  len := by
    unfold rhoK L2.start
    rw [List.length_append, List.length_append, List.length_map, List.length_replicate, List.length_replicate, a.len]
  sl := fun k t e => by
    unfold rhoK at e
    unfold L2.start
    by_cases hk : k < ks.length
    · rw [List.getElem?_append_left hk] at e
      rcases a.get e with ⟨d, v, rfl, h1, h2⟩ | ⟨rfl, h1⟩
      · refine .inr ⟨v, ?_, h2⟩
        rw [List.getElem?_append_left (by rw [List.length_map, a.len]; exact hk), List.getElem?_map, h1]
        rfl
      · refine .inr ⟨_, ?_, ⟨p, ws, rfl, hf, ⟨rfl, fun x z => by rw [hp] at z; cases z⟩, hp, hw⟩⟩
        rw [List.getElem?_append_left (by rw [List.length_map, a.len]; exact hk), List.getElem?_map, h1]
        rfl
    · rw [List.getElem?_append_right (by omega), List.getElem?_replicate] at e
      split at e
      · cases e
        exact .inl rfl
      · cases e
  dj := fun k l t u q e1 e2 m1 m2 _ _ => by
    have at_m : ∀ {k : Nat} {t : Slo}, (rhoK N.length ks)[k]? = some t → t.mut = true → k = m := fun {k t} e mt => by
      unfold rhoK at e
      by_cases hk : k < ks.length
      · rw [List.getElem?_append_left hk] at e
        rcases a.get e with ⟨d, v, rfl, h1, h2⟩ | ⟨rfl, h1⟩
        · cases mt
        · exact hu k e
      · rw [List.getElem?_append_right (by omega), List.getElem?_replicate] at e
        split at e
        · cases e; cases mt
        · cases e
    rw [at_m e1 m1, at_m e2 m2]
def outM (m : Nat) (post : PyData → List PyData → Prop) : Af := { nx := fun r => ∃ es, r[m]? = some (.pm es) ∧ post .none es, rt := fun d r => ∃ es, r[m]? = some (.pm es) ∧ post d es }
theorem Sta.grownM {K : PySem.W.Frag} {p : Addr} {F0 H0 F H : Hp} {r : List Slo} {s : L2.St} (S : Sta K (· = p) F0 H0 r s F H) : GrowM p F0 H0 F H := ⟨S.f0, S.i, fun b o e h => S.h0 b o e h, S.hd, S.n0⟩
/-- THE RULE of a def that changes the list it is given -/
theorem cl_pm {ι : Type} {P : Program} {w : World} {K : PySem.W.Frag} {mg : Str → Option Value} {base : Heap} {x : Str} {st : Stmt} {N ps : List Str} {k m : Nat} {pre : ι → List Slo → Prop} {post : ι → PyData → List PyData → Prop} (T : Ft K mg x st) (S : FnScope N ps (defScope st))
    (hb : ∀ (kV doc pm : Value) (an : Option Addr) (cdv ct : Value) (us : List Value), us.length = ps.length → bindArgs (PySem.W.fnOf x x (defArgs st) (defBody st) (defScope st) .none kV doc pm an cdv ct) ⟨us, []⟩ = pure (ps.zip us))
    (len : ∀ x ks, pre x ks → ks.length = ps.length)
    (body : ∀ (f : Addr) (cdv : Value) (A : Around) (outer : List Env) (s : Shared) (H : Hp) (E : XK), Room k (A.deeper (envOfC x (defScope st) s.heap.objs.size f cdv)) →
      ∃ t, PSs (cxOf L2.CX0 P w K mg base N x (defScope st) f cdv A outer s H E).nox (defBody st) t ∧ ∀ x ks, pre x ks → Sd K t (rhoK N.length ks) (outM m (post x))) : Cl P w K mg base (k + 1) x (SpM K m pre post) := by
  obtain ⟨f, fd, F, hm⟩ := T.ex
  refine ⟨f, fd, ps, F.ok S (fun vs H Q E h => ?_) (fun cdv A outer s H vs Q E hr h => ?_), hm, F.kp, F.binds hb⟩
  · obtain ⟨x, F, ks, es, p, ws, _, _, _, _, a, _, _, pk, _⟩ := h
    rw [a.len]
    exact len _ ks pk
  · obtain ⟨t, h1, h2⟩ := body f cdv A outer s H E hr
    obtain ⟨x, F, ks, es, p, ws, i, hf, hp, hw, a, hm, hu, pk, q⟩ := h
    have fin : ∀ {r : List Slo} {s' : L2.St} {F' H' : Hp} {es' : List PyData} {d : PyData} {v : V}, Sta K (· = p) F H r s' F' H' → r[m]? = some (.pm es') → post x d es' → Dp K F' v d → Q v H' := fun {r s' F' H' es' d v} S' e po dv => by
      obtain ⟨p', ws', _, q2, q3, q4, q5⟩ := S'.pm e
      have q3 : p' = p := q3.1
      subst q3
      exact q v d es' ws' F' H' po S'.grownM q4 q5 dv
    refine ⟨t, h1, h2 _ ks pk _ _ _ _ _ _ _ (sta_startK i hf hp hw a hm hu) ⟨fun r s' F' H' e S' => ?_, fun d' v r s' F' H' e S' dv => ?_, fun _ _ _ _ z => z.elim, fun _ _ _ _ z => z.elim⟩⟩
    · obtain ⟨es', e1, e2⟩ := e
      exact fin S' e1 e2 .non
    · obtain ⟨es', e1, e2⟩ := e
      exact fin S' e1 e2 dv
/-! ### objects beside the slots: what the base heap tells of them stands -/
section
variable {K : PySem.W.Frag} {M : Addr → Prop} {F0 H0 F H F2 H2 : Hp} {r : List Slo} {s : L2.St} {A : Af} {t u : TS} {D : Ends} {o : HO} {p : Addr}
/-- a new object joins the base -/
theorem Sta.join (S : Sta K M F0 H0 r s F H) (hp : H p = none) : Sta K M F0 (upd H0 p o) r s F (upd H p o) := by
  have hf : F p = none := S.i.free hp
  have ne : ∀ {b : Addr} {x : HO}, H b = some x → b ≠ p := fun {b x} e z => by rw [z, hp] at e; cases e
  refine ⟨S.f0, fun b x e => ?_, fun b x hb e => ?_, fun b e => ?_, fun b h1 h2 k => ?_, S.len, fun i t e => ?_, S.dj⟩
  · have := S.i b x e
    rw [upd_ne (ne this)]
    exact this
  · by_cases q : b = p
    · subst q
      rw [upd_same] at e ⊢
      exact e
    · rw [upd_ne q] at e ⊢
      exact S.h0 b x hb e
  · by_cases q : b = p
    · subst q
      rw [upd_same]
      exact fun z => by cases z
    · rw [upd_ne q] at e ⊢
      exact S.hd b e
  · by_cases q : b = p
    · subst q
      exact hf
    · rw [upd_ne q] at h2 k
      exact S.n0 b h1 h2 k
  · rcases S.sl i t e with z | ⟨v, h1, h2⟩
    · exact .inl z
    · refine .inr ⟨v, h1, ?_⟩
      cases t with
      | no => trivial
      | ad w => exact h2
      | dk C a dx pl D => exact ⟨h2.1, (h2.2.to (Same.refl _) (fun b hb => (h2.2.fa b hb).1) fun b hb x e => by rw [upd_ne (ne e)]; exact e).on fun b x mb e => by rw [upd_ne (fun z => S.hd b (some_ne e) (by rw [z]; exact hp))]; exact e⟩
      | fz d => exact h2
      | mu ds =>
        obtain ⟨q, vs, rfl, a, b, c, d⟩ := h2
        exact ⟨q, vs, rfl, a, by rw [upd_ne (ne c)]; exact b, by rw [upd_ne (ne c)]; exact c, d⟩
      | pm ds =>
        obtain ⟨q, vs, rfl, a, b, c, d⟩ := h2
        exact ⟨q, vs, rfl, a, ⟨b.1, fun x => by rw [upd_ne (ne c)]; exact b.2 x⟩, by rw [upd_ne (ne c)]; exact c, d⟩
/-- an object of the base is changed -/
theorem Sta.over (S : Sta K M F0 H0 r s F H) (hp : H0 p ≠ none) (hf : F p = none) (hm : ¬ M p) : Sta K M F0 (upd H0 p o) r s F (upd H p o) := by
  refine ⟨S.f0, fun b x e => ?_, fun b x hb e => ?_, fun b e => ?_, fun b h1 h2 k => ?_, S.len, fun i t e => ?_, S.dj⟩
  · rw [upd_ne (fun z => by rw [z, hf] at e; cases e)]
    exact S.i b x e
  · by_cases q : b = p
    · subst q
      rw [upd_same] at e ⊢
      exact e
    · rw [upd_ne q] at e ⊢
      exact S.h0 b x hb e
  · by_cases q : b = p
    · subst q
      rw [upd_same]
      exact fun z => by cases z
    · rw [upd_ne q] at e ⊢
      exact S.hd b e
  · by_cases q : b = p
    · subst q
      exact hf
    · rw [upd_ne q] at h2 k
      exact S.n0 b h1 h2 k
  · rcases S.sl i t e with z | ⟨v, h1, h2⟩
    · exact .inl z
    · refine .inr ⟨v, h1, ?_⟩
      cases t with
      | no => trivial
      | ad w => exact h2
      | dk C a dx pl D => exact ⟨h2.1, (h2.2.to (Same.refl _) (fun b hb => (h2.2.fa b hb).1) fun b hb x e => by rw [upd_ne (fun z => hm (by rw [← z]; exact (h2.2.fa b hb).2.1))]; exact e).on fun b x mb e => by rw [upd_ne (fun z => hm (by rw [← z]; exact mb))]; exact e⟩
      | fz d => exact h2
      | mu ds =>
        obtain ⟨q, vs, rfl, a, b, c, d⟩ := h2
        have ne : q ≠ p := fun z => hp (z ▸ b)
        exact ⟨q, vs, rfl, a, by rw [upd_ne ne]; exact b, by rw [upd_ne ne]; exact c, d⟩
      | pm ds =>
        obtain ⟨q, vs, rfl, a, b, c, d⟩ := h2
        have ne : q ≠ p := fun z => hm (z ▸ b.1)
        exact ⟨q, vs, rfl, a, ⟨b.1, fun x => by rw [upd_ne ne]; exact b.2 x⟩, by rw [upd_ne ne]; exact c, d⟩
/-- back to an earlier base -/
theorem Sta.back {H1 : Hp} (S : Sta K M F0 H1 r s F H) (h : ∀ b, H0 b ≠ none → H1 b = H0 b) (hm : ∀ b, M b → H1 b = H0 b) : Sta K M F0 H0 r s F H := by
  refine ⟨S.f0, S.i, fun b x hb e => S.h0 b x hb (by rw [h b (some_ne e)]; exact e), fun b e => S.hd b (by rw [h b e]; exact e), fun b h1 h2 k => S.n0 b h1 (by rw [h b h2]; exact h2) k, S.len, fun i t e => ?_, S.dj⟩
  rcases S.sl i t e with z | ⟨v, h1, h2⟩
  · exact .inl z
  · refine .inr ⟨v, h1, ?_⟩
    cases t with
    | no => trivial
    | ad w => exact h2
    | dk C a dx pl D => exact ⟨h2.1, h2.2.on fun b x mb e => by rw [← hm b mb]; exact e⟩
    | fz d => exact h2
    | mu ds =>
      obtain ⟨q, vs, rfl, a, b, c, d⟩ := h2
      refine ⟨q, vs, rfl, a, ?_, c, d⟩
      cases z : H0 q with
      | none => rfl
      | some x => rw [h q (some_ne z), z] at b; cases b
    | pm ds =>
      obtain ⟨q, vs, rfl, a, b, c, d⟩ := h2
      exact ⟨q, vs, rfl, a, ⟨b.1, fun x => by rw [← hm q b.1]; exact b.2 x⟩, c, d⟩
/-- a statement run in a raw proof -/
theorem run_seq {B : Af} (S : Sta K M F0 H0 r s F H) (h : Sd K t r B) (hn : ∀ r' s' F' H', B.nx r' → Sta K M F0 H0 r' s' F' H' → u D s' H') (hr : ∀ d v r' s' F' H', B.rt d r' → Sta K M F0 H0 r' s' F' H' → Dp K F' v d → D.rt v H') (hk : ∀ r' s' F' H', B.bk r' → Sta K M F0 H0 r' s' F' H' → D.bk s' H') (hc : ∀ r' s' F' H', B.ct r' → Sta K M F0 H0 r' s' F' H' → D.ct s' H') : tSeq t u D s H :=
  h _ _ _ _ _ _ { D with nx := u D } S ⟨hn, hr, hk, hc⟩
/-- .. one that only goes on -/
theorem run_nx {N : List Slo → Prop} (S : Sta K M F0 H0 r s F H) (h : Sd K t r { nx := N }) (hn : ∀ r' s' F' H', N r' → Sta K M F0 H0 r' s' F' H' → u D s' H') : tSeq t u D s H :=
  run_seq S h hn (fun _ _ _ _ _ _ z => z.elim) (fun _ _ _ _ z => z.elim) (fun _ _ _ _ z => z.elim)
end
end Tm
set_option maxRecDepth 100000
set_option maxHeartbeats 4000000
/-! More rules: membership in a tuple of data, minus, dict displays, sorted data. -/
namespace Tm
open PySem PySem.Spec PyProof.Rows L2
/-! ### x in t, t a tuple of data -/
def rInT (K : PySem.W.Frag) (neg : Bool) : R2 := fun x y H Q => ∃ d ds, Dp K H x d ∧ Dp K H y (.tuple ds) ∧ SeqAt.shaped d = true ∧ SeqAt.shaped (.tuple ds) = true ∧ Q (.bl (if neg then !ds.any fun z => PyData.eqv z d else ds.any fun z => PyData.eqv z d)) H
theorem op_inT {X : Cx} (hu : X.A.units + 65 < cLine) : OpR X (compareOp .In) (rInT X.K false) := fun pins s σ H x y v u Q I rx ry h => by
  obtain ⟨d, ds, hd, he, sd, se, q⟩ := h
  obtain ⟨_, r1⟩ := Dp.reads I d x v hd rx
  obtain ⟨_, r2⟩ := Dp.reads I (.tuple ds) y u he ry
  exact SeqAt.in_tuple_reads r2 r1 (SeqAt.canLay_of_shaped se) (SeqAt.canLay_of_shaped sd) (room_in_shaped sd hu) ⟨.bl _, H, I, rfl, q⟩
theorem op_niT {X : Cx} (hu : X.A.units + 65 < cLine) : OpR X (compareOp .NotIn) (rInT X.K true) := fun pins s σ H x y v u Q I rx ry h => by
  obtain ⟨d, ds, hd, he, sd, se, q⟩ := h
  obtain ⟨_, r1⟩ := Dp.reads I d x v hd rx
  obtain ⟨_, r2⟩ := Dp.reads I (.tuple ds) y u he ry
  exact SeqAt.notIn_tuple_reads r2 r1 (SeqAt.canLay_of_shaped se) (SeqAt.canLay_of_shaped sd) (room_in_shaped sd hu) ⟨.bl _, H, I, rfl, q⟩
section
variable {X : Cx} (K : PySem.W.Frag) (e : X.K = K)
include e
theorem k_inT (hu : X.A.units + 65 < cLine) : OpR X (compareOp .In) (rInT K false) := e ▸ op_inT hu
theorem k_niT (hu : X.A.units + 65 < cLine) : OpR X (compareOp .NotIn) (rInT K true) := e ▸ op_niT hu
end
section
variable {K : PySem.W.Frag} {M : Addr → Prop} {F0 H0 F H F2 H2 : Hp} {r : List Slo} {s : L2.St} {te ta tb tc : TE} {tt tu : TT} {d e d1 d2 : PyData} {ds es : List PyData} {A : Af} {t u : TS} {i j : Int}
theorem ef_inTD {neg : Bool} (ha : Er K ta r d) (hb : Ef K tb r (.tuple ds)) (h1 : SeqAt.shaped d = true) (h2 : SeqAt.shaped (.tuple ds) = true) : Ef K (tOp (rInT K neg) ta tb) r (.bool (if neg then !ds.any fun z => PyData.eqv z d else ds.any fun z => PyData.eqv z d)) :=
  er_op ha hb.er fun x y H dx dy Q q => ⟨d, ds, dx, dy, h1, h2, q _ (.bl _)⟩
theorem ef_neg (h : Ef K te r (.int i)) : Ef K (tUn (rU fun i => .int (-i)) te) r (.int (-i)) := by
  intro M F0 H0 s F H S Q q
  refine h _ _ _ _ _ _ S _ fun v F1 H1 g1 dv => ?_
  cases dv
  exact ⟨i, rfl, q _ F1 H1 g1 (.int _)⟩
/-! ### {k: v, ..}, keys whole numbers, values scalars -/
def Edp (K : PySem.W.Frag) (trs : List (TE × TE)) (r : List Slo) (kvs : List (Int × PyData)) : Prop := ∀ M F0 H0 s F H, Sta K M F0 H0 r s F H → ∀ Q : List (V × V) → Hp → Prop, (∀ F2 H2, Grow F H F2 H2 → Q (kvs.map fun kv => (V.int kv.1, toV kv.2)) H2) → tPairs trs s H Q
theorem edp_nil : Edp K [] r [] := fun M F0 H0 s F H S Q q => q F H (Grow.refl S.i)
theorem edp_cons {trs : List (TE × TE)} {kvs : List (Int × PyData)} (hk : Ef K ta r (.int i)) (hv : Ef K tb r d) (hd : scaD d = true) (h : Edp K trs r kvs) : Edp K ((ta, tb) :: trs) r ((i, d) :: kvs) := by
  intro M F0 H0 s F H S Q q
  refine hk _ _ _ _ _ _ S _ fun x F1 H1 g1 dx => ?_
  refine hv _ _ _ _ _ _ (S.grow g1) _ fun y F2 H2 g2 dy => ?_
  refine h _ _ _ _ _ _ ((S.grow g1).grow g2) _ fun F3 H3 g3 => ?_
  cases dx
  have e := toV_of dy hd
  subst e
  exact q F3 H3 ((g1.trans g2).trans g3)
def keyed (kvs : List (Int × PyData)) : List (Key × V) := kvs.map fun kv => (Sum.inl kv.1, toV kv.2)
/-- a new dict -/
def End (K : PySem.W.Frag) (te : TE) (r : List Slo) (kvs : List (Key × V)) : Prop := ∀ M F0 H0 s F H, Sta K M F0 H0 r s F H → ∀ Q : VK, (∀ p F2 H2, Grow F H F2 H2 → H p = none → F2 p = none → H2 p = some (.dK kvs) → Q (.ref p) H2) → te s H Q
theorem end_disp {trs : List (TE × TE)} {kvs : List (Int × PyData)} (h : Edp K trs r kvs) (hl : kvs.length ≤ 15) : End K (tDisp trs) r (mergeK [] (keyed kvs)) := by
  intro M F0 H0 s F H S Q q p hp
  have g1 : Grow F H F (upd H p (.dK [])) := Grow.newM S.i hp
  have hf : F p = none := S.i.free hp
  refine h _ _ _ _ _ _ (S.grow g1) _ fun F2 H2 g2 => ?_
  have h2p : H2 p = some (.dK []) := g2.h _ _ upd_same
  have f2p : F2 p = none := g2.n p hf ⟨_, upd_same, fun _ z => by cases z⟩
  refine ⟨h2p, keyed kvs, ?_, by unfold keyed; rw [List.length_map]; exact hl, ?_⟩
  · unfold keyed
    rw [List.map_map]
    rfl
  · refine q p F2 _ ⟨g2.f, ?_, ?_, ?_⟩ hp f2p upd_same
    · intro b o eb
      rw [upd_ne (fun z => by rw [z, f2p] at eb; cases eb)]
      exact g2.i b o eb
    · intro b o eb
      rw [upd_ne (fun z => by rw [z, hp] at eb; cases eb)]
      exact g2.h b o (by rw [upd_ne (fun z => by rw [z, hp] at eb; cases eb)]; exact eb)
    · intro b e1 e2
      refine g2.n b e1 ?_
      by_cases z : b = p
      · rw [z]; exact ⟨_, upd_same, fun _ z => by cases z⟩
      · rw [upd_ne z]; exact e2
/-- {..}[k] -/
theorem ef_dget {kvs : List (Key × V)} (h : End K ta r kvs) (hk : Ef K tb r (.int i)) (hv : valV kvs (Sum.inl i) = some (toV d)) (hd : scaD d = true) : Ef K (tDGet ta tb) r d := by
  intro M F0 H0 s F H S Q q
  refine h _ _ _ _ _ _ S _ fun p F1 H1 g1 hp hf hh => ?_
  refine hk _ _ _ _ _ _ (S.grow g1) _ fun y F2 H2 g2 dy => ?_
  cases dy
  refine ⟨p, toV d, rfl, ?_, q _ F2 H2 (g1.trans g2) ?_⟩
  · rw [← hv]
    exact DGet.k (k := Sum.inl i) (g2.h _ _ hh)
  · cases d with
    | none => exact .non
    | bool b => exact .bl b
    | int i => exact .int i
    | str x => exact .str x
    | list _ => cases hd
    | tuple _ => cases hd
    | dict _ => cases hd
theorem toV_dp {F : Hp} (hd : scaD d = true) : Dp K F (toV d) d := by
  cases d with
  | none => exact .non
  | bool b => exact .bl b
  | int i => exact .int i
  | str x => exact .str x
  | list _ => cases hd
  | tuple _ => cases hd
  | dict _ => cases hd
/-- {..}.get(k, x) -/
theorem ef_dget2 {kvs : List (Key × V)} (h : End K ta r kvs) (hk : Ef K tb r (.int i)) (hx : Ef K tc r e) (he : scaD e = true) (hv : (valV kvs (Sum.inl i)).getD (toV e) = toV d) (hd : scaD d = true) : Ef K (tDGet2 ta tb tc) r d := by
  intro M F0 H0 s F H S Q q
  refine h _ _ _ _ _ _ S _ fun p F1 H1 g1 hp hf hh => ?_
  refine ⟨p, rfl, .inl ⟨_, .inl hh⟩, ?_⟩
  refine hk _ _ _ _ _ _ (S.grow g1) _ fun y F2 H2 g2 dy => ?_
  refine hx _ _ _ _ _ _ ((S.grow g1).grow g2) _ fun z F3 H3 g3 dz => ?_
  cases dy
  have ez := toV_of dz he
  subst ez
  refine ⟨valV kvs (Sum.inl i), DGet.k (k := Sum.inl i) ((g2.trans g3).h _ _ hh), ?_⟩
  rw [hv]
  exact q _ F3 H3 ((g1.trans g2).trans g3) (toV_dp hd)
/-! ### sorted(xs), data that are alike -/
def rSortedD (K : PySem.W.Frag) : List V → Hp → VK → Prop := fun vs H Q => ∃ (β : Type) (enc : β → PyData) (val : β → V) (a : Addr) (bs : List β), vs = [.ref a] ∧ SqL K H a (bs.map val) ∧ (∀ b, b ∈ bs → Dp K H (val b) (enc b)) ∧
  PySem.W.AllAlike (bs.map enc) ∧ PySem.W.Sortable (bs.map enc) ∧ bs.length ≤ 100000 ∧ (∀ b, b ∈ bs → (enc b).depth ≤ 8) ∧ ∀ p, H p = none → Q (.ref p) (upd H p (.lst ((bs.mergeSort (PySem.W.dataLe false enc)).map val)))
end
theorem each_rel {β : Type} {val : β → V} : ∀ {bs : List β} {us : List Value}, Vals (bs.map val) us → PySem.W.EachIs (fun u b => RelV (val b) u) us bs
  | [], _, h => by
    cases h
    exact .nil
  | b :: bs, _, h => by
    cases h with
    | cons a t => exact .cons a (each_rel t)
theorem rel_each {β : Type} {val : β → V} : ∀ {bs : List β} {us : List Value}, PySem.W.EachIs (fun u b => RelV (val b) u) us bs → Vals (bs.map val) us
  | _, _, .nil => .nil
  | _, _, .cons a t => .cons a (rel_each t)
theorem each_reads {X : Cx} {pins : List (Addr × Obj)} {σ : L2.St} {H : Hp} {s : Shared} (I : Inv X pins σ H s) {β : Type} {val : β → V} {enc : β → PyData} : ∀ {bs : List β} {us : List Value}, Vals (bs.map val) us → (∀ b, b ∈ bs → Dp X.K H (val b) (enc b)) → PySem.W.EachIs (fun u b => ∃ as, Reads s.heap u (enc b) as) us bs
  | [], _, h, _ => by
    cases h
    exact .nil
  | b :: bs, _, h, hd => by
    cases h with
    | cons a t => exact .cons (Dp.reads I _ _ _ (hd b (by simp)) a) (each_reads I t fun c hc => hd c (List.mem_cons_of_mem _ hc))
theorem cr_sortedD {X : Cx} (hu : X.A.units + 64 < cLine) : CallR X (.builtin "sorted") (rSortedD X.K) := fun pins s σ H vs us Q I r h => by
  obtain ⟨β, enc, val, a, bs, rfl, hs, hd, hal, hk, hl, hdep, q⟩ := h
  obtain ⟨its, rv, li, hz⟩ := I.list hs
  obtain ⟨u, rfl, ru⟩ := vals1 r
  obtain rfl : u = Value.ref a := ru
  refine PySem.W.sorted_data (R := fun u b => RelV (val b) u) li.isList (each_rel rv) (each_reads I rv hd) hal hk (szOf hl) (fun b hb => ?_) fun out ho he => ?_
  · have := hdep b hb
    show X.A.units + 2 + (enc b).depth < cLine
    omega
  · obtain ⟨c, hc⟩ := sortedAll_at s.heap its (List.toArray out)
    refine ⟨.ref (s.heap.objs.size + 1), upd H (s.heap.objs.size + 1) (.lst ((bs.mergeSort (PySem.W.dataLe false enc)).map val)), I.laid (t' := s.toks) (fun _ _ z => sortedAll_old z) (Nat.le_succ _) ⟨?_, out, c, rel_each he, hc⟩, rfl, q _ (I.hok.fresh (Nat.le_succ _))⟩
    rw [List.length_map, List.length_mergeSort]
    exact szOf hl
theorem k_sortedD {X : Cx} (K : PySem.W.Frag) (e : X.K = K) (hu : X.A.units + 64 < cLine) : CallR X (.builtin "sorted") (rSortedD K) := e ▸ cr_sortedD hu
/-- a new list, one of some -/
def Enx (K : PySem.W.Frag) (te : TE) (r : List Slo) (P : List PyData → Prop) : Prop := ∀ M F0 H0 s F H, Sta K M F0 H0 r s F H → ∀ Q : VK, (∀ p vs ds F2 H2, P ds → Grow F H F2 H2 → H p = none → F2 p = none → H2 p = some (.lst vs) → DpAll K F2 vs ds → Q (.ref p) H2) → te s H Q
theorem zip_vals {K : PySem.W.Frag} {F : Hp} {β : Type} {enc : β → PyData} : ∀ {vs : List V} {bs : List β}, DpAll K F vs (bs.map enc) → ∃ zs : List (V × β), zs.map (·.1) = vs ∧ zs.map (·.2) = bs ∧ ∀ z, z ∈ zs → Dp K F z.1 (enc z.2)
  | [], [], _ => ⟨[], rfl, rfl, fun z hz => by cases hz⟩
  | [], _ :: _, h => by cases h
  | _ :: _, [], h => by cases h
  | v :: vs, b :: bs, h => by
    cases h with
    | cons a t =>
      obtain ⟨zs, h1, h2, h3⟩ := zip_vals t
      exact ⟨(v, b) :: zs, by rw [List.map_cons, h1], by rw [List.map_cons, h2], fun z hz => by
        rcases List.mem_cons.mp hz with e | e
        · rw [e]; exact a
        · exact h3 z e⟩
theorem dp_vals {K : PySem.W.Frag} {F : Hp} {β : Type} {enc : β → PyData} : ∀ {zs : List (V × β)}, (∀ z, z ∈ zs → Dp K F z.1 (enc z.2)) → DpAll K F (zs.map (·.1)) (zs.map fun z => enc z.2)
  | [], _ => .nil
  | z :: zs, h => .cons (h z (by simp)) (dp_vals fun y hy => h y (List.mem_cons_of_mem _ hy))
theorem enx_sorted {K : PySem.W.Frag} {r : List Slo} {te : TE} {β : Type} {enc : β → PyData} {bs : List β} (h : El K te r (bs.map enc)) (hal : PySem.W.AllAlike (bs.map enc)) (hk : PySem.W.Sortable (bs.map enc)) (hl : bs.length ≤ 100000) (hd : ∀ b, b ∈ bs → (enc b).depth ≤ 8) :
    Enx K (tCB (rSortedD K) (tCons te tNil)) r (fun ds => ∃ out : List β, ds = out.map enc ∧ out.Perm bs ∧ ∀ le : β → β → Bool, (∀ a b, PySem.W.dataLe false enc a b = le a b) → (∀ a b c, le a b = true → le b c = true → le a c = true) → (∀ a b, (le a b || le b a) = true) → out.Pairwise fun a b => le a b = true) := by
  intro M F0 H0 s F H S Q q
  refine h _ _ _ _ _ _ S _ fun p vs F2 H2 g sq dv => ?_
  obtain ⟨zs, h1, h2, h3⟩ := zip_vals dv
  have e1 : zs.map (fun z => enc z.2) = bs.map enc := by rw [← h2, List.map_map]; rfl
  refine ⟨V × β, fun z => enc z.2, fun z => z.1, p, zs, rfl, by rw [h1]; exact sq, fun z hz => Dp.up g.i _ _ (h3 z hz), by rw [e1]; exact hal, by rw [e1]; exact hk, ?_, fun z hz => hd _ (by rw [← h2]; exact List.mem_map_of_mem hz), fun p' hp' => ?_⟩
  · have := congrArg List.length h2
    rw [List.length_map] at this
    omega
  · have perm : (zs.mergeSort (PySem.W.dataLe false fun z : V × β => enc z.2)).Perm zs := List.mergeSort_perm _ _
    refine q p' _ ((zs.mergeSort (PySem.W.dataLe false fun z : V × β => enc z.2)).map fun z => enc z.2) F2 _ ⟨(zs.mergeSort (PySem.W.dataLe false fun z : V × β => enc z.2)).map (·.2), ?_, ?_, fun le hle tr to => ?_⟩ (g.trans (Grow.newM g.i hp')) (g.h.free hp') (g.i.free hp') upd_same (dp_vals fun z hz => h3 z (perm.mem_iff.mp hz))
    · rw [List.map_map]; rfl
    · rw [← h2]; exact perm.map _
    · rw [List.pairwise_map]
      have e : (PySem.W.dataLe false fun z : V × β => enc z.2) = fun a b : V × β => le a.2 b.2 := by
        funext a b
        rw [← hle]
        rfl
      rw [e]
      exact List.pairwise_mergeSort (fun a b c => tr a.2 b.2 c.2) (fun a b => to a.2 b.2) zs
end Tm
namespace Tm
open PySem L2
theorem hu65 {k : Nat} {A : Around} (r : Room k A) : A.units + 65 < cLine := by have := r.un; omega
theorem hu1 {k : Nat} {A : Around} (r : Room k A) : A.units + 1 < cLine := by have := r.un; omega
end Tm
set_option maxRecDepth 100000
set_option maxHeartbeats 4000000
/-! Rules for the draws and for dicts. -/
namespace Tm
open PySem PySem.Spec PyProof.Rows L2
section
variable {K : PySem.W.Frag} {M : Addr → Prop} {F0 H0 F H F2 H2 : Hp} {r : List Slo} {s : L2.St} {te ta tb tc : TE} {tt tu : TT} {d e d1 d2 : PyData} {ds es : List PyData} {A : Af} {t u : TS} {i j : Int} {P P' : PyData → List Slo → Prop} {rr : R2}
theorem ev_op (ha : Ef K ta r d1) (hb : Ev K tb r fun d2 r' => ∃ d, P d r' ∧ ∀ x y F H, Same F H → Dp K F x d1 → Dp K F y d2 → ∀ Q : VK, (∀ v F2 H2, Grow F H F2 H2 → Dp K F2 v d → Q v H2) → rr x y H Q) : Ev K (tOp rr ta tb) r P := by
  intro M F0 H0 s F H S Q q
  refine ha _ _ _ _ _ _ S _ fun x F1 H1 g1 dx => ?_
  refine hb _ _ _ _ _ _ (S.grow g1) _ fun y d2 r' F2 H2 p f2 S2 dy => ?_
  obtain ⟨d, p, h⟩ := p
  exact h x y F2 H2 S2.i (Dp.up f2 _ _ dx) dy Q fun v F3 H3 g3 dv => q v d r' F3 H3 p ((g1.f.trans f2).trans g3.f) (S2.grow g3) dv
/-- xs[e], e with an effect -/
theorem ev_ixL (ha : Ef K ta r (.list ds)) (hb : Ev K tb r fun d2 r' => ∃ i d, d2 = .int i ∧ atI ds i = some d ∧ P d r') : Ev K (tOp (rIxL K) ta tb) r P := by
  intro M F0 H0 s F H S Q q
  refine ha _ _ _ _ _ _ S _ fun x F1 H1 g1 dx => ?_
  refine hb _ _ _ _ _ _ (S.grow g1) _ fun y d2 r' F2 H2 p f2 S2 dy => ?_
  obtain ⟨i, d, rfl, ha, p⟩ := p
  cases dy
  cases Dp.up f2 _ _ dx with
  | @lst a vs _ sq dv =>
    unfold atI at ha
    cases ex : ixN ds.length i with
    | none => rw [ex] at ha; cases ha
    | some k =>
      rw [ex] at ha
      obtain ⟨v, h1, h2⟩ := dv.get (show ds[k]? = some d from ha)
      refine ⟨a, vs, i, v, rfl, rfl, sl_up S2.i sq, ?_, q v d r' F2 H2 p (g1.f.trans f2) S2 h2⟩
      unfold atI
      rw [dv.len, ex]
      exact h1
theorem sd_par2E {tn : TE} {i j : Nat} (h : Ev K te r P) (hn : ∀ d r', P d r' → En K tn r' ds ∧ A.nx ((r'.set i (.fz d)).set j (.mu ds))) : Sd K (tPar i j (tCons te (tCons tn tNil))) r A := fun M F0 H0 s F H D S W => by
  refine h _ _ _ _ _ _ S _ fun v d r' F1 H1 p f1 S1 dv => ?_
  obtain ⟨h2, q⟩ := hn d r' p
  refine h2 _ _ _ _ _ _ S1 _ fun a vs F2 H2 g2 hp hf hh da => ?_
  refine ⟨v, .ref a, rfl, W.nx _ _ F2 H2 q ?_⟩
  have S2 := (S1.grow g2).setF (i := i) (Dp.up g2.f _ _ dv)
  have hb := hb_of S1
  refine S2.setN hf (hb a hp) hh da fun k u ne e m => ?_
  exact ne_set (v := .ref a) (fun k u e m => old_ne (k := .mu ds) S1 ⟨a, vs, rfl, hf, hp, hh, da⟩ rfl k u e m) S1.len (fun m => by cases m) k u e m
theorem ev_is {P2 : PyData → List Slo → Prop} (h : Ev K te r P) (i : ∀ d r', P d r' → P2 d r') : Ev K te r P2 := fun M F0 H0 s F H S Q q => h _ _ _ _ _ _ S Q fun v d r' F2 H2 p f S2 dv => q v d r' F2 H2 (i d r' p) f S2 dv
end
end Tm
set_option maxRecDepth 100000
set_option maxHeartbeats 4000000
/-! An object of the def's own beside its slots. -/
namespace Tm
open PySem PySem.Spec PyProof.Rows L2
/-- the object at p, new since the base -/
structure DSt (K : PySem.W.Frag) (M : Addr → Prop) (F0 H0 : Hp) (r : List Slo) (s : L2.St) (F H : Hp) (p : Addr) (o : HO) : Prop where
  st : Sta K M F0 (upd H0 p o) r s F H
  f0 : F0 p = none
  z0 : H0 p = none
  nm : ¬ M p
  nt : Keep (some o)
  nl : ∀ vs, o ≠ .lst vs
section
variable {K : PySem.W.Frag} {M : Addr → Prop} {F0 H0 H1 F H F2 H2 : Hp} {r : List Slo} {s : L2.St} {p : Addr} {o o' : HO} {te ta tb : TE} {tt : TT} {d : PyData} {ds : List PyData} {t u : TS} {D : Ends}
/-- an object that stands joins the base -/
theorem Sta.adopt (S : Sta K M F0 H0 r s F H) (hp : H p = some o) (hz : H0 p = none) (hf : F p = none) (nl : ∀ vs, o ≠ .lst vs) : Sta K M F0 (upd H0 p o) r s F H := by
  refine ⟨S.f0, S.i, fun b x hb e => ?_, fun b e => ?_, fun b h1 h2 k => ?_, S.len, fun i t e => ?_, S.dj⟩
  · by_cases q : b = p
    · subst q
      rw [upd_same] at e
      rw [hp]
      exact e
    · rw [upd_ne q] at e
      exact S.h0 b x hb e
  · by_cases q : b = p
    · subst q
      rw [hp]
      exact fun z => by cases z
    · rw [upd_ne q] at e
      exact S.hd b e
  · by_cases q : b = p
    · rw [q]; exact hf
    · rw [upd_ne q] at h2
      exact S.n0 b h1 h2 k
  · rcases S.sl i t e with z | ⟨v, h1, h2⟩
    · exact .inl z
    · refine .inr ⟨v, h1, ?_⟩
      cases t with
      | no => trivial
      | ad w => exact h2
      | dk C a dx pl D => exact ⟨h2.1, h2.2.on fun b x mb e => by rw [upd_ne (fun z => by rw [z, hz] at e; cases e)]; exact e⟩
      | fz d => exact h2
      | mu ds =>
        obtain ⟨q, vs, rfl, a, b, c, d⟩ := h2
        have ne : q ≠ p := fun z => by rw [z, hp] at c; cases c; exact nl _ rfl
        exact ⟨q, vs, rfl, a, by rw [upd_ne ne]; exact b, c, d⟩
      | pm ds =>
        obtain ⟨q, vs, rfl, a, b, c, d⟩ := h2
        have ne : q ≠ p := fun z => by rw [z, hp] at c; cases c; exact nl _ rfl
        exact ⟨q, vs, rfl, a, ⟨b.1, fun x => by rw [upd_ne ne]; exact b.2 x⟩, c, d⟩
theorem DSt.of (S : Sta K M F0 H0 r s F H) (hp : H p = some o) (hz : H0 p = none) (hf : F p = none) (f0 : F0 p = none) (nm : ¬ M p) (nt : Keep (some o)) (nl : ∀ vs, o ≠ .lst vs) : DSt K M F0 H0 r s F H p o :=
  ⟨S.adopt hp hz hf nl, f0, hz, nm, nt, nl⟩
theorem DSt.at_ (S : DSt K M F0 H0 r s F H p o) : H p = some o := S.st.h0 p o S.nm upd_same
theorem DSt.fr (S : DSt K M F0 H0 r s F H p o) : F p = none := S.st.n0 p S.f0 (by rw [upd_same]; exact fun z => by cases z) (by rw [S.at_]; exact S.nt)
theorem DSt.back (S : DSt K M F0 H0 r s F H p o) : Sta K M F0 H0 r s F H := S.st.back (fun b hb => upd_ne fun z => hb (by rw [z]; exact S.z0)) fun b hb => upd_ne fun z => S.nm (z ▸ hb)
theorem DSt.with_ (S : DSt K M F0 H0 r s F H p o) {r2 : List Slo} {s2 : L2.St} (T : Sta K M F0 (upd H0 p o) r2 s2 F2 H2) : DSt K M F0 H0 r2 s2 F2 H2 p o := ⟨T, S.f0, S.z0, S.nm, S.nt, S.nl⟩
theorem DSt.grow (S : DSt K M F0 H0 r s F H p o) (g : Grow F H F2 H2) : DSt K M F0 H0 r s F2 H2 p o := S.with_ (S.st.grow g)
theorem DSt.put (S : DSt K M F0 H0 r s F H p o) (nt : Keep (some o')) (nl : ∀ vs, o' ≠ .lst vs) : DSt K M F0 H0 r s F (upd H p o') p o' := by
  have T := S.st.over (p := p) (o := o') (by rw [upd_same]; exact fun z => by cases z) S.fr S.nm
  rw [upd_upd] at T
  exact ⟨T, S.f0, S.z0, S.nm, nt, nl⟩
theorem DSt.setF (S : DSt K M F0 H0 r s F H p o) {i : Nat} {v : V} (h : Dp K F v d) : DSt K M F0 H0 (r.set i (.fz d)) (s.set i (some v)) F H p o := S.with_ (S.st.setF h)
theorem Sta.setA (S : Sta K M F0 H0 r s F H) {i : Nat} {v : V} : Sta K M F0 H0 (r.set i (.ad v)) (s.set i (some v)) F H := S.set (t := .ad v) rfl fun m => by cases m
/-- a statement that leaves the object alone -/
theorem DSt.run_nx {N : List Slo → Prop} (S : DSt K M F0 H0 r s F H p o) (h : Sd K t r { nx := N }) (hn : ∀ r' s' F' H', N r' → DSt K M F0 H0 r' s' F' H' p o → u D s' H') : tSeq t u D s H :=
  Tm.run_nx S.st h fun r' s' F' H' n T' => hn r' s' F' H' n (S.with_ T')
theorem DSt.last {N : List Slo → Prop} (S : DSt K M F0 H0 r s F H p o) (h : Sd K t r { nx := N }) (hn : ∀ r' s' F' H', N r' → DSt K M F0 H0 r' s' F' H' p o → D.nx s' H') : t D s H :=
  h _ _ _ _ _ _ D S.st ⟨fun r' s' F' H' n T' => hn r' s' F' H' n (S.with_ T'), fun _ _ _ _ _ _ z => z.elim, fun _ _ _ _ z => z.elim, fun _ _ _ _ z => z.elim⟩
theorem DSt.ef (S : DSt K M F0 H0 r s F H p o) (h : Ef K te r d) {Q : VK} (q : ∀ v F2 H2, Grow F H F2 H2 → DSt K M F0 H0 r s F2 H2 p o → Dp K F2 v d → Q v H2) : te s H Q :=
  h _ _ _ _ _ _ S.st Q fun v F2 H2 g a => q v F2 H2 g (S.grow g) a
theorem DSt.eb {b : Bool} (S : DSt K M F0 H0 r s F H p o) (h : Eb K tt r b) {Q : Bool → Hp → Prop} (q : ∀ F2 H2, DSt K M F0 H0 r s F2 H2 p o → Q b H2) : tt s H Q :=
  h _ _ _ _ _ _ S.st Q fun F2 H2 g => q F2 H2 (S.grow g)
theorem DSt.ev {P : PyData → List Slo → Prop} (S : DSt K M F0 H0 r s F H p o) (h : Ev K te r P) {Q : VK} (q : ∀ v d r' F2 H2, P d r' → Same F F2 → DSt K M F0 H0 r' s F2 H2 p o → Dp K F2 v d → Q v H2) : te s H Q :=
  h _ _ _ _ _ _ S.st Q fun v d r' F2 H2 a f T' dv => q v d r' F2 H2 a f (S.with_ T') dv
theorem DSt.evb {P : Bool → List Slo → Prop} (S : DSt K M F0 H0 r s F H p o) (h : Evb K tt r P) {Q : Bool → Hp → Prop} (q : ∀ b r' F2 H2, P b r' → DSt K M F0 H0 r' s F2 H2 p o → Q b H2) : tt s H Q :=
  h _ _ _ _ _ _ S.st Q fun b r' F2 H2 a f T' => q b r' F2 H2 a (S.with_ T')
theorem DSt.rebase (S : DSt K M F0 H0 r s F H p o) : DSt K M F H0 r s F H p o := ⟨S.st.rebase, S.fr, S.z0, S.nm, S.nt, S.nl⟩
theorem DSt.unbase {r2 : List Slo} {s2 : L2.St} (S : DSt K M F0 H0 r s F H p o) (T : DSt K M F H0 r2 s2 F2 H2 p o') : DSt K M F0 H0 r2 s2 F2 H2 p o' := by
  refine ⟨⟨S.st.f0.trans T.st.f0, T.st.i, T.st.h0, T.st.hd, fun b e1 e2 e4 => ?_, T.st.len, T.st.sl, T.st.dj⟩, S.f0, S.z0, S.nm, T.nt, T.nl⟩
  by_cases q : b = p
  · rw [q]; exact T.fr
  · refine T.st.n0 b (n_step S.st.i T.st.f0 T.st.i (S.st.n0 b e1 ?_) e4) e2 e4
    rw [upd_ne q] at e2 ⊢
    exact e2
theorem raw_while (J : Nat → L2.St → Hp → Prop) (n : Nat) (h0 : J n s H) (hs : ∀ n s H, J n s H → tt s H fun b H1 => if b = true then ∃ N : L2.St → Hp → Prop, (∀ σ' H', N σ' H' → ∃ m', m' < n ∧ J m' σ' H') ∧ t { D with nx := N, ct := N, bk := D.nx } s H1 else D.nx s H1) : tWhile tt t D s H :=
  ⟨J, ⟨n, h0⟩, hs⟩
theorem dst_forL {tl : TE} {k : Nat} (S : DSt K M F0 H0 r s F H p o) (h : Ef K tl r (.list ds)) (J : Nat → List Slo → HO → Prop) (h0 : J 0 r o)
    (hs : ∀ (m : Nat) d r' o', ds[m]? = some d → J m r' o' → ∀ F0 s' F' H', DSt K M F0 H0 (r'.set k (.fz d)) s' F' H' p o' → ∀ N : L2.St → Hp → Prop, (∀ r2 o2 s2 F2 H2, J (m + 1) r2 o2 → DSt K M F0 H0 r2 s2 F2 H2 p o2 → N s2 H2) → t { D with nx := N, ct := N, bk := D.nx } s' H')
    (hd : ∀ r' o' s' F' H', J ds.length r' o' → DSt K M F0 H0 r' s' F' H' p o' → D.nx s' H') : tFor (iList K tl) (gName k) t D s H := by
  refine S.ef h fun v F1 H1 g1 S0 a => ?_
  cases a with
  | @lst q vs _ sq dv =>
  refine ⟨q, rfl, ⟨vs, sl_up S0.st.i sq⟩, for_list (K := K) (a := q) (xs := vs) (fun m s' H' => ∃ r' o' F', J m r' o' ∧ DSt K M F1 H0 r' s' F' H' p o') ⟨r, o, F1, h0, S0.rebase⟩ (fun m s' H' _ => ?_) (fun m x s' H' hx => ?_) (fun s' H' => ?_)⟩
  · rintro ⟨r', o', F', a, S'⟩
    exact sl_up (S'.st.f0.trans S'.st.i) sq
  · rintro ⟨r', o', F', a, S'⟩
    obtain ⟨d, e1, e2⟩ := dv.getV hx
    exact hs m d r' o' e1 a F1 _ F' H' (S'.setF (Dp.up S'.st.f0 _ _ e2)) _ fun r2 o2 s2 F2 H2 b T => ⟨r2, o2, F2, b, T⟩
  · rintro ⟨r', o', F', a, S'⟩
    rw [dv.len] at a
    exact hd r' o' s' F' H' a (S0.unbase S')
theorem dst_rng {lo : Int} {n k : Nat} (S : DSt K M F0 H0 r s F H p o) (J : Nat → List Slo → HO → Prop) (h0 : J 0 r o)
    (hs : ∀ (m : Nat) r' o', m < n → J m r' o' → ∀ s' F' H', DSt K M F0 H0 (r'.set k (.fz (.int (lo + m)))) s' F' H' p o' → ∀ N : L2.St → Hp → Prop, (∀ r2 o2 s2 F2 H2, J (m + 1) r2 o2 → DSt K M F0 H0 r2 s2 F2 H2 p o2 → N s2 H2) → t { D with nx := N, ct := N, bk := D.nx } s' H')
    (hd : ∀ r' o' s' F' H', J n r' o' → DSt K M F0 H0 r' s' F' H' p o' → D.nx s' H') : ∃ W : Nat → Nat → L2.St → Hp → Prop, (∃ m, W 0 m s H) ∧ ∀ i m σ H, W i m σ H →
      ((Itr lo n).stop i H ∧ D.nx σ H) ∨ ((Itr lo n).go i H ∧ ∃ N : L2.St → Hp → Prop, (∀ σ' H', N σ' H' → ∃ m', m' < m ∧ W (i + 1) m' σ' H') ∧ ∀ x H', (Itr lo n).yld i H x H' → gName k x σ H' fun σ2 H2 => t { D with nx := N, ct := N, bk := D.nx } σ2 H2) :=
  for_range (lo := lo) (n := n) (fun m s' H' => ∃ r' o' F', J m r' o' ∧ DSt K M F0 H0 r' s' F' H' p o') ⟨r, o, F, h0, S⟩ (fun m s' H' hm ⟨r', o', F', a, S'⟩ => hs m r' o' hm a _ F' H' (S'.setF (.int _)) _ fun r2 o2 s2 F2 H2 b T => ⟨r2, o2, F2, b, T⟩) fun s' H' ⟨r', o', F', a, S'⟩ => hd r' o' s' F' H' a S'
theorem dst_forR {ta : TA} {n k : Nat} (S : DSt K M F0 H0 r s F H p o) (h : Ea K ta r [iN n]) (hn : n ≤ 1000) (J : Nat → List Slo → HO → Prop) (h0 : J 0 r o)
    (hs : ∀ (m : Nat) r' o', m < n → J m r' o' → ∀ s' F' H', DSt K M F0 H0 (r'.set k (.fz (iN m))) s' F' H' p o' → ∀ N : L2.St → Hp → Prop, (∀ r2 o2 s2 F2 H2, J (m + 1) r2 o2 → DSt K M F0 H0 r2 s2 F2 H2 p o2 → N s2 H2) → t { D with nx := N, ct := N, bk := D.nx } s' H')
    (hd : ∀ r' o' s' F' H', J n r' o' → DSt K M F0 H0 r' s' F' H' p o' → D.nx s' H') : tFor (iRng1 ta) (gName k) t D s H := by
  refine h _ _ _ _ _ _ S.st _ fun vs F1 H1 g1 a => ?_
  obtain rfl := DpAll.of_ints (ns := [(n : Int)]) a
  refine ⟨n, rfl, by omega, by omega, ?_⟩
  rw [Int.toNat_natCast]
  exact dst_rng (S.grow g1) J h0 (fun m r' o' hm a s' F' H' S' => hs m r' o' hm a s' F' H' (by rw [Int.zero_add] at S'; exact S')) hd
/-- pure defs that give a dict -/
def SpD {ι : Type} (K : PySem.W.Frag) (pre : ι → List PyData → Prop) (post : ι → HO → Prop) : Sp := fun vs H Q _ => ∃ x F ds, Same F H ∧ DpAll K F vs ds ∧ pre x ds ∧ ∀ p o F2 H2, post x o → Grow F H F2 H2 → H p = none → F2 p = none → H2 p = some o → Q (.ref p) H2
/-- a def, told raw -/
theorem cl_raw {P : Program} {w : World} {mg : Str → Option Value} {base : Heap} {x : Str} {st : Stmt} {N ps : List Str} {k : Nat} {sp : Sp} (T : Ft K mg x st) (S : FnScope N ps (defScope st))
    (hb : ∀ (kV doc pm : Value) (an : Option Addr) (cdv ct : Value) (us : List Value), us.length = ps.length → bindArgs (PySem.W.fnOf x x (defArgs st) (defBody st) (defScope st) .none kV doc pm an cdv ct) ⟨us, []⟩ = pure (ps.zip us))
    (len : ∀ vs H Q E, sp vs H Q E → vs.length = ps.length)
    (body : ∀ (f : Addr) (cdv : Value) (A : Around) (outer : List Env) (s : Shared) (H : Hp) (E : XK), Room k (A.deeper (envOfC x (defScope st) s.heap.objs.size f cdv)) →
      ∃ t, PSs (cxOf L2.CX0 P w K mg base N x (defScope st) f cdv A outer s H E).nox (defBody st) t ∧ ∀ vs Q, sp vs H Q E → t { nx := fun _ H' => Q .non H', rt := Q } (L2.start N vs) H) : Cl P w K mg base (k + 1) x sp := by
  obtain ⟨f, fd, F, hm⟩ := T.ex
  refine ⟨f, fd, ps, F.ok S (fun vs H Q E h => len vs H Q E h) (fun cdv A outer s H vs Q E hr h => ?_), hm, F.kp, F.binds hb⟩
  obtain ⟨t, h1, h2⟩ := body f cdv A outer s H E hr
  exact ⟨t, h1, h2 vs Q h⟩
end
end Tm
set_option maxRecDepth 100000
set_option maxHeartbeats 4000000
/-! Texts. -/
namespace Tm
open PySem PyProof.Rows L2
section
variable {K : PySem.W.Frag} {r : List Slo} {te ta tb : TE} {tt : TT} {d : PyData} {ds : List PyData} {A : Af}
def chD (c : Nat) : PyData := .str ⟨#[c]⟩
theorem en_lcS {k : Nat} {tl : TE} {x : Str} (p : Nat → Bool) (g : Nat → PyData) (h : Ef K tl r (.str x)) (hz : x.cps.toList.length ≤ 90000) (ht : ∀ c, c ∈ x.cps.toList → Eb K tt (r.set k (.fz (chD c))) (p c)) (he : ∀ c, c ∈ x.cps.toList → p c = true → Ef K te (r.set k (.fz (chD c))) (g c)) :
    En K (tLc (iStr tl) (gName k) tt te [k]) r ((x.cps.toList.filter p).map g) := by
  intro M F0 H0 s F H S Q q
  refine h _ _ _ _ _ _ S _ fun v F1 H1 g1 dw => ?_
  have S1 := S.grow g1
  cases dw
  refine ⟨x, rfl, fun Dl hD => ?_⟩
  refine ⟨fun i m H' => m = x.cps.toList.length - i ∧ i ≤ x.cps.toList.length ∧ Cst K F1 H1 Dl (((x.cps.toList.take i).filter p).map g) H', ⟨x.cps.toList.length, by simp, Nat.zero_le _, by simpa using Cst.start g1.i hD⟩, ?_⟩
  rintro i m H' ⟨rfl, hi, C⟩
  by_cases hlt : i < x.cps.toList.length
  · refine .inr ⟨(show i < x.cps.size by simpa using hlt), fun H2 => i + 1 ≤ x.cps.toList.length ∧ Cst K F1 H1 Dl (((x.cps.toList.take (i + 1)).filter p).map g) H2, fun H2 C2 => ⟨_, by omega, rfl, hlt, C2.2⟩, fun y H2 hy => ?_⟩
    obtain ⟨rfl, c, ec, rfl⟩ := hy
    have ex : x.cps.toList[i]? = some c := by rw [Array.getElem?_toList]; exact ec
    have hmem := List.mem_of_getElem? ex
    refine ⟨wipe_one s k _, ?_⟩
    refine C.turn (M := M) (F0 := F0) (H0 := H0) (r2 := r.set k (.fz (chD c))) hD (fun F' g2 => by rw [set_wipe]; exact (S1.grow g2).setF (.str _)) (ht c hmem) (he c hmem) (Nat.lt_of_le_of_lt (took_len i p g) (by omega)) fun H3 C2 => ⟨hlt, ?_⟩
    rw [took p g ex]
    exact C2
  · have e : i = x.cps.toList.length := by omega
    subst e
    refine .inl ⟨?_, ?_⟩
    · show x.cps.size ≤ _
      simp
    · rw [List.take_length] at C
      exact C.fin (M := M) (F0 := F0) (H0 := H0) hD g1 q
theorem ef_inS {c : Nat} {z : Str} (ha : Ef K ta r (chD c)) (hb : Ef K tb r (.str z)) : Ef K (tOp (fun x y H Q => ∃ (c : Nat) (z : Str), x = .str ⟨#[c]⟩ ∧ y = .str z ∧ Q (.bl (decide (c ∈ z.cps.toList))) H) ta tb) r (.bool (decide (c ∈ z.cps.toList))) := by
  refine ef_op ha hb fun x y F H i dx dy Q q => ?_
  cases dx
  cases dy
  exact ⟨c, z, rfl, rfl, q _ F H (Grow.refl i) (.bl _)⟩
theorem ef_addS {x y : Str} (ha : Ef K ta r (.str x)) (hb : Ef K tb r (.str y)) (hl : x.length + y.length ≤ 100000) : Ef K (tOp (fun x y H Q => ∃ i j, x = V.str i ∧ y = V.str j ∧ i.length + j.length ≤ sizeLine ∧ Q (.str (i ++ j)) H) ta tb) r (.str (x ++ y)) := by
  refine ef_op ha hb fun v w F H i dx dy Q q => ?_
  cases dx
  cases dy
  exact ⟨x, y, rfl, rfl, szOf hl, q _ F H (Grow.refl i) (.str _)⟩
theorem ef_intT {x : Str} {n : Int} (h : Ef K te r (.str x)) (hn : PySem.intText? x = some n) (hl : x.length ≤ 640) : Ef K (tCB (fun xs H Q => ∃ a n, xs = [V.str a] ∧ PySem.intText? a = some n ∧ a.length ≤ 640 ∧ Q (.int n) H) (tCons te tNil)) r (.int n) := by
  refine ef_cb (ea_cons h ea_nil) fun vs F H i dv Q q => ?_
  cases dv with
  | cons a b =>
    cases b
    cases a
    exact ⟨x, n, rfl, hn, hl, q _ F H (Grow.refl i) (.int _)⟩
theorem ef_join {x : Str} {ys : List Str} (ha : Ef K ta r (.str x)) (hb : El K tb r (ys.map .str)) (hl : (ys.map (·.length)).sum + ys.length * x.length ≤ 16777216) : Ef K (tM1 (fun x xs H Q => ∃ a p, ∃ ys : List Str, x = .str a ∧ xs = [.ref p] ∧ (SqL K H p (ys.map V.str) ∨ SqT K H p (ys.map V.str)) ∧
    (ys.map (·.length)).sum + ys.length * a.length ≤ 16777216 ∧ Q (.str (Txt.join a ys)) H) ta tb) r (.str (Txt.join x ys)) := by
  intro M F0 H0 s F H S Q q
  refine ha _ _ _ _ _ _ S _ fun v F1 H1 g1 dv => ?_
  cases dv
  refine ⟨⟨x, rfl⟩, ?_⟩
  refine hb _ _ _ _ _ _ (S.grow g1) _ fun p vs F2 H2 g2 sq dv => ?_
  obtain rfl := DpAll.of_strs (ns := ys) dv
  exact ⟨x, p, ys, rfl, rfl, .inl sq, hl, q _ F2 H2 (g1.trans g2) (.str _)⟩
theorem en_split {x y : Str} (ha : Ef K ta r (.str x)) (hb : Ef K tb r (.str y)) (hy : (y.length == 0) = false) (hl : x.length ≤ 90000) : En K (tM1 (fun x xs H Q => ∃ a b, x = .str a ∧ xs = [.str b] ∧ (b.length == 0) = false ∧ a.length + 2 ≤ sizeLine ∧ rNewStrs (Txt.split a b) H Q) ta tb) r ((Txt.split x y).map .str) := by
  intro M F0 H0 s F H S Q q
  refine ha _ _ _ _ _ _ S _ fun v F1 H1 g1 dv => ?_
  cases dv
  refine ⟨⟨x, rfl⟩, ?_⟩
  refine hb _ _ _ _ _ _ (S.grow g1) _ fun w F2 H2 g2 dw => ?_
  cases dw
  refine ⟨x, y, rfl, rfl, hy, szOf (by omega), fun p hp => ?_⟩
  have g := g1.trans g2
  have g3 : Grow F2 H2 F2 (upd H2 p (.lst ((Txt.split x y).map V.str))) := Grow.newM g.i hp
  refine q p _ F2 _ (g.trans g3) (g.h.free hp) (g2.i.free hp) upd_same ?_
  clear g3 hp
  induction (Txt.split x y) with
  | nil => exact .nil
  | cons a l ih => exact .cons (.str a) ih
end
end Tm
set_option maxRecDepth 100000
set_option maxHeartbeats 4000000
/-! Reach, ways, parts. Plain. -/
namespace Tm
open PySem
section
variable {g : Web}
/-- there within t steps -/
def Rc (g : Web) : Nat → Nat → Nat → Prop
  | 0, i, j => i < g.n ∧ i = j
  | t + 1, i, j => ∃ k, Rc g t i k ∧ j < g.n ∧ (k = j ∨ nbr g k j = true)
theorem Rc.lt : ∀ {t i j : Nat}, Rc g t i j → i < g.n ∧ j < g.n
  | 0, i, j, ⟨h, e⟩ => ⟨h, e ▸ h⟩
  | t + 1, i, j, ⟨k, w, e, _⟩ => ⟨w.lt.1, e⟩
theorem Rc.succ {t i j : Nat} (h : Rc g t i j) : Rc g (t + 1) i j := ⟨j, h, h.lt.2, .inl rfl⟩
theorem Rc.mono {t i j : Nat} (h : Rc g t i j) : ∀ {u : Nat}, t ≤ u → Rc g u i j
  | 0, l => by rw [show t = 0 by omega] at h; exact h
  | u + 1, l => by
    by_cases e : t = u + 1
    · rw [← e]; exact h
    · exact (Rc.mono h (u := u) (by omega)).succ
theorem Rc.app {t i k : Nat} (h : Rc g t i k) : ∀ {u j : Nat}, Rc g u k j → Rc g (t + u) i j
  | 0, j, ⟨_, e⟩ => e ▸ h
  | u + 1, j, ⟨m, w, a, b⟩ => ⟨m, Rc.app h w, a, b⟩
theorem Rc.one {i j : Nat} (hi : i < g.n) (hj : j < g.n) (h : i = j ∨ nbr g i j = true) : Rc g 1 i j := ⟨i, ⟨hi, rfl⟩, hj, h⟩
theorem Rc.symm : ∀ {t i j : Nat}, Rc g t i j → Rc g t j i
  | 0, i, j, ⟨h, e⟩ => ⟨e ▸ h, e.symm⟩
  | t + 1, i, j, ⟨k, w, a, b⟩ => by
    have h1 : Rc g 1 j k := Rc.one a w.lt.2 (b.elim (fun e => .inl e.symm) (fun e => .inr (by rw [nbr_symm]; exact e)))
    have := h1.app w.symm
    rw [Nat.add_comm] at this
    exact this
/-- least -/
def Lev (g : Web) (i d j : Nat) : Prop := Rc g d i j ∧ ∀ t, Rc g t i j → d ≤ t
theorem lev_ex {t i j : Nat} (h : Rc g t i j) : ∃ d, d ≤ t ∧ Lev g i d j := by
  induction t using Nat.strongRecOn with
  | _ t ih =>
    by_cases q : ∃ u, u < t ∧ Rc g u i j
    · obtain ⟨u, hu, hr⟩ := q
      obtain ⟨d, hd, hl⟩ := ih u hu hr
      exact ⟨d, by omega, hl⟩
    · exact ⟨t, Nat.le_refl _, h, fun u hu => Nat.le_of_not_lt fun z => q ⟨u, z, hu⟩⟩
theorem lev_inj {i d e j : Nat} (h : Lev g i d j) (h' : Lev g i e j) : d = e := Nat.le_antisymm (h.2 _ h'.1) (h'.2 _ h.1)
theorem lev_back {i d j : Nat} (h : Lev g i (d + 1) j) : ∃ k, Lev g i d k ∧ nbr g k j = true := by
  obtain ⟨k, w, a, b⟩ := h.1
  rcases b with e | b
  · subst e
    have := h.2 _ w
    omega
  · refine ⟨k, ⟨w, fun t ht => ?_⟩, b⟩
    have := h.2 (t + 1) ⟨k, ht, a, .inr b⟩
    omega
theorem lev_below {i j : Nat} : ∀ {d e : Nat}, Lev g i e j → d ≤ e → ∃ k, Lev g i d k := by
  intro d e
  induction e generalizing j with
  | zero => exact fun h l => ⟨j, by rw [show d = 0 by omega]; exact h⟩
  | succ e ih =>
    intro h l
    by_cases q : d = e + 1
    · exact ⟨j, q ▸ h⟩
    · obtain ⟨k, hk, _⟩ := lev_back h
      exact ih hk (by omega)
theorem lev_lt {i d j : Nat} (h : Lev g i d j) : d < g.n := by
  have ex : ∀ k : Nat, k < d + 1 → ∃ v, Lev g i k v := fun k hk => lev_below h (by omega)
  have ex2 : ∀ k : Nat, ∃ v, k < d + 1 → Lev g i k v := fun k => by
    by_cases hk : k < d + 1
    · obtain ⟨v, hv⟩ := ex k hk
      exact ⟨v, fun _ => hv⟩
    · exact ⟨0, fun z => absurd z hk⟩
  let f : Nat → Nat := fun k => Classical.choose (ex2 k)
  have hf : ∀ k, k < d + 1 → Lev g i k (f k) := fun k => Classical.choose_spec (ex2 k)
  have nd : ((List.range (d + 1)).map f).Nodup := by
    show List.Pairwise _ _
    rw [List.pairwise_map]
    refine List.Pairwise.imp_of_mem ?_ List.nodup_range
    intro a b ha hb ne e
    have ha := hf a (List.mem_range.mp ha)
    have hb := hf b (List.mem_range.mp hb)
    rw [e] at ha
    exact ne (lev_inj ha hb)
  have sub : ((List.range (d + 1)).map f) ⊆ List.range g.n := fun x hx => by
    obtain ⟨k, hk, e⟩ := List.mem_map.mp hx
    rw [← e]
    exact List.mem_range.mpr (hf k (List.mem_range.mp hk)).1.lt.2
  have := List.Nodup.length_le_of_subset nd sub
  rw [List.length_map, List.length_range, List.length_range] at this
  exact this
open Classical in
/-- how far -/
noncomputable def dst (g : Web) (i j : Nat) : Option Nat := if h : ∃ d, Lev g i d j then some (Classical.choose h) else none
theorem dst_some {i j d : Nat} : dst g i j = some d ↔ Lev g i d j := by
  unfold dst
  constructor
  · intro h
    split at h
    · rename_i q
      cases h
      exact Classical.choose_spec q
    · cases h
  · intro h
    rw [dif_pos ⟨d, h⟩]
    exact congrArg some (lev_inj (Classical.choose_spec (⟨d, h⟩ : ∃ d, Lev g i d j)) h)
theorem dst_none {i j : Nat} : dst g i j = none ↔ ∀ t, ¬ Rc g t i j := by
  constructor
  · intro h t ht
    obtain ⟨d, _, hl⟩ := lev_ex ht
    rw [dst_some.mpr hl] at h
    cases h
  · intro h
    cases e : dst g i j with
    | none => rfl
    | some d => exact absurd (dst_some.mp e).1 (h d)
theorem dst_self {i : Nat} (h : i < g.n) : dst g i i = some 0 := dst_some.mpr ⟨⟨h, rfl⟩, fun _ _ => Nat.zero_le _⟩
/-- joined -/
noncomputable def conn (g : Web) (i j : Nat) : Bool := (dst g i j).isSome
theorem conn_iff {i j : Nat} : conn g i j = true ↔ ∃ t, Rc g t i j := by
  unfold conn
  constructor
  · intro h
    obtain ⟨d, e⟩ := Option.isSome_iff_exists.mp h
    exact ⟨d, (dst_some.mp e).1⟩
  · rintro ⟨t, h⟩
    obtain ⟨d, _, hl⟩ := lev_ex h
    rw [dst_some.mpr hl]
    rfl
theorem conn_refl {i : Nat} (h : i < g.n) : conn g i i = true := conn_iff.mpr ⟨0, h, rfl⟩
theorem conn_symm {i j : Nat} (h : conn g i j = true) : conn g j i = true := by
  obtain ⟨t, h⟩ := conn_iff.mp h
  exact conn_iff.mpr ⟨t, h.symm⟩
theorem conn_trans {i j k : Nat} (h : conn g i j = true) (h' : conn g j k = true) : conn g i k = true := by
  obtain ⟨t, h⟩ := conn_iff.mp h
  obtain ⟨u, h'⟩ := conn_iff.mp h'
  exact conn_iff.mpr ⟨_, h.app h'⟩
theorem conn_lt {i j : Nat} (h : conn g i j = true) : i < g.n ∧ j < g.n := by
  obtain ⟨t, h⟩ := conn_iff.mp h
  exact h.lt
theorem conn_nbr (ok : WOk g) {i j : Nat} (h : nbr g i j = true) : conn g i j = true := conn_iff.mpr ⟨1, Rc.one (nbr_lt ok h).1 (nbr_lt ok h).2.1 (.inr h)⟩
/-- what the layers up to d know -/
noncomputable def upto (g : Web) (i d j : Nat) : Option Nat := match dst g i j with
  | some e => if e ≤ d then some e else none
  | none => none
theorem upto_some {i d j e : Nat} : upto g i d j = some e ↔ Lev g i e j ∧ e ≤ d := by
  unfold upto
  cases h : dst g i j with
  | none =>
    constructor
    · intro z; cases z
    · rintro ⟨z, _⟩
      rw [dst_some.mpr z] at h
      cases h
  | some k =>
    have := dst_some.mp h
    constructor
    · intro z
      simp only at z
      split at z
      · cases z
        exact ⟨this, by assumption⟩
      · cases z
    · rintro ⟨z, l⟩
      rw [lev_inj this z]
      simp only
      rw [if_pos l]
theorem upto_none {i d j : Nat} : upto g i d j = none ↔ ¬ Rc g d i j := by
  constructor
  · intro h z
    obtain ⟨e, l, hl⟩ := lev_ex z
    rw [upto_some.mpr ⟨hl, l⟩] at h
    cases h
  · intro h
    cases e : upto g i d j with
    | none => rfl
    | some k =>
      have := upto_some.mp e
      exact absurd (this.1.1.mono this.2) h
/-- the next layer -/
theorem lev_next (ok : WOk g) {i d j : Nat} : Lev g i (d + 1) j ↔ upto g i d j = none ∧ ∃ h, Lev g i d h ∧ nbr g h j = true := by
  constructor
  · intro h
    refine ⟨upto_none.mpr fun z => ?_, lev_back h⟩
    have := h.2 _ z
    omega
  · rintro ⟨h1, k, h2, h3⟩
    refine ⟨⟨k, h2.1, (nbr_lt ok h3).2.1, .inr h3⟩, fun t ht => Nat.le_of_not_lt fun z => upto_none.mp h1 (ht.mono (by omega))⟩
theorem upto_all {i d j : Nat} (h : ∀ k, ¬ Lev g i d k) : upto g i d j = dst g i j := by
  cases e : dst g i j with
  | none =>
    cases e2 : upto g i d j with
    | none => rfl
    | some k => rw [dst_some.mpr (upto_some.mp e2).1] at e; cases e
  | some k =>
    have := dst_some.mp e
    refine upto_some.mpr ⟨this, Nat.le_of_not_lt fun z => ?_⟩
    obtain ⟨v, hv⟩ := lev_below this (d := d) (by omega)
    exact h v hv
theorem upto_zero {i j : Nat} (hi : i < g.n) : upto g i 0 j = if j = i then some 0 else none := by
  by_cases q : j = i
  · rw [if_pos q, q]
    exact upto_some.mpr ⟨dst_some.mp (dst_self hi), Nat.le_refl _⟩
  · rw [if_neg q]
    exact upto_none.mpr fun z => q z.2.symm
theorem upto_succ {i d j : Nat} : upto g i (d + 1) j = if dst g i j = some (d + 1) then some (d + 1) else upto g i d j := by
  by_cases q : dst g i j = some (d + 1)
  · rw [if_pos q]
    exact upto_some.mpr ⟨dst_some.mp q, Nat.le_refl _⟩
  · rw [if_neg q]
    cases e : upto g i d j with
    | none =>
      cases e2 : upto g i (d + 1) j with
      | none => rfl
      | some k =>
        have := upto_some.mp e2
        by_cases q2 : k = d + 1
        · subst q2
          exact absurd (dst_some.mpr this.1) q
        · rw [upto_some.mpr ⟨this.1, by omega⟩] at e
          cases e
    | some k =>
      have := upto_some.mp e
      exact upto_some.mpr ⟨this.1, by omega⟩
/-- the part one is in -/
noncomputable def partOf (g : Web) (i : Nat) : List Nat := (List.range g.n).filter (conn g i)
theorem part_mem {i j : Nat} : j ∈ partOf g i ↔ conn g i j = true := by
  unfold partOf
  rw [List.mem_filter, List.mem_range]
  exact ⟨fun h => h.2, fun h => ⟨(conn_lt h).2, h⟩⟩
theorem part_eq {i j : Nat} (h : conn g i j = true) : partOf g i = partOf g j := by
  unfold partOf
  refine List.filter_congr fun k _ => ?_
  rw [Bool.eq_iff_iff]
  exact ⟨fun z => conn_trans (conn_symm h) z, fun z => conn_trans h z⟩
/-- the least of their part -/
noncomputable def isRoot (g : Web) (i : Nat) : Bool := (List.range i).all fun j => !conn g j i
theorem root_iff {i : Nat} : isRoot g i = true ↔ ∀ j, j < i → conn g j i = false := by
  unfold isRoot
  rw [List.all_eq_true]
  exact ⟨fun h j hj => by have := h j (List.mem_range.mpr hj); simpa using this, fun h j hj => by rw [h j (List.mem_range.mp hj)]; rfl⟩
theorem root_ex {i : Nat} (hi : i < g.n) : ∃ r, r ≤ i ∧ isRoot g r = true ∧ conn g r i = true := by
  induction i using Nat.strongRecOn with
  | _ i ih =>
    by_cases q : ∃ j, j < i ∧ conn g j i = true
    · obtain ⟨j, hj, hc⟩ := q
      obtain ⟨r, hr, h1, h2⟩ := ih j hj (conn_lt hc).1
      exact ⟨r, by omega, h1, conn_trans h2 hc⟩
    · refine ⟨i, Nat.le_refl _, root_iff.mpr fun j hj => ?_, conn_refl hi⟩
      cases e : conn g j i with
      | false => rfl
      | true => exact absurd ⟨j, hj, e⟩ q
noncomputable def roots (g : Web) : List Nat := (List.range g.n).filter (isRoot g)
noncomputable def partsL (g : Web) : List (List Nat) := (roots g).map (partOf g)
theorem parts_disj {r s : Nat} (hr : isRoot g r = true) (hs : isRoot g s = true) (h : conn g r s = true) : r = s := by
  rcases Nat.lt_trichotomy r s with l | l | l
  · have := root_iff.mp hs r l
    rw [h] at this
    cases this
  · exact l
  · have := root_iff.mp hr s l
    rw [conn_symm h] at this
    cases this
end
end Tm
set_option maxRecDepth 100000
set_option maxHeartbeats 4000000
/-! Heights and rest. Plain. -/
namespace Tm
open PySem
section
variable {g : Web} {st : List Int}
/-- heights over the part of r -/
def PotAt (g : Web) (st : List Int) (r : Nat) (P : Nat → Int) : Prop := ∀ i j, conn g r i = true → nbr g i j = true → P j = P i + stp st i j
def NormAt (g : Web) (st : List Int) (r : Nat) (h : Nat → Int) : Prop := PotAt g st r h ∧ (∀ j, conn g r j = true → h j ≤ 0) ∧ ∃ j, conn g r j = true ∧ h j = 0
/-- heights, the greatest of each part nought -/
structure IsH (g : Web) (st : List Int) (h : Nat → Int) : Prop where
  gap : ∀ i j, nbr g i j = true → h j = h i + stp st i j
  le : ∀ i, i < g.n → h i ≤ 0
  top : ∀ i, i < g.n → ∃ j, conn g i j = true ∧ h j = 0
def Pot (g : Web) (st : List Int) (P : Nat → Int) : Prop := ∀ i j, nbr g i j = true → P j = P i + stp st i j
theorem pot_gap (ok : WOk g) {r : Nat} {P P' : Nat → Int} (h : PotAt g st r P) (h' : PotAt g st r P') {i : Nat} (hi : conn g r i = true) : ∀ {t j : Nat}, Rc g t i j → P j - P i = P' j - P' i
  | 0, j, w => by rw [w.2]; omega
  | t + 1, j, ⟨k, w, _, e⟩ => by
    have ih := pot_gap ok h h' hi w
    rcases e with e | e
    · rw [← e]; exact ih
    · have ck : conn g r k = true := conn_trans hi (conn_iff.mpr ⟨_, w⟩)
      have := h k j ck e
      have := h' k j ck e
      omega
theorem norm_inj (ok : WOk g) {r : Nat} {h h' : Nat → Int} (a : NormAt g st r h) (b : NormAt g st r h') {i : Nat} (hi : conn g r i = true) : h i = h' i := by
  obtain ⟨x, cx, ex⟩ := a.2.2
  obtain ⟨y, cy, ey⟩ := b.2.2
  obtain ⟨t, w1⟩ := conn_iff.mp (conn_trans (conn_symm hi) cx)
  obtain ⟨u, w2⟩ := conn_iff.mp (conn_trans (conn_symm hi) cy)
  have q1 := pot_gap ok a.1 b.1 hi w1
  have q2 := pot_gap ok a.1 b.1 hi w2
  have := a.2.1 y cy
  have := b.2.1 x cx
  omega
theorem IsH.at {h : Nat → Int} (a : IsH g st h) {r : Nat} (hr : r < g.n) : NormAt g st r h := ⟨fun i j _ e => a.gap i j e, fun j hj => a.le j (conn_lt hj).2, a.top r hr⟩
theorem IsH.inj (ok : WOk g) {h h' : Nat → Int} (a : IsH g st h) (b : IsH g st h') {i : Nat} (hi : i < g.n) : h i = h' i := norm_inj ok (a.at hi) (b.at hi) (conn_refl hi)
/-- a walk's sum tells the heights' difference -/
theorem wk_sum {P : Nat → Int} (p : Pot g st P) : ∀ {t i j : Nat} {s : Int}, Wk g st t i j s → s = P j - P i ∧ Rc g t i j
  | 0, i, j, s, ⟨h, e, z⟩ => ⟨by rw [z, e]; omega, h, e⟩
  | t + 1, i, j, s, ⟨k, a, b, w, e, z⟩ => by
    obtain ⟨h1, h2⟩ := wk_sum p w
    rcases e.2.2 with ⟨q, qb⟩ | ⟨q, qb⟩
    · subst q
      exact ⟨by omega, k, h2, e.2.1, .inl rfl⟩
    · have := p k j q
      exact ⟨by omega, k, h2, e.2.1, .inr q⟩
theorem rc_wk : ∀ {t i j : Nat}, Rc g t i j → ∃ s, Wk g st t i j s
  | 0, i, j, ⟨h, e⟩ => ⟨0, h, e, rfl⟩
  | t + 1, i, j, ⟨k, w, hj, e⟩ => by
    obtain ⟨s, ws⟩ := rc_wk w
    rcases e with e | e
    · exact ⟨s + 0, k, s, 0, ws, ⟨w.lt.2, hj, .inl ⟨e, rfl⟩⟩, rfl⟩
    · exact ⟨s + stp st k j, k, s, _, ws, ⟨w.lt.2, hj, .inr ⟨e, rfl⟩⟩, rfl⟩
/-! ### rest -/
def StillAt (g : Web) (st : List Int) (t : Nat) : Prop := nxt g (itr g st t) = itr g st t
theorem nxt_same {s : List Int} (so : SOk g.n s) : nxt g s = s ↔ ∀ i, i < g.n → stirB g s i = false := by
  constructor
  · intro h i hi
    cases e : stirB g s i with
    | false => rfl
    | true =>
      have a := ms_nxt (g := g) (st := s) hi
      rw [h, e, if_pos rfl] at a
      have := so.lim hi
      omega
  · intro h
    refine List.ext_getElem? fun k => ?_
    by_cases hk : k < g.n
    · rw [ms_get (by rw [nxt_len]; exact hk), so.get hk, ms_nxt hk, h k hk]
      have := so.lim hk
      congr 1
      simp
      omega
    · rw [List.getElem?_eq_none (by rw [nxt_len]; omega), List.getElem?_eq_none (by rw [so.len]; omega)]
theorem cnt_up (ok : WOk g) (s : SOk g.n st) (t : Nat) {i : Nat} (hi : i < g.n) : cnt g st (t + 1) i = cnt g st t i + if stirB g (itr g st t) i then 1 else 0 := by
  have L := lift ok s t
  have o := itr_ok s t
  obtain ⟨h1, h2⟩ := foldl_max ((nrow g i).map fun j => stp st i j + cnt g st t j) (cnt g st t i)
  have cap : ∀ j, j ∈ nrow g i → stp st i j + cnt g st t j ≤ cnt g st t i + 1 := fun j hj => by
    have hj := nrow_mem.mp hj
    have := L.gap i j hi hj.1 hj.2
    have := stp_lim o hi hj.1
    omega
  show ((nrow g i).map fun j => stp st i j + cnt g st t j).foldl max (cnt g st t i) = _
  generalize hX : ((nrow g i).map fun j => stp st i j + cnt g st t j).foldl max (cnt g st t i) = X at *
  have lo := h2 (cnt g st t i) (by simp)
  cases hb : stirB g (itr g st t) i with
  | true =>
    obtain ⟨j, hj, nb, e⟩ := stirB_iff.mp hb
    have := L.gap i j hi hj nb
    have hm : j ∈ nrow g i := nrow_mem.mpr ⟨hj, nb⟩
    have := h2 (stp st i j + cnt g st t j) (List.mem_cons_of_mem _ (List.mem_map.mpr ⟨j, hm, rfl⟩))
    rw [if_pos rfl]
    rcases List.mem_cons.mp h1 with e | h
    · omega
    · obtain ⟨k, hk, ek⟩ := List.mem_map.mp h
      have := cap k hk
      omega
  | false =>
    rw [if_neg Bool.false_ne_true]
    rcases List.mem_cons.mp h1 with e | h
    · omega
    · obtain ⟨k, hk, ek⟩ := List.mem_map.mp h
      have hk' := nrow_mem.mp hk
      have := L.gap i k hi hk'.1 hk'.2
      have := cap k hk
      have : ¬ stp (itr g st t) i k = 1 := fun z => by
        have := stirB_iff.mpr ⟨k, hk'.1, hk'.2, z⟩
        rw [hb] at this
        cases this
      omega
theorem still_cnt (ok : WOk g) (s : SOk g.n st) {t : Nat} : StillAt g st t ↔ ∀ i, i < g.n → cnt g st (t + 1) i = cnt g st t i := by
  unfold StillAt
  rw [nxt_same (itr_ok s t)]
  constructor
  · intro h i hi
    rw [cnt_up ok s t hi, h i hi]
    simp
  · intro h i hi
    have a := h i hi
    rw [cnt_up ok s t hi] at a
    cases e : stirB g (itr g st t) i with
    | false => rfl
    | true => rw [e, if_pos rfl] at a; omega
theorem still_next {t : Nat} (h : StillAt g st t) : StillAt g st (t + 1) := by
  show nxt g (nxt g (itr g st t)) = nxt g (itr g st t)
  rw [show nxt g (itr g st t) = itr g st t from h]
  exact h
theorem still_mono {t : Nat} (h : StillAt g st t) : ∀ {u : Nat}, t ≤ u → StillAt g st u
  | 0, l => by rw [show t = 0 by omega] at h; exact h
  | u + 1, l => by
    by_cases q : t = u + 1
    · rw [← q]; exact h
    · exact still_next (still_mono h (u := u) (by omega))
theorem still_keeps (ok : WOk g) (s : SOk g.n st) {t : Nat} (h : StillAt g st t) {i : Nat} (hi : i < g.n) : ∀ {u : Nat}, t ≤ u → cnt g st u i = cnt g st t i
  | 0, l => by rw [show t = 0 by omega]
  | u + 1, l => by
    by_cases q : t = u + 1
    · rw [← q]
    · have a := (still_cnt ok s).mp (still_mono h (u := u) (by omega)) i hi
      have b := still_keeps ok s h hi (u := u) (by omega)
      omega
/-- where all is still, the counts are heights -/
theorem still_pot (ok : WOk g) (s : SOk g.n st) {t : Nat} (h : StillAt g st t) : IsH g st fun i => -cnt g st t i := by
  have half : ∀ i j, nbr g i j = true → cnt g st t i ≥ stp st i j + cnt g st t j := fun i j nb => by
    have hij := nbr_lt ok nb
    have a := (still_cnt ok s).mp h i hij.1
    obtain ⟨_, h2⟩ := foldl_max ((nrow g i).map fun j => stp st i j + cnt g st t j) (cnt g st t i)
    have b := h2 (stp st i j + cnt g st t j) (List.mem_cons_of_mem _ (List.mem_map.mpr ⟨j, nrow_mem.mpr ⟨hij.2.1, nb⟩, rfl⟩))
    have c : cnt g st (t + 1) i = ((nrow g i).map fun j => stp st i j + cnt g st t j).foldl max (cnt g st t i) := rfl
    omega
  have pot : Pot g st fun i => -cnt g st t i := fun i j nb => by
    have hij := nbr_lt ok nb
    have a := half i j nb
    have b := half j i (by rw [nbr_symm]; exact nb)
    rw [stp_neg s hij.1 hij.2.1] at b
    show -cnt g st t j = -cnt g st t i + stp st i j
    omega
  refine ⟨pot, fun i hi => ?_, fun i hi => ?_⟩
  · have := (cnt_top (st := st) t hi).2 i 0 ((fun k => by
      have := pot
      induction k with
      | zero => exact ⟨hi, rfl, rfl⟩
      | succ k ih => exact ⟨i, 0, 0, ih, ⟨hi, hi, .inl ⟨rfl, rfl⟩⟩, rfl⟩ : ∀ k, Wk g st k i i 0) t)
    show -cnt g st t i ≤ 0
    omega
  · obtain ⟨⟨j, w⟩, _⟩ := cnt_top (st := st) t hi
    obtain ⟨a, b⟩ := wk_sum pot w
    refine ⟨j, conn_iff.mpr ⟨t, b⟩, ?_⟩
    show -cnt g st t j = 0
    omega
/-- how far to a top -/
def NearTop (g : Web) (h : Nat → Int) (i m : Nat) : Prop := (∃ j, h j = 0 ∧ dst g i j = some m) ∧ ∀ j d, h j = 0 → dst g i j = some d → m ≤ d
structure IsTick (g : Web) (h : Nat → Int) (t : Nat) : Prop where
  all : ∀ i, i < g.n → ∃ m, NearTop g h i m ∧ m ≤ t
  one : t = 0 ∨ ∃ i, i < g.n ∧ NearTop g h i t
def First (g : Web) (st : List Int) (t : Nat) : Prop := StillAt g st t ∧ ∀ u, u < t → ¬ StillAt g st u
theorem First.inj {t u : Nat} (a : First g st t) (b : First g st u) : t = u := by
  rcases Nat.lt_trichotomy t u with l | l | l
  · exact absurd a.1 (b.2 t l)
  · exact l
  · exact absurd b.1 (a.2 u l)
theorem cnt_full {h : Nat → Int} (H : IsH g st h) {t i m : Nat} (hi : i < g.n) (hm : NearTop g h i m) (hl : m ≤ t) : cnt g st t i = - h i := by
  obtain ⟨j, e0, e1⟩ := hm.1
  have w := (dst_some.mp e1).1.mono hl
  obtain ⟨s, ws⟩ := rc_wk (st := st) w
  have a := (cnt_top (st := st) t hi).2 j s ws
  have b := (wk_sum H.gap ws).1
  obtain ⟨⟨k, wk⟩, _⟩ := cnt_top (st := st) t hi
  have c := (wk_sum H.gap wk).1
  have := H.le k wk.lt.2
  omega
theorem tick_first (ok : WOk g) (s : SOk g.n st) {h : Nat → Int} {t : Nat} (H : IsH g st h) (T : IsTick g h t) : First g st t := by
  have at_t : StillAt g st t := (still_cnt ok s).mpr fun i hi => by
    obtain ⟨m, hm, hl⟩ := T.all i hi
    rw [cnt_full H hi hm hl, cnt_full H hi hm (show m ≤ t + 1 by omega)]
  refine ⟨at_t, fun u hu hs => ?_⟩
  rcases T.one with e | ⟨i, hi, hm⟩
  · omega
  · have a := still_keeps ok s hs hi (u := t) (by omega)
    rw [cnt_full H hi hm (Nat.le_refl _)] at a
    obtain ⟨⟨j, w⟩, _⟩ := cnt_top (st := st) u hi
    obtain ⟨b, c⟩ := wk_sum H.gap w
    have hj : h j = 0 := by omega
    obtain ⟨d, hd, hl⟩ := lev_ex c
    have := hm.2 j d hj (dst_some.mpr hl)
    omega
theorem tick_lt {h : Nat → Int} {t : Nat} (T : IsTick g h t) (n1 : 1 ≤ g.n) : t < g.n := by
  rcases T.one with e | ⟨i, hi, ⟨j, _, e⟩, _⟩
  · omega
  · exact lev_lt (dst_some.mp e)
theorem neartop_ex {h : Nat → Int} (H : IsH g st h) {i : Nat} (hi : i < g.n) : ∃ m, NearTop g h i m := by
  obtain ⟨j, cj, ej⟩ := H.top i hi
  obtain ⟨t, w⟩ := conn_iff.mp cj
  have key : ∀ t, (∃ j, h j = 0 ∧ Rc g t i j) → ∃ m, NearTop g h i m := fun t => by
    induction t using Nat.strongRecOn with
    | _ t ih =>
      rintro ⟨j, e, w⟩
      obtain ⟨d, hd, hl⟩ := lev_ex w
      by_cases q : ∃ k d', h k = 0 ∧ dst g i k = some d' ∧ d' < d
      · obtain ⟨k, d', a, b, c⟩ := q
        exact ih d' (by omega) ⟨k, a, (dst_some.mp b).1⟩
      · refine ⟨d, ⟨j, e, dst_some.mpr hl⟩, fun k d' a b => Nat.le_of_not_lt fun z => q ⟨k, d', a, b, z⟩⟩
  exact key t ⟨j, ej, w⟩
theorem NearTop.inj {h : Nat → Int} {i m m' : Nat} (a : NearTop g h i m) (b : NearTop g h i m') : m = m' := by
  obtain ⟨j, h1, h2⟩ := a.1
  obtain ⟨k, h3, h4⟩ := b.1
  exact Nat.le_antisymm (a.2 k m' h3 h4) (b.2 j m h1 h2)
end
end Tm
set_option maxRecDepth 100000
set_option maxHeartbeats 4000000
/-! Rings, closed walks, the greatest share. Plain. -/
namespace Tm
open PySem
section
variable {g : Web} {st : List Int}
def psum (st : List Int) : List Nat → Int
  | a :: b :: l => stp st a b + psum st (b :: l)
  | _ => 0
def IsPath (g : Web) : List Nat → Prop
  | a :: b :: l => nbr g a b = true ∧ IsPath g (b :: l)
  | _ => True
theorem psum_app (st : List Int) (j : Nat) (l2 : List Nat) : ∀ l1, psum st (l1 ++ j :: l2) = psum st (l1 ++ [j]) + psum st (j :: l2)
  | [] => by show psum st (j :: l2) = 0 + psum st (j :: l2); omega
  | [a] => by show stp st a j + psum st (j :: l2) = stp st a j + 0 + psum st (j :: l2); omega
  | a :: b :: l => by
    have ih := psum_app st j l2 (b :: l)
    show stp st a b + psum st (b :: l ++ j :: l2) = stp st a b + psum st (b :: l ++ [j]) + psum st (j :: l2)
    rw [ih]
    omega
theorem path_app (g : Web) (j : Nat) (l2 : List Nat) : ∀ l1, IsPath g (l1 ++ j :: l2) ↔ IsPath g (l1 ++ [j]) ∧ IsPath g (j :: l2)
  | [] => ⟨fun h => ⟨trivial, h⟩, fun h => h.2⟩
  | [a] => ⟨fun h => ⟨⟨h.1, trivial⟩, h.2⟩, fun h => ⟨h.1.1, h.2⟩⟩
  | a :: b :: l => by
    have ih := path_app g j l2 (b :: l)
    exact ⟨fun h => ⟨⟨h.1, (ih.mp h.2).1⟩, (ih.mp h.2).2⟩, fun h => ⟨h.1.1, ih.mpr ⟨h.1.2, h.2⟩⟩⟩
theorem path_snoc {j k : Nat} : ∀ {l : List Nat}, IsPath g l → l.getLast? = some k → nbr g k j = true → IsPath g (l ++ [j]) ∧ psum st (l ++ [j]) = psum st l + stp st k j
  | [], _, e, _ => by cases e
  | [a], _, e, h => by cases e; exact ⟨⟨h, trivial⟩, by show stp st a j + 0 = 0 + stp st a j; omega⟩
  | a :: b :: l, p, e, h => by
    obtain ⟨h1, h2⟩ := path_snoc (l := b :: l) p.2 (by simpa [List.getLast?_cons_cons] using e) h
    refine ⟨⟨p.1, h1⟩, ?_⟩
    show stp st a b + psum st (b :: l ++ [j]) = stp st a b + psum st (b :: l) + stp st k j
    rw [h2]
    omega
theorem path_wk (ok : WOk g) {j : Nat} : ∀ {l : List Nat} {i : Nat}, i < g.n → IsPath g (i :: l) → (i :: l).getLast? = some j → Wk g st l.length i j (psum st (i :: l))
  | [], i, hi, _, e => by cases e; exact ⟨hi, rfl, rfl⟩
  | b :: l, i, hi, p, e => by
    have nb := nbr_lt ok p.1
    have ih := path_wk (l := l) (i := b) ok nb.2.1 p.2 (by simpa [List.getLast?_cons_cons] using e)
    have := Wk.app (Wk.one (st := st) ⟨hi, nb.2.1, .inr ⟨p.1, rfl⟩⟩) ih
    rw [Nat.add_comm] at this
    exact this
theorem path_lt (ok : WOk g) : ∀ {l : List Nat} {i : Nat}, i < g.n → IsPath g (i :: l) → ∀ x, x ∈ i :: l → conn g i x = true
  | [], i, hi, _, x, hx => by simp at hx; rw [hx]; exact conn_refl hi
  | b :: l, i, hi, p, x, hx => by
    have nb := nbr_lt ok p.1
    rcases List.mem_cons.mp hx with e | hx
    · rw [e]; exact conn_refl hi
    · exact conn_trans (conn_nbr ok p.1) (path_lt ok nb.2.1 p.2 x hx)
/-- a ring: its folk, each once -/
structure Ring (g : Web) (x : Nat) (l : List Nat) : Prop where
  nd : (x :: l).Nodup
  three : 2 ≤ l.length
  path : IsPath g (x :: (l ++ [x]))
def rsum (st : List Int) (x : Nat) (l : List Nat) : Int := psum st (x :: (l ++ [x]))
theorem Ring.lt (ok : WOk g) {x : Nat} {l : List Nat} (r : Ring g x l) : x < g.n := by
  have := r.three
  match l, this, r with
  | a :: l, _, r => exact (nbr_lt ok r.path.1).1
theorem Ring.wk (ok : WOk g) {x : Nat} {l : List Nat} (r : Ring g x l) : Wk g st (l.length + 1) x x (rsum st x l) := by
  have := path_wk (st := st) (j := x) ok (r.lt ok) r.path (by
    rw [List.getLast?_cons]
    simp)
  rw [List.length_append] at this
  exact this
theorem Ring.conn (ok : WOk g) {x : Nat} {l : List Nat} (r : Ring g x l) : ∀ y, y ∈ x :: l → conn g x y = true := fun y hy => by
  refine path_lt ok (r.lt ok) r.path y ?_
  rcases List.mem_cons.mp hy with e | e
  · rw [e]; simp
  · simp [e]
theorem Ring.len (ok : WOk g) {x r : Nat} {l : List Nat} (h : Ring g x l) (hc : Tm.conn g r x = true) : l.length + 1 ≤ (partOf g r).length := by
  have := List.Nodup.length_le_of_subset h.nd (l₂ := partOf g r) fun y hy => part_mem.mpr (conn_trans hc (h.conn ok y hy))
  exact this
theorem ring_turn {x m : Nat} {a b : List Nat} (r : Ring g x (a ++ m :: b)) : Ring g m (b ++ x :: a) ∧ rsum st m (b ++ x :: a) = rsum st x (a ++ m :: b) := by
  have p := r.path
  have e1 : x :: (a ++ m :: b ++ [x]) = (x :: a) ++ m :: (b ++ [x]) := by simp
  have e2 : m :: (b ++ x :: a ++ [m]) = (m :: b) ++ x :: (a ++ [m]) := by simp
  rw [e1, path_app] at p
  refine ⟨⟨?_, ?_, ?_⟩, ?_⟩
  · have q : (x :: (a ++ m :: b)).Perm (m :: (b ++ x :: a)) := by
      have : (x :: a ++ m :: b).Perm (m :: b ++ x :: a) := List.perm_append_comm
      simpa using this
    exact (List.Perm.nodup_iff q).mp r.nd
  · have := r.three
    simp at this ⊢
    omega
  · rw [e2, path_app]
    refine ⟨?_, ?_⟩
    · have := p.2
      simpa using this
    · have := p.1
      simpa using this
  · unfold rsum
    rw [e1, e2, psum_app, psum_app st m (b ++ [x])]
    have z1 : psum st (m :: b ++ [x]) = psum st (m :: (b ++ [x])) := rfl
    have z2 : psum st (x :: (a ++ [m])) = psum st (x :: a ++ [m]) := rfl
    rw [z1, z2]
    omega
/-- each ring has a turn that begins with its least -/
theorem ring_least {x : Nat} {l : List Nat} (r : Ring g x l) : ∃ m l', Ring g m l' ∧ (∀ y, y ∈ l' → m < y) ∧ rsum st m l' = rsum st x l ∧ l'.length = l.length ∧ m ∈ x :: l := by
  obtain ⟨m, hm, hmin⟩ : ∃ m, m ∈ x :: l ∧ ∀ y, y ∈ x :: l → m ≤ y := by
    have : ∀ l : List Nat, l ≠ [] → ∃ m, m ∈ l ∧ ∀ y, y ∈ l → m ≤ y := fun l => by
      induction l with
      | nil => exact fun h => absurd rfl h
      | cons a l ih =>
        intro _
        by_cases q : l = []
        · subst q
          exact ⟨a, by simp, fun y hy => by simp at hy; omega⟩
        · obtain ⟨m, h1, h2⟩ := ih q
          by_cases q2 : a ≤ m
          · exact ⟨a, by simp, fun y hy => by
              rcases List.mem_cons.mp hy with z | z
              · omega
              · have := h2 y z; omega⟩
          · exact ⟨m, List.mem_cons_of_mem _ h1, fun y hy => by
              rcases List.mem_cons.mp hy with z | z
              · omega
              · exact h2 y z⟩
    exact this (x :: l) (by simp)
  have strict : ∀ {m : Nat} {l' : List Nat}, Ring g m l' → (∀ y, y ∈ l' → m ≤ y) → ∀ y, y ∈ l' → m < y := fun {m l'} r h y hy => by
    have := h y hy
    have : m ≠ y := fun z => (List.nodup_cons.mp r.nd).1 (z ▸ hy)
    omega
  rcases List.mem_cons.mp hm with e | hm'
  · subst e
    exact ⟨m, l, r, strict r fun y hy => hmin y (List.mem_cons_of_mem _ hy), rfl, rfl, hm⟩
  · obtain ⟨a, b, e⟩ := List.append_of_mem hm'
    subst e
    obtain ⟨r2, e2⟩ := ring_turn (st := st) r
    refine ⟨m, _, r2, strict r2 fun y hy => hmin y ?_, e2, ?_, hm⟩
    · simp at hy ⊢
      rcases hy with z | z | z
      · exact .inr (.inr (.inr z))
      · exact .inl z
      · exact .inr (.inl z)
    · simp
      omega
/-- a walk, its rings cut out -/
theorem cut_rings (ok : WOk g) (s : SOk g.n st) {r : Nat} {p q : Int} (hp : 0 ≤ p) (hq : 0 ≤ q) (HR : ∀ x l, Ring g x l → conn g r x = true → rsum st x l * q ≤ p * ((l.length : Int) + 1)) {i : Nat} (hi : conn g r i = true) : ∀ {t j : Nat} {z : Int}, Wk g st t i j z →
    ∃ l, IsPath g (i :: l) ∧ (i :: l).Nodup ∧ (i :: l).getLast? = some j ∧ z * q - p * t ≤ psum st (i :: l) * q - p * l.length
  | 0, j, z, w => ⟨[], trivial, by simp, by rw [w.2.1]; rfl, by rw [w.2.2]; show (0 : Int) * q - p * ((0 : Nat) : Int) ≤ 0 * q - p * ((0 : Nat) : Int); omega⟩
  | t + 1, j, z, ⟨k, a, b, w, e, ez⟩ => by
    obtain ⟨l, h1, h2, h3, h4⟩ := cut_rings ok s hp hq HR hi w
    have ex : p * ((t + 1 : Nat) : Int) = p * t + p := by rw [Int.natCast_add, Int.mul_add]; simp
    rcases e.2.2 with ⟨ek, eb⟩ | ⟨nb, eb⟩
    · refine ⟨l, h1, h2, ek ▸ h3, ?_⟩
      rw [ez, eb, Int.add_zero, ex]
      omega
    · obtain ⟨p1, p2⟩ := path_snoc (st := st) h1 h3 nb
      have e4 : z * q = a * q + stp st k j * q := by rw [ez, eb, Int.add_mul]
      by_cases hj : j ∈ i :: l
      · -- back to where it was
        obtain ⟨l1, l2, el⟩ := List.append_of_mem hj
        have e5 : i :: l ++ [j] = l1 ++ j :: (l2 ++ [j]) := by rw [el]; simp
        rw [e5] at p1 p2
        rw [path_app] at p1
        rw [psum_app] at p2
        have hlast : (j :: l2).getLast? = some k := by
          rw [el] at h3
          rw [List.getLast?_append] at h3
          rw [List.getLast?_cons] at h3 ⊢
          simpa using h3
        have cyc : psum st (j :: (l2 ++ [j])) * q ≤ p * ((l2.length : Int) + 1) := by
          have nd2 : (j :: l2).Nodup := by
            rw [el] at h2
            exact (List.nodup_append.mp h2).2.1
          by_cases q2 : 2 ≤ l2.length
          · exact HR j l2 ⟨nd2, q2, p1.2⟩ (conn_trans hi (path_lt ok (conn_lt hi).2 h1 j hj))
          · match l2, q2, hlast, p1 with
            | [], _, hlast, _ =>
              cases hlast
              exact absurd rfl (nbr_lt ok nb).2.2
            | [c], _, hlast, _ =>
              cases hlast
              have : psum st (j :: ([c] ++ [j])) = 0 := by
                show stp st j c + (stp st c j + 0) = 0
                have hh : c < g.n ∧ j < g.n ∧ c ≠ j := nbr_lt ok nb
                rw [stp_neg s hh.2.1 hh.1]
                omega
              rw [this]
              have := Int.mul_nonneg hp (show (0 : Int) ≤ (([c] : List Nat).length : Int) + 1 by simp)
              omega
            | _ :: _ :: _, q2, _, _ => simp at q2
        -- the path up to j
        have e6 : ∃ l', l1 ++ [j] = i :: l' := by
          cases l1 with
          | nil => simp at el; exact ⟨[], by simp [el.1]⟩
          | cons y l1 => simp at el; exact ⟨l1 ++ [j], by simp [el.1]⟩
        obtain ⟨l', e6⟩ := e6
        have len : l.length = l'.length + l2.length := by
          have z1 := congrArg List.length el
          have z2 := congrArg List.length e6
          simp at z1 z2
          omega
        refine ⟨l', e6 ▸ p1.1, ?_, ?_, ?_⟩
        · rw [← e6]
          rw [el] at h2
          have : (l1 ++ [j]).Sublist (l1 ++ j :: l2) := List.Sublist.append_left (by simp) _
          exact h2.sublist this
        · rw [← e6]; simp
        · rw [e6] at p2
          have e7 : (psum st (i :: l') + psum st (j :: (l2 ++ [j]))) * q = psum st (i :: l) * q + stp st k j * q := by rw [p2, Int.add_mul]
          rw [Int.add_mul] at e7
          have e8 : p * (l.length : Int) = p * l'.length + p * l2.length := by rw [len, Int.natCast_add, Int.mul_add]
          have e9 : p * ((l2.length : Int) + 1) = p * l2.length + p := by rw [Int.mul_add, Int.mul_one]
          rw [e4, ex]
          omega
      · refine ⟨l ++ [j], p1, ?_, ?_, ?_⟩
        · have : (i :: (l ++ [j])).Perm (j :: i :: l) := by
            have := List.perm_append_singleton j (i :: l)
            simpa using this
          exact (List.Perm.nodup_iff this).mpr (List.nodup_cons.mpr ⟨hj, h2⟩)
        · rw [List.getLast?_cons]; simp
        · have p2' : psum st (i :: (l ++ [j])) = psum st (i :: l) + stp st k j := p2
          rw [p2', Int.add_mul, e4, ex, List.length_append]
          have : p * ((l.length + [j].length : Nat) : Int) = p * l.length + p := by
            rw [Int.natCast_add, Int.mul_add]
            simp
          rw [this]
          omega
theorem closed_le (ok : WOk g) (s : SOk g.n st) {r : Nat} {p q : Int} (hp : 0 ≤ p) (hq : 0 ≤ q) (HR : ∀ x l, Ring g x l → conn g r x = true → rsum st x l * q ≤ p * ((l.length : Int) + 1)) {i t : Nat} {z : Int} (hi : conn g r i = true) (w : Wk g st t i i z) : z * q ≤ p * t := by
  obtain ⟨l, h1, h2, h3, h4⟩ := cut_rings ok s hp hq HR hi w
  have : l = [] := by
    cases l with
    | nil => rfl
    | cons b l =>
      have : i ∈ b :: l := by
        rw [List.getLast?_cons_cons] at h3
        exact List.mem_of_getLast? h3
      exact absurd this (List.nodup_cons.mp h2).1
  subst this
  have e : psum st [i] * q - p * (([] : List Nat).length : Int) = 0 := by
    show (0 : Int) * q - p * ((0 : Nat) : Int) = 0
    simp
  omega
/-- the greatest share, in lowest terms -/
structure Best (S : Nat → Int → Prop) (p q : Nat) : Prop where
  pos : 0 < q
  low : Nat.gcd p q = 1
  le : ∀ t z, S t z → z * q ≤ p * t
  at_ : (p = 0 ∧ q = 1) ∨ ∃ t z, 0 < t ∧ S t z ∧ z * q = p * t
theorem best_le {S S' : Nat → Int → Prop} {p q p' q' : Nat} (a : Best S p q) (b : Best S' p' q') (h : ∀ t z, S t z → S' t z) : p * q' ≤ p' * q := by
  rcases a.at_ with ⟨e, _⟩ | ⟨t, z, ht, hs, e⟩
  · rw [e]; omega
  · have l := b.le t z (h t z hs)
    have h1 : (z * q') * q ≤ (p' * t : Int) * q := Int.mul_le_mul_of_nonneg_right l (by omega)
    have h2 : (z * q') * q = ((p : Int) * q') * t := by
      rw [show z * (q' : Int) * q = z * q * q' by rw [Int.mul_right_comm], e, Int.mul_right_comm]
    have h3 : ((p' : Int) * t) * q = ((p' : Int) * q) * t := Int.mul_right_comm _ _ _
    rw [h2, h3] at h1
    have := Int.le_of_mul_le_mul_right h1 (by omega : (0 : Int) < t)
    exact_mod_cast this
theorem Best.inj {S : Nat → Int → Prop} {p q p' q' : Nat} (a : Best S p q) (b : Best S p' q') : p = p' ∧ q = q' := by
  have e : p * q' = p' * q := Nat.le_antisymm (best_le a b fun _ _ h => h) (best_le b a fun _ _ h => h)
  have d1 : q ∣ q' := by
    have : q ∣ p * q' := ⟨p', by rw [e, Nat.mul_comm]⟩
    exact (Nat.Coprime.dvd_of_dvd_mul_left (show Nat.Coprime q p from by rw [Nat.coprime_comm]; exact a.low) this)
  have d2 : q' ∣ q := by
    have : q' ∣ p' * q := ⟨p, by rw [← e, Nat.mul_comm]⟩
    exact (Nat.Coprime.dvd_of_dvd_mul_left (show Nat.Coprime q' p' from by rw [Nat.coprime_comm]; exact b.low) this)
  have eq : q = q' := Nat.dvd_antisymm d1 d2
  subst eq
  exact ⟨Nat.eq_of_mul_eq_mul_right a.pos e, rfl⟩
/-- closed walks of r's part -/
def Closed (g : Web) (st : List Int) (r : Nat) (t : Nat) (z : Int) : Prop := ∃ i, conn g r i = true ∧ Wk g st t i i z
/-- from some of them that hold the rings, to all -/
theorem best_all (ok : WOk g) (s : SOk g.n st) {r p q : Nat} {S : Nat → Int → Prop} (b : Best S p q) (h1 : ∀ t z, S t z → 0 < t → Closed g st r t z) (h2 : ∀ x l, Ring g x l → conn g r x = true → ∃ z, rsum st x l ≤ z ∧ S (l.length + 1) z) : Best (Closed g st r) p q := by
  refine ⟨b.pos, b.low, fun t z hz => ?_, ?_⟩
  · obtain ⟨i, hi, w⟩ := hz
    refine closed_le ok s (by omega) (by omega) (fun x l hr hc => ?_) hi w
    obtain ⟨z', hl, hs⟩ := h2 x l hr hc
    have := b.le _ _ hs
    have m : rsum st x l * q ≤ z' * q := Int.mul_le_mul_of_nonneg_right hl (by omega)
    rw [Int.natCast_add] at this
    exact Int.le_trans m this
  · rcases b.at_ with e | ⟨t, z, ht, hs, e⟩
    · exact .inl e
    · exact .inr ⟨t, z, ht, h1 t z hs ht, e⟩
theorem best_zero {S : Nat → Int → Prop} (h : ∀ t z, ¬ S t z) : Best S 0 1 := ⟨by omega, by simp, fun t z hs => absurd hs (h t z), .inl ⟨rfl, rfl⟩⟩
/-- one more is looked at -/
theorem best_step {S S' : Nat → Int → Prop} {p q t v : Nat} (b : Best S p q) (ht : 0 < t) (h : ∀ u z, S' u z ↔ S u z ∨ (u = t ∧ z = (v : Int))) :
    Best S' (if p * t < v * q then v / Nat.gcd v t else p) (if p * t < v * q then t / Nat.gcd v t else q) := by
  have g0 : 0 < Nat.gcd v t := Nat.gcd_pos_of_pos_right _ ht
  by_cases c : p * t < v * q
  · rw [if_pos c, if_pos c]
    have e1 : v / Nat.gcd v t * Nat.gcd v t = v := Nat.div_mul_cancel (Nat.gcd_dvd_left _ _)
    have e2 : t / Nat.gcd v t * Nat.gcd v t = t := Nat.div_mul_cancel (Nat.gcd_dvd_right _ _)
    have cross : (v / Nat.gcd v t) * t = v * (t / Nat.gcd v t) := by
      refine Nat.eq_of_mul_eq_mul_right g0 ?_
      rw [Nat.mul_right_comm, e1, Nat.mul_assoc, e2]
    have q0 : 0 < t / Nat.gcd v t := Nat.div_pos (Nat.le_of_dvd ht (Nat.gcd_dvd_right _ _)) g0
    refine ⟨q0, Nat.gcd_div_gcd_div_gcd_of_pos_right ht, fun u z hz => ?_, .inr ⟨t, v, ht, (h _ _).mpr (.inr ⟨rfl, rfl⟩), by exact_mod_cast cross.symm⟩⟩
    rcases (h u z).mp hz with hz | ⟨e, ez⟩
    · have l := b.le u z hz
      have c' : (p : Int) * t ≤ v * q := by exact_mod_cast Nat.le_of_lt c
      have l1 : z * q * t ≤ (p * u : Int) * t := Int.mul_le_mul_of_nonneg_right l (by omega)
      have l2 : ((p : Int) * t) * u ≤ (v * q : Int) * u := Int.mul_le_mul_of_nonneg_right c' (by omega)
      have l3 : (z * t) * q ≤ ((v : Int) * u) * q := by
        rw [Int.mul_right_comm, Int.mul_right_comm (v : Int)]
        rw [Int.mul_right_comm (p : Int)] at l1
        exact Int.le_trans l1 l2
      have l4 : z * t ≤ (v : Int) * u := Int.le_of_mul_le_mul_right l3 (by have := b.pos; omega)
      have l5 : (z * (t / Nat.gcd v t : Nat)) * (Nat.gcd v t : Nat) ≤ (((v / Nat.gcd v t : Nat) : Int) * u) * (Nat.gcd v t : Nat) := by
        rw [Int.mul_assoc, Int.mul_right_comm, ← Int.natCast_mul, ← Int.natCast_mul, e1, e2]
        exact l4
      exact Int.le_of_mul_le_mul_right l5 (by omega)
    · rw [e, ez]
      exact_mod_cast Nat.le_of_eq cross.symm
  · rw [if_neg c, if_neg c]
    refine ⟨b.pos, b.low, fun u z hz => ?_, ?_⟩
    · rcases (h u z).mp hz with hz | ⟨e, ez⟩
      · exact b.le u z hz
      · rw [e, ez]
        exact_mod_cast Nat.le_of_not_lt c
    · rcases b.at_ with e | ⟨t', z, ht', hs, e⟩
      · exact .inl e
      · exact .inr ⟨t', z, ht', (h _ _).mpr (.inl hs), e⟩
theorem Best.congr {S S' : Nat → Int → Prop} {p q : Nat} (b : Best S p q) (h : ∀ t z, S' t z ↔ S t z) : Best S' p q := ⟨b.pos, b.low, fun t z hz => b.le t z ((h t z).mp hz), b.at_.elim .inl fun ⟨t, z, a, c, e⟩ => .inr ⟨t, z, a, (h t z).mpr c, e⟩⟩
theorem best_list : ∀ L : List (Nat × Nat), (∀ x, x ∈ L → 0 < x.1) → ∃ p q, Best (fun t z => ∃ v : Nat, (t, v) ∈ L ∧ z = v) p q
  | [], _ => ⟨0, 1, best_zero fun t z => by simp⟩
  | (t, v) :: L, h => by
    obtain ⟨p, q, b⟩ := best_list L fun x hx => h x (List.mem_cons_of_mem _ hx)
    refine ⟨_, _, best_step (t := t) (v := v) b (h (t, v) (by simp)) fun u z => ?_⟩
    constructor
    · rintro ⟨w, hw, e⟩
      rcases List.mem_cons.mp hw with z | z
      · cases z; exact .inr ⟨rfl, e⟩
      · exact .inl ⟨w, z, e⟩
    · rintro (⟨w, hw, e⟩ | ⟨e1, e2⟩)
      · exact ⟨w, List.mem_cons_of_mem _ hw, e⟩
      · exact ⟨v, by simp [e1], e2⟩
theorem tabs_ex (ok : WOk g) : ∀ t, ∃ T, TabIs g st t T
  | 0 => ⟨(List.range g.n).map (firstR g.n), by rw [List.length_map, List.length_range], fun i hi => by
      rw [getD_map _ _ hi]
      exact firstR_is hi⟩
  | t + 1 => by
    obtain ⟨T, h⟩ := tabs_ex ok t
    refine ⟨T.map fun row => rowB row (tab g st), by rw [List.length_map, h.len], fun i hi => ?_⟩
    have hi' : i < T.length := by rw [h.len]; exact hi
    have e : (T.map fun row => rowB row (tab g st)).getD i [] = rowB (T.getD i []) (tab g st) := by
      rw [List.getD_eq_getElem?_getD, List.getElem?_map, List.getElem?_eq_getElem hi', List.getD_eq_getElem?_getD, List.getElem?_eq_getElem hi']
      rfl
    rw [e]
    exact rowB_is (h.is i hi) (tab_is ok)
theorem wk_stay {i : Nat} (hi : i < g.n) : ∀ t, Wk g st t i i 0
  | 0 => ⟨hi, rfl, rfl⟩
  | t + 1 => ⟨i, 0, 0, wk_stay hi t, ⟨hi, hi, .inl ⟨rfl, rfl⟩⟩, rfl⟩
theorem wk_lim (s : SOk g.n st) : ∀ {t i j : Nat} {z : Int}, Wk g st t i j z → z ≤ t
  | 0, i, j, z, w => by rw [w.2.2]; exact Int.le_refl _
  | t + 1, i, j, z, ⟨k, a, b, w, e, ez⟩ => by
    have := wk_lim s w
    rcases e.2.2 with ⟨_, h⟩ | ⟨_, h⟩
    · omega
    · have := stp_lim s e.1 e.2.1
      omega
/-- the greatest closed walk of a length -/
theorem mx_ex (ok : WOk g) (s : SOk g.n st) (t : Nat) {i : Nat} (hi : i < g.n) : ∃ v : Nat, MaxO (Wk g st t i i) (some (v : Int)) ∧ v ≤ t := by
  obtain ⟨T, h⟩ := tabs_ex (st := st) ok t
  have m := (h.is i hi).is i hi
  cases e : (T.getD i []).getD i none with
  | none => rw [e] at m; exact absurd (wk_stay hi t) (m 0)
  | some z =>
    rw [e] at m
    have h0 := m.2 0 (wk_stay hi t)
    have h1 := wk_lim s m.1
    obtain ⟨v, rfl⟩ : ∃ v : Nat, z = v := ⟨z.toNat, by omega⟩
    exact ⟨v, m, by omega⟩
/-- the closed walks that the program looks at: the greatest of each length up to m, and of length m + 1 those of some folk -/
def Seen (g : Web) (st : List Int) (r m : Nat) (L : List Nat) (t : Nat) (z : Int) : Prop := ∃ i, MaxO (Wk g st t i i) (some z) ∧ ((0 < t ∧ t ≤ m ∧ conn g r i = true) ∨ (t = m + 1 ∧ i ∈ L))
theorem seen_all (ok : WOk g) (s : SOk g.n st) {r p q : Nat} (b : Best (Seen g st r (partOf g r).length []) p q) : Best (Closed g st r) p q := by
  refine best_all ok s b (fun t z ⟨i, h1, h2⟩ ht => ?_) fun x l hr hc => ?_
  · rcases h2 with ⟨_, _, h2⟩ | ⟨_, h2⟩
    · exact ⟨i, h2, h1.1⟩
    · cases h2
  · obtain ⟨v, hv, _⟩ := mx_ex ok s (l.length + 1) (hr.lt ok)
    exact ⟨v, hv.2 _ (hr.wk ok), x, hv, .inl ⟨by omega, hr.len ok hc, hc⟩⟩
theorem best_ex (ok : WOk g) (s : SOk g.n st) (r : Nat) : ∃ p q, Best (Closed g st r) p q := by
  have ch : ∀ t i : Nat, ∃ v : Nat, i < g.n → MaxO (Wk g st t i i) (some (v : Int)) := fun t i => by
    by_cases hi : i < g.n
    · obtain ⟨v, h, _⟩ := mx_ex ok s t hi
      exact ⟨v, fun _ => h⟩
    · exact ⟨0, fun z => absurd z hi⟩
  let f : Nat → Nat → Nat := fun t i => Classical.choose (ch t i)
  have hf : ∀ t i, i < g.n → MaxO (Wk g st t i i) (some (f t i : Int)) := fun t i => Classical.choose_spec (ch t i)
  obtain ⟨p, q, b⟩ := best_list ((partOf g r).flatMap fun i => (List.range (partOf g r).length).map fun k => (k + 1, f (k + 1) i)) fun x hx => by
    obtain ⟨i, _, hx⟩ := List.mem_flatMap.mp hx
    obtain ⟨k, _, e⟩ := List.mem_map.mp hx
    rw [← e]
    exact Nat.succ_pos k
  refine ⟨p, q, seen_all ok s (b.congr fun t z => ?_)⟩
  constructor
  · rintro ⟨i, h1, ⟨h2, h3, h4⟩ | ⟨_, h2⟩⟩
    · refine ⟨f t i, List.mem_flatMap.mpr ⟨i, part_mem.mpr h4, List.mem_map.mpr ⟨t - 1, List.mem_range.mpr (by omega), ?_⟩⟩, ?_⟩
      · rw [show t - 1 + 1 = t by omega]
      · have a := hf t i (conn_lt h4).2
        have := h1.2 _ a.1
        have := a.2 _ h1.1
        omega
    · cases h2
  · rintro ⟨v, h, rfl⟩
    obtain ⟨i, hi, hx⟩ := List.mem_flatMap.mp h
    obtain ⟨k, hk, e⟩ := List.mem_map.mp hx
    cases e
    have hi := part_mem.mp hi
    exact ⟨i, hf _ i (conn_lt hi).2, .inl ⟨by omega, by have := List.mem_range.mp hk; omega, hi⟩⟩
open Classical in
/-- one's speed -/
noncomputable def spd (g : Web) (st : List Int) (r : Nat) : Nat × Nat := if h : ∃ x : Nat × Nat, Best (Closed g st r) x.1 x.2 then Classical.choose h else (0, 1)
theorem spd_best (ok : WOk g) (s : SOk g.n st) (r : Nat) : Best (Closed g st r) (spd g st r).1 (spd g st r).2 := by
  obtain ⟨p, q, b⟩ := best_ex ok s r
  unfold spd
  have h : ∃ x : Nat × Nat, Best (Closed g st r) x.1 x.2 := ⟨(p, q), b⟩
  rw [dif_pos h]
  exact Classical.choose_spec h
theorem spd_is (ok : WOk g) (s : SOk g.n st) {r p q : Nat} (b : Best (Closed g st r) p q) : spd g st r = (p, q) := by
  have := (spd_best ok s r).inj b
  exact Prod.ext this.1 this.2
theorem closed_part {r i : Nat} (h : conn g r i = true) (t : Nat) (z : Int) : Closed g st i t z ↔ Closed g st r t z := ⟨fun ⟨k, a, b⟩ => ⟨k, conn_trans h a, b⟩, fun ⟨k, a, b⟩ => ⟨k, conn_trans (conn_symm h) a, b⟩⟩
theorem spd_part (ok : WOk g) (s : SOk g.n st) {r i : Nat} (h : conn g r i = true) : spd g st i = spd g st r := spd_is ok s ((spd_best ok s r).congr (closed_part h))
end
end Tm
set_option maxRecDepth 100000
set_option maxHeartbeats 4000000
/-! Round trips; rings found one after the other. Plain. -/
namespace Tm
open PySem
section
variable {g : Web} {st : List Int}
/-! ### states come back -/
def code : List Int → Nat
  | [] => 0
  | x :: l => x.toNat + 3 * code l
theorem code_lt : ∀ {l : List Int}, (∀ x, x ∈ l → 0 ≤ x ∧ x ≤ 2) → code l < 3 ^ l.length
  | [], _ => by decide
  | x :: l, h => by
    have ih := code_lt (l := l) fun y hy => h y (List.mem_cons_of_mem _ hy)
    have hx := h x (by simp)
    rw [List.length_cons, Nat.pow_succ]
    show x.toNat + 3 * code l < _
    omega
theorem code_inj : ∀ {l l' : List Int}, l.length = l'.length → (∀ x, x ∈ l → 0 ≤ x ∧ x ≤ 2) → (∀ x, x ∈ l' → 0 ≤ x ∧ x ≤ 2) → code l = code l' → l = l'
  | [], [], _, _, _, _ => rfl
  | [], _ :: _, h, _, _, _ => by cases h
  | _ :: _, [], h, _, _, _ => by cases h
  | x :: l, y :: l', hl, h, h', e => by
    have hx := h x (by simp)
    have hy := h' y (by simp)
    have e : x.toNat + 3 * code l = y.toNat + 3 * code l' := e
    have e1 : x = y := by omega
    have e2 : code l = code l' := by omega
    rw [e1, code_inj (by simpa using hl) (fun z hz => h z (List.mem_cons_of_mem _ hz)) (fun z hz => h' z (List.mem_cons_of_mem _ hz)) e2]
/-- the first state that was there before: m, first there at j -/
structure Per (g : Web) (st : List Int) (m j : Nat) : Prop where
  lt : j < m
  same : itr g st m = itr g st j
  ne : ∀ a b, a < b → b < m → itr g st a ≠ itr g st b
  le : m ≤ 729
theorem per_ex (s : SOk g.n st) (n6 : g.n ≤ 6) : ∃ m j, Per g st m j := by
  have hit : ∃ m, m ≤ 729 ∧ ∃ j, j < m ∧ itr g st m = itr g st j := by
    refine Classical.byContradiction fun no => ?_
    have ne : ∀ a b, a < b → b ≤ 729 → itr g st a ≠ itr g st b := fun a b h1 h2 e => no ⟨b, h2, a, h1, e.symm⟩
    have ok : ∀ k, SOk g.n (itr g st k) := itr_ok s
    have nd : ((List.range 730).map fun k => code (itr g st k)).Nodup := by
      show List.Pairwise _ _
      rw [List.pairwise_map]
      refine List.Pairwise.imp_of_mem ?_ List.nodup_range
      intro a b ha hb hab e
      have ha := List.mem_range.mp ha
      have hb := List.mem_range.mp hb
      have e2 : itr g st a = itr g st b := code_inj (by rw [(ok a).len, (ok b).len]) (ok a).mood (ok b).mood e
      rcases Nat.lt_or_gt_of_ne hab with l | l
      · exact ne a b l (by omega) e2
      · exact ne b a l (by omega) e2.symm
    have sub : ((List.range 730).map fun k => code (itr g st k)) ⊆ List.range 729 := fun x hx => by
      obtain ⟨k, _, e⟩ := List.mem_map.mp hx
      rw [← e]
      have h1 := code_lt (ok k).mood
      rw [(ok k).len] at h1
      have h2 : 3 ^ g.n ≤ 3 ^ 6 := Nat.pow_le_pow_right (by decide) n6
      exact List.mem_range.mpr (Nat.lt_of_lt_of_le h1 h2)
    have := List.Nodup.length_le_of_subset nd sub
    rw [List.length_map, List.length_range, List.length_range] at this
    omega
  obtain ⟨m, hm, hj⟩ := hit
  induction m using Nat.strongRecOn with
  | _ m ih =>
    by_cases q : ∃ k, k < m ∧ ∃ j, j < k ∧ itr g st k = itr g st j
    · obtain ⟨k, hk, hj'⟩ := q
      exact ih k hk (by omega) hj'
    · obtain ⟨j, h1, h2⟩ := hj
      exact ⟨m, j, h1, h2, fun a b ha hb e => q ⟨b, hb, a, ha, e.symm⟩, hm⟩
theorem itr_add (g : Web) (st : List Int) (a : Nat) : ∀ b, itr g st (a + b) = itr g (itr g st a) b
  | 0 => rfl
  | b + 1 => by
    show nxt g (itr g st (a + b)) = nxt g (itr g (itr g st a) b)
    rw [itr_add g st a b]
theorem per_turn {m j : Nat} (p : Per g st m j) (k : Nat) : itr g st (j + k) = itr g st (j + k % (m - j)) := by
  have hp : 0 < m - j := by have := p.lt; omega
  induction k using Nat.strongRecOn with
  | _ k ih =>
    by_cases q : k < m - j
    · rw [Nat.mod_eq_of_lt q]
    · have e1 : itr g st (j + k) = itr g st (j + (k - (m - j))) := by
        have : j + k = m + (k - (m - j)) := by have := p.lt; omega
        rw [this, itr_add, p.same, ← itr_add]
      have e2 : (k - (m - j)) % (m - j) = k % (m - j) := (Nat.mod_eq_sub_mod (by omega)).symm
      rw [e1, ih _ (by omega), e2]
/-! ### the sum of a ring, by places -/
theorem psum_snoc (st : List Int) (j : Nat) : ∀ (l : List Nat) (x : Nat), psum st (x :: l ++ [j]) = psum st (x :: l) + stp st ((x :: l).getLast (List.cons_ne_nil _ _)) j
  | [], x => by show stp st x j + 0 = 0 + stp st x j; omega
  | y :: l, x => by
    have ih := psum_snoc st j l y
    show stp st x y + psum st (y :: l ++ [j]) = stp st x y + psum st (y :: l) + _
    rw [ih]
    simp only [List.getLast_cons_cons]
    omega
theorem psum_range (st : List Int) : ∀ (l : List Nat) (x : Nat), ((List.range l.length).map fun k => stp st ((x :: l).getD k 0) (l.getD k 0)).sum = psum st (x :: l)
  | [], x => rfl
  | y :: l, x => by
    have ih := psum_range st l y
    rw [List.length_cons, List.range_succ_eq_map, List.map_cons, List.sum_cons, List.map_map]
    show stp st x y + _ = stp st x y + psum st (y :: l)
    rw [← ih]
    rfl
/-! ### the rings, in the sequence in which they are found -/
def closes (g : Web) (w : List Nat) : Bool := decide (2 < w.length) && decide (w.headD 0 ∈ nrow g (w.getLastD 0))
def heirs (g : Web) (w : List Nat) : List Nat := (nrow g (w.getLastD 0)).filter fun t => decide (w.headD 0 < t) && !decide (t ∈ w)
def dfsF (g : Web) : Nat → List Nat → List (List Nat)
  | 0, _ => []
  | f + 1, w => (if closes g w then [w] else []) ++ (heirs g w).reverse.flatMap fun t => dfsF g f (w ++ [t])
def dfs (g : Web) (w : List Nat) : List (List Nat) := dfsF g (7 - w.length) w
def ringsL (g : Web) : List (List Nat) := (List.range g.n).reverse.flatMap fun x => dfs g [x]
/-- a walk on the way to rings -/
structure GW (g : Web) (w : List Nat) : Prop where
  ex : ∃ x l, w = x :: l ∧ ∀ y, y ∈ l → x < y
  nd : w.Nodup
  lt : ∀ y, y ∈ w → y < g.n
  path : IsPath g w
theorem GW.len {w : List Nat} (h : GW g w) : w.length ≤ g.n := by
  have := List.Nodup.length_le_of_subset h.nd (l₂ := List.range g.n) fun y hy => List.mem_range.mpr (h.lt y hy)
  rw [List.length_range] at this
  exact this
theorem GW.one {x : Nat} (h : x < g.n) : GW g [x] := ⟨⟨x, [], rfl, fun y hy => by cases hy⟩, by simp, fun y hy => by simp at hy; rw [hy]; exact h, trivial⟩
theorem getLast_D : ∀ {l : List Nat} {x : Nat}, (x :: l).getLast? = some ((x :: l).getLastD 0)
  | [], x => rfl
  | y :: l, x => by rw [List.getLast?_cons_cons, getLast_D (l := l) (x := y)]; rfl
theorem GW.heir {w : List Nat} {t : Nat} (h : GW g w) (ht : t ∈ heirs g w) : GW g (w ++ [t]) := by
  obtain ⟨x, l, rfl, hx⟩ := h.ex
  unfold heirs at ht
  rw [List.mem_filter, Bool.and_eq_true, decide_eq_true_iff, Bool.not_eq_true', decide_eq_false_iff_not] at ht
  obtain ⟨h1, h2, h3⟩ := ht
  have h2 : x < t := h2
  have nb := nrow_mem.mp h1
  refine ⟨⟨x, l ++ [t], rfl, fun y hy => ?_⟩, ?_, fun y hy => ?_, (path_snoc (st := []) h.path getLast_D nb.2).1⟩
  · rcases List.mem_append.mp hy with z | z
    · exact hx y z
    · simp at z; rw [z]; exact h2
  · rw [List.nodup_append]
    exact ⟨h.nd, by simp, fun a ha b hb e => h3 (by simp at hb; rw [← hb, ← e]; exact ha)⟩
  · rcases List.mem_append.mp hy with z | z
    · exact h.lt y z
    · simp at z; rw [z]; exact nb.1
theorem dfs_step (n6 : g.n ≤ 6) {w : List Nat} (h : GW g w) : dfs g w = (if closes g w then [w] else []) ++ (heirs g w).reverse.flatMap fun t => dfs g (w ++ [t]) := by
  have hl := h.len
  unfold dfs
  have e : 7 - w.length = (6 - w.length) + 1 := by omega
  rw [e]
  show _ ++ _ = _
  congr 1
  congr 1
  funext t
  rw [List.length_append, show 7 - (w.length + [t].length) = 6 - w.length by rw [List.length_singleton]; omega]
theorem closes_ring {x : Nat} {l : List Nat} (h : GW g (x :: l)) (hc : closes g (x :: l) = true) : Ring g x l := by
  unfold closes at hc
  rw [Bool.and_eq_true, decide_eq_true_iff, decide_eq_true_iff] at hc
  have nb := (nrow_mem.mp hc.2).2
  refine ⟨h.nd, by have := hc.1; simp at this; omega, ?_⟩
  exact (path_snoc (st := []) h.path getLast_D nb).1
theorem dfsF_mem : ∀ (f : Nat) {w v : List Nat}, GW g w → v ∈ dfsF g f w → GW g v ∧ closes g v = true
  | 0, w, v, _, h => by cases h
  | f + 1, w, v, hw, h => by
    rcases List.mem_append.mp h with h | h
    · split at h
      · rename_i hc
        simp at h
        subst h
        exact ⟨hw, hc⟩
      · cases h
    · obtain ⟨t, ht, h⟩ := List.mem_flatMap.mp h
      exact dfsF_mem f (hw.heir (List.mem_reverse.mp ht)) h
theorem ring_of_mem {v : List Nat} (h : v ∈ ringsL g) : ∃ x l, v = x :: l ∧ Ring g x l ∧ ∀ y, y ∈ l → x < y := by
  obtain ⟨x, hx, hv⟩ := List.mem_flatMap.mp h
  obtain ⟨a, b⟩ := dfsF_mem _ (GW.one (List.mem_range.mp (List.mem_reverse.mp hx))) hv
  obtain ⟨y, l, rfl, hl⟩ := a.ex
  exact ⟨y, l, rfl, closes_ring a b, hl⟩
theorem path_take {x : Nat} : ∀ {l1 l2 : List Nat}, IsPath g (l1 ++ l2) → IsPath g l1
  | [], _, _ => trivial
  | [a], _, _ => trivial
  | a :: b :: l, l2, h => ⟨h.1, path_take (x := x) (l1 := b :: l) h.2⟩
theorem mem_of_ring (ok : WOk g) {x : Nat} {l : List Nat} (r : Ring g x l) (hx : ∀ y, y ∈ l → x < y) : x :: l ∈ ringsL g := by
  have n6 := ok.n6
  have hlt : ∀ y, y ∈ x :: l → y < g.n := fun y hy => (conn_lt (r.conn ok y hy)).2
  have main : ∀ (l2 l1 : List Nat), l = l1 ++ l2 → x :: l ∈ dfs g (x :: l1) := fun l2 => by
    induction l2 with
    | nil =>
      intro l1 e
      rw [List.append_nil] at e
      subst e
      have gw : GW g (x :: l) := ⟨⟨x, l, rfl, hx⟩, r.nd, hlt, path_take (x := x) (l2 := [x]) r.path⟩
      rw [dfs_step n6 gw]
      refine List.mem_append_left _ ?_
      have hc : closes g (x :: l) = true := by
        unfold closes
        rw [Bool.and_eq_true, decide_eq_true_iff, decide_eq_true_iff]
        refine ⟨by have := r.three; simp; omega, nrow_mem.mpr ⟨hlt x (by simp), ?_⟩⟩
        have p := r.path
        have hne : x :: l ≠ [] := List.cons_ne_nil _ _
        have e1 : x :: l = (x :: l).dropLast ++ [(x :: l).getLast hne] := (List.dropLast_concat_getLast hne).symm
        have e2 : (x :: l).getLastD 0 = (x :: l).getLast hne := by rw [List.getLastD_cons, List.getLast_eq_getLastD]
        rw [e2]
        have e3 : x :: (l ++ [x]) = (x :: l).dropLast ++ (x :: l).getLast hne :: [x] := by
          rw [show x :: (l ++ [x]) = (x :: l) ++ [x] from rfl]
          conv => lhs; rw [e1]
          simp
        rw [e3, path_app] at p
        exact p.2.1
      rw [if_pos hc]
      simp
    | cons t l2 ih =>
      intro l1 e
      have e' : l = (l1 ++ [t]) ++ l2 := by rw [e]; simp
      have hm := ih (l1 ++ [t]) e'
      have nd := r.nd
      rw [e] at nd
      have p : IsPath g ((x :: l1) ++ t :: (l2 ++ [x])) := by
        have := r.path
        rw [e] at this
        simpa using this
      have gw : GW g (x :: l1) := by
        refine ⟨⟨x, l1, rfl, fun y hy => hx y (by rw [e]; simp [hy])⟩, ?_, fun y hy => hlt y (by rw [e]; simp at hy ⊢; rcases hy with z | z; exact .inl z; exact .inr (.inl z)), path_take (x := x) p⟩
        have : ((x :: l1) ++ t :: l2).Nodup := by simpa using nd
        exact (List.nodup_append.mp this).1
      rw [dfs_step n6 gw]
      refine List.mem_append_right _ (List.mem_flatMap.mpr ⟨t, List.mem_reverse.mpr ?_, hm⟩)
      unfold heirs
      rw [List.mem_filter, Bool.and_eq_true, decide_eq_true_iff, Bool.not_eq_true', decide_eq_false_iff_not]
      have nb : nbr g ((x :: l1).getLastD 0) t = true := by
        have hne : x :: l1 ≠ [] := List.cons_ne_nil _ _
        have e1 : x :: l1 = (x :: l1).dropLast ++ [(x :: l1).getLast hne] := (List.dropLast_concat_getLast hne).symm
        have e2 : (x :: l1).getLastD 0 = (x :: l1).getLast hne := by rw [List.getLastD_cons, List.getLast_eq_getLastD]
        rw [e2]
        rw [path_app] at p
        have p1 := p.1
        rw [e1] at p1
        have : (x :: l1).dropLast ++ [(x :: l1).getLast hne] ++ [t] = (x :: l1).dropLast ++ (x :: l1).getLast hne :: [t] := by simp
        rw [this, path_app] at p1
        exact p1.2.1
      refine ⟨nrow_mem.mpr ⟨hlt t (by rw [e]; simp), nb⟩, hx t (by rw [e]; simp), fun z => ?_⟩
      have : ((x :: l1) ++ t :: l2).Nodup := by simpa using nd
      exact (List.nodup_append.mp this).2.2 t z t (by simp) rfl
  exact List.mem_flatMap.mpr ⟨x, List.mem_reverse.mpr (List.mem_range.mpr (hlt x (by simp))), main l [] rfl⟩
/-- one that lies below: the best stays -/
theorem best_skip {S S' : Nat → Int → Prop} {p q t : Nat} {z : Int} (b : Best S p q) (hz : z * q ≤ p * t) (h : ∀ u y, S' u y ↔ S u y ∨ (u = t ∧ y = z)) : Best S' p q :=
  ⟨b.pos, b.low, fun u y hy => ((h u y).mp hy).elim (b.le u y) fun ⟨e1, e2⟩ => by rw [e1, e2]; exact hz, b.at_.elim .inl fun ⟨u, y, a, c, e⟩ => .inr ⟨u, y, a, (h u y).mpr (.inl c), e⟩⟩
/-- the best of the rings of a part -/
def RSeen (g : Web) (st : List Int) (vs : List (List Nat)) (t : Nat) (z : Int) : Prop := ∃ x l, x :: l ∈ vs ∧ t = l.length + 1 ∧ z = rsum st x l
theorem rings_all (ok : WOk g) (s : SOk g.n st) {r p q : Nat} {vs : List (List Nat)} (b : Best (RSeen g st vs) p q) (hv : ∀ x l, x :: l ∈ vs ↔ (x :: l ∈ ringsL g ∧ conn g r x = true)) : Best (Closed g st r) p q := by
  refine best_all ok s b (fun t z ⟨x, l, h1, h2, h3⟩ ht => ?_) fun x l hr hc => ?_
  · obtain ⟨a, c⟩ := (hv x l).mp h1
    obtain ⟨y, l', e, hr, _⟩ := ring_of_mem a
    cases e
    rw [h2, h3]
    exact ⟨x, c, hr.wk ok⟩
  · obtain ⟨m, l', h1, h2, h3, h4, h5⟩ := ring_least (st := st) hr
    refine ⟨rsum st m l', by omega, m, l', (hv m l').mpr ⟨mem_of_ring ok h1 h2, conn_trans hc (hr.conn ok m h5)⟩, by rw [h4], rfl⟩
theorem heirs_len (n6 : g.n ≤ 6) {w : List Nat} (h : GW g w) : (heirs g w).length + w.length ≤ 6 := by
  have hn : (heirs g w).Nodup := by
    unfold heirs nrow
    exact (List.nodup_range.filter _).filter _
  have nd : (heirs g w ++ w).Nodup := by
    rw [List.nodup_append]
    refine ⟨hn, h.nd, fun a ha b hb e => ?_⟩
    unfold heirs at ha
    rw [List.mem_filter, Bool.and_eq_true, Bool.not_eq_true', decide_eq_false_iff_not] at ha
    exact ha.2.2 (e ▸ hb)
  have := List.Nodup.length_le_of_subset nd (l₂ := List.range g.n) fun y hy => by
    rcases List.mem_append.mp hy with z | z
    · unfold heirs at z
      exact List.mem_range.mpr (nrow_mem.mp (List.mem_filter.mp z).1).1
    · exact List.mem_range.mpr (h.lt y z)
  rw [List.length_append, List.length_range] at this
  omega
theorem flat_len {α β : Type} {f : α → List β} {k : Nat} : ∀ {l : List α}, (∀ x, x ∈ l → (f x).length ≤ k) → (l.flatMap f).length ≤ l.length * k
  | [], _ => by simp
  | x :: l, h => by
    rw [List.flatMap_cons, List.length_append, List.length_cons, Nat.add_mul, Nat.one_mul]
    have a := h x (by simp)
    have b := flat_len (l := l) fun y hy => h y (List.mem_cons_of_mem _ hy)
    omega
theorem six_pow {a f : Nat} (h : a ≤ f + 1) (hf : f ≤ 4) : a * 6 ^ f < 6 ^ (f + 1) := by
  rw [Nat.pow_succ]
  have : 0 < 6 ^ f := Nat.pow_pos (by decide)
  have : a * 6 ^ f ≤ 5 * 6 ^ f := Nat.mul_le_mul_right _ (by omega)
  omega
theorem dfsF_len (n6 : g.n ≤ 6) : ∀ (f : Nat) {w : List Nat}, GW g w → w.length + f = 6 → (dfsF g (f + 1) w).length ≤ 6 ^ f
  | 0, w, h, e => by
    have := heirs_len n6 h
    have hz : heirs g w = [] := List.eq_nil_of_length_eq_zero (by omega)
    rw [dfsF, hz]
    simp
    split <;> simp
  | f + 1, w, h, e => by
    have hl := heirs_len n6 h
    obtain ⟨x, l, ew, _⟩ := h.ex
    have w1 : 1 ≤ w.length := by rw [ew]; simp
    rw [dfsF, List.length_append]
    have a : (if closes g w = true then [w] else ([] : List (List Nat))).length ≤ 1 := by split <;> simp
    have b := flat_len (f := fun t => dfsF g (f + 1) (w ++ [t])) (k := 6 ^ f) (l := (heirs g w).reverse) fun t ht => dfsF_len n6 f (h.heir (List.mem_reverse.mp ht)) (by rw [List.length_append, List.length_singleton]; omega)
    rw [List.length_reverse] at b
    have c := six_pow (a := (heirs g w).length) (f := f) (by omega) (by omega)
    omega
theorem rings_len (n6 : g.n ≤ 6) : (ringsL g).length ≤ 46656 := by
  unfold ringsL
  have := flat_len (f := fun x => dfs g [x]) (k := 6 ^ 5) (l := (List.range g.n).reverse) fun x hx => dfsF_len n6 5 (GW.one (List.mem_range.mp (List.mem_reverse.mp hx))) rfl
  rw [List.length_reverse, List.length_range] at this
  have e : (6 : Nat) ^ 5 = 7776 := by decide
  rw [e] at this
  omega
def meas (row : List (List Nat)) : Nat := (row.map fun w => 6 ^ (6 - w.length)).sum
theorem meas_app (a b : List (List Nat)) : meas (a ++ b) = meas a + meas b := by
  unfold meas
  rw [List.map_append, List.sum_append]
theorem meas_len : ∀ row : List (List Nat), row.length ≤ meas row
  | [] => Nat.le_refl _
  | w :: r => by
    have := meas_len r
    have : 0 < 6 ^ (6 - w.length) := Nat.pow_pos (by decide)
    show r.length + 1 ≤ 6 ^ (6 - w.length) + meas r
    omega
theorem meas_heirs (n6 : g.n ≤ 6) {w : List Nat} (h : GW g w) : meas ((heirs g w).map fun t => w ++ [t]) < 6 ^ (6 - w.length) := by
  have hl := heirs_len n6 h
  obtain ⟨x, l, ew, _⟩ := h.ex
  have w1 : 1 ≤ w.length := by rw [ew]; simp
  have e : ∀ L : List Nat, meas (L.map fun t => w ++ [t]) = L.length * 6 ^ (5 - w.length) := fun L => by
    induction L with
    | nil => simp [meas]
    | cons t L ih =>
      show 6 ^ (6 - (w ++ [t]).length) + meas (L.map fun t => w ++ [t]) = (L.length + 1) * 6 ^ (5 - w.length)
      rw [ih, List.length_append, List.length_singleton, Nat.add_mul, Nat.one_mul, show 6 - (w.length + 1) = 5 - w.length by omega]
      omega
  rw [e]
  by_cases q : w.length = 6
  · have : (heirs g w).length = 0 := by omega
    rw [this, Nat.zero_mul]
    exact Nat.pow_pos (by decide)
  · have := six_pow (a := (heirs g w).length) (f := 5 - w.length) (by omega) (by omega)
    rw [show 5 - w.length + 1 = 6 - w.length by omega] at this
    exact this
end
end Tm
set_option maxRecDepth 100000
set_option maxHeartbeats 4000000
/-! An own error whose start hands its word on to its base, then keeps it: made, raised, read. -/
namespace Tm
open PySem PySem.W PySem.Calls PyProof.Rows PySem.HandSPX
/-- the own error's start, in the top's text -/
def iSt : Stmt := L2.inClass (top 5) 0
def iA : Arguments := L2.defArgs iSt
def iB : List Stmt := L2.defBody iSt
def iS : Scope := L2.defScope iSt
theorem starOne {x : Str} {p : Pos} {env : Env} : starEach [Expr.Name x p] env = (false, eval (Expr.Name x p) env) :: starEach [] env := rfl
/-- what the written part says of the error's class, at C, and of its start, at fI -/
structure WordTxt (prog : Program) (K : Frag) (mg : Str → Option Value) (C fI : Addr) : Prop where
  gC : mg "InvalidText" = some (.ref C)
  cls : ∃ nm q N bs bm sn sub ab col dd k0 k1 k2 k3 k5, K.lookup C = some (excClassObj nm q C N bs bm true sn sub ab col dd k0 k1 k2 k3 k5 "ValueError.__new__") ∧ refsVE bm = true ∧ alongIn K "__init__" bm = some (some (.builtin "ValueError.__init__"))
  sa : findIn K (.ref C) "__setattr__" = some (some (.builtin "object.__setattr__"))
  ga : findIn K (.ref C) "__getattribute__" = some (some (.builtin "BaseException.__getattribute__"))
  gg : findIn K (.ref C) "__getattr__" = some none
  noN : findIn K (.ref C) "word" = some none
  iC : findIn K (.ref C) "__init__" = some (some (.ref fI))
  tC : typeIn K (.ref fI) = some (.type "function")
  kC : keepIn K (.ref C) = true
  exC : subIn K (.ref C) (.type "BaseException") = some true
  veC : subIn K (.ref C) (.type "ValueError") = some true
  tyC : typeIn K (.ref C) = some (.type "type")
  hdC : hasDictIn K C = true
  te : exmOne K (.ref C) (.ref C) = some true
  noSup : mg "super" = none
  noTop : (prog.main.scope.names.lookup ("super" : Str)).isSome = false
  thi : nsIn K cStatics "thirdparty.any" = some none
  fn : ∃ (oc : Value) (od : Option Addr) (doc pm : Value) (an : Option Addr) (cda cc : Addr) (ct : Value) (osl : Array (Option Value)) (ccl cl : Value) (cdd cld : Option Addr) (ccs csl : Array (Option Value)) (vs : Array Value) (file : Str) (tf : Tok),
    K.lookup fI = some ⟨oc, od, .func (fnX "__init__" "InvalidText.__init__" iA iB iS [("__class__", cc)] .none .none doc pm an (.ref cda) ct), osl⟩ ∧ codeIn K (.ref cda) "InvalidText.__init__" = true ∧
    K.lookup cda = some ⟨ccl, cdd, .fields vs, ccs⟩ ∧ vs[2]? = some (.str file tf) ∧ ((prog.main.file : Str) == file) = true ∧ K.lookup cc = some ⟨cl, cld, .cell (some (.ref C)), csl⟩
theorem one_size (v : Value) : [v].length ≤ sizeLine := by
  rw [sizeLine_eq]
  exact (by decide : 1 ≤ 16777216)
theorem ldC {M : Model} {s : Shared} {name : Str} {scope : Scope} {L a : Addr} {cd : Value} {cl : List (Str × Addr)} {m : Str → Option Value} {x : Str} {pos : Pos} {v : Value} {Q : Value → Shared → Prop} {A : Around} {E : Value → Shared → Prop} (hn : s.heap.Ns L m) (hv : m x = some v) (h : Q v s)
    (hk : scope.kind = .function := by rfl) (hl : (envX name scope L a cd cl).kindOf x = some .local := by rfl) (hd : (x == ("__debug__" : Str)) = false := by decide) :
    wpAny M A (eval (.Name x pos) (envX name scope L a cd cl)) Q E s := wpAny_Name (wpAny_loadName_local hk hl hn hv h) hd
/-- what the start leaves of a fresh error at x -/
structure InitEnd (h h' : Heap) (x C dx : Addr) (v : Value) : Prop where
  keep : ∀ b o, b ≠ x → h.get? b = some o → h'.get? b = some o
  obj : ∃ t1, h'.get? x = some { cls := .ref C, dict := some dx, data := .fields #[.ref t1, .none, .none, .none, .bool false, .none] }
  dbig : h.objs.size ≤ dx
  dne : dx ≠ x
  ns : h'.Ns1 dx (fun y => if y = "word" then some v else none)
structure OwnMade (h h' : Heap) (e C d : Addr) (v : Value) : Prop where
  keep : ∀ b o, h.get? b = some o → h'.get? b = some o
  new : h.objs.size ≤ e
  obj : ∃ oe vs, h'.get? e = some oe ∧ oe.cls = .ref C ∧ oe.dict = some d ∧ oe.data = .fields vs ∧ vs[1]? = some .none
  dbig : h.objs.size ≤ d
  dne : d ≠ e
  ns : h'.Ns1 d (fun y => if y = "word" then some v else none)
section
variable {prog : Program} {w : World} {A : Around} {E : Value → Shared → Prop} {R : Result → Shared → Prop} {s : Shared} {K : Frag} {mg : Str → Option Value} {C fI : Addr}
/-- the base's start, bound to the object -/
theorem call_mw {hh : Heap} {g : Array GenState} {d : Drawn} {t : Nat} {os : OsState} {u e t0 : Addr} {rest : List Value} {Q : Value → Shared → Prop} {nm q : Str} {N : Addr} {bs bm : List Value} {sn : List Str} {sub : List Value} {ab : Bool} {col : Option Bool} {dd : Option Addr} {k0 k1 k2 k3 k5 : Option Value}
    (hC : hh.get? C = some (excClassObj nm q C N bs bm true sn sub ab col dd k0 k1 k2 k3 k5 "ValueError.__new__")) (he : hh.get? e = some (excO C t0)) (hu : hh.get? u = some (kxs_mw "ValueError.__init__" e)) (hrest : rest.length ≤ sizeLine)
    (hq : ∀ h' t1, (∀ b o, b ≠ e → hh.get? b = some o → h'.get? b = some o) → h'.get? e = some (excO C t1) → Q .none ⟨h', g, d, t, os⟩) :
    wpAny (model prog w) A (call (.ref u) rest) Q E ⟨hh, g, d, t, os⟩ := by
  refine wpAny_call (codeAny_of_tree ?_)
  show wpAny _ A.in1 (callAny (.ref u) ⟨rest, []⟩) _ _ _
  simp only [callAny]
  refine wpAny_bind (wpAny_load hu ?_)
  simp only [kxs_mw, show (Value.type "method-wrapper" == Value.type "method" || Value.type "method-wrapper" == Value.type "builtin_function_or_method" || Value.type "method-wrapper" == Value.type "method-wrapper") = true by decide, if_true]
  refine KFB.if_so (by decide) ?_
  refine wpAny_bind (check_bound_init F.excBase_ValueError.toExcCallFacts hC he rfl ?_)
  refine wpAny_bind (wpAny_pure (wpAny_pure ?_))
  refine ⟨plainId_quiet F.excBase_ValueError.init.plain _, codeAny_builtin F.excBase_ValueError.initEntry ?_⟩
  refine exc_init_tree (cls := .ref C) (t0 := t0) (dv := none) (c2 := .none) (c3 := .none) (b4 := .bool false) he hrest fun h' k e' _ => ?_
  exact hq h' _ k e'
theorem word_init (T : WordTxt prog K mg C fI) {x t0 : Addr} {v : Value} {mb : Str → Option Value} (X : K.In s.heap) (hlim : s.heap.NoLimit) (G : s.heap.Ns mainGlobals mg) (B : s.heap.Ns builtinsNs mb) (hmb : mb "super" = some (.type "super")) (hx : s.heap.get? x = some (excO C t0)) (hnx : K.lookup x = none) (hroom : A.depth < recursionLimit)
    (hq : ∀ h' tk dx, InitEnd s.heap h' x C dx v → R (.ok (.ret .none)) { s with heap := h', toks := tk }) :
    codeAny (model prog w) A (.call (.ref fI) ⟨[.ref x, v], []⟩) R s := by
  obtain ⟨oc, od, doc, pm, an, cda, cc, ct, osl, ccl, cl, cdd, cld, ccs, csl, vs, file, tf, ho, hcd, hcode, hvs, hfile, hcell⟩ := T.fn
  obtain ⟨nm, q, N, bs, bm, sn, sub, ab, col, dd, k0, k1, k2, k3, k5, hC, hbm, hal⟩ := T.cls
  have hcl : clsIn K C = some { name := nm, bases := bs, mro := .ref C :: bm, ns := N, qualname := q, hasDict := true, slotNames := sn, subclasses := sub, abstract := ab, collection := col, hasDel := false } := by unfold clsIn; rw [hC] <;> rfl
  have hxC : x ≠ C := fun z => by rw [z, hC] at hnx; cases hnx
  refine ks_codeAny_call_defAt (fd := fnX "__init__" "InvalidText.__init__" iA iB iS [("__class__", cc)] .none .none doc pm an (.ref cda) ct) (body := iB) (binds := [("self", .ref x), ("word", v)]) hroom (X _ _ ho) rfl hlim (codeRec_of X hcd) rfl (BindsTo.of_eq (by first | rfl | with_unfolding_all rfl)) (show ∀ y ∈ iS.names, y.2 ≠ .cell by decide +kernel) (fun y hy => ?_) (fun h₁ hns k => ?_)
  · simp only [List.mem_cons, List.not_mem_nil, or_false] at hy
    rcases hy with rfl | rfl
    · exact (by decide +kernel : iS.names.lookup (PySem.Str.ofString "self") = some .local)
    · exact (by decide +kernel : iS.names.lookup (PySem.Str.ofString "word") = some .local)
  have X₁ : K.In h₁ := X.keeps k
  have hx₁ := k _ _ hx
  have hC₁ := X₁ _ _ hC
  have hxL : s.heap.objs.size ≠ x := Nat.ne_of_gt (Heap.lt_size hx)
  have zL : s.heap.objs.size < h₁.objs.size := by
    obtain ⟨oL, _, _, hL, _⟩ := hns
    exact Heap.lt_size hL
  -- super().__init__(word)
  refine ks_wpAt_execs_cons (ks_wpAt_Expr_any (ks_wpAt_MethodCall ?_))
  refine ks_wpAt_super_base (by rfl) (by rfl) (by decide) rfl (X₁ _ _ ho) rfl rfl rfl (X₁ _ _ hcode) rfl hvs hfile T.noTop ?_
  refine ks_loadName_global rfl (by rfl) (loadGlobal_builtin (G.keeps k) T.noSup (B.keeps k) hmb ⟨rfl, ?_⟩)
  refine wpAny_loadName_free rfl (by rfl) rfl ⟨_, X₁ _ _ hcell, rfl⟩ ?_
  refine wpAny_loadName_local (v := .ref x) rfl (by rfl) hns (by first | rfl | with_unfolding_all rfl | kernel_rfl) ?_
  refine ks_wpAny_isType_cls hC₁ rfl ⟨rfl, ?_⟩
  refine ks_wpAny_call_super hC₁ rfl hx₁ rfl (fun c e => by cases e) (looks_mroIn X₁ ?_) (fun h2 e2 kk2 => ?_)
  · unfold mroIn
    rw [hcl, Option.bind_some, if_neg (by simp)]
    simp
  have k2 : ∀ b o, h₁.get? b = some o → h2.get? b = some o := kk2
  have X₂ : K.In h2 := X₁.keeps k2
  have hx₂ := k2 _ _ hx₁
  have I2 : InstAt h2 x (excO C t0) C none := ⟨hx₂, rfl, rfl, trivial⟩
  refine kxs_getMethod kxs_ValueError e2 (looks_opaque X₂ T.thi) (l₀ := .ref C :: bm) (l := bm) ?_ ?_ X₂ hal (I2.type.andThen (looks_subIn X₂ T.veC)) hxC (by decide) ?_
  · exact (looks_clsIn X₂ hcl).andThen .now
  · simp [List.dropWhile_cons]
  generalize hu : h2.objs.size = u
  have kp : ∀ b o, h2.get? b = some o → (h2.push (kxs_mw "ValueError.__init__" x)).get? b = some o := fun b o e => Heap.get?_push_of_some _ e
  have gu : (h2.push (kxs_mw "ValueError.__init__" x)).get? u = some (kxs_mw "ValueError.__init__" x) := by rw [← hu]; exact Heap.get?_push_at rfl rfl
  have hns3 := (hns.keeps k2).keeps kp
  rw [starOne]
  refine kxs_callWith (i := "ValueError.__init__") (x := x) (by rfl) (evalArgs_plain (spliced_cons ?_))
  refine ldC (v := v) hns3 (by first | rfl | with_unfolding_all rfl | kernel_rfl) (spliced_nil ⟨gu, ?_⟩)
  refine call_mw (kp _ _ (k2 _ _ hC₁)) (kp _ _ hx₂) gu (one_size v) fun h4 t1 k4 hx4 => ?_
  have X₄ : K.In h4 := fun b o e => k4 b o (fun z => by rw [z, hnx] at e; cases e) (kp _ _ (X₂ _ _ e))
  have hns4 : h4.Ns s.heap.objs.size (fun y => List.lookup y [(PySem.Str.ofString "self", Value.ref x), (PySem.Str.ofString "word", v)].reverse) := by
    obtain ⟨oL, es, ep, hL, r⟩ := hns3
    exact ⟨oL, es, ep, k4 _ _ hxL hL, r⟩
  have sz4 : h₁.objs.size ≤ h4.objs.size := by
    have : u < h4.objs.size := Heap.lt_size (k4 u _ (fun z => by rw [z] at gu; rw [kp _ _ hx₂] at gu; cases gu) gu)
    have z1 : h₁.objs.size < h2.objs.size := Heap.lt_size e2
    omega
  -- self.word = word
  refine wpAt_of_wpAny ?_
  show wpAny _ _ (execs _ _) _ _ _
  refine wpAny_execs_cons (plainObj_wpAny_Assign_Attribute ?_)
  refine ldC (v := v) hns4 (by first | rfl | with_unfolding_all rfl | kernel_rfl) (ldC (v := .ref x) hns4 (by first | rfl | with_unfolding_all rfl | kernel_rfl) ?_)
  refine set_plain X₄ (ox := excO C t1) (od := none) ⟨hx4, rfl, rfl, trivial⟩ T.sa ?_
  refine PySem.HandSPX.exc_osa X₄ hx4 hcl (show refsVE (.ref C :: bm) = true from hbm) rfl T.noN (fun h₃ tk₃ dx k₃ dn dne hx₃ hn₃ => ?_)
  show wpAny _ _ (execs _ _) _ _ _
  have dn' : h4.objs.size ≤ dx := dn
  have zL' : s.heap.objs.size < h₁.objs.size := zL
  exact wpAny_execs_nil (hq h₃ tk₃ dx ⟨fun b o hb e => k₃ b o hb (k4 b o hb (kp _ _ (k2 _ _ (k b o e)))), ⟨t1, hx₃⟩, by omega, dne, hn₃⟩)
end
section
variable {prog : Program} {w : World} {A : Around} {E : Value → Shared → Prop} {R : Result → Shared → Prop} {s : Shared} {K : Frag} {mg : Str → Option Value} {C fI : Addr}
theorem word_made (T : WordTxt prog K mg C fI) {v : Value} {mb : Str → Option Value} (X : K.In s.heap) (hlim : s.heap.NoLimit) (G : s.heap.Ns mainGlobals mg) (B : s.heap.Ns builtinsNs mb) (hmb : mb "super" = some (.type "super")) (hroom : A.depth + 1 < recursionLimit)
    (hq : ∀ h' tk e d, OwnMade s.heap h' e C d v → R (.ok (.ret (.ref e))) { s with heap := h', toks := tk }) :
    codeAny (model prog w) A (.call (.ref C) ⟨[v], []⟩) R s := by
  obtain ⟨nm, q, N, bs, bm, sn, sub, ab, col, dd, k0, k1, k2, k3, k5, hC, hbm, _⟩ := T.cls
  obtain ⟨hp, g, dr, tk, os⟩ := s
  have kk : ∀ b o, hp.get? b = some o → ((hp.push (kdv_tup [v])).push (excO C hp.objs.size)).get? b = some o := fun b o e => Heap.get?_push_of_some _ (Heap.get?_push_of_some _ e)
  have hget : ((hp.push (kdv_tup [v])).push (excO C hp.objs.size)).get? (hp.objs.size + 1) = some (excO C hp.objs.size) := by heap_get
  have hnx : K.lookup (hp.objs.size + 1) = none := by
    cases e : K.lookup (hp.objs.size + 1) with
    | none => rfl
    | some o =>
      have z : hp.get? (hp.objs.size + 1) = some o := X _ _ e
      exact absurd (Nat.lt_of_succ_lt (Heap.lt_size z)) (Nat.lt_irrefl _)
  refine call_own F.excBase_ValueError (fun X => refsVE_contains X bm hbm) (X _ _ hC) (looks_findIn X T.iC) (fun self => bind_fn X self T.tC) (one_size v) ?_
  refine word_init (s := ⟨(hp.push (kdv_tup [v])).push (excO C hp.objs.size), g, dr, tk, os⟩) T (X.keeps kk) (hlim.keeps kk) (G.keeps kk) (B.keeps kk) hmb hget hnx ?_ fun h' tk' dx ⟨k', ⟨t1, hx⟩, dn, dne, hns⟩ => ?_
  · show A.depth + 1 < recursionLimit
    exact hroom
  · have old : ∀ b o, hp.get? b = some o → h'.get? b = some o := fun b o e => k' b o (Nat.ne_of_lt (Nat.lt_succ_of_lt (Heap.lt_size e))) (kk b o e)
    have z : hp.objs.size + 1 + 1 ≤ dx := by
      have q := dn
      simp only [Heap.size_push] at q
      exact q
    exact ⟨rfl, hq h' tk' (hp.objs.size + 1) dx ⟨old, Nat.le_succ _, ⟨_, _, hx, rfl, rfl, rfl, rfl⟩, Nat.le_trans (Nat.le_trans (Nat.le_succ _) (Nat.le_succ _)) z, dne, hns⟩⟩
end
end Tm
namespace Tm
open PySem PySem.Spec PyProof.Rows L2
theorem relO_word {v : V} {v' : Value} (r : RelV v v') (f : Str) : RelO (List.lookup f [(("word" : Str), v)]) (if f = "word" then some v' else none) := by
  by_cases hw : f = "word"
  · subst hw
    rw [if_pos rfl]
    have q : List.lookup ("word" : Str) [(("word" : Str), v)] = some v := by simp [List.lookup]
    rw [q]
    exact r
  · rw [if_neg hw]
    have qw : (f == ("word" : Str)) = false := by simpa using hw
    have q2 : List.lookup f [(("word" : Str), v)] = none := by simp [List.lookup, qw]
    rw [q2]
    trivial
section
variable {X : Cx} {C fI : Addr}
/-- InvalidText(e) -/
def tMkWord (C : Addr) (ta : TA) : L2.St → Hp → XK → Prop := fun σ H Q => ta σ H fun vs H1 => ∃ v, vs = [v] ∧ ∀ d, H1 d = none → Q (.ref C) (some d) (upd H1 d (.xd [(("word" : Str), v)]))
theorem pmk_word {a : Expr} {ta : TA} {p pos : Pos} {k : Nat} (T : WordTxt X.prog X.K X.mg C fI) (hr : Room k X.A) (ha : PA X [a] ta) (hg : Gl X "InvalidText" := by rfl)
    (he : starEach (a :: []) X.env = (false, eval a X.env) :: starEach [] X.env := by rfl) (hpl : (backTo pos (starEach [] X.env)).any (·.1) = false := by rfl) :
    PMk X (.Call (.Name "InvalidText" p) [a] [] pos) (tMkWord C ta) := by
  intro pins s σ H Q I h
  refine wpAny_Call_Name_kw (ld_glob I hg T.gC ?_)
  refine PySem.W.callWith_K (h₀ := X.base) I.ok.mod.kin T.kC (thn (ha.run pos pins s σ H _ I h) fun us s1 hh => ?_) he hpl
  obtain ⟨vs, H1, I1, r1, v, ev, q1⟩ := hh
  subst ev
  refine ⟨I1.kIn, ?_⟩
  cases r1 with
  | cons rv rn =>
    rename_i v' us'
    cases rn
    show wpAny _ _ (call (.ref C) [v']) _ _ _
    have hlim := I1.nolimit
    obtain ⟨mb, B1, B2⟩ := I1.mod.blt
    have G := I1.mod.glob.keeps I1.bk
    have B := B1.keeps I1.bk
    have hmb : mb "super" = some (.type "super") := (B2 _ (by decide)).trans (by decide +kernel)
    have kin := I1.kIn
    obtain ⟨hp, g, dr, tk, os⟩ := s1
    refine wpAny_call (word_made T kin hlim G B hmb (by have := hr.dp; omega) fun h' tk' e d M => ?_)
    show MkP X pins σ Q (.ref e) ⟨h', g, dr, tk', os⟩
    obtain ⟨oe, fv, hoe, hc, hd, hdat, h1⟩ := M.obj
    have hns := M.ns
    obtain ⟨G', g1, g2⟩ := restrict h' fun b => decide (b ≠ e)
    have gk : ∀ b, b ≠ e → G'.get? b = h'.get? b := fun b hb => g1 b (decide_eq_true hb)
    have ge : G'.get? e = none := g2 e (by simp)
    have old : ∀ b o, hp.get? b = some o → G'.get? b = some o := fun b o q => (gk b (Nat.ne_of_lt (Nat.lt_of_lt_of_le (Heap.lt_size q) M.new))).trans (M.keep b o q)
    have ob : ObjOk X.prog X.w (upd H1 d (.xd [(("word" : Str), v)])) G' d (.xd [(("word" : Str), v)]) :=
      ⟨_, hns.at (fun o q => (gk d M.dne).trans q), fun f => relO_word rv f⟩
    have J : Inv X pins σ (upd H1 d (.xd [(("word" : Str), v)])) ⟨G', g, dr, tk', os⟩ := I1.laid (t' := tk') old M.dbig ob
    refine ⟨e, oe, fv, ⟨G', g, dr, tk', os⟩, _, .ref C, some d, rfl, J, fun b o q => ?_, ge, hoe, ⟨hc, hd⟩, hdat, h1, ?_, rfl, I1.bare, raises_own T.exC T.tyC, q1 d (I1.hok.fresh M.dbig)⟩
    · by_cases hb : b = e
      · have q' : G'.get? b = some o := q
        rw [hb, ge] at q'; cases q'
      · exact (gk b hb).symm.trans q
    · rw [upd_ne (Ne.symm M.dne)]
      exact I1.hok.fresh M.new
/-- raise InvalidText(e) -/
theorem ps_raiseWord {a : Expr} {ta : TA} {W : WX} {p pos pos2 : Pos} {k : Nat} (hc : X.calm = true) (T : WordTxt X.prog X.K X.mg C fI) (hr : Room k X.A) (tk : Takes X W) (ha : PA X [a] ta) (hg : Gl X "InvalidText" := by rfl)
    (he : starEach (a :: []) X.env = (false, eval a X.env) :: starEach [] X.env := by rfl) (hpl : (backTo pos (starEach [] X.env)).any (·.1) = false := by rfl) :
    PS X (.Raise (some (.Call (.Name "InvalidText" p) [a] [] pos)) none pos2) (fun _ σ H => tMkWord C ta σ H fun cls d H' => W cls d σ H') := ps_raise hc tk (pmk_word T hr ha hg he hpl)
/-- err.word, the error held by the suite at a -/
def tWordOf (C : Addr) (a : Addr) (cls : Value) (d : Option Addr) (te : TE) : TE := fun σ H Q => te σ H fun x H1 => x = .ref a ∧ cls = .ref C ∧ ∃ (dd : Addr) (v : V), d = some dd ∧ H1 dd = some (.xd [(("word" : Str), v)]) ∧ Q v H1
theorem pe_wordOf {a : Addr} {oe : Obj} {cls : Value} {d : Option Addr} {pn : List (Addr × Obj)} {e : Expr} {te : TE} {pos : Pos} (T : WordTxt X.prog X.K X.mg C fI) (hz : Zc cls d oe) (hf : ∃ vs, oe.data = .fields vs) (he : PE (X.suite a ((a, oe) :: pn)) e te)
    (hb : attributeBase e "word" X.env (eval e X.env) = eval e X.env := by rfl) :
    PE (X.suite a ((a, oe) :: pn)) (.Attribute e "word" pos) (tWordOf C a cls d te) := by
  refine ⟨fun pins s σ H Q I h => ?_⟩
  refine attr_of hb (thn (he.run pins s σ H _ I h) fun u s1 hh => ?_)
  obtain ⟨x, H1, I1, rx, ex, ec, dd, v, ed, ea, q⟩ := hh
  subst ex
  obtain rfl : u = Value.ref a := rx
  subst ec
  subst ed
  obtain ⟨ha, _⟩ := I1.pin (a, oe) (List.mem_append_left _ List.mem_cons_self)
  obtain ⟨vs, hd⟩ := hf
  have hx : ObjOk X.prog X.w H1 s1.heap dd (.xd [(("word" : Str), v)]) := I1.hok dd _ ea
  obtain ⟨mA, hns, hr⟩ := hx
  obtain ⟨od, ho, hl⟩ := lookIn_ns hns
  have l : List.lookup ("word" : Str) [(("word" : Str), v)] = some v := by simp [List.lookup]
  obtain ⟨u, hu, ru⟩ := RelO.some_of (v := v) (o := mA "word") (by rw [← l]; exact hr "word")
  have J : PySem.W.InstAt s1.heap a oe C (some od) := ⟨ha, hz.1, by unfold PySem.W.notCls; rw [hd] <;> rfl, by rw [hz.2]; exact ho⟩
  exact PySem.HandSPX.exc_get I1.kIn J T.ga T.gg T.exC (PySem.W.findObj_own T.hdC T.noN rfl (by rw [hl, hu])) (handed_of ru) ⟨v, H1, I1.tok _, ru, q⟩
/-- NotText(): a class of the program's own without a start of its own, nothing handed on -/
theorem pmk_own0 {bmB : List Value} {B newId initId : String} {x : Str} {p pos : Pos} (F : ExcBaseFacts B newId initId bmB) (q : PySem.W.excIn X.K C bmB newId = true) (gC : X.mg x = some (.ref C)) (kC : PySem.W.keepIn X.K (.ref C) = true) (r : Raises X (.ref C)) (hg : Gl X x)
    (hdb : (x == ("__debug__" : Str)) = false := by decide) : PMk X (.Call (.Name x p) [] [] pos) (fun _ H Q => Q (.ref C) none H) := by
  intro pins s σ H Q I h
  refine wpAny_Call_Name_kw (ld_glob I hg gC ?_ hdb)
  refine PySem.W.callWith_K0 I.kIn kC ?_
  show wpAny _ _ (call (.ref C) []) _ _ _
  obtain ⟨bm, N, nm, qn, bs, hdct, sn, sub, ab, col, dd, k0, k1, k2, k3, k5, mN, hC, hN, hni, T⟩ := exc_obj I.kIn q
  exact wpAny_call_exc_subT F T hC hN hni (fun h' e hm => mk_of I hm r h (I.hok.gone hm.new)) (Nat.zero_le _)
end
end Tm
set_option maxRecDepth 100000
set_option maxHeartbeats 4000000
/-! try: .. except A as n: .. except B: .. -/
namespace Tm
open PySem PySem.Spec PyProof.Rows L2
/-- what the two clauses wish of an error of the body; slot i is the first one's name -/
def wTwo (K : PySem.W.Frag) (n : Nat) (c1 c2 : Value) (i : Nat) (t1 t2 : Addr → Value → Option Addr → TS) (D : Ends) : WX := fun cls d σ H =>
  ∃ b, PySem.W.exmOne K cls c1 = some b ∧
    (b = true → σ.length = n → ∀ a, H a = none → t1 a cls d { nx := fun σ' H' => D.nx (σ'.set i none) H', rt := D.rt, bk := fun σ' H' => D.bk (σ'.set i none) H', ct := fun σ' H' => D.ct (σ'.set i none) H' } (σ.set i (some (.ref a))) H) ∧
    (b = false → PySem.W.exmOne K cls c2 = some true ∧ ∀ a, H a = none → t2 a cls d D σ H)
section
variable {X : Cx} {x1 x2 n : Str} {c1 c2 : Value} {i : Nat} {body su1 su2 : List Stmt} {b1 b2 : Stmt} {np1 np2 pos ps1 ps2 : Pos} {tb : WX → TS} {t1 t2 : Addr → Value → Option Addr → TS}
theorem ps_try_two (stk : X.stack = X.env :: X.outer) (frm : X.env.frame = some X.env.locals) (nod : X.N.Nodup) (slot : X.N[i]? = some n) (own : X.env.kindOf n = some .local) (nm1 : Names X x1 c1) (nm2 : Names X x2 c2)
    (run0 : ∀ (W : WX) (pn : List (Addr × Obj)) (xe : Value → Shared → Prop), Takes (X.tr pn xe) W → PassesOwn (model X.prog X.w) X.A X.env xe → PSs (X.tr pn xe) body (tb W))
    (run1 : ∀ (a : Addr) (oe : Obj) (cls : Value) (d : Option Addr) (pn : List (Addr × Obj)), Zc cls d oe → (∃ vs, oe.data = .fields vs) → PSs (X.suite a ((a, oe) :: pn)) (b1 :: su1) (t1 a cls d))
    (run2 : ∀ (a : Addr) (oe : Obj) (cls : Value) (d : Option Addr) (pn : List (Addr × Obj)), Zc cls d oe → (∃ vs, oe.data = .fields vs) → PSs (X.suite a ((a, oe) :: pn)) (b2 :: su2) (t2 a cls d)) :
    PS X (.Try body [.ExceptHandler (some (.Name x1 np1)) (some n) (b1 :: su1) ps1, .ExceptHandler (some (.Name x2 np2)) none (b2 :: su2) ps2] [] [] pos) (fun D σ H => tb (wTwo X.K X.N.length c1 c2 i t1 t2 D) D σ H) := by
  refine ⟨fun pins s σ H D I h => ?_⟩
  have okX := I.ok
  have fra : X.A.frames = some (X.env :: X.outer) := by rw [okX.frames, stk]
  refine wpAny_Try_except ?_
  refine wpAny_mono ((run0 (wTwo X.K X.N.length c1 c2 i t1 t2 D) (X.pn ++ pins) _ (fun u z inAir => ?_) PassesOwn.looking).run [] s σ H D (I.toTry _) h) (fun f z hsp => ?_) (fun e z hz => hz)
  · obtain ⟨er, G, sI, pin2, σ1, HA, cls, d, rfl, J0, nb, up, sky, na, os, ag, b, hb1, yes, no⟩ := inAir
    have J : Inv X pins σ1 HA sI := J0.ofTry okX
    have sky2 : Sky G (X.env :: X.outer) er (Zc cls d) X.env.locals z.heap := by rw [← stk]; exact sky
    show wpAny (model X.prog X.w) X.A (noteFrame (.ref er) X.env) _ _ _
    refine Sky.land Zc.steady fra frm sky2 fun hB flB upB => ?_
    have JB : Inv X pins σ1 HA { z with heap := hB } := J.landed nb flB.1 (up.trans upB) os ag
    obtain ⟨oB, vB, eB, zB, dB⟩ := flB.there
    have off : er ∉ frs (X.env :: X.outer) := fun hm => by
      obtain ⟨_, o', e', hnf⟩ := flB.2.2.1.mem hm
      rw [eB] at e'
      cases e'
      exact hnf _ dB
    have offL : er ≠ X.env.locals := fun w => off (List.mem_filterMap.mpr ⟨X.env, List.mem_cons_self, by rw [frm, w]⟩)
    have offF : er ∉ X.fs := fun hm => by
      obtain ⟨e, he, q⟩ := List.mem_filterMap.mp hm
      exact off (List.mem_filterMap.mpr ⟨e, List.mem_cons_of_mem _ he, q⟩)
    have SB := JB.suite eB dB na offL offF
    have kind : PySem.W.Looks (model X.prog X.w) hB (typeOf (.ref er)) cls := fun A Q E s k q => wpAny_typeOf_ref (k _ _ eB) (by rw [zB.1]; exact q)
    have ask : ∀ {x : Str} {c : Value} {np : Pos} {Q : Value → Shared → Prop} {E : Value → Shared → Prop}, Names X x c → Q c { z with heap := hB } → wpAny (model X.prog X.w) (X.A.mark (some (.ref er))) (eval (.Name x np) X.env) Q E { z with heap := hB } := fun {x c np Q E} nm q => by
      obtain ⟨hg, hdbg, hm | ⟨hm, hv, hnn⟩⟩ := nm
      · exact ld_glob (X := X.suite er ((er, oB) :: (X.pn ++ pins))) SB hg hm q hdbg
      · exact ld_blt (X := X.suite er ((er, oB) :: (X.pn ++ pins))) SB hg hm hv q hnn hdbg
    refine wpAny_handleBy_cons (codeAny_handlers_test ?_) (by intro q; cases q)
    refine ask nm1 ((PySem.W.exm_one (M := model X.prog X.w) (JB.kIn) kind hb1).here ?_)
    cases b with
    | true =>
      refine codeAny_handlers_suite_as ?_
      refine PySem.HandSPX.lands_againZ flB fun hC flC upC => ?_
      have JC : Inv X pins σ1 HA { z with heap := hC } := J.landed nb flC.1 ((up.trans upB).trans upC) os ag
      obtain ⟨oC, vC, eC, zC, dC⟩ := flC.there
      have SC := JC.suite eC dC na offL offF
      refine store_ok (X := X.suite er ((er, oC) :: (X.pn ++ pins))) (v := .ref er) SC nod slot (.inl own) rfl (fun s5 S5 => ?_) (.inr own)
      refine wpAny_mono ((run1 er oC cls d (X.pn ++ pins) zC ⟨_, dC⟩).run [] s5 _ HA _ S5 (yes rfl J.len er na)) (fun f s6 hsp => ?_) (fun _ _ w => False.elim w)
      have fin : ∀ {σ6 : L2.St} {H6 : Hp} {Q : Shared → Prop}, Inv (X.suite er ((er, oC) :: (X.pn ++ pins))) [] σ6 H6 s6 → (∀ s7, Inv X pins (σ6.set i none) H6 s7 → Q s7) →
          wpAny (model X.prog X.w) X.A (do bindName X.env n .none; unbindBehindTheSuite X.env n ps1) (fun _ s7 => Q s7) X.xe s6 := fun {σ6 H6 Q} S6 hq => gone_ok (S6.unsuite okX) nod slot own hq
      cases f with
      | next =>
        obtain ⟨_, _, S6, q6⟩ := hsp
        exact fin S6 fun s7 J7 => ⟨_, _, J7, q6⟩
      | brk =>
        obtain ⟨_, _, S6, q6⟩ := hsp
        exact fin S6 fun s7 J7 => ⟨_, _, J7, q6⟩
      | cont =>
        obtain ⟨_, _, S6, q6⟩ := hsp
        exact fin S6 fun s7 J7 => ⟨_, _, J7, q6⟩
      | ret u =>
        obtain ⟨_, _, _, S6, r6, q6⟩ := hsp
        exact fin S6 fun s7 J7 => ⟨_, _, _, J7, r6, q6⟩
    | false =>
      obtain ⟨hb2, yes2⟩ := no rfl
      show wpAny _ X.A (handleBy (.ref er) X.env _) _ _ _
      refine wpAny_handleBy_cons (codeAny_handlers_test ?_) (by intro q; cases q)
      refine ask nm2 ((PySem.W.exm_one (M := model X.prog X.w) (JB.kIn) kind hb2).here ?_)
      refine codeAny_handlers_suite ?_
      refine PySem.HandSPX.lands_againZ flB fun hC flC upC => ?_
      have JC : Inv X pins σ1 HA { z with heap := hC } := J.landed nb flC.1 ((up.trans upB).trans upC) os ag
      obtain ⟨oC, vC, eC, zC, dC⟩ := flC.there
      have SC := JC.suite eC dC na offL offF
      refine wpAny_mono ((run2 er oC cls d (X.pn ++ pins) zC ⟨_, dC⟩).run [] _ _ HA _ SC (yes2 er na)) (fun f s6 hsp => ?_) (fun _ _ w => False.elim w)
      cases f with
      | next =>
        obtain ⟨_, _, S6, q6⟩ := hsp
        exact ⟨_, _, S6.unsuite okX, q6⟩
      | brk =>
        obtain ⟨_, _, S6, q6⟩ := hsp
        exact ⟨_, _, S6.unsuite okX, q6⟩
      | cont =>
        obtain ⟨_, _, S6, q6⟩ := hsp
        exact ⟨_, _, S6.unsuite okX, q6⟩
      | ret u =>
        obtain ⟨_, _, _, S6, r6, q6⟩ := hsp
        exact ⟨_, _, _, S6.unsuite okX, r6, q6⟩
  · cases f with
    | next =>
      obtain ⟨_, _, J2, q⟩ := hsp
      exact wpAny_execs_nil ⟨_, _, J2.ofTry okX, q⟩
    | brk =>
      obtain ⟨_, _, J2, q⟩ := hsp
      exact ⟨_, _, J2.ofTry okX, q⟩
    | cont =>
      obtain ⟨_, _, J2, q⟩ := hsp
      exact ⟨_, _, J2.ofTry okX, q⟩
    | ret u =>
      obtain ⟨_, _, _, J2, r, q⟩ := hsp
      exact ⟨_, _, _, J2.ofTry okX, r, q⟩
end
end Tm
set_option maxRecDepth 100000
set_option maxHeartbeats 4000000
/-! A dict of the def's own, whose keys are tuples of whole numbers. -/
namespace Tm
open PySem PySem.Spec PyProof.Rows L2
def keyT (l : List Nat) : List Key := l.map fun k : Nat => (Sum.inl (k : Int) : Key)
def dTv (L : List (List Nat)) : List (List Key × V) := L.map fun l => (keyT l, V.bl true)
def tupV (l : List Nat) : List V := l.map fun k : Nat => V.int (k : Int)
def encT1 (l : List Nat) : PyData := .tuple (l.map iN)
theorem keyT_inj : ∀ {l m : List Nat}, keyT l = keyT m → l = m
  | [], [], _ => rfl
  | [], _ :: _, h => by cases h
  | _ :: _, [], h => by cases h
  | a :: l, b :: m, h => by
    have h1 := List.cons.inj h
    have h2 := Sum.inl.inj h1.1
    rw [keyT_inj (l := l) (m := m) h1.2]
    congr 1
    omega
theorem keyT_kV (l : List Nat) : (keyT l).map kV = tupV l := by
  unfold keyT tupV
  rw [List.map_map]
  rfl
theorem dTv_len (L : List (List Nat)) : (dTv L).length = L.length := List.length_map ..
theorem dTv_at (j : List Nat) : ∀ L : List (List Nat), valV (dTv L) (keyT j) = if j ∈ L then some (V.bl true) else none
  | [] => rfl
  | l :: L => by
    show valV ((keyT l, V.bl true) :: dTv L) _ = _
    by_cases q : l = j
    · subst q
      rw [if_pos (by simp)]
      exact valV_pos rfl
    · have e : ¬ (keyT l = keyT j) := fun z => q (keyT_inj z)
      rw [valV_neg e, dTv_at j L]
      by_cases z : j ∈ L
      · rw [if_pos z, if_pos (List.mem_cons_of_mem _ z)]
      · rw [if_neg z, if_neg (fun y => by rcases List.mem_cons.mp y with y | y; exact q y.symm; exact z y)]
/-- the keys after a store -/
def putL (L : List (List Nat)) (j : List Nat) : List (List Nat) := if j ∈ L then L else L ++ [j]
theorem putL_mem {L : List (List Nat)} {j x : List Nat} : x ∈ putL L j ↔ x ∈ L ∨ x = j := by
  unfold putL
  by_cases z : j ∈ L
  · rw [if_pos z]
    exact ⟨.inl, fun h => by rcases h with h | h; exact h; exact h ▸ z⟩
  · rw [if_neg z, List.mem_append, List.mem_singleton]
theorem putL_nodup {L : List (List Nat)} {j : List Nat} (h : L.Nodup) : (putL L j).Nodup := by
  unfold putL
  by_cases z : j ∈ L
  · rw [if_pos z]; exact h
  · rw [if_neg z, List.nodup_append]
    exact ⟨h, by simp, fun a ha b hb e => z (by simp at hb; rw [← hb, ← e]; exact ha)⟩
theorem putL_len {L : List (List Nat)} {j : List Nat} : (putL L j).length ≤ L.length + 1 := by
  unfold putL
  by_cases z : j ∈ L
  · rw [if_pos z]; omega
  · rw [if_neg z, List.length_append]; simp
theorem dTv_put (L : List (List Nat)) (j : List Nat) : putK (dTv L) (keyT j) (V.bl true) = dTv (putL L j) := by
  unfold putL
  by_cases z : j ∈ L
  · rw [if_pos z]
    unfold putK
    rw [valV_any, dTv_at, if_pos z]
    show (dTv L).map _ = dTv L
    unfold dTv
    rw [List.map_map]
    refine List.map_congr_left fun l _ => ?_
    show (if keyT l = keyT j then (keyT l, V.bl true) else (keyT l, V.bl true)) = _
    by_cases e : keyT l = keyT j
    · rw [if_pos e]
    · rw [if_neg e]
  · rw [if_neg z, putK_new _ (by rw [dTv_at, if_neg z])]
    unfold dTv
    rw [List.map_append]
    rfl
theorem map_iN (l : List Nat) : l.map iN = (l.map fun k : Nat => (k : Int)).map PyData.int := by
  rw [List.map_map]
  rfl
theorem alike_T1 (l m : List Nat) : PySem.W.alike (encT1 l) (encT1 m) = true := by
  unfold encT1
  rw [map_iN, map_iN, PySem.W.alike]
  exact PySem.W.alike_ints _ _
theorem depth_T1 (l : List Nat) : (encT1 l).depth ≤ 8 := by
  unfold encT1
  rw [map_iN, PyData.depth, PySem.W.depth_ints]
  omega
def intsL (l : List Nat) : List Int := l.map fun k : Nat => (k : Int)
theorem dataLe_T1 : PySem.W.dataLe false encT1 = fun p q => decide (intsL p ≤ intsL q) := by
  rw [← PySem.W.dataLe_rows intsL]
  funext p q
  show (!PySem.W.dataLt (encT1 q) (encT1 p)) = (!PySem.W.dataLt (.list _) (.list _))
  unfold encT1
  rw [map_iN, map_iN, PySem.W.dataLt_tuple, PySem.W.dataLt_list]
  rfl
/-- tuples that stand are frozen -/
def fzs (F H : Hp) (bs : List Addr) : Hp := fun b => if b ∈ bs then H b else F b
theorem Grow.fzs {F H : Hp} {bs : List Addr} (i : Same F H) (h : ∀ b, b ∈ bs → ∃ vs, H b = some (.tup vs)) : Grow F H (Tm.fzs F H bs) H := by
  refine ⟨fun b o e => ?_, fun b o e => ?_, Same.refl _, fun b e k => ?_⟩
  · unfold Tm.fzs
    by_cases z : b ∈ bs
    · rw [if_pos z]; exact i b o e
    · rw [if_neg z]; exact e
  · unfold Tm.fzs at e
    by_cases z : b ∈ bs
    · rwa [if_pos z] at e
    · rw [if_neg z] at e; exact i b o e
  · unfold Tm.fzs
    by_cases z : b ∈ bs
    · obtain ⟨vs, hv⟩ := h b z
      obtain ⟨u, e1, e2⟩ := k
      rw [hv] at e1
      cases e1
      exact absurd rfl (e2 vs)
    · rw [if_neg z]; exact e
theorem isKeys_all {H : Hp} : ∀ {L : List (List Nat)} {bs : List Addr}, IsKeys H (dTv L) bs → bs.length = L.length ∧ (∀ b, b ∈ bs → ∃ vs, H b = some (.tup vs)) ∧ ∃ zs : List (V × List Nat), zs.map (·.1) = bs.map V.ref ∧ zs.map (·.2) = L ∧ ∀ z, z ∈ zs → ∃ b, b ∈ bs ∧ z.1 = .ref b ∧ H b = some (.tup (tupV z.2))
  | [], _, h => by
    cases h
    exact ⟨rfl, fun b z => (List.not_mem_nil z).elim, [], rfl, rfl, fun b z => (List.not_mem_nil z).elim⟩
  | l :: L, _, h => by
    obtain @⟨_, _⟩ | @⟨_, b, _, bs, a, t⟩ := h
    obtain ⟨h1, h2, zs, h3, h4, h5⟩ := isKeys_all (L := L) t
    have a : H b = some (.tup (tupV l)) := by rw [← keyT_kV]; exact a
    refine ⟨by rw [List.length_cons, List.length_cons, h1], fun c hc => ?_, (.ref b, l) :: zs, by rw [List.map_cons, List.map_cons, h3], by rw [List.map_cons, h4], fun z hz => ?_⟩
    · rcases List.mem_cons.mp hc with e | e
      · rw [e]; exact ⟨_, a⟩
      · exact h2 c e
    · rcases List.mem_cons.mp hz with e | e
      · rw [e]; exact ⟨b, by simp, rfl, a⟩
      · obtain ⟨c, c1, c2, c3⟩ := h5 z e
        exact ⟨c, List.mem_cons_of_mem _ c1, c2, c3⟩
section
variable {K : PySem.W.Frag} {M : Addr → Prop} {F0 H0 H1 F H F2 H2 : Hp} {r : List Slo} {s : L2.St} {p : Addr} {o o' : HO} {te ta tb : TE} {tt : TT} {d : PyData} {ds : List PyData} {t u : TS} {D : Ends}
theorem tupV_dp (l : List Nat) : DpAll K F (tupV l) (l.map iN) := by
  induction l with
  | nil => exact .nil
  | cons a l ih => exact .cons (.int _) ih
theorem DSt.ad_is (S : DSt K M F0 H0 r s F H p o) {i : Nat} {v : V} (e : r[i]? = some (.ad v)) : s[i]? = some (some v) := S.st.ad e
theorem dst_forR2 {ta : TA} {lo n k : Nat} (S : DSt K M F0 H0 r s F H p o) (h : Ea K ta r [iN lo, iN n]) (hl : lo ≤ 1000) (hn : n ≤ 1000) (J : Nat → List Slo → HO → Prop) (h0 : J 0 r o)
    (hs : ∀ (m : Nat) r' o', m < n - lo → J m r' o' → ∀ s' F' H', DSt K M F0 H0 (r'.set k (.fz (iN (lo + m)))) s' F' H' p o' → ∀ N : L2.St → Hp → Prop, (∀ r2 o2 s2 F2 H2, J (m + 1) r2 o2 → DSt K M F0 H0 r2 s2 F2 H2 p o2 → N s2 H2) → t { D with nx := N, ct := N, bk := D.nx } s' H')
    (hd : ∀ r' o' s' F' H', J (n - lo) r' o' → DSt K M F0 H0 r' s' F' H' p o' → D.nx s' H') : tFor (iRng2 ta) (gName k) t D s H := by
  refine h _ _ _ _ _ _ S.st _ fun vs F1 H1 g1 a => ?_
  obtain rfl := DpAll.of_ints (ns := [(lo : Int), (n : Int)]) a
  refine ⟨lo, n, rfl, ⟨by omega, by omega, by omega, by omega⟩, ?_⟩
  have e : ((n : Int) - lo).toNat = n - lo := by omega
  rw [e]
  exact dst_rng (S.grow g1) J h0 (fun m r' o' hm a s' F' H' S' => hs m r' o' hm a s' F' H' (by rw [show (lo : Int) + m = ((lo + m : Nat) : Int) by omega] at S'; exact S')) hd
theorem dst_forRV {ta : TA} {k : Nat} {B : Nat → List Slo → Prop} (S : DSt K M F0 H0 r s F H p o) (h : Eva K ta r fun ds r' => ∃ n : Nat, ds = [iN n] ∧ n ≤ 1000 ∧ B n r') (J : Nat → Nat → List Slo → HO → Prop) (h0 : ∀ n r', B n r' → J n 0 r' o)
    (hs : ∀ (n m : Nat) r' o', m < n → J n m r' o' → ∀ s' F' H', DSt K M F0 H0 (r'.set k (.fz (iN m))) s' F' H' p o' → ∀ N : L2.St → Hp → Prop, (∀ r2 o2 s2 F2 H2, J n (m + 1) r2 o2 → DSt K M F0 H0 r2 s2 F2 H2 p o2 → N s2 H2) → t { D with nx := N, ct := N, bk := D.nx } s' H')
    (hd : ∀ n r' o' s' F' H', J n n r' o' → DSt K M F0 H0 r' s' F' H' p o' → D.nx s' H') : tFor (iRng1 ta) (gName k) t D s H := by
  refine h _ _ _ _ _ _ S.st _ fun vs ds r' F1 H1 b f1 S1 a => ?_
  obtain ⟨n, rfl, hn, b⟩ := b
  obtain rfl := DpAll.of_ints (ns := [(n : Int)]) a
  refine ⟨n, rfl, by omega, by omega, ?_⟩
  rw [Int.toNat_natCast]
  exact dst_rng (S.with_ S1) (J n) (h0 n r' b) (fun m r' o' hm a s' F' H' S' => hs n m r' o' hm a s' F' H' (by rw [Int.zero_add] at S'; exact S')) (hd n)
/-- d[a, b] = True -/
theorem dst_putT {L : List (List Nat)} {k : Nat} {tk : TA} {B : Nat → Nat → List Slo → Prop} (S : DSt K M F0 H0 r s F H p (.dT (dTv L))) (e : s[k]? = some (some (.ref p))) (hl : L.length ≤ 1000) (h : Eva K tk r fun ds r' => ∃ a b : Nat, ds = [iN a, iN b] ∧ B a b r')
    (hd : ∀ a b r' F' H', B a b r' → DSt K M F0 H0 r' s F' H' p (.dT (dTv (putL L [a, b]))) → D.nx s H') : sDPut (tVar k) (tTup tk) (tC (.bl true)) D s H := by
  refine ⟨.ref p, e, ?_⟩
  dsimp only
  refine h _ _ _ _ _ _ S.st _ fun vs ds r' F1 H1 b f1 S1 a => ?_
  obtain ⟨x, y, rfl, b⟩ := b
  obtain rfl := DpAll.of_ints (ns := [(x : Int), (y : Int)]) a
  have D1 := S.with_ S1
  refine ⟨szOf (by simp), fun q hq => ?_⟩
  have g2 : Grow F1 H1 F1 (upd H1 q (.tup ([(x : Int), (y : Int)].map V.int))) := Grow.newM D1.st.i hq
  have D2 := D1.grow g2
  refine ⟨p, _, rfl, DPut.t D2.at_ (k := keyT [x, y]) (by rw [upd_same]; rfl) (by rw [dTv_len]; exact szLt (by omega)), ?_⟩
  rw [dTv_put]
  exact hd x y r' _ _ b (D2.put ⟨_, rfl, fun _ z => by cases z⟩ (fun _ z => by cases z))
/-- if, both ways on to the same -/
theorem dst_ifN {b : Bool} (J : List Slo → HO → Prop) (S : DSt K M F0 H0 r s F H p o) (h : Eb K tt r b)
    (h1 : b = true → ∀ F2 H2, DSt K M F0 H0 r s F2 H2 p o → ∀ N : L2.St → Hp → Prop, (∀ r2 o2 s2 F2 H2, J r2 o2 → DSt K M F0 H0 r2 s2 F2 H2 p o2 → N s2 H2) → t { D with nx := N } s H2)
    (h2 : b = false → ∀ F2 H2, DSt K M F0 H0 r s F2 H2 p o → ∀ N : L2.St → Hp → Prop, (∀ r2 o2 s2 F2 H2, J r2 o2 → DSt K M F0 H0 r2 s2 F2 H2 p o2 → N s2 H2) → u { D with nx := N } s H2)
    (hd : ∀ r' o' s' F' H', J r' o' → DSt K M F0 H0 r' s' F' H' p o' → D.nx s' H') : tIfS tt t u D s H := by
  refine S.eb h fun F2 H2 S2 => ?_
  cases b with
  | true => exact iteT (h1 rfl F2 H2 S2 _ hd)
  | false => exact iteF (h2 rfl F2 H2 S2 _ hd)
/-- sorted(list(d)) -/
theorem dst_sortedT {L : List (List Nat)} {k : Nat} (S : DSt K M F0 H0 r s F H p (.dT (dTv L))) (e : r[k]? = some (.ad (.ref p))) (hn : ∀ l, l ∈ L → l ≠ []) (hl : L.length ≤ 100000) {Q : VK}
    (q : ∀ (p2 : Addr) (vs : List V) (out : List (List Nat)) (F2 H2 : Hp), out.Perm L → (out.Pairwise fun a b => intsL a ≤ intsL b) →
      Grow F H F2 H2 → H p2 = none → F2 p2 = none → H2 p2 = some (.lst vs) → DpAll K F2 vs (out.map encT1) → Q (.ref p2) H2) :
    tCB (rSortedD K) (tCons (tCB (fun xs H Q => ∃ d kvs, xs = [V.ref d] ∧ Rd H d (.dT kvs) ∧ ∀ p bs, H p = none → IsKeys H kvs bs → Q (.ref p) (upd H p (.lst (bs.map V.ref)))) (tCons (tVar k) tNil)) tNil) s H Q := by
  refine ⟨.ref p, S.st.ad e, p, dTv L, rfl, .inl S.at_, fun p1 bs hp1 ik => ?_⟩
  obtain ⟨hl2, htu, zs, h1, h2, h3⟩ := isKeys_all ik
  have g0 : Grow F H (fzs F H bs) H := Grow.fzs S.st.i htu
  have g1 := g0.trans (Grow.newM g0.i hp1 (o := .lst (bs.map V.ref)))
  have dz : ∀ z, z ∈ zs → Dp K (fzs F H bs) z.1 (encT1 z.2) := fun z hz => by
    obtain ⟨b, b1, b2, b3⟩ := h3 z hz
    rw [b2]
    refine .tup (SqT.of ?_) (tupV_dp z.2)
    unfold fzs
    rw [if_pos b1]
    exact b3
  have e1 : zs.map (fun z => encT1 z.2) = L.map encT1 := by rw [← h2, List.map_map]; rfl
  refine ⟨V × List Nat, fun z => encT1 z.2, fun z => z.1, p1, zs, rfl, by rw [h1]; exact SqL.of upd_same, fun z hz => Dp.up g1.i _ _ (dz z hz), fun a ha b hb => ?_, .inl fun a ha => ?_, ?_, fun z _ => depth_T1 z.2, fun p2 hp2 => ?_⟩
  · obtain ⟨x, _, rfl⟩ := List.mem_map.mp ha
    obtain ⟨y, _, rfl⟩ := List.mem_map.mp hb
    exact alike_T1 x.2 y.2
  · obtain ⟨x, hx, rfl⟩ := List.mem_map.mp ha
    have : x.2 ∈ L := by rw [← h2]; exact List.mem_map_of_mem hx
    have ne := hn _ this
    match ex : x.2, ne with
    | [], ne => exact absurd rfl ne
    | y :: l, _ => exact ⟨iN y, l.map iN, rfl⟩
  · have := congrArg List.length h2
    rw [List.length_map] at this
    omega
  · have perm : (zs.mergeSort (PySem.W.dataLe false fun z : V × List Nat => encT1 z.2)).Perm zs := List.mergeSort_perm _ _
    have hp2' : H p2 = none := g1.h.free hp2
    refine q p2 _ ((zs.mergeSort (PySem.W.dataLe false fun z : V × List Nat => encT1 z.2)).map (·.2)) (fzs F H bs) _ ?_ ?_ (g1.trans (Grow.newM g1.i hp2)) hp2' (g1.i.free hp2) upd_same ?_
    · rw [← h2]; exact perm.map _
    · rw [List.pairwise_map]
      have e : (PySem.W.dataLe false fun z : V × List Nat => encT1 z.2) = fun a b : V × List Nat => decide (intsL a.2 ≤ intsL b.2) := by
        funext a b
        exact congrFun (congrFun dataLe_T1 a.2) b.2
      rw [e]
      refine (List.pairwise_mergeSort (fun a b c h1 h2 => ?_) (fun a b => ?_) zs).imp fun h => of_decide_eq_true h
      · exact decide_eq_true (List.le_trans (of_decide_eq_true h1) (of_decide_eq_true h2))
      · rw [Bool.or_eq_true]
        rcases List.le_total (intsL a.2) (intsL b.2) with h | h
        · exact .inl (decide_eq_true h)
        · exact .inr (decide_eq_true h)
    · rw [List.map_map]
      exact dp_vals fun z hz => dz z (perm.mem_iff.mp hz)
end
end Tm
set_option maxRecDepth 100000
set_option maxHeartbeats 4000000
/-! The desk: its fields read, its fields and its list of the past changed. -/
namespace Tm
open PySem PySem.Spec PyProof.Rows L2
def three (a dx pl : Addr) (b : Addr) : Prop := b = a ∨ b = dx ∨ b = pl
/-- the desk's objects are changed, all else stays -/
structure GrowD (a dx pl : Addr) (F H F2 H2 : Hp) : Prop where
  f : Same F F2
  i : Same F2 H2
  h : ∀ b o, ¬ three a dx pl b → H b = some o → H2 b = some o
  k : ∀ b, H b ≠ none → H2 b ≠ none
  n : ∀ b, F b = none → H b ≠ none → Keep (H2 b) → F2 b = none
def Slo.isDk : Slo → Bool
  | .dk _ _ _ _ _ => true
  | _ => false
def OneDk (r : List Slo) (i : Nat) : Prop := ∀ j t, j ≠ i → r[j]? = some t → t.isDk = false
section
variable {K : PySem.W.Frag} {M : Addr → Prop} {F0 H0 H1 F H F2 H2 : Hp} {r : List Slo} {s : L2.St} {p : Addr} {o o' : HO} {te ta tb : TE} {tt : TT} {d : PyData} {ds : List PyData} {t u : TS} {A : Af} {i : Nat} {C a dx pl : Addr} {D D' : DeskD}
theorem Grow.toD (g : Grow F H F2 H2) : GrowD a dx pl F H F2 H2 := ⟨g.f, g.i, fun b o _ e => g.h b o e, fun b e => sameKeeps g.h e, fun b e1 e2 k => g.n b e1 (k.back g.h e2)⟩
theorem GrowD.trans {F3 H3 : Hp} (iF : Same F H) (g : GrowD a dx pl F H F2 H2) (g2 : GrowD a dx pl F2 H2 F3 H3) : GrowD a dx pl F H F3 H3 := by
  refine ⟨g.f.trans g2.f, g2.i, fun b o n e => g2.h b o n (g.h b o n e), fun b e => g2.k b (g.k b e), fun b e1 e2 k => g2.n b ?_ (g.k b e2) k⟩
  cases e : F2 b with
  | none => rfl
  | some w =>
    rw [g2.i b w (g2.f b w e)] at k
    rw [← e]
    exact g.n b e1 e2 (by rw [g.i b w e]; exact k)
theorem GrowD.upd (iF : Same F H) (hp : three a dx pl p) (hf : F p = none) : GrowD a dx pl F H F (upd H p o) := by
  refine ⟨Same.refl _, fun b w e => ?_, fun b w n e => ?_, fun b e => ?_, fun b e _ _ => e⟩
  · rw [upd_ne (fun z => by rw [z, hf] at e; cases e)]
    exact iF b w e
  · rw [upd_ne (fun z => n (by rw [z]; exact hp))]
    exact e
  · by_cases z : b = p
    · rw [z, upd_same]; exact fun z => by cases z
    · rw [upd_ne z]; exact e
theorem Sta.dk (S : Sta K M F0 H0 r s F H) (e : r[i]? = some (.dk C a dx pl D)) : s[i]? = some (some (.ref a)) ∧ DeskO K M H0 F H C a dx pl D := by
  rcases S.sl i _ e with h | ⟨v, h1, h2, h3⟩
  · cases h
  · rw [h2] at h1
    exact ⟨h1, h3⟩
/-- the desk is changed -/
theorem Sta.growD (S : Sta K M F0 H0 r s F H) (e : r[i]? = some (.dk C a dx pl D)) (one : OneDk r i) (g : GrowD a dx pl F H F2 H2) (h : DeskH K F2 H2 C a dx pl D') : Sta K M F0 H0 (r.set i (.dk C a dx pl D')) s F2 H2 := by
  obtain ⟨hs, dk⟩ := S.dk e
  have hi : i < r.length := (List.getElem?_eq_some_iff.mp e).1
  have kp2 : ∀ b, three a dx pl b → Keep (H2 b) := by
    obtain ⟨vw, vs, vps, h1, h2, h3, _⟩ := h
    rintro b (rfl | rfl | rfl)
    · exact ⟨_, h1, fun _ z => by cases z⟩
    · exact ⟨_, h2, fun _ z => by cases z⟩
    · exact ⟨_, h3, fun _ z => by cases z⟩
  have lst : ∀ {q ws}, H q = some (.lst ws) → (∀ x, H0 q ≠ some (.own x)) → H2 q = some (.lst ws) := fun {q ws} hq hz => g.h q _ (fun z => dk.ne hq hz q z rfl) hq
  refine ⟨S.f0.trans g.f, g.i, fun b w n x => g.h b w (fun z => n (dk.fa b z).2.1) (S.h0 b w n x), fun b x => g.k b (S.hd b x), fun b x y k => g.n b (n_step S.i g.f g.i (S.n0 b x y) k) (S.hd b y) k, by rw [List.length_set]; exact S.len, fun j t x => ?_, fun j k t1 t2 q e1 e2 m1 m2 s1 s2 => ?_⟩
  · by_cases w : i = j
    · subst w
      rw [List.getElem?_set_self hi] at x
      cases x
      exact .inr ⟨_, hs, rfl, fun b hb => ⟨g.n b (dk.fa b hb).1 (dk.kp b hb).ne (kp2 b hb), (dk.fa b hb).2⟩, dk.mr, h⟩
    · rw [List.getElem?_set_ne w] at x
      rcases S.sl j t x with y | ⟨v, h1, h2⟩
      · exact .inl y
      · refine .inr ⟨v, h1, ?_⟩
        cases t with
        | no => trivial
        | ad w => exact h2
        | dk C' a' dx' pl' D'' =>
          have := one j _ (Ne.symm w) x
          cases this
        | fz d => exact Dp.up g.f _ _ h2
        | mu ds2 =>
          obtain ⟨q, vs, rfl, a1, a2, a3, a4⟩ := h2
          have l := lst a3 (not_own a2)
          exact ⟨q, vs, rfl, g.n q a1 (some_ne a3) (keep_lst l), a2, l, DpAll.up g.f _ _ a4⟩
        | pm ds2 =>
          obtain ⟨q, vs, rfl, a1, a2, a3, a4⟩ := h2
          have l := lst a3 a2.2
          exact ⟨q, vs, rfl, g.n q a1 (some_ne a3) (keep_lst l), a2, l, DpAll.up g.f _ _ a4⟩
  · have back : ∀ (c : Nat) (t : Slo), (r.set i (.dk C a dx pl D'))[c]? = some t → t.mut = true → r[c]? = some t := fun c t ec m => by
      by_cases w : i = c
      · subst w
        rw [List.getElem?_set_self hi] at ec
        cases ec
        cases m
      · rw [List.getElem?_set_ne w] at ec
        exact ec
    exact S.dj j k t1 t2 q (back j t1 e1 m1) (back k t2 e2 m2) m1 m2 s1 s2
/-- the class's facts that the fields' reading asks for -/
structure DeskC (K : PySem.W.Frag) (C : Addr) : Prop where
  c : Cls K C
  nW : NoAttr K C "_web"
  nS : NoAttr K C "_state"
  nT : NoAttr K C "_ticks"
  nP : NoAttr K C "_past"
theorem ef_web (T : DeskC K C) (e : r[i]? = some (.dk C a dx pl D)) : Ef K (tFld K (tVar i) "_web") r D.w := by
  intro M F0 H0 s F H S Q q
  obtain ⟨hs, dk⟩ := S.dk e
  obtain ⟨vw, vs, vps, h1, h2, h3, h4, h5, h6⟩ := dk.h
  exact ⟨_, hs, a, C, dx, _, vw, rfl, h1, T.c, T.nW, rfl, q _ F H (Grow.refl S.i) h4⟩
theorem ef_state (T : DeskC K C) (e : r[i]? = some (.dk C a dx pl D)) : Ef K (tFld K (tVar i) "_state") r D.s := by
  intro M F0 H0 s F H S Q q
  obtain ⟨hs, dk⟩ := S.dk e
  obtain ⟨vw, vs, vps, h1, h2, h3, h4, h5, h6⟩ := dk.h
  exact ⟨_, hs, a, C, dx, _, vs, rfl, h1, T.c, T.nS, rfl, q _ F H (Grow.refl S.i) h5⟩
theorem ef_ticks (T : DeskC K C) (e : r[i]? = some (.dk C a dx pl D)) : Ef K (tFld K (tVar i) "_ticks") r (.int D.t) := by
  intro M F0 H0 s F H S Q q
  obtain ⟨hs, dk⟩ := S.dk e
  obtain ⟨vw, vs, vps, h1, h2, h3, h4, h5, h6⟩ := dk.h
  exact ⟨_, hs, a, C, dx, _, .int D.t, rfl, h1, T.c, T.nT, rfl, q _ F H (Grow.refl S.i) (.int _)⟩
theorem el_past (T : DeskC K C) (e : r[i]? = some (.dk C a dx pl D)) : El K (tFld K (tVar i) "_past") r D.ps := by
  intro M F0 H0 s F H S Q q
  obtain ⟨hs, dk⟩ := S.dk e
  obtain ⟨vw, vs, vps, h1, h2, h3, h4, h5, h6⟩ := dk.h
  exact ⟨_, hs, a, C, dx, _, .ref pl, rfl, h1, T.c, T.nP, rfl, q pl vps F H (Grow.refl S.i) (SqL.of h3) h6⟩
/-- self._past.append(e) -/
theorem sd_pastApp (T : DeskC K C) (e : r[i]? = some (.dk C a dx pl D)) (one : OneDk r i) (h : Ef K te r d) (hz : D.ps.length < 100000) (q : A.nx (r.set i (.dk C a dx pl { D with ps := D.ps ++ [d] }))) : Sd K (tDrop (tBM K "list" rAppend (tFld K (tVar i) "_past") (tCons te tNil))) r A := fun M F0 H0 s F H D1 S W => by
  obtain ⟨hs, dk⟩ := S.dk e
  obtain ⟨vw, vs, vps, h1, h2, h3, h4, h5, h6⟩ := dk.h
  refine ⟨_, hs, a, C, dx, _, .ref pl, rfl, h1, T.c, T.nP, rfl, .inl ⟨rfl, _, SqL.of h3⟩, ?_⟩
  refine h _ _ _ _ _ _ S _ fun v F2 H2 g dv => ?_
  have S2 := S.grow g
  obtain ⟨_, dk2⟩ := S2.dk e
  have ne : pl ≠ a ∧ pl ≠ dx := ⟨(fun z => by rw [z, h1] at h3; cases h3), (fun z => by rw [z, h2] at h3; cases h3)⟩
  refine ⟨pl, vps, v, rfl, rfl, g.h _ _ h3, by rw [h6.len]; exact szLt hz, W.nx _ _ F2 _ q (S2.growD e one (GrowD.upd S2.i (.inr (.inr rfl)) (dk2.fa pl (.inr (.inr rfl))).1) ⟨vw, vs, vps ++ [v], ?_, ?_, upd_same, Dp.up g.f _ _ h4, Dp.up g.f _ _ h5, (DpAll.up g.f _ _ h6).app (.one dv)⟩)⟩
  · rw [upd_ne (Ne.symm ne.1)]; exact g.h _ _ h1
  · rw [upd_ne (Ne.symm ne.2)]; exact g.h _ _ h2
/-- self.f = .. within a row of targets -/
def gFld (K : PySem.W.Frag) (to : TE) (f : Str) : TG := fun v σ H Q => to σ H fun x H1 => ∃ a C dx fs, x = .ref a ∧ H1 a = some (.ins C dx fs) ∧ Cls K C ∧ NoAttr K C f ∧ fs.length < 1000 ∧ Q σ (upd H1 a (.ins C dx (putF f v fs)))
theorem pg_fld {X : Cx} {o : Expr} {f : Str} {to : TE} {pos : Pos} (ho : PE X o to)
    (ha : ∀ v, assign (.Attribute o f pos) X.env v = (do
      let ov ← holding [v] (eval o X.env)
      standAt pos.atName
      holding [v, ov] (setAttr ov f v)
      release [v, ov] []) := by intro _; rfl) : PG X (.Attribute o f pos) (gFld X.K to f) := by
  refine ⟨fun pins s σ H v u Q I r h => ?_⟩
  rw [ha]
  refine wpAny_bind (wpAny_holding (thn (ho.run pins s σ H _ I h) fun ov s1 ⟨x, H1, I1, r1, a, C, dx, fs, ex, ea, c, n, l, q1⟩ => ?_))
  subst ex
  obtain rfl : ov = Value.ref a := r1
  refine wpAny_bind (wpAny_standAt (wpAny_bind (wpAny_holding (setattr_ok I1 ea c n l r fun s2 I2 => ?_))))
  exact wpAny_release ⟨σ, _, I2, q1⟩
/-- state and ticks set -/
theorem two_put {W : L2.St → Hp → Prop} {v : V} {n : Int} (T : DeskC K C) (S : Sta K M F0 H0 r s F H) (e : r[i]? = some (.dk C a dx pl D)) (one : OneDk r i) (hv : Dp K F v d)
    (q : ∀ H2, Sta K M F0 H0 (r.set i (.dk C a dx pl { D with s := d, t := n })) s F H2 → W s H2) : gFld K (tVar i) "_state" v s H fun s1 H1 => gFld K (tVar i) "_ticks" (.int n) s1 H1 W := by
  obtain ⟨hs, dk⟩ := S.dk e
  obtain ⟨vw, vs, vps, h1, h2, h3, h4, h5, h6⟩ := dk.h
  have ne : pl ≠ a ∧ dx ≠ a := ⟨(fun z => by rw [z, h1] at h3; cases h3), (fun z => by rw [z, h1] at h2; cases h2)⟩
  refine ⟨_, hs, a, C, dx, _, rfl, h1, T.c, T.nS, by show 4 < 1000; decide, ?_⟩
  refine ⟨_, hs, a, C, dx, _, rfl, upd_same, T.c, T.nT, by show 4 < 1000; decide, ?_⟩
  rw [upd_upd]
  refine q _ (S.growD e one (GrowD.upd S.i (.inl rfl) (dk.fa a (.inl rfl)).1) ⟨vw, v, vps, upd_same, ?_, ?_, h4, hv, h6⟩)
  · rw [upd_ne ne.2]; exact h2
  · rw [upd_ne ne.1]; exact h3
theorem gFld_var {W W' : L2.St → Hp → Prop} {f : Str} {v : V} (h : gFld K (tVar i) f v s H W) (m : ∀ s2 H2, W s2 H2 → W' s2 H2) : gFld K (tVar i) f v s H W' := by
  obtain ⟨x, hx, a, C, dx, fs, h1, h2, h3, h4, h5, h6⟩ := h
  exact ⟨x, hx, a, C, dx, fs, h1, h2, h3, h4, h5, m _ _ h6⟩
theorem cons2 {W : L2.St → Hp → Prop} {f g : Str} {v x : V} (h : gFld K (tVar i) f v s H fun s1 H1 => gFld K (tVar i) g x s1 H1 W) : gCons (gFld K (tVar i) f) (gCons (gFld K (tVar i) g) gNil) [v, x] s H W :=
  ⟨v, [x], rfl, gFld_var h fun s2 H2 h2 => ⟨x, [], rfl, gFld_var h2 fun s3 H3 h3 => ⟨rfl, h3⟩⟩⟩
/-- self._state, self._ticks = a pair -/
theorem pair_put {W : L2.St → Hp → Prop} {v : V} {n : Int} (T : DeskC K C) (S : Sta K M F0 H0 r s F H) (e : r[i]? = some (.dk C a dx pl D)) (one : OneDk r i) (hv : Dp K F v (.tuple [d, .int n]))
    (q : ∀ H2, Sta K M F0 H0 (r.set i (.dk C a dx pl { D with s := d, t := n })) s F H2 → W s H2) : gTup K 2 (gCons (gFld K (tVar i) "_state") (gCons (gFld K (tVar i) "_ticks") gNil)) v s H W := by
  cases hv with
  | @tup p vs _ sq dvs =>
  obtain ⟨v, hv, rfl⟩ : ∃ v, Dp K F v d ∧ vs = [v, .int n] := by
    cases dvs with
    | cons hv t =>
      cases t with
      | cons hx t =>
        cases t
        cases hx
        exact ⟨_, hv, rfl⟩
  exact ⟨p, _, rfl, st_up S.i sq, rfl, cons2 (two_put T S e one hv q)⟩
theorem sd_two {n : Int} (T : DeskC K C) (e : r[i]? = some (.dk C a dx pl D)) (one : OneDk r i) (h : Ef K te r (.tuple [d, .int n])) (q : A.nx (r.set i (.dk C a dx pl { D with s := d, t := n }))) :
    Sd K (tAsg te (gTup K 2 (gCons (gFld K (tVar i) "_state") (gCons (gFld K (tVar i) "_ticks") gNil)))) r A := fun M F0 H0 s F H D1 S W =>
  h _ _ _ _ _ _ S _ fun v F1 H1 g1 dv => pair_put T (S.grow g1) e one dv fun H2 S2 => W.nx _ _ F1 H2 q S2
theorem dpAll_snoc : ∀ {ds : List PyData} {vs : List V} {x : PyData}, DpAll K F vs (ds ++ [x]) → ∃ us y, vs = us ++ [y] ∧ DpAll K F us ds ∧ Dp K F y x
  | [], _, _, h => by
    cases h with
    | cons a t =>
      cases t
      exact ⟨[], _, rfl, .nil, a⟩
  | d :: ds, _, _, h => by
    cases h with
    | cons a t =>
      obtain ⟨us, y, rfl, h1, h2⟩ := dpAll_snoc (ds := ds) t
      exact ⟨_ :: us, y, rfl, .cons a h1, h2⟩
/-- self._state, self._ticks = self._past.pop() -/
theorem sd_pastPop {ds : List PyData} {n : Int} (T : DeskC K C) (e : r[i]? = some (.dk C a dx pl D)) (one : OneDk r i) (hd : D.ps = ds ++ [.tuple [d, .int n]]) (q : A.nx (r.set i (.dk C a dx pl { w := D.w, s := d, t := n, ps := ds }))) :
    Sd K (tAsg (tBM0 K "list" rPop (tFld K (tVar i) "_past")) (gTup K 2 (gCons (gFld K (tVar i) "_state") (gCons (gFld K (tVar i) "_ticks") gNil)))) r A := fun M F0 H0 s F H D1 S W => by
  obtain ⟨hs, dk⟩ := S.dk e
  obtain ⟨vw, vs, vps, h1, h2, h3, h4, h5, h6⟩ := dk.h
  rw [hd] at h6
  obtain ⟨us, y, rfl, h7, h8⟩ := dpAll_snoc h6
  have ne : pl ≠ a ∧ pl ≠ dx := ⟨(fun z => by rw [z, h1] at h3; cases h3), (fun z => by rw [z, h2] at h3; cases h3)⟩
  refine ⟨_, hs, a, C, dx, _, .ref pl, rfl, h1, T.c, T.nP, rfl, .inl ⟨rfl, _, SqL.of h3⟩, ?_⟩
  refine ⟨pl, us ++ [y], y, rfl, rfl, h3, by simp, ?_⟩
  rw [List.dropLast_concat]
  have S2 : Sta K M F0 H0 (r.set i (.dk C a dx pl { D with ps := ds })) s F (upd H pl (.lst us)) := S.growD e one (GrowD.upd S.i (.inr (.inr rfl)) (dk.fa pl (.inr (.inr rfl))).1) ⟨vw, vs, us, by rw [upd_ne (Ne.symm ne.1)]; exact h1, by rw [upd_ne (Ne.symm ne.2)]; exact h2, upd_same, h4, h5, h7⟩
  have hi : i < r.length := (List.getElem?_eq_some_iff.mp e).1
  refine pair_put T S2 (List.getElem?_set_self hi) (fun j t ne ej => one j t ne (by rw [List.getElem?_set_ne (Ne.symm ne)] at ej; exact ej)) h8 fun H2 S3 => ?_
  rw [List.set_set] at S3
  exact W.nx _ _ F H2 q S3
/-- slots at the entry of a method of the desk -/
def rhoD (n : Nat) (C a dx pl : Addr) (D : DeskD) (ds : List PyData) : List Slo := .dk C a dx pl D :: rho (n - 1) ds
structure DeskE (K : PySem.W.Frag) (F H : Hp) (C a dx pl : Addr) (D : DeskD) : Prop where
  i : Same F H
  f : ∀ b, three a dx pl b → F b = none
  h : DeskH K F H C a dx pl D
theorem DeskE.kp (d : DeskE K F H C a dx pl D) : ∀ b, three a dx pl b → Keep (H b) := by
  obtain ⟨vw, vs, vps, h1, h2, h3, _⟩ := d.h
  rintro b (rfl | rfl | rfl)
  · exact ⟨_, h1, fun _ z => by cases z⟩
  · exact ⟨_, h2, fun _ z => by cases z⟩
  · exact ⟨_, h3, fun _ z => by cases z⟩
theorem sta_startD {N : List Str} {vs : List V} (d : DeskE K F H C a dx pl D) (av : DpAll K F vs ds) (hN : 0 < N.length) : Sta K (three a dx pl) F (upd H pl (.own a)) (rhoD N.length C a dx pl D ds) (L2.start N (.ref a :: vs)) F H := by
  obtain ⟨m, em⟩ : ∃ m, N.length = m + 1 := ⟨N.length - 1, by omega⟩
  have N' : ∃ N' : List Str, N'.length = m := ⟨List.replicate m "", List.length_replicate⟩
  obtain ⟨N', eN⟩ := N'
  have T := sta_start (N := N') d.i av
  have e1 : L2.start N (.ref a :: vs) = some (.ref a) :: L2.start N' vs := by
    unfold L2.start
    rw [em, eN, List.map_cons, List.length_cons, List.cons_append]
    congr 3
    omega
  have e2 : rhoD N.length C a dx pl D ds = .dk C a dx pl D :: rho N'.length ds := by
    unfold rhoD
    rw [em, eN]
    rfl
  have ne : ∀ b, H b ≠ none → upd H pl (.own a) b ≠ none := fun b e => by
    by_cases z : b = pl
    · rw [z, upd_same]; exact fun z => by cases z
    · rw [upd_ne z]; exact e
  have nof : ∀ (j : Nat) (t : Slo), (rho N'.length ds)[j]? = some t → t = .no ∨ ∃ d, t = .fz d := fun j t e => by
    unfold rho at e
    rcases List.mem_append.mp (List.mem_of_getElem? e) with h | h
    · obtain ⟨d, _, rfl⟩ := List.mem_map.mp h
      exact .inr ⟨d, rfl⟩
    · exact .inl (List.eq_of_mem_replicate h)
  rw [e1, e2]
  refine ⟨Same.refl _, d.i, fun b o n e => ?_, fun b e => ?_, fun b e _ _ => e, by rw [List.length_cons, List.length_cons, T.len], fun j t e => ?_, fun j k t u p e1 _ m1 _ _ _ => ?_⟩
  · rw [upd_ne (fun z => n (.inr (.inr z)))] at e
    exact e
  · by_cases z : b = pl
    · rw [z]; exact (d.kp pl (.inr (.inr rfl))).ne
    · rw [upd_ne z] at e; exact e
  · cases j with
    | zero =>
      cases e
      exact .inr ⟨_, rfl, rfl, fun b hb => ⟨d.f b hb, hb, ne b (d.kp b hb).ne⟩, upd_same, d.h⟩
    | succ j =>
      have e : (rho N'.length ds)[j]? = some t := by simpa using e
      rcases T.sl j t e with z | ⟨v, h1, h2⟩
      · exact .inl z
      · refine .inr ⟨v, by simpa using h1, ?_⟩
        rcases nof j t e with rfl | ⟨d, rfl⟩
        · trivial
        · exact h2
  · cases j with
    | zero => cases e1; cases m1
    | succ j =>
      rcases nof j t (by simpa using e1) with rfl | ⟨d, rfl⟩ <;> cases m1
/-- .. at the end -/
theorem Sta.grownD {Hb : Hp} (S : Sta K (three a dx pl) F0 (upd Hb pl (.own a)) r s F H) (d : DeskE K F0 Hb C a dx pl D) : GrowD a dx pl F0 Hb F H := by
  have ne : ∀ b, Hb b ≠ none → upd Hb pl (.own a) b ≠ none := fun b e => by
    by_cases z : b = pl
    · rw [z, upd_same]; exact fun z => by cases z
    · rw [upd_ne z]; exact e
  exact ⟨S.f0, S.i, fun b o n e => S.h0 b o n (by rw [upd_ne (fun z => n (.inr (.inr z)))]; exact e), fun b e => S.hd b (ne b e), fun b e1 e2 k => S.n0 b e1 (ne b e2) k⟩
theorem Sta.endD {Hb : Hp} (S : Sta K (three a dx pl) F0 (upd Hb pl (.own a)) r s F H) (e : r[i]? = some (.dk C a dx pl D)) : DeskE K F H C a dx pl D := by
  obtain ⟨_, dk⟩ := S.dk e
  exact ⟨S.i, fun b hb => (dk.fa b hb).1, dk.h⟩
/-- what a raising def comes to -/
inductive Out where
  | ok (d : PyData)
  | word (j : Int)
  | text
/-- a method of the desk: what it comes to, and what the desk then is. CI, CN: the two errors' classes -/
def SpDesk {ι : Type} (K : PySem.W.Frag) (C CI CN : Addr) (pre : ι → DeskD → List PyData → Prop) (post : ι → DeskD → Out → DeskD → Prop) : Sp := fun vs H Q E => ∃ x F ds a dx pl D ws, vs = .ref a :: ws ∧ DeskE K F H C a dx pl D ∧ DpAll K F ws ds ∧ pre x D ds ∧
  (∀ v d D' F2 H2, post x D (.ok d) D' → GrowD a dx pl F H F2 H2 → DeskE K F2 H2 C a dx pl D' → Dp K F2 v d → Q v H2) ∧
  (∀ j D' F2 H2 e, post x D (.word j) D' → GrowD a dx pl F H F2 H2 → DeskE K F2 H2 C a dx pl D' → F2 e = none → H2 e = some (.xd [(("word" : Str), .int j)]) → E (.ref CI) (some e) H2) ∧
  (∀ e D' F2 H2, post x D .text D' → GrowD a dx pl F H F2 H2 → DeskE K F2 H2 C a dx pl D' → E (.ref CN) e H2)
end
end Tm
set_option maxRecDepth 100000
set_option maxHeartbeats 4000000
/-! Methods and defs that raise. -/
namespace Tm
open PySem PySem.Spec PyProof.Rows L2
/-- a method that may let an error out -/
structure DMet (P : Program) (w : World) (K : PySem.W.Frag) (mg : Str → Option Value) (base : Heap) (k : Nat) (C : Addr) (m : Str) (sp : Sp) : Prop where
  ex : ∃ (f : Addr) (fd : FuncData) (ps : List Str), Cls K C ∧ Meth K C m f ∧ FnOk P w K mg base (L2.CX P w) k f fd ps sp ∧ Binds K fd ps []
theorem pe_dmt {X : Cx} {k j : Nat} {C : Addr} {m : Str} {sp : Sp} {apos pos : Pos} {e o : Expr} {es : List Expr} {ta : TE} {t : TA} {pl : Sem Bool} {W : WX} {E : XK} (c : DMet X.prog X.w X.K X.mg X.base k C m sp) (hr : Room j X.A) (hk : k ≤ j) (tk : Takes X W) (hW : ∀ cls d σ H, E cls d H → W cls d σ H) (he : PE X o ta) (ha : PA X (e :: es) t)
    (hst : starEach (e :: es) X.env = (false, eval e X.env) :: starEach es X.env := by rfl) (hpl : (backTo pos (starEach es X.env)).any (·.1) = false := by rfl)
    (ht : eval (.Call (.Attribute o m apos) (e :: es) [] pos) X.env = (do
      let ov ← eval o X.env
      standAt apos.atName
      let (f, first) ← holding [ov] (getMethod ov m pl)
      callWith pos f first (backTo pos (starEach (e :: es) X.env)) (backToKw pos (keywordEach [] X.env))) := by rfl) :
    PE X (.Call (.Attribute o m apos) (e :: es) [] pos) (tMeth C m sp [] E ta t) := by
  obtain ⟨f, fd, ps, hc, hm, F, b⟩ := c.ex
  exact pe_meth (pl := pl) he hc hm F (hr.mono hk) b .nil (passes_call tk hW) ha hst hpl ht
/-- a def that may let an error out, called by its name -/
structure Clx (P : Program) (w : World) (K : PySem.W.Frag) (mg : Str → Option Value) (base : Heap) (k : Nat) (x : Str) (sp : Sp) : Prop where
  ex : ∃ (f : Addr) (fd : FuncData) (ps : List Str), FnOk P w K mg base (L2.CX P w) k f fd ps sp ∧ mg x = some (.ref f) ∧ PySem.W.keepIn K (.ref f) = true ∧ Binds K fd ps []
theorem pe_clx {X : Cx} {x : Str} {k j : Nat} {sp : Sp} {e : Expr} {es : List Expr} {t : TA} {p pos : Pos} {W : WX} {E : XK} (c : Clx X.prog X.w X.K X.mg X.base k x sp) (hr : Room j X.A) (hk : k ≤ j) (tk : Takes X W) (hW : ∀ cls d σ H, E cls d H → W cls d σ H) (hg : Gl X x) (ha : PA X (e :: es) t)
    (hdb : (x == ("__debug__" : Str)) = false := by decide) (he : starEach (e :: es) X.env = (false, eval e X.env) :: starEach es X.env := by rfl) (hpl : (backTo pos (starEach es X.env)).any (·.1) = false := by rfl) :
    PE X (.Call (.Name x p) (e :: es) [] pos) (tCall sp [] E t) := by
  obtain ⟨f, fd, ps, F, hm, kp, b⟩ := c.ex
  exact pe_call F (hr.mono hk) hg hm kp b .nil (passes_call tk hW) ha hdb he hpl
/-- a method as the top has left it -/
structure Fmt (K : PySem.W.Frag) (C : Addr) (m qual : Str) (st : Stmt) : Prop where
  ex : ∃ (f : Addr) (fd : FuncData), L2.Fun K m qual st f fd ∧ Meth K C m f
theorem funX {P : Program} {w : World} {K : PySem.W.Frag} {mg : Str → Option Value} {base : Heap} {x qual : Str} {st : Stmt} {f : Addr} {fd : FuncData} {N ps : List Str} {k : Nat} {sp : Sp} (F : L2.Fun K x qual st f fd) (S : FnScope N ps (defScope st)) (len : ∀ vs H Q E, sp vs H Q E → vs.length = ps.length)
    (body : ∀ (cdv : Value) (A : Around) (outer : List Env) (s : Shared) (H : Hp) (E : XK), Room k (A.deeper (envOfC qual (defScope st) s.heap.objs.size f cdv)) →
      Takes (cxOf (L2.CX P w) P w K mg base N qual (defScope st) f cdv A outer s H E) (fun cls d _ H => E cls d H) →
      ∃ t, PSs (cxOf (L2.CX P w) P w K mg base N qual (defScope st) f cdv A outer s H E) (defBody st) t ∧ ∀ vs Q, sp vs H Q E → t { nx := fun _ H' => Q .non H', rt := Q } (L2.start N vs) H) : FnOk P w K mg base (L2.CX P w) (k + 1) f fd ps sp := by
  obtain ⟨oc, od, kV, doc, pm, an, cdv, ct, osl, rfl, lk, hcd⟩ := F.ex
  refine fn_of lk hcd S len fun A outer s H vs Q E hr hsp => ?_
  obtain ⟨t, h, q⟩ := body cdv A outer s H E hr (takes_of rfl rfl rfl rfl)
  exact ⟨t, h, q vs Q hsp⟩
/-- THE RULE of a method that may raise, told raw -/
theorem dmet_raw {P : Program} {w : World} {K : PySem.W.Frag} {mg : Str → Option Value} {base : Heap} {C : Addr} {m qual : Str} {st : Stmt} {N ps : List Str} {k : Nat} {sp : Sp} (c : Cls K C) (T : Fmt K C m qual st) (S : FnScope N ps (defScope st))
    (hb : ∀ (kV doc pm : Value) (an : Option Addr) (cdv ct : Value) (us : List Value), us.length = ps.length → bindArgs (PySem.W.fnOf m qual (defArgs st) (defBody st) (defScope st) .none kV doc pm an cdv ct) ⟨us, []⟩ = pure (ps.zip us))
    (len : ∀ vs H Q E, sp vs H Q E → vs.length = ps.length)
    (body : ∀ (f : Addr) (cdv : Value) (A : Around) (outer : List Env) (s : Shared) (H : Hp) (E : XK), Room k (A.deeper (envOfC qual (defScope st) s.heap.objs.size f cdv)) →
      Takes (cxOf (L2.CX P w) P w K mg base N qual (defScope st) f cdv A outer s H E) (fun cls d _ H => E cls d H) →
      ∃ t, PSs (cxOf (L2.CX P w) P w K mg base N qual (defScope st) f cdv A outer s H E) (defBody st) t ∧ ∀ vs Q, sp vs H Q E → t { nx := fun _ H' => Q .non H', rt := Q } (L2.start N vs) H) : DMet P w K mg base (k + 1) C m sp := by
  obtain ⟨f, fd, F, hm⟩ := T.ex
  exact ⟨f, fd, ps, c, hm, funX F S len (body f), F.binds hb⟩
/-- .. of a def -/
theorem clx_raw {P : Program} {w : World} {K : PySem.W.Frag} {mg : Str → Option Value} {base : Heap} {x : Str} {st : Stmt} {N ps : List Str} {k : Nat} {sp : Sp} (T : Ft K mg x st) (S : FnScope N ps (defScope st))
    (hb : ∀ (kV doc pm : Value) (an : Option Addr) (cdv ct : Value) (us : List Value), us.length = ps.length → bindArgs (PySem.W.fnOf x x (defArgs st) (defBody st) (defScope st) .none kV doc pm an cdv ct) ⟨us, []⟩ = pure (ps.zip us))
    (len : ∀ vs H Q E, sp vs H Q E → vs.length = ps.length)
    (body : ∀ (f : Addr) (cdv : Value) (A : Around) (outer : List Env) (s : Shared) (H : Hp) (E : XK), Room k (A.deeper (envOfC x (defScope st) s.heap.objs.size f cdv)) →
      Takes (cxOf (L2.CX P w) P w K mg base N x (defScope st) f cdv A outer s H E) (fun cls d _ H => E cls d H) →
      ∃ t, PSs (cxOf (L2.CX P w) P w K mg base N x (defScope st) f cdv A outer s H E) (defBody st) t ∧ ∀ vs Q, sp vs H Q E → t { nx := fun _ H' => Q .non H', rt := Q } (L2.start N vs) H) : Clx P w K mg base (k + 1) x sp := by
  obtain ⟨f, fd, F, hm⟩ := T.ex
  exact ⟨f, fd, ps, funX F S len (body f), hm, F.kp, F.binds hb⟩
/-- raise InvalidText(j) in a method of the desk -/
theorem raise_desk {K : PySem.W.Frag} {F0 Hb F H : Hp} {r : List Slo} {s : L2.St} {C CI a dx pl : Addr} {D0 D : DeskD} {te : TE} {j : Int} {Q : XK} (S : Sta K (three a dx pl) F0 (upd Hb pl (.own a)) r s F H) (d : DeskE K F0 Hb C a dx pl D0) (e : r[0]? = some (.dk C a dx pl D)) (h : Ef K te r (.int j))
    (q : ∀ F2 H2 e, GrowD a dx pl F0 Hb F2 H2 → DeskE K F2 H2 C a dx pl D → F2 e = none → H2 e = some (.xd [(("word" : Str), .int j)]) → Q (.ref CI) (some e) H2) : tMkWord CI (tCons te tNil) s H Q := by
  refine h _ _ _ _ _ _ S _ fun v F1 H1 g1 dv => ?_
  cases dv
  refine ⟨.int j, rfl, fun x hx => ?_⟩
  have S2 := (S.grow g1).grow (Grow.newM g1.i hx (o := .xd [(("word" : Str), V.int j)]))
  exact q F1 _ x (S2.grownD d) (S2.endD e) (g1.i.free hx) upd_same
/-! ### the dict of the words -/
def wordTab : List (Str × Option Int) := [("tick", some 1), ("ticks", some 2), ("paint", some 3), ("back", some 1), ("state", some 1), ("stirred", some 1), ("rest", some 1), ("speed", some 2), ("", none), ("Tick", none)]
structure WordsTxt (K : PySem.W.Frag) (mg : Str → Option Value) (w : World) (d : Addr) : Prop where
  g : mg "WORDS" = some (.ref d)
  kd : ∃ es n, KDict K w d es n
  no : ∀ z, (z, none) ∈ wordTab → PySem.W.nsIn K d z = some none
  yes : ∀ z i, (z, some i) ∈ wordTab → ∃ u, PySem.W.nsIn K d z = some (some u) ∧ RelV (.int i) u
theorem WordsTxt.k {K : PySem.W.Frag} {mg : Str → Option Value} {w : World} {d : Addr} (W : WordsTxt K mg w d) : ∃ u, mg "WORDS" = some u ∧ RelV (.ref d) u := ⟨_, W.g, rfl⟩
def rNotW (K : PySem.W.Frag) (d : Addr) : R2 := fun x y H Q => ∃ (z : Str) (r : Option Value), x = .str z ∧ y = .ref d ∧ PySem.W.nsIn K d z = some r ∧ Q (.bl (!r.isSome)) H
def rItW (K : PySem.W.Frag) (d : Addr) : R2 := fun x y H Q => ∃ (z : Str) (u0 : Value) (v0 : V), x = .ref d ∧ y = .str z ∧ PySem.W.nsIn K d z = some (some u0) ∧ RelV v0 u0 ∧ Q v0 H
theorem k_notW {X : Cx} {mg : Str → Option Value} {d : Addr} (W : WordsTxt X.K mg X.w d) : OpR X (compareOp .NotIn) (rNotW X.K d) := by
  obtain ⟨es, n, k⟩ := W.kd
  exact op_notIn_kd k
theorem k_itW {X : Cx} {mg : Str → Option Value} {d : Addr} (W : WordsTxt X.K mg X.w d) : OpR X getItem (rItW X.K d) := by
  obtain ⟨es, n, k⟩ := W.kd
  exact op_item_kd k
/-- WORDS[word] -/
theorem pe_itW {X : Cx} {mg : Str → Option Value} {d : Addr} {o i : Expr} {to ti : TE} {pos : Pos} (W : WordsTxt X.K mg X.w d) (ho : PE X o to) (hi : PE X i ti) (hs : NoSl i) : PE X (.Subscript o i pos) (tOp (rItW X.K d) to ti) := by
  obtain ⟨es, n, k⟩ := W.kd
  refine ⟨fun pins s σ H Q I h => ?_⟩
  refine subD_of PySem.F.slot_dict_getitem.lookup hs (thn (ho.run pins s σ H _ I h) fun u s1 ⟨x, H1, I1, rx, q1⟩ => thn (hi.run pins s1 σ H1 _ I1 q1) fun iv s2 ⟨y, H2, I2, ry, q2⟩ => ?_)
  have q3 := q2
  obtain ⟨z, u0, v0, ex, _⟩ := q3
  subst ex
  obtain rfl : u = Value.ref d := rx
  exact ⟨kd_type k I2, op_item_kd k pins s2 σ H2 (.ref d) y _ iv Q I2 rfl ry q2⟩
section
variable {K : PySem.W.Frag} {mg : Str → Option Value} {w : World} {d : Addr} {r : List Slo} {te : TE} {z : Str}
theorem ef_notW {o : Option Int} (W : WordsTxt K mg w d) (h : Ef K te r (.str z)) (hz : (z, o) ∈ wordTab) : Ef K (tOp (rNotW K d) te (tC (.ref d))) r (.bool o.isNone) := by
  intro M F0 H0 s F H S Q q
  refine h _ _ _ _ _ _ S _ fun v F1 H1 g1 dv => ?_
  cases dv
  cases o with
  | none => exact ⟨z, none, rfl, rfl, W.no z hz, q _ F1 H1 g1 (.bl _)⟩
  | some i =>
    obtain ⟨u, e, _⟩ := W.yes z i hz
    exact ⟨z, some u, rfl, rfl, e, q _ F1 H1 g1 (.bl _)⟩
theorem ef_itW {i : Int} (W : WordsTxt K mg w d) (h : Ef K te r (.str z)) (hz : (z, some i) ∈ wordTab) : Ef K (tOp (rItW K d) (tC (.ref d)) te) r (.int i) := by
  intro M F0 H0 s F H S Q q
  refine h _ _ _ _ _ _ S _ fun v F1 H1 g1 dv => ?_
  cases dv
  obtain ⟨u, e, rv⟩ := W.yes z i hz
  exact ⟨z, u, .int i, rfl, rfl, e, rv, q _ F1 H1 g1 (.int _)⟩
end
/-- a method of the desk, called in a method of the desk -/
theorem call_desk {ι : Type} {K : PySem.W.Frag} {M : Addr → Prop} {F0 H0 F H : Hp} {r : List Slo} {s : L2.St} {C CI CN a dx pl : Addr} {D : DeskD} {m : Str} {i : Nat} {pre : ι → DeskD → List PyData → Prop} {post : ι → DeskD → Out → DeskD → Prop} {E : XK} {ta : TA} {ds : List PyData} {Q : VK} (x : ι)
    (S : Sta K M F0 H0 r s F H) (e : r[i]? = some (.dk C a dx pl D)) (one : OneDk r i) (h : Ea K ta r ds) (hp : pre x D ds)
    (qok : ∀ v d D' F2 H2, post x D (.ok d) D' → Same F F2 → Sta K M F0 H0 (r.set i (.dk C a dx pl D')) s F2 H2 → Dp K F2 v d → Q v H2)
    (qw : ∀ j D' F2 H2 er, post x D (.word j) D' → Same F F2 → Sta K M F0 H0 (r.set i (.dk C a dx pl D')) s F2 H2 → F2 er = none → H2 er = some (.xd [(("word" : Str), .int j)]) → E (.ref CI) (some er) H2)
    (qt : ∀ D' F2 H2 er, post x D .text D' → Same F F2 → Sta K M F0 H0 (r.set i (.dk C a dx pl D')) s F2 H2 → E (.ref CN) er H2)
    (hm : ∀ vw vs t pl, (deskF vw vs t pl).lookup m = none := by intros; rfl) : tMeth C m (SpDesk K C CI CN pre post) [] E (tVar i) ta s H Q := by
  obtain ⟨hs, dk⟩ := S.dk e
  obtain ⟨vw, vs, vps, h1, h2, h3, h4, h5, h6⟩ := dk.h
  refine ⟨_, hs, a, dx, _, rfl, h1, hm _ _ _ _, ?_⟩
  refine h _ _ _ _ _ _ S _ fun ws F1 H1 g1 dv => ?_
  have S1 := S.grow g1
  obtain ⟨_, dk1⟩ := S1.dk e
  rw [List.append_nil]
  refine ⟨x, F1, ds, a, dx, pl, D, ws, rfl, ⟨S1.i, fun b hb => (dk1.fa b hb).1, dk1.h⟩, dv, hp, fun v d D' F2 H2 po g d2 hv => qok v d D' F2 H2 po (g1.f.trans g.f) (S1.growD e one g d2.h) hv, fun j D' F2 H2 er po g d2 f2 h2 => qw j D' F2 H2 er po (g1.f.trans g.f) (S1.growD e one g d2.h) f2 h2, fun er D' F2 H2 po g d2 => qt D' F2 H2 er po (g1.f.trans g.f) (S1.growD e one g d2.h)⟩
end Tm
set_option maxRecDepth 100000
set_option maxHeartbeats 4000000
/-! The program's small defs. -/
namespace Tm
open PySem PyProof.Rows L2
section
variable {P : Program} {w : World} {K : PySem.W.Frag} {mg : Str → Option Value} {base : Heap}
theorem atN {ds : List PyData} {k : Nat} {d : PyData} (h : ds[k]? = some d) : atI ds (k : Int) = some d := atI_nat h
theorem encS_at {st : List Int} {i : Nat} (h : i < st.length) : atI (st.map PyData.int) (i : Int) = some (.int (ms st i)) := atN (by rw [List.getElem?_map, ms_get h]; rfl)
def preNum (ds : List PyData) (d : PyData) : Prop := ∃ v lo hi : Int, ds = [.int v, .int lo, .int hi] ∧ d = .bool (decide (lo ≤ v ∧ v ≤ hi))
theorem sc_is_number : FnScope ["value", "low", "high"] ["value", "low", "high"] (defScope (top 8)) := ⟨rfl, rfl, rfl, by decide +kernel, rfl, by decide +kernel, by decide +kernel⟩
/-- is_number: 0 value, 1 low, 2 high -/
theorem c_is_number (T : Txt K mg) : Cl P w K mg base 1 "is_number" (SpP K preNum) := by
  refine cl_pure T.f_is_number sc_is_number (fun _ _ _ _ _ _ us hl => match us, hl with | [_, _, _], _ => rfl) (by rintro _ _ ⟨_, _, _, rfl, _⟩; rfl) (fun f cdv A outer s H E hr => ⟨_, (pss_one (ps_ret (pe_and (pe_callB (k_isi K rfl) rfl T.n_isinstance bb_isinstance (pa_cons (pv 0) (pa_cons (pe_bltn rfl T.n_int bb_int (v := .ty "int") rfl) pa_nil))) (pe_and (pe_not (pe_callB (k_isi K rfl) rfl T.n_isinstance bb_isinstance (pa_cons (pv 0) (pa_cons (pe_bltn rfl T.n_bool bb_bool (v := .ty "bool") rfl) pa_nil)))) (pe_one (pe_chain op_le op_le (pv 1) (pv 0) (pv 2))))))), fun ds d h => ?_⟩)
  obtain ⟨v, lo, hi, rfl, rfl⟩ := h
  refine sd_ret (ef_is (ef_andV (ef_isi (Ef.er (ef_var rfl)) (b := true) kt_ii) fun _ => (ef_andV (ef_notV (ef_isi (Ef.er (ef_var rfl)) (b := false) kt_ib)) fun _ => (ef_chainI (ef_var rfl) (ef_var rfl) (ef_var rfl)))) ?_) rfl
  show PyData.bool (true && (!false && (decide (lo ≤ v) && decide (v ≤ hi)))) = _
  rw [Bool.true_and, Bool.not_false, Bool.true_and, ← Bool.decide_and]
def preStreet (ds : List PyData) (d : PyData) : Prop := ∃ (n : Nat) (e : Nat × Nat), ds = [iN n, eI e] ∧ e.1 < e.2 ∧ e.2 < n ∧ d = .bool true
theorem sc_is_street : FnScope ["folk", "value"] ["folk", "value"] (defScope (top 9)) := ⟨rfl, rfl, rfl, by decide +kernel, rfl, by decide +kernel, by decide +kernel⟩
/-- is_street: 0 folk, 1 value -/
theorem c_is_street (T : Txt K mg) : Cl P w K mg base 2 "is_street" (SpP K preStreet) := by
  refine cl_pure T.f_is_street sc_is_street (fun _ _ _ _ _ _ us hl => match us, hl with | [_, _], _ => rfl) (by rintro _ _ ⟨_, _, rfl, _⟩; rfl) (fun f cdv A outer s H E hr => ⟨_, (pss_cons (ps_if (PW.pt (pw_or (pt_not (pt_val (pe_callB (k_isi K rfl) rfl T.n_isinstance bb_isinstance (pa_cons (pv 1) (pa_cons (pe_bltn rfl T.n_tuple bb_tuple (v := .ty "tuple") rfl) pa_nil))))) (pw_or (pt_cmpR op_ne (pe_callB (k_len K rfl) rfl T.n_len bb_len (pa_cons (pv 1) pa_nil)) pe_int (nomark _)) (pw_or1 (pt_not (pt_val (pe_cl (c_is_number T) hr (by decide) rfl (pa_cons (pe_ix (k_ixT K rfl) (pv 1) pe_int (fun _ _ => rfl)) (pa_cons pe_int (pa_cons (pe_op op_sub (pv 0) pe_int) pa_nil)))))))))) (pss_one (ps_ret pe_bl)) pss_nil)
      (pss_one (ps_ret (pe_cl (c_is_number T) hr (by decide) rfl (pa_cons (pe_ix (k_ixT K rfl) (pv 1) pe_int (fun _ _ => rfl)) (pa_cons (pe_op op_add (pe_ix (k_ixT K rfl) (pv 1) pe_int (fun _ _ => rfl)) pe_int) (pa_cons (pe_op op_sub (pv 0) pe_int) pa_nil))))))), fun ds d h => ?_⟩)
  obtain ⟨n, ⟨a, b⟩, rfl, h1, h2, rfl⟩ := h
  simp only at h1 h2
  have e0 : atI [iN a, iN b] 0 = some (.int (a : Int)) := rfl
  have e1 : atI [iN a, iN b] 1 = some (.int (b : Int)) := rfl
  refine sd_seq (sd_if (b := false) (eb_is (eb_or (eb_not (eb_B (ef_isi (Ef.er (ef_var rfl)) (b := true) kt_tt))) fun _ => (eb_or (eb_test (ef_neI (ef_lenT (ef_var rfl)) ef_int)) fun _ => (eb_not (eb_B (ef_call (d := .bool true) (ea_cons (ef_ixT (ef_var rfl) ef_int e0) (ea_cons ef_int (ea_cons (ef_I0 (ef_var rfl) ef_int) ea_nil))) ⟨a, 0, _, rfl, ?_⟩))))) rfl) (fun h => by cases h) (fun h => sd_next ?_))
  · congr 1
    exact (decide_eq_true ⟨by omega, by omega⟩).symm
  · refine sd_ret (ef_call (d := .bool true) (ea_cons (ef_ixT (ef_var rfl) ef_int e1) (ea_cons (ef_I0 (ef_ixT (ef_var rfl) ef_int e0) ef_int) (ea_cons (ef_I0 (ef_var rfl) ef_int) ea_nil))) ⟨b, _, _, rfl, ?_⟩) rfl
    congr 1
    exact (decide_eq_true ⟨by omega, by omega⟩).symm
def preNeedWeb (ds : List PyData) (d : PyData) : Prop := ∃ g : Web, ds = [encW g] ∧ WOk g ∧ d = .none
theorem ltE_geP {e f : Nat × Nat} (h : ltE e f) : geP [(e.1 : Int), (e.2 : Int)] [(f.1 : Int), (f.2 : Int)] = false := by
  rw [geP_two]
  rcases h with h | ⟨h1, h2⟩
  · rw [if_neg (by omega)]
    exact decide_eq_false (by omega)
  · rw [if_pos (by omega), if_neg (by omega)]
    exact decide_eq_false (by omega)
theorem sc_need_web : FnScope ["value", "folk", "streets", "index"] ["value"] (defScope (top 10)) := ⟨rfl, rfl, rfl, by decide +kernel, rfl, by decide +kernel, by decide +kernel⟩
/-- need_web: 0 value, 1 folk, 2 streets, 3 index -/
theorem c_need_web (T : Txt K mg) : Cl P w K mg base 3 "need_web" (SpP K preNeedWeb) := by
  refine cl_pure T.f_need_web sc_need_web (fun _ _ _ _ _ _ us hl => match us, hl with | [_], _ => rfl) (by rintro _ _ ⟨_, rfl, _⟩; rfl) (fun f cdv A outer s H E hr => ⟨_, (pss_cons (ps_if (PW.pt (pw_or (pt_not (pt_val (pe_callB (k_isi K rfl) rfl T.n_isinstance bb_isinstance (pa_cons (pv 0) (pa_cons (pe_bltn rfl T.n_tuple bb_tuple (v := .ty "tuple") rfl) pa_nil))))) (pw_or (pt_cmpR op_ne (pe_callB (k_len K rfl) rfl T.n_len bb_len (pa_cons (pv 0) pa_nil)) pe_int (nomark _)) (pw_or1 (pt_not (pt_val (pe_cl (c_is_number T) hr (by decide) rfl (pa_cons (pe_ix (k_ixT K rfl) (pv 0) pe_int (fun _ _ => rfl)) (pa_cons pe_int (pa_cons (pe_k rfl T.k_MOST_FOLK) pa_nil)))))))))) (pss_one ps_never) pss_nil)
      (pss_cons (ps_if (pt_not (pt_val (pe_callB (k_isi K rfl) rfl T.n_isinstance bb_isinstance (pa_cons (pe_ix (k_ixT K rfl) (pv 0) pe_int (fun _ _ => rfl)) (pa_cons (pe_bltn rfl T.n_tuple bb_tuple (v := .ty "tuple") rfl) pa_nil))))) (pss_one ps_never) pss_nil)
      (pss_cons (ps_asg (pv 0) (kpg_tup K rfl rfl (pgs_cons (pg_name (i := 1) sc_need_web.nd rfl (Or.inl rfl)) (pgs_cons (pg_name (i := 2) sc_need_web.nd rfl (Or.inl rfl)) pgs_nil))))
      (pss_one (ps_for PassesOwn.never rfl (pi_range1 rfl T.n_range (pa_cons (pe_callB (k_len K rfl) rfl T.n_len bb_len (pa_cons (pv 2) pa_nil)) pa_nil)) (pg_name (i := 3) sc_need_web.nd rfl (Or.inl rfl)) (pss_one (ps_if (PW.pt (pw_or (pt_not (pt_val (pe_cl (c_is_street T) hr (by decide) rfl (pa_cons (pv 1) (pa_cons (pe_ix (k_ixT K rfl) (pv 2) (pv 3) (fun _ _ => rfl)) pa_nil))))) (pw_or1 (PW.pt (pw_and (pt_cmpR op_gt (pv 3) pe_int (nomark _)) (pw_and1 (pt_cmpR (k_geT K rfl hr.units0) (pe_ix (k_ixT K rfl) (pv 2) (pe_op op_sub (pv 3) pe_int) (fun _ _ => rfl)) (pe_ix (k_ixT K rfl) (pv 2) (pv 3) (fun _ _ => rfl)) (nomark _)))))))) (pss_one ps_never) pss_nil))))))), fun ds d h => ?_⟩)
  obtain ⟨g, rfl, ok, rfl⟩ := h
  have n1 := ok.n1
  have n6 := ok.n6
  have el := ok.el
  have e0 : atI [iN g.n, .tuple (g.es.map eI)] 0 = some (.int (g.n : Int)) := rfl
  have e1 : atI [iN g.n, .tuple (g.es.map eI)] 1 = some (.tuple (g.es.map eI)) := rfl
  refine sd_seq (sd_if (b := false) (eb_is (eb_or (eb_not (eb_B (ef_isi (Ef.er (ef_var rfl)) (b := true) kt_tt))) fun _ => (eb_or (eb_test (ef_neI (ef_lenT (ef_var rfl)) ef_int)) fun _ => (eb_not (eb_B (ef_call (d := .bool true) (ea_cons (ef_ixT (ef_var rfl) ef_int e0) (ea_cons ef_int (ea_cons ef_int ea_nil))) ⟨_, _, _, rfl, ?_⟩))))) rfl) (fun h => by cases h) (fun h => sd_next ?_))
  · congr 1
    exact (decide_eq_true ⟨by omega, by omega⟩).symm
  refine sd_seq (sd_if (b := false) (eb_is (eb_not (eb_B (ef_isi (Ef.er (ef_ixT (ef_var rfl) ef_int e1)) (b := true) kt_tt))) rfl) (fun h => by cases h) (fun h => sd_next ?_))
  refine sd_seq (sd_unp2 (ef_var rfl) ?_)
  refine sd_for1 (ea_cons (ef_lenT (ef_var rfl)) ea_nil) ?_ (fun m r => ∃ x, r = [.fz (encW g), .fz (iN g.n), .fz (.tuple (g.es.map eI)), x]) ⟨_, rfl⟩ (fun m r hm hI => ?_) (fun r hI => rfl)
  · rw [List.length_map]
    omega
  · obtain ⟨x, rfl⟩ := hI
    rw [List.length_map] at hm
    have hm' : m < g.es.length := by omega
    cases em : g.es[m]? with
    | none => exact absurd (List.getElem?_eq_none_iff.mp em) (by omega)
    | some f =>
    have at1 : atI (g.es.map eI) (m : Int) = some (eI f) := atN (by rw [List.getElem?_map, em]; rfl)
    have bf := ok.ed f (List.mem_of_getElem? em)
    refine sd_if (b := false) (eb_is (eb_or (b := false) (eb_not (eb_B (ef_call (d := .bool true) (ea_cons (ef_var rfl) (ea_cons (ef_ixT (ef_var rfl) (ef_var rfl) at1) ea_nil)) ⟨g.n, f, rfl, bf.1, bf.2, rfl⟩))) fun _ => (eb_is (eb_and (b := false) (eb_test (ef_B0 (ef_var rfl) ef_int)) fun hp => ?_) (Bool.and_false _))) rfl) (fun h => by cases h) (fun h => sd_next ⟨_, rfl⟩)
    have hp' : 0 < m := by have := of_decide_eq_true hp; omega
    obtain ⟨k, rfl⟩ : ∃ k, m = k + 1 := ⟨m - 1, by omega⟩
    cases ek : g.es[k]? with
    | none => exact absurd (List.getElem?_eq_none_iff.mp ek) (by omega)
    | some e =>
    have at0 : atI (g.es.map eI) (((k + 1 : Nat) : Int) - 1) = some (.tuple ([(e.1 : Int), (e.2 : Int)].map .int)) := by
      rw [show ((k + 1 : Nat) : Int) - 1 = (k : Int) by omega]
      exact atN (by rw [List.getElem?_map, ek]; rfl)
    have at2 : atI (g.es.map eI) ((k + 1 : Nat) : Int) = some (.tuple ([(f.1 : Int), (f.2 : Int)].map .int)) := at1
    exact eb_is (eb_test (ef_geT (ef_ixT (ef_var rfl) (ef_I0 (ef_var rfl) ef_int) at0) (ef_ixT (ef_var rfl) (ef_var rfl) at2))) (ltE_geP (ok.asc k e f ek em))
def preMoods (ds : List PyData) (d : PyData) : Prop := ∃ (st : List Int) (n : Nat), ds = [encS st, iN n] ∧ SOk n st ∧ n ≤ 6 ∧ d = .bool true
theorem sc_are_moods : FnScope ["value", "many", "mood"] ["value", "many"] (defScope (top 16)) := ⟨rfl, rfl, rfl, by decide +kernel, rfl, by decide +kernel, by decide +kernel⟩
/-- are_moods: 0 value, 1 many, 2 mood -/
theorem c_are_moods (T : Txt K mg) : Cl P w K mg base 2 "are_moods" (SpP K preMoods) := by
  refine cl_pure T.f_are_moods sc_are_moods (fun _ _ _ _ _ _ us hl => match us, hl with | [_, _], _ => rfl) (by rintro _ _ ⟨_, _, rfl, _⟩; rfl) (fun f cdv A outer s H E hr => ⟨_, (pss_one (ps_ret (pe_and (pe_callB (k_isi K rfl) rfl T.n_isinstance bb_isinstance (pa_cons (pv 0) (pa_cons (pe_bltn rfl T.n_tuple bb_tuple (v := .ty "tuple") rfl) pa_nil))) (pe_and (pe_cmpR op_eq (pe_callB (k_len K rfl) rfl T.n_len bb_len (pa_cons (pv 0) pa_nil)) (pv 1) (nomark _)) (pe_one (pe_callB (k_all K rfl rfl) rfl T.n_all bb_all (pa_cons (pe_lc (own := [("mood", 2)]) rfl sc_are_moods.nd (kpi_tup K rfl (pv 0)) (blkOk_by (by kernel_rfl)) (fun _ _ _ _ _ => (pg_name (i := 2) sc_are_moods.nd rfl (Or.inl rfl))) (fun _ _ _ _ _ => pts_nil) (fun _ _ _ _ _ => (pe_cl (c_is_number T) hr (by decide) rfl (pa_cons (pv 2) (pa_cons pe_int (pa_cons (pe_op op_sub (pe_k rfl T.k_MOODS) pe_int) pa_nil)))))) pa_nil))))))), fun ds d h => ?_⟩)
  obtain ⟨st, n, rfl, ok, hn, rfl⟩ := h
  refine sd_ret (ef_is (ef_andV (ef_isi (Ef.er (ef_var rfl)) (b := true) kt_tt) fun _ => (ef_andV (ef_eqI (ef_lenT (ef_var rfl)) (ef_var rfl)) fun _ => (ef_all (bs := st.map fun _ => true) (En.el (en_is (en_lcT st PyData.int (fun _ => true) (fun _ => .bool true) (ef_var rfl) ?_ (fun m hm => eb_yes) (fun x hx _ => (ef_call (ea_cons (ef_var rfl) (ea_cons ef_int (ea_cons (ef_I0 ef_int ef_int) ea_nil))) ⟨_, _, _, rfl, ?_⟩))) ?_))))) ?_) rfl
  · rw [ok.len]; omega
  · congr 1
    exact (decide_eq_true (ok.mood x hx)).symm
  · rw [List.filter_eq_self.mpr (fun _ _ => rfl), List.map_map]
    rfl
  · rw [List.length_map, ok.len, decide_eq_true rfl, Bool.true_and, Bool.true_and]
    congr 1
    rw [List.all_eq_true]
    intro x hx
    obtain ⟨_, _, rfl⟩ := List.mem_map.mp hx
    rfl
def preBoth (ds : List PyData) (d : PyData) : Prop := ∃ (g : Web) (st : List Int), ds = [encW g, encS st] ∧ WOk g ∧ SOk g.n st ∧ d = .none
theorem sc_need_both : FnScope ["web", "state"] ["web", "state"] (defScope (top 17)) := ⟨rfl, rfl, rfl, by decide +kernel, rfl, by decide +kernel, by decide +kernel⟩
/-- need_both: 0 web, 1 state -/
theorem c_need_both (T : Txt K mg) : Cl P w K mg base 4 "need_both" (SpP K preBoth) := by
  refine cl_pure T.f_need_both sc_need_both (fun _ _ _ _ _ _ us hl => match us, hl with | [_, _], _ => rfl) (by rintro _ _ ⟨_, _, rfl, _⟩; rfl) (fun f cdv A outer s H E hr => ⟨_, (pss_cons (ps_expr (pe_cl (c_need_web T) hr (by decide) rfl (pa_cons (pv 0) pa_nil)))
      (pss_one (ps_if (pt_not (pt_val (pe_cl (c_are_moods T) hr (by decide) rfl (pa_cons (pv 1) (pa_cons (pe_ix (k_ixT K rfl) (pv 0) pe_int (fun _ _ => rfl)) pa_nil))))) (pss_one ps_never) pss_nil))), fun ds d h => ?_⟩)
  obtain ⟨g, st, rfl, ok, so, rfl⟩ := h
  have e0 : atI [iN g.n, .tuple (g.es.map eI)] 0 = some (iN g.n) := rfl
  refine sd_seq (sd_drop (ef_call (ea_cons (ef_var rfl) ea_nil) ⟨g, rfl, ok, rfl⟩) ?_)
  exact sd_if (b := false) (eb_is (eb_not (eb_B (ef_call (d := .bool true) (ea_cons (ef_var rfl) (ea_cons (ef_ixT (ef_var rfl) ef_int e0) ea_nil)) ⟨st, g.n, rfl, so, ok.n6, rfl⟩))) rfl) (fun h => by cases h) (fun h => sd_next rfl)
def preStep (ds : List PyData) (d : PyData) : Prop := ∃ (st : List Int) (i j : Nat), ds = [encS st, iN i, iN j] ∧ i < st.length ∧ j < st.length ∧ d = .int (stp st i j)
theorem sc_step : FnScope ["state", "one", "other"] ["state", "one", "other"] (defScope (top 18)) := ⟨rfl, rfl, rfl, by decide +kernel, rfl, by decide +kernel, by decide +kernel⟩
/-- step: 0 state, 1 one, 2 other -/
theorem c_step (T : Txt K mg) : Cl P w K mg base 1 "step" (SpP K preStep) := by
  refine cl_pure T.f_step sc_step (fun _ _ _ _ _ _ us hl => match us, hl with | [_, _, _], _ => rfl) (by rintro _ _ ⟨_, _, _, rfl, _⟩; rfl) (fun f cdv A outer s H E hr => ⟨_, (pss_one (ps_ret (pe_op op_sub (pe_op op_mod (pe_op op_add (pe_op op_sub (pe_ix (k_ixT K rfl) (pv 0) (pv 2) (fun _ _ => rfl)) (pe_ix (k_ixT K rfl) (pv 0) (pv 1) (fun _ _ => rfl))) pe_int) (pe_k rfl T.k_MOODS)) pe_int))), fun ds d h => ?_⟩)
  obtain ⟨st, i, j, rfl, h1, h2, rfl⟩ := h
  exact sd_ret (ef_I0 (ef_mod (ef_I0 (ef_I0 (ef_ixT (ef_var rfl) (ef_var rfl) (encS_at h2)) (ef_ixT (ef_var rfl) (ef_var rfl) (encS_at h1))) ef_int) ef_int (by decide)) ef_int) rfl
def preStir (ds : List PyData) (d : PyData) : Prop := ∃ (g : Web) (st : List Int), ds = [encNear g, encS st] ∧ WOk g ∧ SOk g.n st ∧ d = encL (stirL g st)
theorem encNear_at {g : Web} {i : Nat} (h : i < g.n) : atI ((near g).map encL) (i : Int) = some (encL (nrow g i)) := atN (by rw [List.getElem?_map, near_get h]; rfl)
theorem sc_stirred_in : FnScope ["near", "state", "one", "other"] ["near", "state"] (defScope (top 19)) := ⟨rfl, rfl, rfl, by decide +kernel, rfl, by decide +kernel, by decide +kernel⟩
/-- stirred_in: 0 near, 1 state, 2 one, 3 other -/
theorem c_stirred_in (T : Txt K mg) : Cl P w K mg base 2 "stirred_in" (SpP K preStir) := by
  refine cl_pure T.f_stirred_in sc_stirred_in (fun _ _ _ _ _ _ us hl => match us, hl with | [_, _], _ => rfl) (by rintro _ _ ⟨_, _, rfl, _⟩; rfl) (fun f cdv A outer s H E hr => ⟨_, (pss_one (ps_ret (pe_lc (own := [("one", 2)]) rfl sc_stirred_in.nd (pi_range1 rfl T.n_range (pa_cons (pe_callB (k_len K rfl) rfl T.n_len bb_len (pa_cons (pv 0) pa_nil)) pa_nil)) (blkOk_by (by kernel_rfl)) (fun _ _ _ _ _ => (pg_name (i := 2) sc_stirred_in.nd rfl (Or.inr rfl))) (fun _ _ _ _ _ => pts_one (pt_val (pe_callB (k_any K rfl rfl) rfl T.n_any bb_any (pa_cons (by exact pe_lc (own := [("other", 3)]) rfl sc_stirred_in.nd (kpi_list K rfl (pe_ix (k_ixL K rfl) (pv 0) (pv 2) (fun _ _ => rfl))) (blkOk_by (by kernel_rfl)) (fun _ _ _ _ _ => (pg_name (i := 3) sc_stirred_in.nd rfl (Or.inl rfl))) (fun _ _ _ _ _ => pts_nil) (fun _ _ _ _ _ => (pe_cmpR op_eq (pe_cl (c_step T) hr (by decide) rfl (pa_cons (pv 1) (pa_cons (pv 2) (pa_cons (pv 3) pa_nil)))) pe_int (nomark _)))) pa_nil)))) (fun _ _ _ _ _ => (pv 2))))), fun ds d h => ?_⟩)
  obtain ⟨g, st, rfl, ok, so, rfl⟩ := h
  have n6 := ok.n6
  refine sd_ret (ef_is (En.ef (en_lcR (n := ((near g).map encL).length) (stirB g st) iN (ea_cons (ef_lenL (Ef.el (ef_var rfl))) ea_nil) ?_ (fun m hm => ?_) (fun m hm _ => (ef_var rfl)))) ?_) rfl
  · rw [List.length_map, near_len]; omega
  · rw [List.length_map, near_len] at hm
    have hm' : m < g.n := by omega
    refine eb_is (eb_B (ef_any (bs := (nrow g m).map fun j => decide (stp st m j = 1)) (En.el (en_is (en_lcL (nrow g m) iN (fun _ => true) (fun j => .bool (decide (stp st m j = 1))) (Ef.el (ef_ixL (Ef.el (ef_var rfl)) (ef_var rfl) (encNear_at hm'))) ?_ (fun m hm => eb_yes) (fun x hx _ => (ef_eqI (ef_call (ea_cons (ef_var rfl) (ea_cons (ef_var rfl) (ea_cons (ef_var rfl) ea_nil))) ⟨st, m, x, rfl, ?_, ?_, rfl⟩) ef_int))) ?_)))) ?_
    · exact Nat.le_trans (nrow_len g m) (by omega)
    · rw [so.len]; exact hm'
    · rw [so.len]; exact (nrow_mem.mp hx).1
    · rw [List.filter_eq_self.mpr (fun _ _ => rfl), List.map_map]
      rfl
    · unfold stirB
      rw [List.any_map]
      rfl
  · rw [List.length_map, near_len]
    show PyData.list (((List.range (Int.toNat (g.n : Int))).filter (stirB g st)).map iN) = _
    rw [Int.toNat_natCast]
    rfl
end
end Tm
set_option maxRecDepth 100000
set_option maxHeartbeats 4000000
/-! Rows of greatest sums. -/
namespace Tm
open PySem PyProof.Rows L2
section
variable {P : Program} {w : World} {K : PySem.W.Frag} {mg : Str → Option Value} {base : Heap}
theorem filt_yes {α : Type} (xs : List α) : xs.filter (fun _ => true) = xs := List.filter_eq_self.mpr fun _ _ => rfl
theorem toNat_cast (n : Nat) : Int.toNat (n : Int) = n := Int.toNat_natCast n
def preFirst (ds : List PyData) (d : PyData) : Prop := ∃ n i : Nat, ds = [iN n, iN i] ∧ n ≤ 6 ∧ d = encR (firstR n i)
theorem sc_first_row : FnScope ["many", "one", "other"] ["many", "one"] (defScope (top 36)) := ⟨rfl, rfl, rfl, by decide +kernel, rfl, by decide +kernel, by decide +kernel⟩
/-- first_row: 0 many, 1 one, 2 other -/
theorem c_first_row (T : Txt K mg) : Cl P w K mg base 1 "first_row" (SpP K preFirst) := by
  refine cl_pure T.f_first_row sc_first_row (fun _ _ _ _ _ _ us hl => match us, hl with | [_, _], _ => rfl) (by rintro _ _ ⟨_, _, rfl, _⟩; rfl) (fun f cdv A outer s H E hr => ⟨_, (pss_one (ps_ret (pe_lc (own := [("other", 2)]) rfl sc_first_row.nd (pi_range1 rfl T.n_range (pa_cons (pv 0) pa_nil)) (blkOk_by (by kernel_rfl)) (fun _ _ _ _ _ => (pg_name (i := 2) sc_first_row.nd rfl (Or.inl rfl))) (fun _ _ _ _ _ => pts_nil) (fun _ _ _ _ _ => (pe_ifExp (pt_cmpR op_eq (pv 2) (pv 1) (nomark _)) pe_int pe_non))))), fun ds d h => ?_⟩)
  obtain ⟨n, i, rfl, hn, rfl⟩ := h
  refine sd_ret (ef_is (En.ef (en_lcR (n := n) (fun _ => true) (fun j => oD (if j = i then some 0 else none)) (ea_cons (ef_var rfl) ea_nil) ?_ (fun m hm => eb_yes) (fun m hm _ => (ef_if (b := decide (m = i)) (eb_is (eb_test (ef_eqI (ef_var rfl) (ef_var rfl))) ?_) (fun h => ?_) (fun h => ?_))))) ?_) rfl
  · omega
  · exact decide_eq_decide.mpr ⟨fun h => by omega, fun h => by omega⟩
  · rw [if_pos (of_decide_eq_true h)]
    exact ef_int
  · rw [if_neg (of_decide_eq_false h)]
    exact ef_non
  · rw [filt_yes, toNat_cast]
    unfold encR firstR
    rw [List.map_map]
    rfl
def IsMost (row : List (Option Int)) (m : Int) : Prop := some m ∈ row ∧ ∀ k, some k ∈ row → k ≤ m
def preMost (ds : List PyData) (d : PyData) : Prop := ∃ row m, ds = [encR row] ∧ row.length ≤ 6 ∧ IsMost row m ∧ d = .int m
theorem somes_mem (row : List (Option Int)) (k : Int) : k ∈ row.filterMap id ↔ some k ∈ row := by
  rw [List.mem_filterMap]
  exact ⟨fun ⟨a, h1, h2⟩ => by rw [show a = some k from h2] at h1; exact h1, fun h => ⟨_, h, rfl⟩⟩
theorem somes_map : ∀ row : List (Option Int), (row.filter (fun o => !o.isNone)).map oD = (row.filterMap id).map .int
  | [] => rfl
  | none :: r => somes_map r
  | some k :: r => by
    have ih := somes_map r
    show oD (some k) :: (r.filter _).map oD = PyData.int k :: (r.filterMap id).map .int
    rw [ih]
    rfl
theorem sc_most_of : FnScope ["row", "number"] ["row"] (defScope (top 37)) := ⟨rfl, rfl, rfl, by decide +kernel, rfl, by decide +kernel, by decide +kernel⟩
/-- most_of: 0 row, 1 number -/
theorem c_most_of (T : Txt K mg) : Cl P w K mg base 1 "most_of" (SpP K preMost) := by
  refine cl_pure T.f_most_of sc_most_of (fun _ _ _ _ _ _ us hl => match us, hl with | [_], _ => rfl) (by rintro _ _ ⟨_, _, rfl, _⟩; rfl) (fun f cdv A outer s H E hr => ⟨_, (pss_one (ps_ret (pe_callB (k_max K rfl rfl) rfl T.n_max bb_max (pa_cons (pe_lc (own := [("number", 1)]) rfl sc_most_of.nd (kpi_list K rfl (pv 0)) (blkOk_by (by kernel_rfl)) (fun _ _ _ _ _ => (pg_name (i := 1) sc_most_of.nd rfl (Or.inl rfl))) (fun _ _ _ _ _ => pts_one (pt_cmpR op_notN (pv 1) pe_non (nomark _))) (fun _ _ _ _ _ => (pv 1))) pa_nil)))), fun ds d h => ?_⟩)
  obtain ⟨row, m, rfl, hl, ⟨hm, hmax⟩, rfl⟩ := h
  refine sd_ret (ef_max (ns := row.filterMap id) (m := m) (En.el (en_is (en_lcL row oD (fun o => !o.isNone) oD (Ef.el (ef_var rfl)) (by omega) (fun x hx => eb_is (eb_test (ef_notN (Ef.er (ef_var rfl)))) (by rw [isN_oD])) (fun x hx _ => (ef_var rfl))) (somes_map row))) ?_ ?_) rfl
  · exact List.length_pos_of_mem ((somes_mem row m).mpr hm)
  · intro k hk hk2
    have a := hk2 m ((somes_mem row m).mpr hm)
    have b := hmax k ((somes_mem row k).mp hk)
    omega
def preRow (ds : List PyData) (d : PyData) : Prop := ∃ (row : List (Option Int)) (T : List (List (Option Int))), ds = [encR row, encT T] ∧ row.length ≤ 6 ∧ T.length = row.length ∧ (∀ x, x ∈ T → x.length = row.length) ∧ d = encR (rowB row T)
theorem oadd_map {n : Nat} (f h : Nat → Option Int) : ((List.range n).filter fun k => !(f k).isNone && !(h k).isNone).map (fun k => PyData.int ((f k).getD 0 + (h k).getD 0)) = ((List.range n).filterMap fun k => oadd (f k) (h k)).map .int := by
  induction (List.range n) with
  | nil => rfl
  | cons k r ih =>
    rw [List.filter_cons, List.filterMap_cons]
    cases e1 : f k with
    | none => exact ih
    | some a =>
      cases e2 : h k with
      | none => exact ih
      | some b =>
        show PyData.int ((f k).getD 0 + (h k).getD 0) :: _ = PyData.int (a + b) :: _
        rw [ih, e1, e2]
        rfl
theorem sc_row_behind : FnScope ["row", "table", "found", "there", "some", "k"] ["row", "table"] (defScope (top 34)) := ⟨rfl, rfl, rfl, by decide +kernel, rfl, by decide +kernel, by decide +kernel⟩
/-- row_behind: 0 row, 1 table, 2 found, 3 there, 4 some, 5 k -/
theorem c_row_behind (T : Txt K mg) : Cl P w K mg base 1 "row_behind" (SpP K preRow) := by
  refine cl_pure T.f_row_behind sc_row_behind (fun _ _ _ _ _ _ us hl => match us, hl with | [_, _], _ => rfl) (by rintro _ _ ⟨_, _, rfl, _⟩; rfl) (fun f cdv A outer s H E hr => ⟨_, (pss_cons (ps_set (i := 2) sc_row_behind.nd rfl (Or.inl rfl) (pe_lst pa_nil))
      (pss_cons (ps_for PassesOwn.never rfl (pi_range1 rfl T.n_range (pa_cons (pe_callB (k_len K rfl) rfl T.n_len bb_len (pa_cons (pv 0) pa_nil)) pa_nil)) (pg_name (i := 3) sc_row_behind.nd rfl (Or.inr rfl)) (pss_cons (ps_setLc (i := 4) (own := [("k", 5)]) rfl sc_row_behind.nd rfl rfl (sw_true rfl rfl rfl (by decide +kernel)) (pi_range1 rfl T.n_range (pa_cons (pe_callB (k_len K rfl) rfl T.n_len bb_len (pa_cons (pv 0) pa_nil)) pa_nil)) (blkOk_by (by kernel_rfl)) (fun _ _ _ _ _ => (pg_name (i := 5) sc_row_behind.nd rfl (Or.inl rfl))) (fun _ _ _ _ _ => pts_one (PW.pt (pw_and (pt_cmpR op_notN (pe_ix (k_ixL K rfl) (pv 0) (pv 5) (fun _ _ => rfl)) pe_non (nomark _)) (pw_and1 (pt_cmpR op_notN (pe_ix (k_ixL K rfl) (pe_ix (k_ixL K rfl) (pv 1) (pv 5) (fun _ _ => rfl)) (pv 3) (fun _ _ => rfl)) pe_non (nomark _)))))) (fun _ _ _ _ _ => (pe_op op_add (pe_ix (k_ixL K rfl) (pv 0) (pv 5) (fun _ _ => rfl)) (pe_ix (k_ixL K rfl) (pe_ix (k_ixL K rfl) (pv 1) (pv 5) (fun _ _ => rfl)) (pv 3) (fun _ _ => rfl)))))
      (pss_one (ps_expr (pe_bm PySem.F.plainAttrs_list PySem.F.slot_list_append PySem.F.type_list_append mt_append (pv 2) (pa_cons (pe_ifExp (pt_cmpR (k_neD K rfl hr.units) (pv 4) (pe_lst pa_nil) (nomark _)) (pe_callB (k_max K rfl rfl) rfl T.n_max bb_max (pa_cons (pv 4) pa_nil)) pe_non) pa_nil))))))
      (pss_one (ps_ret (pv 2))))), fun ds d h => ?_⟩)
  obtain ⟨row, T, rfl, hl, hT, hrow, rfl⟩ := h
  have el : ((row.map oD).length : Int) = row.length := by rw [List.length_map]
  refine sd_seq (sd_setN (en_lst ea_nil (by simp)) ?_)
  refine sd_seq (sd_for1 (ea_cons (ef_is (ef_lenL (Ef.el (ef_var rfl))) (congrArg PyData.int el)) ea_nil) (by omega) (fun m r => ∃ x y, r = [.fz (encR row), .fz (encT T), .mu (((List.range row.length).take m).map fun t => oD (omax ((List.range row.length).filterMap fun k => oadd (row.getD k none) ((T.getD k []).getD t none)))), x, y, .no]) ⟨_, _, rfl⟩ (fun t r ht hI => ?_) (fun r hI => ?_))
  · obtain ⟨x, y, rfl⟩ := hI
    have ht' : t < row.length := by omega
    have at1 : ∀ k : Nat, (k : Int) < (row.length : Int) → atI (row.map oD) (k : Int) = some (oD (row.getD k none)) := fun k hk => oD_at (by omega)
    have at2 : ∀ k : Nat, (k : Int) < (row.length : Int) → atI (T.map encR) (k : Int) = some (encR (T.getD k [])) := fun k hk => encR_at (by omega)
    have at3 : ∀ k : Nat, (k : Int) < (row.length : Int) → atI ((T.getD k []).map oD) (t : Int) = some (oD ((T.getD k []).getD t none)) := fun k hk => oD_at (by rw [hrow _ (getD_mem (by omega))]; exact ht')
    refine sd_seq (sd_set (En.ef (en_is (es := ((List.range row.length).filterMap fun k => oadd (row.getD k none) ((T.getD k []).getD t none)).map .int) (en_lcR (n := row.length) (fun k => !(row.getD k none).isNone && !((T.getD k []).getD t none).isNone) (fun k => .int ((row.getD k none).getD 0 + ((T.getD k []).getD t none).getD 0)) (ea_cons (ef_is (ef_lenL (Ef.el (ef_var rfl))) (congrArg PyData.int el)) ea_nil) (by omega)
      (fun k hk => eb_is (eb_and (eb_test (ef_notN (Ef.er (ef_ixL (Ef.el (ef_var rfl)) (ef_var rfl) (at1 k hk))))) fun _ => (eb_test (ef_notN (Ef.er (ef_ixL (Ef.el (ef_ixL (Ef.el (ef_var rfl)) (ef_var rfl) (at2 k hk))) (ef_var rfl) (at3 k hk)))))) (by rw [isN_oD, isN_oD]))
      (fun k hk hp => ?_)) (by rw [toNat_cast]; exact oadd_map _ _))) ?_)
    · rw [Bool.and_eq_true, Bool.not_eq_true', Bool.not_eq_true', Option.isNone_eq_false_iff, Option.isNone_eq_false_iff] at hp
      obtain ⟨a, ha⟩ := Option.isSome_iff_exists.mp hp.1
      obtain ⟨b, hb⟩ := Option.isSome_iff_exists.mp hp.2
      have b1 := at1 k hk
      have b3 := at3 k hk
      rw [ha] at b1 ⊢
      rw [hb] at b3 ⊢
      exact ef_I0 (ef_ixL (Ef.el (ef_var rfl)) (ef_var rfl) b1) (ef_ixL (Ef.el (ef_ixL (Ef.el (ef_var rfl)) (ef_var rfl) (at2 k hk))) (ef_var rfl) b3)
    · show Sd K _ [.fz (encR row), .fz (encT T), .mu _, .fz (.int t), .fz (.list (((List.range row.length).filterMap fun k => oadd (row.getD k none) ((T.getD k []).getD t none)).map .int)), .no] _
      have z := omax_is ((List.range row.length).filterMap fun k => oadd (row.getD k none) ((T.getD k []).getD t none))
      generalize hL : ((List.range row.length).filterMap fun k => oadd (row.getD k none) ((T.getD k []).getD t none)) = L at *
      refine sd_app rfl (d := oD (omax L)) (ef_if (b := !L.isEmpty) (eb_is (eb_test (ef_neD (Ef.er (ef_var rfl)) (El.er (En.el (en_lst ea_nil (by simp)))) ((sh_ints (k := 1) L).ok (by omega)) ((sh_nil (k := 1)).ok (by omega)))) ?_) (fun h => ?_) (fun h => ?_)) ?_ ⟨.fz (.int t), .fz (.list (L.map .int)), ?_⟩
      · rw [eqv_nil, List.isEmpty_map]
      · cases eo : omax L with
        | none =>
          rw [eo] at z
          cases L with
          | nil => cases h
          | cons x L => exact absurd (List.mem_cons_self) (z x)
        | some m =>
          rw [eo] at z
          refine ef_max (ns := L) (Ef.el (ef_var rfl)) (List.length_pos_of_mem z.1) fun k hk hk2 => ?_
          have := hk2 m z.1
          have := z.2 k hk
          omega
      · have : L = [] := by cases L with
          | nil => rfl
          | cons x L => cases h
        subst this
        exact ef_non
      · rw [List.length_map, List.length_take, List.length_range]
        omega
      · rw [take_more (List.getElem?_range ht'), List.map_append]
        subst hL
        rfl
  · obtain ⟨x, y, rfl⟩ := hI
    refine sd_freeze (k := 2) rfl ?_
    refine sd_ret (ef_var rfl) ?_
    show PyData.list _ = _
    rw [toNat_cast, List.take_of_length_le (by simp)]
    unfold encR rowB
    rw [List.map_map]
    rfl
def preTwice (ds : List PyData) (d : PyData) : Prop := ∃ (T : List (List (Option Int))), ds = [encT T] ∧ T.length ≤ 6 ∧ (∀ x, x ∈ T → x.length = T.length) ∧ d = encT (T.map fun row => rowB row T)
theorem sc_twice : FnScope ["table", "row"] ["table"] (defScope (top 35)) := ⟨rfl, rfl, rfl, by decide +kernel, rfl, by decide +kernel, by decide +kernel⟩
/-- twice: 0 table, 1 row -/
theorem c_twice (T : Txt K mg) : Cl P w K mg base 2 "twice" (SpP K preTwice) := by
  refine cl_pure T.f_twice sc_twice (fun _ _ _ _ _ _ us hl => match us, hl with | [_], _ => rfl) (by rintro _ _ ⟨_, rfl, _⟩; rfl) (fun f cdv A outer s H E hr => ⟨_, (pss_one (ps_ret (pe_lc (own := [("row", 1)]) rfl sc_twice.nd (kpi_list K rfl (pv 0)) (blkOk_by (by kernel_rfl)) (fun _ _ _ _ _ => (pg_name (i := 1) sc_twice.nd rfl (Or.inl rfl))) (fun _ _ _ _ _ => pts_nil) (fun _ _ _ _ _ => (pe_cl (c_row_behind T) hr (by decide) rfl (pa_cons (pv 1) (pa_cons (pv 0) pa_nil))))))), fun ds d h => ?_⟩)
  obtain ⟨T, rfl, hl, hT, rfl⟩ := h
  refine sd_ret (ef_is (En.ef (en_lcL T encR (fun _ => true) (fun row => encR (rowB row T)) (Ef.el (ef_var rfl)) (by omega) (fun m hm => eb_yes) (fun x hx _ => (ef_call (ea_cons (ef_var rfl) (ea_cons (ef_var rfl) ea_nil)) ⟨x, T, rfl, by rw [hT x hx]; exact hl, (hT x hx).symm, fun y hy => by rw [hT x hx, hT y hy], rfl⟩)))) ?_) rfl
  rw [filt_yes]
  unfold encT
  rw [List.map_map]
  rfl
end
end Tm
set_option maxRecDepth 100000
set_option maxHeartbeats 4000000
/-! The neighbours' lists; the table of one step. -/
namespace Tm
open PySem PyProof.Rows L2
section
variable {K : PySem.W.Frag} {r : List Slo} {M : Addr → Prop} {F0 H0 F H : Hp} {s : L2.St} {i k : Nat} {dss : List (List PyData)} {D : Ends} {tl : TE} {t : TS} {g : TG}
theorem sd_run {ts : TS} {A : Af} (S : Sta K M F0 H0 r s F H) (W : Holds K M F0 H0 A D) (h : Sd K ts r A) : ts D s H := h _ _ _ _ _ _ _ S W
theorem Stn.rebase (S : Stn K M F0 H0 r s F H i dss) : Stn K M F H0 r s F H i dss := ⟨S.st.rebase, S.nm, S.at_⟩
theorem stn_forT {α : Type} (S : Stn K M F0 H0 r s F H i dss) (xs : List α) (f : α → PyData) (h : Ef K tl r (.tuple (xs.map f))) (J : Nat → List Slo → List (List PyData) → Prop) (h0 : J 0 r dss)
    (hs : ∀ (m : Nat) x r' ds', xs[m]? = some x → J m r' ds' → ∀ F0 s' F' H', Stn K M F0 H0 r' s' F' H' i ds' → ∀ v, Dp K F' v (f x) → ∀ N : L2.St → Hp → Prop, (∀ r2 d2 s2 F2 H2, J (m + 1) r2 d2 → Stn K M F0 H0 r2 s2 F2 H2 i d2 → N s2 H2) → g v s' H' fun s2 H2 => t { D with nx := N, ct := N, bk := D.nx } s2 H2)
    (hd : ∀ r' ds' s' F' H', J xs.length r' ds' → Stn K M F0 H0 r' s' F' H' i ds' → D.nx s' H') : tFor (iTup K tl) g t D s H := by
  refine h _ _ _ _ _ _ S.st _ fun v F1 H1 g1 a => ?_
  have S0 := S.grow g1
  cases a with
  | @tup p vs _ sq dv =>
  have hl : vs.length = xs.length := by rw [dv.len, List.length_map]
  refine ⟨p, rfl, ⟨vs, st_up g1.i sq⟩, for_tup (K := K) (a := p) (xs := vs) (fun m s' H' => ∃ r' ds' F', J m r' ds' ∧ Stn K M F1 H0 r' s' F' H' i ds') ⟨r, dss, F1, h0, S0.rebase⟩ (fun m s' H' _ => ?_) (fun m x s' H' hx => ?_) (fun s' H' => ?_)⟩
  · rintro ⟨r', ds', F', a, S'⟩
    exact st_up (S'.st.f0.trans S'.st.i) sq
  · rintro ⟨r', ds', F', a, S'⟩
    obtain ⟨d, e1, e2⟩ := dv.getV hx
    rw [List.getElem?_map] at e1
    cases ex : xs[m]? with
    | none => rw [ex] at e1; cases e1
    | some y =>
      rw [ex] at e1
      cases e1
      exact hs m y r' ds' ex a F1 s' F' H' S' x (Dp.up S'.st.f0 _ _ e2) _ fun r2 d2 s2 F2 H2 b T => ⟨r2, d2, F2, b, T⟩
  · rintro ⟨r', ds', F', a, S'⟩
    rw [hl] at a
    exact hd r' ds' s' F' H' a ⟨S0.st.unbase S'.st, S'.nm, S'.at_⟩
theorem stn_forL {α : Type} (S : Stn K M F0 H0 r s F H i dss) (xs : List α) (f : α → PyData) (h : Ef K tl r (.list (xs.map f))) (J : Nat → List Slo → List (List PyData) → Prop) (h0 : J 0 r dss)
    (hs : ∀ (m : Nat) x r' ds', xs[m]? = some x → J m r' ds' → ∀ F0 s' F' H', Stn K M F0 H0 r' s' F' H' i ds' → ∀ v, Dp K F' v (f x) → ∀ N : L2.St → Hp → Prop, (∀ r2 d2 s2 F2 H2, J (m + 1) r2 d2 → Stn K M F0 H0 r2 s2 F2 H2 i d2 → N s2 H2) → g v s' H' fun s2 H2 => t { D with nx := N, ct := N, bk := D.nx } s2 H2)
    (hd : ∀ r' ds' s' F' H', J xs.length r' ds' → Stn K M F0 H0 r' s' F' H' i ds' → D.nx s' H') : tFor (iList K tl) g t D s H := by
  refine h _ _ _ _ _ _ S.st _ fun v F1 H1 g1 a => ?_
  have S0 := S.grow g1
  cases a with
  | @lst p vs _ sq dv =>
  have hl : vs.length = xs.length := by rw [dv.len, List.length_map]
  refine ⟨p, rfl, ⟨vs, sl_up g1.i sq⟩, for_list (K := K) (a := p) (xs := vs) (fun m s' H' => ∃ r' ds' F', J m r' ds' ∧ Stn K M F1 H0 r' s' F' H' i ds') ⟨r, dss, F1, h0, S0.rebase⟩ (fun m s' H' _ => ?_) (fun m x s' H' hx => ?_) (fun s' H' => ?_)⟩
  · rintro ⟨r', ds', F', a, S'⟩
    exact sl_up (S'.st.f0.trans S'.st.i) sq
  · rintro ⟨r', ds', F', a, S'⟩
    obtain ⟨d, e1, e2⟩ := dv.getV hx
    rw [List.getElem?_map] at e1
    cases ex : xs[m]? with
    | none => rw [ex] at e1; cases e1
    | some y =>
      rw [ex] at e1
      cases e1
      exact hs m y r' ds' ex a F1 s' F' H' S' x (Dp.up S'.st.f0 _ _ e2) _ fun r2 d2 s2 F2 H2 b T => ⟨r2, d2, F2, b, T⟩
  · rintro ⟨r', ds', F', a, S'⟩
    rw [hl] at a
    exact hd r' ds' s' F' H' a ⟨S0.st.unbase S'.st, S'.nm, S'.at_⟩
theorem stn_forR {t1 : TA} {n : Int} (S : Stn K M F0 H0 r s F H i dss) (hki : k ≠ i) (h : Ea K t1 r [.int n]) (hn : 0 ≤ n ∧ n ≤ 1000) (J : Nat → List Slo → List (List PyData) → Prop) (h0 : J 0 r dss)
    (hs : ∀ (m : Nat) r' ds', (m : Int) < n → J m r' ds' → ∀ s' F' H', Stn K M F0 H0 (r'.set k (.fz (.int m))) s' F' H' i ds' → ∀ N : L2.St → Hp → Prop, (∀ r2 d2 s2 F2 H2, J (m + 1) r2 d2 → Stn K M F0 H0 r2 s2 F2 H2 i d2 → N s2 H2) → t { D with nx := N, ct := N, bk := D.nx } s' H')
    (hd : ∀ r' ds' s' F' H', J n.toNat r' ds' → Stn K M F0 H0 r' s' F' H' i ds' → D.nx s' H') : tFor (iRng1 t1) (gName k) t D s H := by
  refine h _ _ _ _ _ _ S.st _ fun vs F1 H1 g1 a => ?_
  obtain rfl := DpAll.of_ints (ns := [n]) a
  refine ⟨n, rfl, by omega, by omega, for_range (lo := 0) (n := n.toNat) (fun m s' H' => ∃ r' ds' F', J m r' ds' ∧ Stn K M F0 H0 r' s' F' H' i ds') ⟨r, dss, F1, h0, S.grow g1⟩ (fun m s' H' hm => ?_) (fun s' H' => ?_)⟩
  · rintro ⟨r', ds', F', a, S'⟩
    have e : (0 : Int) + (m : Int) = m := by omega
    rw [e]
    exact hs m r' ds' (by omega) a _ F' H' (S'.setF hki (.int _)) _ fun r2 d2 s2 F2 H2 b T => ⟨r2, d2, F2, b, T⟩
  · rintro ⟨r', ds', F', a, S'⟩
    exact hd r' ds' s' F' H' a S'
end
section
variable {P : Program} {w : World} {K : PySem.W.Frag} {mg : Str → Option Value} {base : Heap}
/-- those that stand beside i in some streets, in their sequence -/
def adjOf (es : List (Nat × Nat)) (i : Nat) : List Nat := es.flatMap fun e => if e.1 = i then [e.2] else if e.2 = i then [e.1] else []
theorem adj_mem {g : Web} (ok : WOk g) {i j : Nat} : j ∈ adjOf g.es i ↔ j ∈ nrow g i := by
  rw [nrow_mem]
  unfold adjOf nbr
  rw [List.mem_flatMap, decide_eq_true_iff]
  constructor
  · rintro ⟨⟨a, b⟩, he, hj⟩
    have := ok.ed _ he
    simp only at this hj
    split at hj
    · rename_i q
      simp at hj
      subst hj q
      exact ⟨this.2, by rw [Nat.min_eq_left (by omega), Nat.max_eq_right (by omega)]; exact he⟩
    · split at hj
      · rename_i q
        simp at hj
        subst hj q
        exact ⟨by omega, by rw [Nat.min_eq_right (by omega), Nat.max_eq_left (by omega)]; exact he⟩
      · cases hj
  · rintro ⟨hj, he⟩
    have := ok.ed _ he
    simp only at this
    refine ⟨_, he, ?_⟩
    simp only
    rcases Nat.le_total i j with l | l
    · rw [Nat.min_eq_left l, Nat.max_eq_right l, if_pos rfl]
      simp
    · rw [Nat.min_eq_right l, Nat.max_eq_left l]
      by_cases q : j = i
      · rw [if_pos q, q]; simp
      · rw [if_neg q, if_pos rfl]; simp
theorem adj_nodup {n : Nat} : ∀ {es : List (Nat × Nat)} (i : Nat), (∀ e, e ∈ es → e.1 < e.2 ∧ e.2 < n) → es.Nodup → (adjOf es i).Nodup
  | [], _, _, _ => List.nodup_nil
  | e :: es, i, he, nd => by
    have ih := adj_nodup (es := es) i (fun x hx => he x (List.mem_cons_of_mem _ hx)) (List.nodup_cons.mp nd).2
    have h0 := he e (by simp)
    have ne := (List.nodup_cons.mp nd).1
    have out : ∀ j, j ∈ (if e.1 = i then [e.2] else if e.2 = i then [e.1] else []) → j ∉ adjOf es i := fun j hj hj2 => by
      obtain ⟨f, hf, hj3⟩ := List.mem_flatMap.mp hj2
      have hf0 := he f (List.mem_cons_of_mem _ hf)
      have : f = e := by
        obtain ⟨a, b⟩ := e
        obtain ⟨c, d⟩ := f
        simp only at hj hj3 h0 hf0
        split at hj <;> split at hj3 <;> (try split at hj) <;> (try split at hj3) <;> simp at hj hj3 <;> (first | (congr 1 <;> omega) | omega)
      exact ne (this ▸ hf)
    show ((if e.1 = i then [e.2] else if e.2 = i then [e.1] else []) ++ adjOf es i).Nodup
    rw [List.nodup_append]
    refine ⟨?_, ih, fun a ha b hb w => out a ha (w ▸ hb)⟩
    split
    · simp
    · split <;> simp
theorem adj_snoc (es : List (Nat × Nat)) (e : Nat × Nat) (i : Nat) : adjOf (es ++ [e]) i = adjOf es i ++ (if e.1 = i then [e.2] else if e.2 = i then [e.1] else []) := by
  unfold adjOf
  rw [List.flatMap_append]
  simp
theorem adj_len (es : List (Nat × Nat)) (i : Nat) : (adjOf es i).length ≤ es.length := by
  induction es with
  | nil => exact Nat.le_refl _
  | cons e es ih =>
    show ((if e.1 = i then [e.2] else if e.2 = i then [e.1] else []) ++ adjOf es i).length ≤ es.length + 1
    rw [List.length_append]
    have : (if e.1 = i then [e.2] else if e.2 = i then [e.1] else []).length ≤ 1 := by
      split
      · simp
      · split <;> simp
    omega
theorem nrow_sorted (g : Web) (i : Nat) : (nrow g i).Pairwise (· < ·) := List.pairwise_lt_range.filter _
theorem nrow_nodup (g : Web) (i : Nat) : (nrow g i).Nodup := (nrow_sorted g i).imp fun h => Nat.ne_of_lt h
theorem adj_perm {g : Web} (ok : WOk g) (i : Nat) : (adjOf g.es i).Perm (nrow g i) := (List.perm_ext_iff_of_nodup (adj_nodup i ok.ed ok.nd) (nrow_nodup g i)).mpr fun _ => adj_mem ok
def preNear (ds : List PyData) (d : PyData) : Prop := ∃ g : Web, ds = [encW g] ∧ WOk g ∧ d = encNear g
theorem set_map_range {α : Type} {n m : Nat} {f : Nat → α} {x : α} (h : m < n) : ((List.range n).map f).set m x = (List.range n).map fun k => if k = m then x else f k := by
  refine List.ext_getElem? fun k => ?_
  rw [List.getElem?_map]
  by_cases q : m = k
  · subst q
    rw [List.getElem?_set_self (by simpa using h), List.getElem?_range h]
    simp
  · rw [List.getElem?_set_ne q, List.getElem?_map]
    by_cases hk : k < n
    · rw [List.getElem?_range hk]
      show some (f k) = some (if k = m then x else f k)
      rw [if_neg (Ne.symm q)]
    · rw [List.getElem?_eq_none (by simpa using Nat.le_of_not_lt hk)]
      rfl
theorem sc_near_lists : FnScope ["web", "found", "one", "other", "some"] ["web"] (defScope (top 11)) := ⟨rfl, rfl, rfl, by decide +kernel, rfl, by decide +kernel, by decide +kernel⟩
/-- near_lists: 0 web, 1 found, 2 one, 3 other, 4 some -/
theorem c_near_lists (T : Txt K mg) : Cl P w K mg base 1 "near_lists" (SpP K preNear) := by
  refine cl_pure T.f_near_lists sc_near_lists (fun _ _ _ _ _ _ us hl => match us, hl with | [_], _ => rfl) (by rintro _ _ ⟨_, rfl, _⟩; rfl) (fun f cdv A outer s H E hr => ⟨_, (pss_cons (ps_setLc (i := 1) (own := [("one", 2)]) rfl sc_near_lists.nd rfl rfl (sw_true rfl rfl rfl (by decide +kernel)) (pi_range1 rfl T.n_range (pa_cons (pe_ix (k_ixT K rfl) (pv 0) pe_int (fun _ _ => rfl)) pa_nil)) (blkOk_by (by kernel_rfl)) (fun _ _ _ _ _ => (pg_name (i := 2) sc_near_lists.nd rfl (Or.inl rfl))) (fun _ _ _ _ _ => pts_nil) (fun _ _ _ _ _ => (pe_lst pa_nil)))
      (pss_cons (ps_for PassesOwn.never rfl (kpi_tup K rfl (pe_ix (k_ixT K rfl) (pv 0) pe_int (fun _ _ => rfl))) (kpg_tup K rfl rfl (pgs_cons (pg_name (i := 2) sc_near_lists.nd rfl (Or.inl rfl)) (pgs_cons (pg_name (i := 3) sc_near_lists.nd rfl (Or.inl rfl)) pgs_nil))) (pss_cons (ps_expr (pe_bm PySem.F.plainAttrs_list PySem.F.slot_list_append PySem.F.type_list_append mt_append (pe_ix (k_ixL K rfl) (pv 1) (pv 2) (fun _ _ => rfl)) (pa_cons (pv 3) pa_nil)))
      (pss_one (ps_expr (pe_bm PySem.F.plainAttrs_list PySem.F.slot_list_append PySem.F.type_list_append mt_append (pe_ix (k_ixL K rfl) (pv 1) (pv 3) (fun _ _ => rfl)) (pa_cons (pv 2) pa_nil))))))
      (pss_one (ps_ret (pe_lc (own := [("some", 4)]) rfl sc_near_lists.nd (kpi_list K rfl (pv 1)) (blkOk_by (by kernel_rfl)) (fun _ _ _ _ _ => (pg_name (i := 4) sc_near_lists.nd rfl (Or.inl rfl))) (fun _ _ _ _ _ => pts_nil) (fun _ _ _ _ _ => (pe_callB (k_sorted K rfl) rfl T.n_sorted bb_sorted (pa_cons (pv 4) pa_nil)))))))), fun ds d h => ?_⟩)
  obtain ⟨g, rfl, ok, rfl⟩ := h
  have n1 := ok.n1
  have n6 := ok.n6
  have el := ok.el
  have e0 : atI [iN g.n, .tuple (g.es.map eI)] 0 = some (.int (g.n : Int)) := rfl
  have e1 : atI [iN g.n, .tuple (g.es.map eI)] 1 = some (.tuple (g.es.map eI)) := rfl
  intro M F0 H0 s F H D S W
  refine nest_lc (ds := []) S (fun u hu => by simp [rho] at hu; rcases hu with rfl | rfl <;> rfl) (ea_cons (ef_ixT (ef_var rfl) ef_int e0) ea_nil) (by omega) (fun m hm => en_lst ea_nil (by simp)) (by simp [rho]) fun s2 F2 H2 S2 _ => ?_
  refine stn_forT S2 g.es eI (ef_ixT (ef_var rfl) ef_int e1) (fun m r ds => (∃ x y, r = [.fz (encW g), .no, x, y, .no]) ∧ ds = (List.range g.n).map fun i => (adjOf (g.es.take m) i).map iN) ⟨⟨_, _, rfl⟩, ?_⟩ (fun m e r' ds' hm hJ F0 s' F' H' S' v dv N hN => ?_) (fun r' ds' s' F' H' hJ S' => ?_)
  · rw [toNat_cast]
    refine List.ext_getElem? fun k => ?_
    rw [List.getElem?_replicate, List.getElem?_map]
    by_cases hk : k < g.n
    · rw [if_pos hk, List.getElem?_range hk]; rfl
    · rw [if_neg hk, List.getElem?_eq_none (by simpa using Nat.le_of_not_lt hk)]; rfl
  · obtain ⟨⟨x, y, rfl⟩, rfl⟩ := hJ
    obtain ⟨a, b⟩ := e
    have he := ok.ed _ (List.mem_of_getElem? hm)
    simp only at he
    have hmlt : m < g.es.length := (List.getElem?_eq_some_iff.mp hm).1
    have small : ∀ i, ((adjOf (g.es.take m) i).map iN).length < 1000 := fun i => by
      rw [List.length_map]
      have := adj_len (g.es.take m) i
      rw [List.length_take] at this
      omega
    cases dv with
    | tup sq da =>
    obtain ⟨v1, vs1, rfl, d1, da⟩ := dp_cons da
    obtain ⟨v2, vs2, rfl, d2, da⟩ := dp_cons da
    cases da
    refine ⟨_, _, rfl, st_up S'.st.i sq, rfl, v1, [v2], rfl, v2, [], rfl, rfl, ?_⟩
    have S3 := (S'.setF (k := 2) (by decide) d1).setF (k := 3) (by decide) d2
    refine nest_app S3 (a := a) (d := iN b) (ef_var rfl) (ef_var rfl) (ds := (adjOf (g.es.take m) a).map iN) ?_ (Nat.lt_of_lt_of_le (small a) (by decide)) fun F4 H4 S4 => ?_
    · rw [List.getElem?_map, List.getElem?_range (by omega)]; rfl
    refine nest_app S4 (a := b) (d := iN a) (ef_var rfl) (ef_var rfl) (ds := (adjOf (g.es.take m) b).map iN) ?_ (Nat.lt_of_lt_of_le (small b) (by decide)) fun F5 H5 S5 => hN _ _ _ F5 H5 ⟨⟨.fz (iN a), .fz (iN b), rfl⟩, ?_⟩ S5
    · rw [List.getElem?_set_ne (by omega), List.getElem?_map, List.getElem?_range (by omega)]; rfl
    · rw [set_map_range (by omega), set_map_range (by omega)]
      refine List.map_congr_left fun k _ => ?_
      rw [take_more hm, adj_snoc, List.map_append]
      by_cases q1 : k = b
      · subst q1
        rw [if_pos rfl, if_neg (show ¬ a = k by omega), if_pos rfl]
        rfl
      · rw [if_neg q1]
        by_cases q2 : k = a
        · subst q2
          rw [if_pos rfl, if_pos rfl]
          rfl
        · rw [if_neg q2, if_neg (show ¬ a = k from fun z => q2 z.symm), if_neg (show ¬ b = k from fun z => q1 z.symm)]
          simp
  · obtain ⟨⟨x, y, rfl⟩, rfl⟩ := hJ
    rw [List.take_length] at S'
    obtain ⟨F5, S5⟩ := S'.freeze
    dsimp only
    refine sd_run (ts := tRet _) S5 W ?_
    · refine sd_ret (ef_is (En.ef (en_lcL (List.range g.n) (fun i => encL (adjOf g.es i)) (fun _ => true) (fun i => encL (nrow g i)) (Ef.el (ef_is (ef_var rfl) ?_)) (by rw [List.length_range]; omega) (fun m hm => eb_yes) (fun i hi _ => En.ef (en_is (en_sorted (ns := (adjOf g.es i).map fun j : Nat => (j : Int)) (ms := (nrow g i).map fun j : Nat => (j : Int)) (Ef.el (ef_is (ef_var rfl) ?_)) ?_ ?_ ?_) ?_)))) ?_) rfl
      · rw [List.map_map]; rfl
      · show encL _ = _
        unfold encL
        rw [List.map_map]
        rfl
      · rw [List.length_map, (adj_perm ok i).length_eq]
        have := nrow_len g i
        omega
      · exact ((adj_perm ok i).map _).symm
      · rw [List.pairwise_map]
        exact (nrow_sorted g i).imp fun h => by omega
      · rw [List.map_map]; rfl
      · rw [filt_yes]
        unfold encNear near
        rw [List.map_map]
        rfl
end
end Tm
set_option maxRecDepth 100000
set_option maxHeartbeats 4000000
/-! The table of one step; changes; the state later. -/
namespace Tm
open PySem PyProof.Rows L2
section
variable {P : Program} {w : World} {K : PySem.W.Frag} {mg : Str → Option Value} {base : Heap}
theorem encW0 (g : Web) : atI [iN g.n, .tuple (g.es.map eI)] 0 = some (iN g.n) := rfl
theorem encW1 (g : Web) : atI [iN g.n, .tuple (g.es.map eI)] 1 = some (.tuple (g.es.map eI)) := rfl
theorem flat_one {α : Type} (n : Nat) (x : α) : (List.replicate n [x]).flatten = List.replicate n x := by
  induction n with
  | zero => rfl
  | succ n ih => rw [List.replicate_succ, List.flatten_cons, ih]; rfl
theorem ixN_nat {n k : Nat} (h : k < n) : ixN n (k : Int) = some k := by
  unfold ixN
  simp
  omega
def preTable (ds : List PyData) (d : PyData) : Prop := ∃ (g : Web) (st : List Int), ds = [encW g, encS st] ∧ WOk g ∧ SOk g.n st ∧ d = encT (tab g st)
/-- a row half filled -/
def halfR (g : Web) (st : List Int) (i m : Nat) : List PyData := (List.range g.n).map fun j => oD (if i = j then some 0 else if j ∈ (nrow g i).take m then some (stp st i j) else none)
theorem rep_range {α : Type} (n : Nat) (x : α) : List.replicate n x = (List.range n).map fun _ => x := by
  refine List.ext_getElem? fun k => ?_
  rw [List.getElem?_replicate, List.getElem?_map]
  by_cases hk : k < n
  · rw [if_pos hk, List.getElem?_range hk]; rfl
  · rw [if_neg hk, List.getElem?_eq_none (by simpa using Nat.le_of_not_lt hk)]; rfl
theorem halfR_full (g : Web) (ok : WOk g) (st : List Int) (i : Nat) : halfR g st i (nrow g i).length = (tabR g st i).map oD := by
  unfold halfR tabR
  rw [List.take_length, List.map_map]
  refine List.map_congr_left fun j hj => ?_
  have hj := List.mem_range.mp hj
  show oD _ = oD (if i = j then some 0 else if nbr g i j = true then some (stp st i j) else none)
  by_cases q : i = j
  · rw [if_pos q, if_pos q]
  · rw [if_neg q, if_neg q]
    cases nb : nbr g i j with
    | true => rw [if_pos (nrow_mem.mpr ⟨hj, nb⟩)]; rfl
    | false =>
      rw [if_neg (fun z => by have := (nrow_mem.mp z).2; rw [nb] at this; cases this)]
      rfl
theorem halfR_step {g : Web} (ok : WOk g) (st : List Int) {i m x : Nat} (h : (nrow g i)[m]? = some x) : (halfR g st i m).set x (.int (stp st i x)) = halfR g st i (m + 1) := by
  have hx := nrow_mem.mp (List.mem_of_getElem? h)
  unfold halfR
  rw [set_map_range hx.1]
  refine List.map_congr_left fun j hj => ?_
  rw [take_more h]
  by_cases q : j = x
  · subst q
    rw [if_pos rfl, if_neg (nbr_lt ok hx.2).2.2, if_pos (by simp)]
    rfl
  · rw [if_neg q]
    by_cases q2 : i = j
    · rw [if_pos q2, if_pos q2]
    · rw [if_neg q2, if_neg q2]
      by_cases q3 : j ∈ (nrow g i).take m
      · rw [if_pos q3, if_pos (List.mem_append_left _ q3)]
      · rw [if_neg q3, if_neg (fun z => (List.mem_append.mp z).elim q3 (fun z => q (by simpa using z)))]
theorem sc_table_of : FnScope ["web", "state", "near", "found", "one", "other"] ["web", "state"] (defScope (top 33)) := ⟨rfl, rfl, rfl, by decide +kernel, rfl, by decide +kernel, by decide +kernel⟩
/-- table_of: 0 web, 1 state, 2 near, 3 found, 4 one, 5 other -/
theorem c_table_of (T : Txt K mg) : Cl P w K mg base 2 "table_of" (SpP K preTable) := by
  refine cl_pure T.f_table_of sc_table_of (fun _ _ _ _ _ _ us hl => match us, hl with | [_, _], _ => rfl) (by rintro _ _ ⟨_, _, rfl, _⟩; rfl) (fun f cdv A outer s H E hr => ⟨_, (pss_cons (ps_set (i := 2) sc_table_of.nd rfl (Or.inl rfl) (pe_cl (c_near_lists T) hr (by decide) rfl (pa_cons (pv 0) pa_nil)))
      (pss_cons (ps_setLc (i := 3) (own := [("one", 4)]) rfl sc_table_of.nd rfl rfl (sw_true rfl rfl rfl (by decide +kernel)) (pi_range1 rfl T.n_range (pa_cons (pe_ix (k_ixT K rfl) (pv 0) pe_int (fun _ _ => rfl)) pa_nil)) (blkOk_by (by kernel_rfl)) (fun _ _ _ _ _ => (pg_name (i := 4) sc_table_of.nd rfl (Or.inl rfl))) (fun _ _ _ _ _ => pts_nil) (fun _ _ _ _ _ => (pe_op op_rep (pe_lst (pa_cons pe_non pa_nil)) (pe_ix (k_ixT K rfl) (pv 0) pe_int (fun _ _ => rfl)))))
      (pss_cons (ps_for PassesOwn.never rfl (pi_range1 rfl T.n_range (pa_cons (pe_ix (k_ixT K rfl) (pv 0) pe_int (fun _ _ => rfl)) pa_nil)) (pg_name (i := 4) sc_table_of.nd rfl (Or.inl rfl)) (pss_cons (ps_asg pe_int (pg_sub (pe_ix (k_ixL K rfl) (pv 3) (pv 4) (fun _ _ => rfl)) (pv 4) set_list))
      (pss_one (ps_for PassesOwn.never rfl (kpi_list K rfl (pe_ix (k_ixL K rfl) (pv 2) (pv 4) (fun _ _ => rfl))) (pg_name (i := 5) sc_table_of.nd rfl (Or.inl rfl)) (pss_one (ps_asg (pe_cl (c_step T) hr (by decide) rfl (pa_cons (pv 1) (pa_cons (pv 4) (pa_cons (pv 5) pa_nil)))) (pg_sub (pe_ix (k_ixL K rfl) (pv 3) (pv 4) (fun _ _ => rfl)) (pv 5) set_list)))))))
      (pss_one (ps_ret (pv 3)))))), fun ds d h => ?_⟩)
  obtain ⟨g, st, rfl, ok, so, rfl⟩ := h
  have n1 := ok.n1
  have n6 := ok.n6
  refine sd_seq (sd_set (ef_call (d := encNear g) (ea_cons (ef_var rfl) ea_nil) ⟨g, rfl, ok, rfl⟩) ?_)
  intro M F0 H0 s F H D S W
  refine nest_lc (ds := List.replicate g.n .none) S (fun u hu => by simp [rho] at hu; rcases hu with rfl | rfl | rfl | rfl <;> rfl) (ea_cons (ef_ixT (ef_var rfl) ef_int (encW0 g)) ea_nil) (by omega) (fun m hm => en_is (en_rep (ea_cons ef_non ea_nil) (ef_ixT (ef_var rfl) ef_int (encW0 g)) (by simp) (by omega)) (by rw [toNat_cast, flat_one])) (by simp [rho]) fun s2 F2 H2 S2 _ => ?_
  refine stn_forR S2 (by decide) (ea_cons (ef_ixT (ef_var rfl) ef_int (encW0 g)) ea_nil) (by omega) (fun m r dss => (∃ x y, r = [.fz (encW g), .fz (encS st), .fz (encNear g), .no, x, y]) ∧ dss = (List.range g.n).map fun i => if i < m then (tabR g st i).map oD else List.replicate g.n .none) ⟨⟨_, _, rfl⟩, ?_⟩ (fun m r' ds' hm hJ s' F' H' S' N hN => ?_) (fun r' ds' s' F' H' hJ S' => ?_)
  · rw [toNat_cast, rep_range]
    exact List.map_congr_left fun k _ => (if_neg (Nat.not_lt_zero k)).symm
  · obtain ⟨⟨x, y, rfl⟩, rfl⟩ := hJ
    have hm' : m < g.n := by omega
    refine nest_item S' (a := m) (b := (m : Int)) (m := m) (d := .int 0) (ds := List.replicate g.n .none) ef_int (ef_var rfl) (ef_var rfl) ?_ (by rw [List.length_replicate]; exact ixN_nat hm') fun F4 H4 S4 => ?_
    · rw [List.getElem?_map, List.getElem?_range hm']
      show some (if m < m then _ else _) = _
      rw [if_neg (Nat.lt_irrefl m)]
    refine stn_forL S4 (nrow g m) iN (ef_ixL (Ef.el (ef_var rfl)) (ef_var rfl) (encNear_at hm')) (fun q r dss => (∃ y, r = [.fz (encW g), .fz (encS st), .fz (encNear g), .no, .fz (iN m), y]) ∧ dss = (List.range g.n).map fun i => if i < m then (tabR g st i).map oD else if i = m then halfR g st m q else List.replicate g.n .none) ⟨⟨_, rfl⟩, ?_⟩ (fun q x r' ds' hx hJ F0 s' F' H' S' v dv N hN => ?_) (fun r' ds' s' F' H' hJ S' => ?_)
    · rw [set_map_range hm']
      refine List.map_congr_left fun k hk => ?_
      by_cases q : k = m
      · subst q
        rw [if_pos rfl, if_neg (Nat.lt_irrefl k), if_pos rfl, rep_range, set_map_range hm']
        unfold halfR
        refine List.map_congr_left fun j hj => ?_
        by_cases q2 : j = k
        · rw [if_pos q2, if_pos q2.symm]; rfl
        · rw [if_neg q2, if_neg (Ne.symm q2), List.take_zero, if_neg (by simp)]; rfl
      · rw [if_neg q]
        by_cases q2 : k < m
        · rw [if_pos q2, if_pos q2]
        · rw [if_neg q2, if_neg q2, if_neg q]
    · obtain ⟨⟨y, rfl⟩, rfl⟩ := hJ
      have hx2 := nrow_mem.mp (List.mem_of_getElem? hx)
      have S5 := S'.setF (k := 5) (by decide) dv
      refine nest_item S5 (a := m) (b := (x : Int)) (m := x) (d := .int (stp st m x)) (ds := halfR g st m q) (ef_call (ea_cons (ef_var rfl) (ea_cons (ef_var rfl) (ea_cons (ef_var rfl) ea_nil))) ⟨st, m, x, rfl, by rw [so.len]; exact hm', by rw [so.len]; exact hx2.1, rfl⟩) (ef_var rfl) (ef_var rfl) ?_ ?_ fun F6 H6 S6 => hN _ _ _ F6 H6 ⟨⟨_, rfl⟩, ?_⟩ S6
      · rw [List.getElem?_map, List.getElem?_range hm']
        show some (if m < m then _ else if m = m then _ else _) = _
        rw [if_neg (Nat.lt_irrefl m), if_pos rfl]
      · unfold halfR
        rw [List.length_map, List.length_range]
        exact ixN_nat hx2.1
      · rw [set_map_range hm']
        refine List.map_congr_left fun k hk => ?_
        by_cases q : k = m
        · subst q
          rw [if_pos rfl, if_neg (Nat.lt_irrefl k), if_pos rfl, halfR_step ok st hx]
        · rw [if_neg q, if_neg q]
          by_cases q2 : k < m
          · rw [if_pos q2, if_pos q2]
          · rw [if_neg q2, if_neg q2, if_neg q]
    · obtain ⟨⟨y, rfl⟩, rfl⟩ := hJ
      refine hN _ _ _ F' H' ⟨⟨_, _, rfl⟩, ?_⟩ S'
      refine List.map_congr_left fun k hk => ?_
      by_cases q : k = m
      · subst q
        rw [if_neg (Nat.lt_irrefl k), if_pos rfl, if_pos (Nat.lt_succ_self k), halfR_full g ok]
      · rw [if_neg q]
        by_cases q2 : k < m
        · rw [if_pos q2, if_pos (by omega)]
        · rw [if_neg q2, if_neg (by omega)]
  · obtain ⟨⟨x, y, rfl⟩, rfl⟩ := hJ
    obtain ⟨F5, S5⟩ := S'.freeze
    dsimp only
    refine sd_run (ts := tRet _) S5 W ?_
    refine sd_ret (ef_var rfl) ?_
    show PyData.list _ = _
    unfold encT tab
    rw [List.map_map, List.map_map, toNat_cast]
    congr 1
    refine List.map_congr_left fun k hk => ?_
    show PyData.list (if k < g.n then _ else _) = _
    rw [if_pos (List.mem_range.mp hk)]
    rfl
theorem list_range {α : Type} {l : List α} {n : Nat} (d : α) (h : l.length = n) : l = (List.range n).map fun k => l.getD k d := by
  refine List.ext_getElem? fun k => ?_
  rw [List.getElem?_map]
  by_cases hk : k < n
  · rw [List.getElem?_range hk]
    show _ = some (l.getD k d)
    rw [List.getD_eq_getElem?_getD, List.getElem?_eq_getElem (by omega)]
    rfl
  · rw [List.getElem?_eq_none (by omega), List.getElem?_eq_none (by rw [List.length_range]; omega)]; rfl
theorem TabIs.lens {g : Web} {st : List Int} {u : Nat} {T : List (List (Option Int))} (B : TabIs g st u T) : ∀ x, x ∈ T → x.length = g.n := fun x hx => by
  obtain ⟨i, hi, rfl⟩ := List.mem_iff_getElem.mp hx
  have := (B.is i (by rw [← B.len]; exact hi)).len
  rw [List.getD_eq_getElem?_getD, List.getElem?_eq_getElem hi] at this
  exact this
theorem tabB_is {g : Web} {st : List Int} {t u : Nat} {R T : List (List (Option Int))} (A : TabIs g st t R) (B : TabIs g st u T) : TabIs g st (t + u) (R.map fun row => rowB row T) := by
  refine ⟨by rw [List.length_map, A.len], fun i hi => ?_⟩
  have e : (R.map fun row => rowB row T).getD i [] = rowB (R.getD i []) T := by
    have hi' : i < R.length := by rw [A.len]; exact hi
    rw [List.getD_eq_getElem?_getD, List.getElem?_map, List.getElem?_eq_getElem hi', List.getD_eq_getElem?_getD, List.getElem?_eq_getElem hi']
    rfl
  rw [e]
  exact rowB_is (A.is i hi) B
theorem firstT_is (g : Web) (st : List Int) : TabIs g st 0 ((List.range g.n).map (firstR g.n)) := by
  refine ⟨by rw [List.length_map, List.length_range], fun i hi => ?_⟩
  rw [getD_map _ _ hi]
  exact firstR_is hi
theorem most_cnt {g : Web} {st : List Int} {t i : Nat} {row : List (Option Int)} (R : RowIs g st t i row) (hi : i < g.n) : IsMost row (cnt g st t i) := by
  obtain ⟨⟨j, w⟩, h2⟩ := cnt_top (st := st) t hi
  have hj := w.lt.2
  have r := R.is j hj
  have hmem : ∀ o, row.getD j none = some o → some o ∈ row := fun o e => by
    have : j < row.length := by rw [R.len]; exact hj
    rw [← e]
    exact getD_mem this
  refine ⟨?_, fun k hk => ?_⟩
  · cases eo : row.getD j none with
    | none => rw [eo] at r; exact absurd w (r _)
    | some o =>
      rw [eo] at r
      have a := r.2 _ w
      have b := h2 j o r.1
      rw [show cnt g st t i = o by omega]
      exact hmem o eo
  · obtain ⟨m, hm, e⟩ := List.mem_iff_getElem.mp hk
    have r := R.is m (by rw [← R.len]; exact hm)
    rw [List.getD_eq_getElem?_getD, List.getElem?_eq_getElem hm, e] at r
    exact h2 m k r.1
def encC (g : Web) (st : List Int) (t : Nat) : PyData := .tuple ((List.range g.n).map fun i => .int (cnt g st t i))
def preChanges (ds : List PyData) (d : PyData) : Prop := ∃ (g : Web) (st : List Int) (t : Nat), ds = [encW g, encS st, iN t] ∧ WOk g ∧ SOk g.n st ∧ d = encC g st t
theorem sc_changes_in : FnScope ["web", "state", "many", "rows", "table", "one", "row"] ["web", "state", "many"] (defScope (top 38)) := ⟨rfl, rfl, rfl, by decide +kernel, rfl, by decide +kernel, by decide +kernel⟩
/-- changes_in: 0 web, 1 state, 2 many, 3 rows, 4 table, 5 one, 6 row -/
theorem c_changes_in (T : Txt K mg) : Cl P w K mg base 3 "changes_in" (SpP K preChanges) := by
  refine cl_pure T.f_changes_in sc_changes_in (fun _ _ _ _ _ _ us hl => match us, hl with | [_, _, _], _ => rfl) (by rintro _ _ ⟨_, _, _, rfl, _⟩; rfl) (fun f cdv A outer s H E hr => ⟨_, (pss_cons (ps_asg (pe_tup (pa_cons (pe_lc (own := [("one", 5)]) rfl sc_changes_in.nd (pi_range1 rfl T.n_range (pa_cons (pe_ix (k_ixT K rfl) (pv 0) pe_int (fun _ _ => rfl)) pa_nil)) (blkOk_by (by kernel_rfl)) (fun _ _ _ _ _ => (pg_name (i := 5) sc_changes_in.nd rfl (Or.inl rfl))) (fun _ _ _ _ _ => pts_nil) (fun _ _ _ _ _ => (pe_cl (c_first_row T) hr (by decide) rfl (pa_cons (pe_ix (k_ixT K rfl) (pv 0) pe_int (fun _ _ => rfl)) (pa_cons (pv 5) pa_nil))))) (pa_cons (pe_cl (c_table_of T) hr (by decide) rfl (pa_cons (pv 0) (pa_cons (pv 1) pa_nil))) pa_nil))) (kpg_tup K rfl rfl (pgs_cons (pg_name (i := 3) sc_changes_in.nd rfl (Or.inl rfl)) (pgs_cons (pg_name (i := 4) sc_changes_in.nd rfl (Or.inr rfl)) pgs_nil))))
      (pss_cons (ps_while PassesOwn.never (pt_cmpR op_gt (pv 2) pe_int (nomark _)) (pss_cons (ps_if (pt_cmpR op_eq (pe_op op_mod (pv 2) pe_int) pe_int (nomark _)) (pss_one (ps_setLc (i := 3) (own := [("row", 6)]) rfl sc_changes_in.nd rfl rfl (sw_true rfl rfl rfl (by decide +kernel)) (kpi_list K rfl (pv 3)) (blkOk_by (by kernel_rfl)) (fun _ _ _ _ _ => (pg_name (i := 6) sc_changes_in.nd rfl (Or.inl rfl))) (fun _ _ _ _ _ => pts_nil) (fun _ _ _ _ _ => (pe_cl (c_row_behind T) hr (by decide) rfl (pa_cons (pv 6) (pa_cons (pv 4) pa_nil)))))) pss_nil)
      (pss_cons (ps_set (i := 2) sc_changes_in.nd rfl (Or.inl rfl) (pe_op op_fdiv (pv 2) pe_int))
      (pss_one (ps_if (pt_cmpR op_gt (pv 2) pe_int (nomark _)) (pss_one (ps_set (i := 4) sc_changes_in.nd rfl (Or.inr rfl) (pe_cl (c_twice T) hr (by decide) rfl (pa_cons (pv 4) pa_nil)))) pss_nil)))))
      (pss_one (ps_ret (pe_callTy (k_tuple K rfl) rfl T.n_tuple bb_tuple (pa_cons (pe_lc (own := [("row", 6)]) rfl sc_changes_in.nd (kpi_list K rfl (pv 3)) (blkOk_by (by kernel_rfl)) (fun _ _ _ _ _ => (pg_name (i := 6) sc_changes_in.nd rfl (Or.inl rfl))) (fun _ _ _ _ _ => pts_nil) (fun _ _ _ _ _ => (pe_cl (c_most_of T) hr (by decide) rfl (pa_cons (pv 6) pa_nil)))) pa_nil)))))), fun ds d h => ?_⟩)
  obtain ⟨g, st, t, rfl, ok, so, rfl⟩ := h
  have n1 := ok.n1
  have n6 := ok.n6
  refine sd_seq (sd_tup2 (k1 := .fz (encT ((List.range g.n).map (firstR g.n)))) (k2 := .fz (encT (tab g st))) (ek_fz (ef_is (En.ef (en_lcR (n := g.n) (fun _ => true) (fun i => encR (firstR g.n i)) (ea_cons (ef_ixT (ef_var rfl) ef_int (encW0 g)) ea_nil) (by omega) (fun m hm => eb_yes) (fun m hm _ => (ef_call (ea_cons (ef_ixT (ef_var rfl) ef_int (encW0 g)) (ea_cons (ef_var rfl) ea_nil)) ⟨g.n, m, rfl, n6, rfl⟩)))) ?_) (ek_fz (ef_call (ea_cons (ef_var rfl) (ea_cons (ef_var rfl) ea_nil)) ⟨g, st, rfl, ok, so, rfl⟩) ek_nil)) ?_)
  · rw [filt_yes, toNat_cast]
    unfold encT
    rw [List.map_map]
    rfl
  refine sd_seq (sd_while (fun k r => ∃ a u R T x y, r = [.fz (encW g), .fz (encS st), .fz (iN k), .fz (encT R), .fz (encT T), x, y] ∧ TabIs g st a R ∧ (0 < k → TabIs g st u T) ∧ a + k * u = t) t ⟨0, 1, _, _, _, _, rfl, firstT_is g st, fun _ => tab_is ok, by omega⟩ (fun k r hI => ?_))
  obtain ⟨a, u, R, T, x, y, rfl, hR, hT, e⟩ := hI
  refine ⟨decide (0 < k), eb_is (eb_test (ef_B0 (ef_var rfl) ef_int)) (decide_eq_decide.mpr ⟨fun h => by omega, fun h => by omega⟩), fun hb => ?_, fun hb => ?_⟩
  · have hk : 0 < k := of_decide_eq_true hb
    have hT := hT hk
    have e2 := Nat.div_add_mod k 2
    have step : ∃ R', TabIs g st (a + k % 2 * u) R' ∧ ((k % 2 = 1 ∧ R' = R.map fun row => rowB row T) ∨ (k % 2 = 0 ∧ R' = R)) := by
      rcases Nat.mod_two_eq_zero_or_one k with z | z
      · exact ⟨R, by rw [z, Nat.zero_mul]; exact hR, .inr ⟨z, rfl⟩⟩
      · exact ⟨_, by rw [z, Nat.one_mul]; exact tabB_is hR hT, .inl ⟨z, rfl⟩⟩
    obtain ⟨R', hR', hc⟩ := step
    refine sd_seq (sd_if (b := decide (k % 2 = 1)) (eb_is (eb_test (ef_eqI (ef_mod (ef_var rfl) ef_int (by decide)) ef_int)) (decide_eq_decide.mpr ⟨fun h => by omega, fun h => by omega⟩)) (fun h => sd_set (d := encT R') (ef_is (En.ef (en_lcL R encR (fun _ => true) (fun row => encR (rowB row T)) (Ef.el (ef_var rfl)) (by rw [hR.len]; omega) (fun m hm => eb_yes) (fun row hx _ => (ef_call (ea_cons (ef_var rfl) (ea_cons (ef_var rfl) ea_nil)) ⟨row, T, rfl, by rw [hR.lens row hx]; omega, by rw [hR.lens row hx, hT.len], fun z hz => by rw [hR.lens row hx, hT.lens z hz], rfl⟩)))) ?_) ?_) (fun h => sd_next ?_))
    · rcases hc with ⟨z, rfl⟩ | ⟨z, _⟩
      · rw [filt_yes]
        unfold encT
        rw [List.map_map]
        rfl
      · have := of_decide_eq_true h
        omega
    · refine sd_seq (sd_set (d := iN (k / 2)) (ef_is (ef_fdiv (ef_var rfl) ef_int (by decide) (by decide)) (by unfold iN; congr 1)) ?_)
      refine sd_if (b := decide (0 < k / 2)) (eb_is (eb_test (ef_B0 (ef_var rfl) ef_int)) (decide_eq_decide.mpr ⟨fun h => by omega, fun h => by omega⟩)) (fun h2 => sd_set (d := encT (T.map fun row => rowB row T)) (ef_call (ea_cons (ef_var rfl) ea_nil) ⟨T, rfl, by rw [hT.len]; exact n6, fun x hx => by rw [hT.lens x hx, hT.len], rfl⟩) ⟨k / 2, by omega, _, u + u, R', _, _, _, rfl, hR', fun _ => twice_is hT, ?_⟩) (fun h2 => sd_next ⟨k / 2, by omega, _, u + u, R', _, _, _, rfl, hR', fun z => absurd z (of_decide_eq_false h2), ?_⟩)
      all_goals
        rw [Nat.mul_add, ← Nat.add_mul]
        rw [← e, ← Nat.two_mul, Nat.add_assoc, ← Nat.add_mul, Nat.add_comm (k % 2), e2]
    · have hc0 : R' = R := by
        rcases hc with ⟨z, _⟩ | ⟨_, z⟩
        · exact absurd z (of_decide_eq_false h)
        · exact z
      subst hc0
      refine sd_seq (sd_set (d := iN (k / 2)) (ef_is (ef_fdiv (ef_var rfl) ef_int (by decide) (by decide)) (by unfold iN; congr 1)) ?_)
      refine sd_if (b := decide (0 < k / 2)) (eb_is (eb_test (ef_B0 (ef_var rfl) ef_int)) (decide_eq_decide.mpr ⟨fun h => by omega, fun h => by omega⟩)) (fun h2 => sd_set (d := encT (T.map fun row => rowB row T)) (ef_call (ea_cons (ef_var rfl) ea_nil) ⟨T, rfl, by rw [hT.len]; exact n6, fun x hx => by rw [hT.lens x hx, hT.len], rfl⟩) ⟨k / 2, by omega, _, u + u, R', _, _, _, rfl, hR', fun _ => twice_is hT, ?_⟩) (fun h2 => sd_next ⟨k / 2, by omega, _, u + u, R', _, _, _, rfl, hR', fun z => absurd z (of_decide_eq_false h2), ?_⟩)
      all_goals
        rw [Nat.mul_add, ← Nat.add_mul]
        rw [← e, ← Nat.two_mul, Nat.add_assoc, ← Nat.add_mul, Nat.add_comm (k % 2), e2]
  · have hk : k = 0 := by have := of_decide_eq_false hb; omega
    subst hk
    have ea : a = t := by omega
    subst ea
    refine sd_ret (ef_is (ef_tupleOf (En.el (en_lcL (List.range g.n) (fun i => encR (R.getD i [])) (fun _ => true) (fun i => .int (cnt g st a i)) (Ef.el (ef_is (ef_var rfl) ?_)) (by rw [List.length_range]; omega) (fun m hm => eb_yes) (fun i hi _ => (ef_call (ea_cons (ef_var rfl) ea_nil) ⟨R.getD i [], _, rfl, ?_, most_cnt (hR.is i (List.mem_range.mp hi)) (List.mem_range.mp hi), rfl⟩))))) ?_) rfl
    · show encT R = _
      unfold encT
      conv => lhs; rw [list_range (l := R) [] hR.len, List.map_map]
      rfl
    · rw [(hR.is i (List.mem_range.mp hi)).len]
      exact n6
    · rw [filt_yes]
      rfl
def preLater (ds : List PyData) (d : PyData) : Prop := ∃ (g : Web) (st : List Int) (t : Nat), ds = [encW g, encS st, iN t] ∧ WOk g ∧ SOk g.n st ∧ d = encS (itr g st t)
theorem list_ms {n : Nat} {st : List Int} (s : SOk n st) : st = (List.range n).map (ms st) := by
  refine List.ext_getElem? fun k => ?_
  rw [List.getElem?_map]
  by_cases hk : k < n
  · rw [List.getElem?_range hk, s.get hk]; rfl
  · rw [List.getElem?_eq_none (by rw [s.len]; omega), List.getElem?_eq_none (by rw [List.length_range]; omega)]; rfl
theorem sc_state_in : FnScope ["web", "state", "many", "found", "one"] ["web", "state", "many"] (defScope (top 39)) := ⟨rfl, rfl, rfl, by decide +kernel, rfl, by decide +kernel, by decide +kernel⟩
/-- state_in: 0 web, 1 state, 2 many, 3 found, 4 one -/
theorem c_state_in (T : Txt K mg) : Cl P w K mg base 4 "state_in" (SpP K preLater) := by
  refine cl_pure T.f_state_in sc_state_in (fun _ _ _ _ _ _ us hl => match us, hl with | [_, _, _], _ => rfl) (by rintro _ _ ⟨_, _, _, rfl, _⟩; rfl) (fun f cdv A outer s H E hr => ⟨_, (pss_cons (ps_set (i := 3) sc_state_in.nd rfl (Or.inr rfl) (pe_cl (c_changes_in T) hr (by decide) rfl (pa_cons (pv 0) (pa_cons (pv 1) (pa_cons (pv 2) pa_nil)))))
      (pss_one (ps_ret (pe_callTy (k_tuple K rfl) rfl T.n_tuple bb_tuple (pa_cons (pe_lc (own := [("one", 4)]) rfl sc_state_in.nd (pi_range1 rfl T.n_range (pa_cons (pe_ix (k_ixT K rfl) (pv 0) pe_int (fun _ _ => rfl)) pa_nil)) (blkOk_by (by kernel_rfl)) (fun _ _ _ _ _ => (pg_name (i := 4) sc_state_in.nd rfl (Or.inl rfl))) (fun _ _ _ _ _ => pts_nil) (fun _ _ _ _ _ => (pe_op op_mod (pe_op op_add (pe_ix (k_ixT K rfl) (pv 1) (pv 4) (fun _ _ => rfl)) (pe_ix (k_ixT K rfl) (pv 3) (pv 4) (fun _ _ => rfl))) (pe_k rfl T.k_MOODS)))) pa_nil))))), fun ds d h => ?_⟩)
  obtain ⟨g, st, t, rfl, ok, so, rfl⟩ := h
  have n1 := ok.n1
  have n6 := ok.n6
  refine sd_seq (sd_set (d := encC g st t) (ef_call (ea_cons (ef_var rfl) (ea_cons (ef_var rfl) (ea_cons (ef_var rfl) ea_nil))) ⟨g, st, t, rfl, ok, so, rfl⟩) ?_)
  refine sd_ret (ef_is (ef_tupleOf (En.el (en_lcR (n := g.n) (fun _ => true) (fun i => .int ((ms st i + cnt g st t i) % 3)) (ea_cons (ef_ixT (ef_var rfl) ef_int (encW0 g)) ea_nil) (by omega) (fun m hm => eb_yes) (fun m hm _ => ef_mod (ef_I0 (ef_ixT (ef_var rfl) (ef_var rfl) (encS_at (by rw [so.len]; omega))) (ef_ixT (ef_var rfl) (ef_var rfl) ?_)) ef_int (by decide))))) ?_) rfl
  · exact atN (by rw [List.getElem?_map, List.getElem?_range (by omega)]; rfl)
  · rw [filt_yes, toNat_cast]
    unfold encS
    rw [list_ms (itr_ok so t), List.map_map]
    congr 1
    refine List.map_congr_left fun i hi => ?_
    show PyData.int _ = PyData.int _
    rw [(lift ok so t).mood i (List.mem_range.mp hi)]
end
end Tm
set_option maxRecDepth 100000
set_option maxHeartbeats 4000000
/-! Ways and parts. -/
namespace Tm
open PySem PyProof.Rows L2
section
variable {P : Program} {w : World} {K : PySem.W.Frag} {mg : Str → Option Value} {base : Heap}
theorem ifc {α : Type} {p q : Prop} [Decidable p] [Decidable q] {a b c d : α} (h : p ↔ q) (h1 : a = c) (h2 : b = d) : (if p then a else b) = if q then c else d := by
  subst h1 h2
  by_cases z : p
  · rw [if_pos z, if_pos (h.mp z)]
  · rw [if_neg z, if_neg (fun w => z (h.mpr w))]
def oN : Option Nat → PyData
  | none => .none
  | some i => iN i
theorem isN_oN (o : Option Nat) : isN (oN o) = o.isNone := by cases o <;> rfl
noncomputable def encWays (g : Web) (i : Nat) : PyData := .list ((List.range g.n).map fun j => oN (dst g i j))
def preWays (ds : List PyData) (d : PyData) : Prop := ∃ (g : Web) (i : Nat), ds = [encNear g, iN i] ∧ WOk g ∧ i < g.n ∧ d = encWays g i
noncomputable def halfW (g : Web) (i d : Nat) (L : List Nat) : List PyData := (List.range g.n).map fun j => oN (if dst g i j = some (d + 1) ∧ j ∈ L then some (d + 1) else upto g i d j)
theorem map_at {n k : Nat} {f : Nat → PyData} (h : k < n) : atI ((List.range n).map f) (k : Int) = some (f k) := atN (by rw [List.getElem?_map, List.getElem?_range h]; rfl)
theorem iN_mem {l : List Nat} {m : Nat} {d : PyData} (h : (l.map iN)[m]? = some d) : ∃ x, l[m]? = some x ∧ d = iN x := by
  rw [List.getElem?_map] at h
  cases e : l[m]? with
  | none => rw [e] at h; cases h
  | some x => rw [e] at h; cases h; exact ⟨x, rfl, rfl⟩
theorem sh_encL {k : Nat} (l : List Nat) : Sh (k + 1) (.list (l.map iN)) := sh_list (sh_map fun x _ => sh_iN x)
theorem sc_ways_from : FnScope ["near", "one", "found", "row", "later", "here", "there"] ["near", "one"] (defScope (top 12)) := ⟨rfl, rfl, rfl, by decide +kernel, rfl, by decide +kernel, by decide +kernel⟩
/-- ways_from: 0 near, 1 one, 2 found, 3 row, 4 later, 5 here, 6 there -/
theorem c_ways_from (T : Txt K mg) : Cl P w K mg base 1 "ways_from" (SpP K preWays) := by
  refine cl_pure T.f_ways_from sc_ways_from (fun _ _ _ _ _ _ us hl => match us, hl with | [_, _], _ => rfl) (by rintro _ _ ⟨_, _, rfl, _⟩; rfl) (fun f cdv A outer s H E hr => ⟨_, (pss_cons (ps_set (i := 2) sc_ways_from.nd rfl (Or.inl rfl) (pe_op op_rep (pe_lst (pa_cons pe_non pa_nil)) (pe_callB (k_len K rfl) rfl T.n_len bb_len (pa_cons (pv 0) pa_nil))))
      (pss_cons (ps_asg (pe_tup (pa_cons pe_int (pa_cons (pe_lst (pa_cons (pv 1) pa_nil)) pa_nil))) (kpg_tup K rfl rfl (pgs_cons (pg_sub (pv 2) (pv 1) set_list) (pgs_cons (pg_name (i := 3) sc_ways_from.nd rfl (Or.inl rfl)) pgs_nil))))
      (pss_cons (ps_while PassesOwn.never (pt_cmpR (k_neD K rfl hr.units) (pv 3) (pe_lst pa_nil) (nomark _)) (pss_cons (ps_set (i := 4) sc_ways_from.nd rfl (Or.inl rfl) (pe_lst pa_nil))
      (pss_cons (ps_for PassesOwn.never rfl (kpi_list K rfl (pv 3)) (pg_name (i := 5) sc_ways_from.nd rfl (Or.inl rfl)) (pss_one (ps_for PassesOwn.never rfl (kpi_list K rfl (pe_ix (k_ixL K rfl) (pv 0) (pv 5) (fun _ _ => rfl))) (pg_name (i := 6) sc_ways_from.nd rfl (Or.inl rfl)) (pss_one (ps_if (pt_cmpR op_isN (pe_ix (k_ixL K rfl) (pv 2) (pv 6) (fun _ _ => rfl)) pe_non (nomark _)) (pss_cons (ps_asg (pe_op op_add (pe_ix (k_ixL K rfl) (pv 2) (pv 5) (fun _ _ => rfl)) pe_int) (pg_sub (pv 2) (pv 6) set_list))
      (pss_one (ps_expr (pe_bm PySem.F.plainAttrs_list PySem.F.slot_list_append PySem.F.type_list_append mt_append (pv 4) (pa_cons (pv 6) pa_nil))))) pss_nil)))))
      (pss_one (ps_set (i := 3) sc_ways_from.nd rfl (Or.inl rfl) (pv 4))))))
      (pss_one (ps_ret (pv 2)))))), fun ds d h => ?_⟩)
  obtain ⟨g, i, rfl, ok, hi, rfl⟩ := h
  have n1 := ok.n1
  have n6 := ok.n6
  have nl : (((near g).map encL).length : Int) = g.n := by rw [List.length_map, near_len]
  refine sd_seq (sd_setN (ds := List.replicate g.n .none) (en_is (en_rep (i := g.n) (ea_cons ef_non ea_nil) (ef_is (ef_lenL (Ef.el (ef_var rfl))) (congrArg PyData.int nl)) (by simp) (by omega)) (by rw [toNat_cast, flat_one])) ?_)
  refine sd_seq (sd_itemTup (k := 2) (m := i) (ds := List.replicate g.n .none) (d := iN 0) (k2 := .fz (.list [iN i])) rfl (ek_fz ef_int (ek_fz (En.ef (en_lst (ea_cons (ef_var rfl) ea_nil) (by simp))) ek_nil)) (ef_var rfl) (by rw [List.length_replicate]; exact ixN_nat hi) (by decide) ?_)
  refine sd_seq (sd_while (fun k r => ∃ d l a b c, r = [.fz (encNear g), .fz (iN i), .mu (halfW g i d []), .fz (.list (l.map iN)), a, b, c] ∧ (∀ j, j ∈ l ↔ Lev g i d j) ∧ k + d = g.n + 1 ∧ l.length ≤ 6) (g.n + 1) ⟨0, [i], .no, .no, .no, ?_, fun j => ?_, by omega, by simp⟩ (fun k r hI => ?_))
  · rw [rep_range, set_map_range hi]
    show [_, _, Slo.mu _, _, _, _, _] = _
    unfold halfW
    congr 4
    refine List.map_congr_left fun j hj => ?_
    rw [upto_zero hi, if_neg (c := dst g i j = some (0 + 1) ∧ j ∈ []) (by simp)]
    by_cases q : j = i
    · rw [if_pos q, if_pos q]; rfl
    · rw [if_neg q, if_neg q]; rfl
  · rw [List.mem_singleton]
    constructor
    · rintro rfl
      exact dst_some.mp (dst_self hi)
    · intro h
      exact h.1.2.symm
  obtain ⟨d, l, a, b, c, rfl, hl, hk, hl6⟩ := hI
  refine ⟨!l.isEmpty, eb_is (eb_test (ef_neD (Ef.er (ef_var rfl)) (El.er (En.el (en_lst ea_nil (by simp)))) ((sh_encL (k := 1) l).ok (by omega)) ((sh_nil (k := 1)).ok (by omega)))) (by rw [eqv_nil, List.isEmpty_map]), fun hb => ?_, fun hb => ?_⟩
  · have hdn : d < g.n := by
      cases l with
      | nil => cases hb
      | cons x l => exact lev_lt ((hl x).mp List.mem_cons_self)
    refine sd_seq (sd_setN (en_lst ea_nil (by simp)) ?_)
    refine sd_seq (sd_forL (ds := l.map iN) (ef_var rfl) (fun m r => ∃ L b c, r = [.fz (encNear g), .fz (iN i), .mu (halfW g i d L), .fz (.list (l.map iN)), .mu (L.map iN), b, c] ∧ L.Nodup ∧ ∀ j, j ∈ L ↔ Lev g i (d + 1) j ∧ ∃ h, h ∈ l.take m ∧ nbr g h j = true) ⟨[], _, _, rfl, List.nodup_nil, fun j => ?_⟩ (fun m x r hm hI => ?_) (fun r hI => ?_))
    · simp
    · obtain ⟨L, b, c, rfl, nd, hL⟩ := hI
      obtain ⟨h, hh, rfl⟩ := iN_mem hm
      have hlev := (hl h).mp (List.mem_of_getElem? hh)
      have hhn := hlev.1.lt.2
      refine sd_forL (ds := (nrow g h).map iN) (ef_ixL (Ef.el (ef_var rfl)) (ef_var rfl) (encNear_at hhn)) (fun q r => ∃ L c, r = [.fz (encNear g), .fz (iN i), .mu (halfW g i d L), .fz (.list (l.map iN)), .mu (L.map iN), .fz (iN h), c] ∧ L.Nodup ∧ ∀ j, j ∈ L ↔ Lev g i (d + 1) j ∧ ((∃ h, h ∈ l.take m ∧ nbr g h j = true) ∨ j ∈ (nrow g h).take q)) ⟨L, _, rfl, nd, fun j => ?_⟩ (fun q x r hq hI => ?_) (fun r hI => ?_)
      · rw [hL j, List.take_zero]
        simp
      · obtain ⟨L, c, rfl, nd, hL⟩ := hI
        obtain ⟨x, hx, rfl⟩ := iN_mem hq
        have hx2 := nrow_mem.mp (List.mem_of_getElem? hx)
        have hLn : L.length ≤ g.n := by
          have := List.Nodup.length_le_of_subset nd (l₂ := List.range g.n) fun j hj => List.mem_range.mpr ((hL j).mp hj).1.1.lt.2
          rw [List.length_range] at this
          exact this
        have atx : atI (halfW g i d L) (x : Int) = some (oN (if dst g i x = some (d + 1) ∧ x ∈ L then some (d + 1) else upto g i d x)) := map_at hx2.1
        have ath : atI (halfW g i d L) (h : Int) = some (iN d) := by
          have := map_at (f := fun j => oN (if dst g i j = some (d + 1) ∧ j ∈ L then some (d + 1) else upto g i d j)) hhn
          unfold halfW
          rw [this, if_neg (fun z => by rw [dst_some.mpr hlev] at z; have := z.1; simp at this), upto_some.mpr ⟨hlev, Nat.le_refl _⟩]
          rfl
        by_cases q1 : Lev g i (d + 1) x ∧ x ∉ L
        · have u0 := ((lev_next ok).mp q1.1).1
          refine sd_if (b := true) (eb_is (eb_test (ef_isN (Ef.er (ef_ixL (el_var rfl) (ef_var rfl) atx)))) ?_) (fun _ => ?_) (fun h => by cases h)
          · rw [isN_oN, if_neg (fun z => q1.2 z.2), u0]; rfl
          refine sd_seq (sd_item (k := 2) rfl (d := iN (d + 1)) (ef_is (ef_I0 (ef_ixL (el_var rfl) (ef_var rfl) ath) ef_int) ?_) (ef_var rfl) (m := x) (by unfold halfW; rw [List.length_map, List.length_range]; exact ixN_nat hx2.1) ?_)
          · rfl
          refine sd_app (k := 4) rfl (ef_var rfl) (by rw [List.length_map]; omega) ⟨L ++ [x], .fz (iN x), ?_, ?_, fun j => ?_⟩
          · show [_, _, Slo.mu _, _, Slo.mu _, _, _] = _
            rw [List.map_append]
            have : (halfW g i d L).set x (iN (d + 1)) = halfW g i d (L ++ [x]) := by
              unfold halfW
              rw [set_map_range hx2.1]
              refine List.map_congr_left fun j hj => ?_
              by_cases q2 : j = x
              · subst q2
                rw [if_pos rfl, if_pos ⟨dst_some.mpr q1.1, by simp⟩]
                rfl
              · rw [if_neg q2]
                congr 1
                have : (dst g i j = some (d + 1) ∧ j ∈ L ++ [x]) ↔ (dst g i j = some (d + 1) ∧ j ∈ L) := by simp [q2]
                rw [ifc this rfl rfl]
            rw [this]
            rfl
          · rw [List.nodup_append]
            exact ⟨nd, by simp, fun a ha b hb e => q1.2 (by simp at hb; rw [← hb, ← e]; exact ha)⟩
          · rw [take_more hx, List.mem_append, List.mem_append, hL j, List.mem_singleton]
            constructor
            · rintro (⟨z1, z2⟩ | z)
              · exact ⟨z1, z2.elim .inl fun z => .inr (.inl z)⟩
              · exact ⟨z ▸ q1.1, .inr (.inr z)⟩
            · rintro ⟨z1, z2 | z2 | z2⟩
              · exact .inl ⟨z1, .inl z2⟩
              · exact .inl ⟨z1, .inr z2⟩
              · exact .inr z2
        · refine sd_if (b := false) (eb_is (eb_test (ef_isN (Ef.er (ef_ixL (el_var rfl) (ef_var rfl) atx)))) ?_) (fun h => by cases h) (fun _ => sd_next ⟨L, _, rfl, nd, fun j => ?_⟩)
          · rw [isN_oN]
            by_cases q2 : Lev g i (d + 1) x
            · have hxL : x ∈ L := Classical.byContradiction fun z => q1 ⟨q2, z⟩
              rw [if_pos ⟨dst_some.mpr q2, hxL⟩]; rfl
            · rw [if_neg (fun z => q2 (dst_some.mp z.1))]
              cases e : upto g i d x with
              | some k => rfl
              | none => exact absurd ((lev_next ok).mpr ⟨e, h, hlev, hx2.2⟩) q2
          · rw [take_more hx, List.mem_append, hL j, List.mem_singleton]
            constructor
            · rintro ⟨z1, z2⟩
              exact ⟨z1, z2.elim .inl fun z => .inr (.inl z)⟩
            · rintro ⟨z1, z2 | z2 | z2⟩
              · exact ⟨z1, .inl z2⟩
              · exact ⟨z1, .inr z2⟩
              · subst z2
                have hxL : j ∈ L := Classical.byContradiction fun z => q1 ⟨z1, z⟩
                exact (hL j).mp hxL
      · obtain ⟨L, c, rfl, nd, hL⟩ := hI
        refine ⟨L, _, _, rfl, nd, fun j => ?_⟩
        rw [hL j, take_more hh, List.length_map, List.take_length]
        constructor
        · rintro ⟨z1, ⟨k, z2, z3⟩ | z2⟩
          · exact ⟨z1, k, List.mem_append_left _ z2, z3⟩
          · exact ⟨z1, h, by simp, (nrow_mem.mp z2).2⟩
        · rintro ⟨z1, k, z2, z3⟩
          refine ⟨z1, ?_⟩
          rcases List.mem_append.mp z2 with z2 | z2
          · exact .inl ⟨k, z2, z3⟩
          · simp at z2
            subst z2
            exact .inr (nrow_mem.mpr ⟨z1.1.lt.2, z3⟩)
    · obtain ⟨L, b, c, rfl, nd, hL⟩ := hI
      have hL' : ∀ j, j ∈ L ↔ Lev g i (d + 1) j := fun j => by
        rw [hL j, List.length_map, List.take_length]
        constructor
        · exact fun z => z.1
        · intro z
          obtain ⟨h, z1, z2⟩ := lev_back z
          exact ⟨z, h, (hl h).mpr z1, z2⟩
      refine sd_freeze (k := 4) rfl ?_
      refine sd_set (ef_var rfl) ⟨k - 1, by omega, d + 1, L, .fz (.list (L.map iN)), b, c, ?_, hL', by omega, ?_⟩
      · show [_, _, Slo.mu (halfW g i d L), _, _, _, _] = _
        have : halfW g i d L = halfW g i (d + 1) [] := by
          unfold halfW
          refine List.map_congr_left fun j hj => ?_
          rw [if_neg (c := dst g i j = some (d + 1 + 1) ∧ j ∈ []) (by simp), upto_succ]
          congr 1
          exact ifc ⟨fun z => z.1, fun z => ⟨z, (hL' j).mpr (dst_some.mp z)⟩⟩ rfl rfl
        rw [this]
      · have := List.Nodup.length_le_of_subset nd (l₂ := List.range g.n) fun j hj => List.mem_range.mpr ((hL' j).mp hj).1.lt.2
        rw [List.length_range] at this
        omega
  · have : l = [] := by
      cases l with
      | nil => rfl
      | cons x l => cases hb
    subst this
    refine sd_freeze (k := 2) rfl ?_
    refine sd_ret (ef_var rfl) ?_
    show PyData.list _ = _
    unfold encWays halfW
    congr 1
    refine List.map_congr_left fun j hj => ?_
    rw [if_neg (by simp), upto_all fun k hk => by have := (hl k).mpr hk; cases this]
def encP (l : List Nat) : PyData := .tuple (l.map iN)
def encPs (ps : List (List Nat)) : PyData := .list (ps.map encP)
def preParts (ds : List PyData) (d : PyData) : Prop := ∃ (g : Web), ds = [encW g] ∧ WOk g ∧ d = encPs (partsL g)
theorem inV_iN (x : Nat) (l : List Nat) : inV (toV (iN x)) ((l.map iN).map toV) = decide (x ∈ l) := by
  unfold inV
  rw [List.map_map, List.any_map, Bool.eq_iff_iff, List.any_eq_true, decide_eq_true_iff]
  constructor
  · rintro ⟨y, h1, h2⟩
    have : decide ((y : Int) = (x : Int)) = true := h2
    have := of_decide_eq_true this
    rw [show x = y by omega]
    exact h1
  · intro h
    exact ⟨x, h, decide_eq_true (rfl : (x : Int) = (x : Int))⟩
theorem part_len (g : Web) (i : Nat) : (partOf g i).length ≤ g.n := by
  have := List.length_filter_le (conn g i) (List.range g.n)
  rw [List.length_range] at this
  exact this
noncomputable def seenTo (g : Web) (m : Nat) : List Nat := ((List.range m).filter (isRoot g)).flatMap (partOf g)
theorem range_more {n m : Nat} (p : Nat → Bool) : (List.range (m + 1)).filter p = if p m then (List.range m).filter p ++ [m] else (List.range m).filter p := by
  rw [List.range_succ, List.filter_append]
  cases h : p m <;> simp [h]
theorem seen_iff {g : Web} {m : Nat} (hm : m < g.n) : m ∈ seenTo g m ↔ isRoot g m = false := by
  unfold seenTo
  rw [List.mem_flatMap]
  constructor
  · rintro ⟨r, h1, h2⟩
    rw [List.mem_filter, List.mem_range] at h1
    cases e : isRoot g m with
    | false => rfl
    | true =>
      have := root_iff.mp e r h1.1
      rw [part_mem.mp h2] at this
      cases this
  · intro h
    obtain ⟨r, h1, h2, h3⟩ := root_ex hm
    have : r ≠ m := fun z => by rw [z, h] at h2; cases h2
    exact ⟨r, List.mem_filter.mpr ⟨List.mem_range.mpr (by omega), h2⟩, part_mem.mpr h3⟩
theorem sc_parts_of : FnScope ["web", "near", "found", "seen", "one", "ways", "some", "other"] ["web"] (defScope (top 13)) := ⟨rfl, rfl, rfl, by decide +kernel, rfl, by decide +kernel, by decide +kernel⟩
/-- parts_of: 0 web, 1 near, 2 found, 3 seen, 4 one, 5 ways, 6 some, 7 other -/
theorem c_parts_of (T : Txt K mg) : Cl P w K mg base 2 "parts_of" (SpP K preParts) := by
  refine cl_pure T.f_parts_of sc_parts_of (fun _ _ _ _ _ _ us hl => match us, hl with | [_], _ => rfl) (by rintro _ _ ⟨_, rfl, _⟩; rfl) (fun f cdv A outer s H E hr => ⟨_, (pss_cons (ps_par3 (i := 1) (j := 2) (l := 3) rfl sc_parts_of.nd rfl rfl rfl (by decide) (by decide) (by decide) rfl rfl rfl (pa_cons (pe_cl (c_near_lists T) hr (by decide) rfl (pa_cons (pv 0) pa_nil)) (pa_cons (pe_lst pa_nil) (pa_cons (pe_lst pa_nil) pa_nil))) (by rfl))
      (pss_cons (ps_for PassesOwn.never rfl (pi_range1 rfl T.n_range (pa_cons (pe_ix (k_ixT K rfl) (pv 0) pe_int (fun _ _ => rfl)) pa_nil)) (pg_name (i := 4) sc_parts_of.nd rfl (Or.inl rfl)) (pss_one (ps_if (pt_cmpR (k_ni K rfl) (pv 4) (pv 3) rfl) (pss_cons (ps_set (i := 5) sc_parts_of.nd rfl (Or.inr rfl) (pe_cl (c_ways_from T) hr (by decide) rfl (pa_cons (pv 1) (pa_cons (pv 4) pa_nil))))
      (pss_cons (ps_set (i := 6) sc_parts_of.nd rfl (Or.inl rfl) (pe_callTy (k_tuple K rfl) rfl T.n_tuple bb_tuple (pa_cons (pe_lc (own := [("other", 7)]) rfl sc_parts_of.nd (pi_range1 rfl T.n_range (pa_cons (pe_ix (k_ixT K rfl) (pv 0) pe_int (fun _ _ => rfl)) pa_nil)) (blkOk_by (by kernel_rfl)) (fun _ _ _ _ _ => (pg_name (i := 7) sc_parts_of.nd rfl (Or.inl rfl))) (fun _ _ _ _ _ => pts_one (pt_cmpR op_notN (pe_ix (k_ixL K rfl) (pv 5) (pv 7) (fun _ _ => rfl)) pe_non (nomark _))) (fun _ _ _ _ _ => (pv 7))) pa_nil)))
      (pss_cons (ps_expr (pe_bm PySem.F.plainAttrs_list PySem.F.slot_list_append PySem.F.type_list_append mt_append (pv 2) (pa_cons (pv 6) pa_nil)))
      (pss_one (ps_expr (pe_bm PySem.F.plainAttrs_list PySem.F.slot_list_extend PySem.F.type_list_extend (k_extT K rfl) (pv 3) (pa_cons (pv 6) pa_nil))))))) pss_nil)))
      (pss_one (ps_ret (pv 2))))), fun ds d h => ?_⟩)
  obtain ⟨g, rfl, ok, rfl⟩ := h
  have n1 := ok.n1
  have n6 := ok.n6
  refine sd_seq (sd_par3 (k1 := .fz (encNear g)) (k2 := .mu []) (k3 := .mu []) (ek_fz (ef_call (ea_cons (ef_var rfl) ea_nil) ⟨g, rfl, ok, rfl⟩) (ek_mu (en_lst ea_nil (by simp)) (ek_mu (en_lst ea_nil (by simp)) ek_nil))) ?_)
  refine sd_seq (sd_for1 (n := g.n) (ea_cons (ef_ixT (ef_var rfl) ef_int (encW0 g)) ea_nil) (by omega) (fun m r => ∃ a b c d, r = [.fz (encW g), .fz (encNear g), .mu ((((List.range m).filter (isRoot g)).map (partOf g)).map encP), .mu ((seenTo g m).map iN), a, b, c, d] ∧ (seenTo g m).length ≤ 6 * m) ⟨_, _, _, _, rfl, by simp [seenTo]⟩ (fun m r hm hI => ?_) (fun r hI => ?_))
  · obtain ⟨a, b, c, d, rfl, hs⟩ := hI
    have hm' : m < g.n := by omega
    cases hr : isRoot g m with
    | true =>
      refine sd_if (b := true) (eb_is (eb_test (ef_inL (ef_var rfl) (el_var rfl) rfl ?_)) ?_) (fun _ => ?_) (fun h => by cases h)
      · rw [List.all_eq_true]
        intro x hx
        obtain ⟨_, _, rfl⟩ := List.mem_map.mp hx
        rfl
      · show (!inV (toV (iN m)) _) = true
        rw [inV_iN, Bool.not_eq_true', decide_eq_false_iff_not, seen_iff hm', hr]
        simp
      refine sd_seq (sd_set (ef_call (d := encWays g m) (ea_cons (ef_var rfl) (ea_cons (ef_var rfl) ea_nil)) ⟨g, m, rfl, ok, hm', rfl⟩) ?_)
      refine sd_seq (sd_set (d := encP (partOf g m)) (ef_is (ef_tupleOf (En.el (en_lcR (n := g.n) (conn g m) iN (ea_cons (ef_ixT (ef_var rfl) ef_int (encW0 g)) ea_nil) (by omega) (fun j hj => (eb_is (eb_test (ef_notN (Ef.er (ef_ixL (Ef.el (ef_var rfl)) (ef_var rfl) (map_at (by omega)))))) ?_)) (fun m hm _ => (ef_var rfl))))) ?_) ?_)
      · rw [isN_oN]
        unfold conn
        cases dst g m j <;> rfl
      · rw [toNat_cast]; rfl
      have l2 := part_len g m
      refine sd_seq (sd_app (k := 2) rfl (ef_var rfl) ?_ ?_)
      · rw [List.length_map, List.length_map]
        have := List.length_filter_le (isRoot g) (List.range m)
        rw [List.length_range] at this
        omega
      have hseen : seenTo g (m + 1) = seenTo g m ++ partOf g m := by
        unfold seenTo
        rw [range_more (n := 0), hr, if_pos rfl, List.flatMap_append]
        simp
      refine sd_ext (k := 3) rfl (es := (partOf g m).map iN) (ef_var rfl) ?_ ⟨.fz (iN m), .fz (encWays g m), .fz (encP (partOf g m)), d, ?_, ?_⟩
      · rw [List.length_map, List.length_map]
        omega
      · rw [range_more (n := 0), hr, if_pos rfl, hseen, List.map_append, List.map_append, List.map_append]
        rfl
      · rw [hseen, List.length_append]
        omega
    | false =>
      refine sd_if (b := false) (eb_is (eb_test (ef_inL (ef_var rfl) (el_var rfl) rfl ?_)) ?_) (fun h => by cases h) (fun _ => sd_next ⟨.fz (iN m), b, c, d, ?_, ?_⟩)
      · rw [List.all_eq_true]
        intro x hx
        obtain ⟨_, _, rfl⟩ := List.mem_map.mp hx
        rfl
      · show (!inV (toV (iN m)) _) = false
        rw [inV_iN, Bool.not_eq_false', decide_eq_true_iff, seen_iff hm', hr]
      · unfold seenTo
        rw [range_more (n := 0), hr]
        rfl
      · unfold seenTo at hs ⊢
        rw [range_more (n := 0), hr]
        show (List.flatMap _ ((List.range m).filter (isRoot g))).length ≤ _
        omega
  · obtain ⟨a, b, c, d, rfl, hs⟩ := hI
    refine sd_freeze (k := 2) rfl ?_
    refine sd_ret (ef_var rfl) ?_
    show PyData.list _ = _
    rw [toNat_cast]
    rfl
end
end Tm
set_option maxRecDepth 100000
set_option maxHeartbeats 4000000
/-! Heights; the tick of rest. -/
namespace Tm
open PySem PyProof.Rows L2
section
variable {P : Program} {w : World} {K : PySem.W.Frag} {mg : Str → Option Value} {base : Heap}
def fD (n : Nat) (f : Nat → Option Int) : List PyData := (List.range n).map fun j => oD (f j)
theorem fD_len (n : Nat) (f : Nat → Option Int) : (fD n f).length = n := by unfold fD; rw [List.length_map, List.length_range]
theorem fD_at {n k : Nat} {f : Nat → Option Int} (h : k < n) : atI (fD n f) (k : Int) = some (oD (f k)) := map_at h
theorem fD_set {n k : Nat} {f : Nat → Option Int} {v : Option Int} (h : k < n) : (fD n f).set k (oD v) = fD n fun j => if j = k then v else f j := by
  unfold fD
  rw [set_map_range h]
  refine List.map_congr_left fun j _ => ?_
  show (if j = k then oD v else oD (f j)) = oD (if j = k then v else f j)
  by_cases q : j = k
  · rw [if_pos q, if_pos q]
  · rw [if_neg q, if_neg q]
theorem fD_congr {n : Nat} {f f' : Nat → Option Int} (h : ∀ j, j < n → f j = f' j) : fD n f = fD n f' := by
  unfold fD
  exact List.map_congr_left fun j hj => by rw [h j (List.mem_range.mp hj)]
structure HF where
  g : Web
  st : List Int
  one : Nat
  f : Nat → Option Int
def preHF (x : HF) (ks : List Slo) : Prop := ks = [.fz (encNear x.g), .fz (encS x.st), .fz (iN x.one), .pm (fD x.g.n x.f)] ∧ WOk x.g ∧ SOk x.g.n x.st ∧ x.one < x.g.n ∧ ∀ j, conn x.g x.one j = true → x.f j = none
def postHF (x : HF) (d : PyData) (es : List PyData) : Prop := (d = .bool true ∧ ∃ P : Nat → Int, PotAt x.g x.st x.one P ∧ es = fD x.g.n fun j => if conn x.g x.one j then some (P j) else x.f j) ∨ (d = .bool false ∧ ¬ ∃ P, PotAt x.g x.st x.one P)
/-- what stands while heights are sought: pp done, l to be done -/
structure HI (x : HF) (F : Nat → Option Int) (pp l : List Nat) : Prop where
  out : ∀ j, conn x.g x.one j = false → F j = x.f j
  found : ∀ j, (j ∈ pp ∨ j ∈ l) ↔ (conn x.g x.one j = true ∧ F j ≠ none)
  pot : ∀ Q, PotAt x.g x.st x.one Q → ∀ j v, conn x.g x.one j = true → F j = some v → v = Q j - Q x.one
  done : ∀ j, j ∈ pp → ∀ k, nbr x.g j k = true → ∃ v, F j = some v ∧ F k = some (v + stp x.st j k)
  nd : (pp ++ l).Nodup
  one : F x.one ≠ none
/-- .. while one's neighbours are looked at -/
structure HJ (x : HF) (F : Nat → Option Int) (pp l : List Nat) (h m : Nat) : Prop where
  out : ∀ j, conn x.g x.one j = false → F j = x.f j
  found : ∀ j, (j ∈ pp ∨ j = h ∨ j ∈ l) ↔ (conn x.g x.one j = true ∧ F j ≠ none)
  pot : ∀ Q, PotAt x.g x.st x.one Q → ∀ j v, conn x.g x.one j = true → F j = some v → v = Q j - Q x.one
  done : ∀ j, j ∈ pp → ∀ k, nbr x.g j k = true → ∃ v, F j = some v ∧ F k = some (v + stp x.st j k)
  half : ∀ k, k ∈ (nrow x.g h).take m → ∃ v, F h = some v ∧ F k = some (v + stp x.st h k)
  nd : (h :: (pp ++ l)).Nodup
  one : F x.one ≠ none
theorem sc_heights_from : FnScope ["near", "state", "one", "found", "row", "here", "there", "due"] ["near", "state", "one", "found"] (defScope (top 27)) := ⟨rfl, rfl, rfl, by decide +kernel, rfl, by decide +kernel, by decide +kernel⟩
/-- heights_from: 0 near, 1 state, 2 one, 3 found, 4 row, 5 here, 6 there, 7 due -/
theorem c_heights_from (T : Txt K mg) : Cl P w K mg base 2 "heights_from" (SpM K 3 preHF postHF) := by
  refine cl_pm T.f_heights_from sc_heights_from (fun _ _ _ _ _ _ us hl => match us, hl with | [_, _, _, _], _ => rfl) (by rintro _ _ ⟨rfl, _⟩; rfl) (fun f cdv A outer s H E hr => ⟨_, (pss_cons (ps_asg (pe_tup (pa_cons pe_int (pa_cons (pe_lst (pa_cons (pv 2) pa_nil)) pa_nil))) (kpg_tup K rfl rfl (pgs_cons (pg_sub (pv 3) (pv 2) set_list) (pgs_cons (pg_name (i := 4) sc_heights_from.nd rfl (Or.inl rfl)) pgs_nil))))
      (pss_cons (ps_while PassesOwn.never (pt_cmpR (k_neD K rfl hr.units) (pv 4) (pe_lst pa_nil) (nomark _)) (pss_cons (ps_set (i := 5) sc_heights_from.nd rfl (Or.inl rfl) (pe_bm0 PySem.F.plainAttrs_list PySem.F.slot_list_pop PySem.F.type_list_pop mt_pop (pv 4)))
      (pss_one (ps_for PassesOwn.never rfl (kpi_list K rfl (pe_ix (k_ixL K rfl) (pv 0) (pv 5) (fun _ _ => rfl))) (pg_name (i := 6) sc_heights_from.nd rfl (Or.inl rfl)) (pss_cons (ps_set (i := 7) sc_heights_from.nd rfl (Or.inl rfl) (pe_op op_add (pe_ix (k_ixL K rfl) (pv 3) (pv 5) (fun _ _ => rfl)) (pe_cl (c_step T) hr (by decide) rfl (pa_cons (pv 1) (pa_cons (pv 5) (pa_cons (pv 6) pa_nil))))))
      (pss_one (ps_if (pt_cmpR op_isN (pe_ix (k_ixL K rfl) (pv 3) (pv 6) (fun _ _ => rfl)) pe_non (nomark _)) (pss_cons (ps_asg (pv 7) (pg_sub (pv 3) (pv 6) set_list))
      (pss_one (ps_expr (pe_bm PySem.F.plainAttrs_list PySem.F.slot_list_append PySem.F.type_list_append mt_append (pv 4) (pa_cons (pv 6) pa_nil))))) (pss_one (ps_if (pt_cmpR op_ne (pe_ix (k_ixL K rfl) (pv 3) (pv 6) (fun _ _ => rfl)) (pv 7) (nomark _)) (pss_one (ps_ret pe_bl)) pss_nil)))))))))
      (pss_one (ps_ret pe_bl)))), fun x ks h => ?_⟩)
  obtain ⟨rfl, ok, so, h1, hf⟩ := h
  have n1 := ok.n1
  have n6 := ok.n6
  have sub : ∀ {l : List Nat}, l.Nodup → (∀ j, j ∈ l → j < x.g.n) → l.length ≤ x.g.n := fun {l} nd h => by
    have := List.Nodup.length_le_of_subset nd (l₂ := List.range x.g.n) fun j hj => List.mem_range.mpr (h j hj)
    rw [List.length_range] at this
    exact this
  refine sd_seq (sd_itemTupP (k := 3) (m := x.one) (ds := fD x.g.n x.f) (d := .int 0) (k2 := .mu ([x.one].map iN)) rfl (ek_fz ef_int (ek_mu (en_lst (ea_cons (ef_var rfl) ea_nil) (by simp)) ek_nil)) (ef_var rfl) (by rw [fD_len]; exact ixN_nat h1) (by decide) ?_)
  refine sd_seq (sd_while (fun k r => ∃ F pp l a b c, r = [.fz (encNear x.g), .fz (encS x.st), .fz (iN x.one), .pm (fD x.g.n F), .mu (l.map iN), a, b, c] ∧ HI x F pp l ∧ k + pp.length = x.g.n) x.g.n ⟨fun j => if j = x.one then some 0 else x.f j, [], [x.one], .no, .no, .no, ?_, ?_, by simp⟩ (fun k r hI => ?_))
  · show [_, _, _, Slo.pm ((fD x.g.n x.f).set x.one (oD (some 0))), _, _, _, _] = _
    rw [fD_set h1]
  · refine ⟨fun j hj => if_neg (fun z => by rw [z, conn_refl h1] at hj; cases hj), fun j => ?_, fun Q hQ j v hj hv => ?_, fun j hj => (by cases hj), by simp, by simp⟩
    · by_cases q : j = x.one
      · subst q
        simp [conn_refl h1]
      · simp only [List.not_mem_nil, false_or, List.mem_singleton, if_neg q]
        constructor
        · exact fun z => absurd z q
        · rintro ⟨a, b⟩
          exact absurd (hf j a) b
    · by_cases q : j = x.one
      · rw [if_pos q] at hv
        cases hv
        rw [q]
        omega
      · rw [if_neg q, hf j hj] at hv
        cases hv
  obtain ⟨F, pp, l, a, b, c, rfl, hI, hk⟩ := hI
  refine ⟨!l.isEmpty, eb_is (eb_test (ef_neD (El.er (el_var rfl)) (El.er (En.el (en_lst ea_nil (by simp)))) ((sh_encL (k := 1) l).ok (by omega)) ((sh_nil (k := 1)).ok (by omega)))) (by rw [eqv_nil, List.isEmpty_map]), fun hb => ?_, fun hb => ?_⟩
  · have hne : l ≠ [] := fun z => by rw [z] at hb; cases hb
    obtain ⟨l', h, rfl⟩ : ∃ l' h, l = l' ++ [h] := ⟨l.dropLast, l.getLast hne, (List.dropLast_concat_getLast hne).symm⟩
    rw [List.map_append]
    have hh := (hI.found h).mp (.inr (by simp))
    have hhn := (conn_lt hh.1).2
    have nd' : (h :: (pp ++ l')).Nodup := by
      refine (List.Perm.nodup_iff ?_).mp hI.nd
      rw [← List.append_assoc]
      exact List.perm_append_singleton _ _
    refine sd_seq (sd_pop (k := 4) (m := 5) (d := iN h) rfl (by decide) ?_)
    refine sd_forL (ds := (nrow x.g h).map iN) (ef_ixL (Ef.el (ef_var rfl)) (ef_var rfl) (encNear_at hhn)) (fun q r => ∃ F l b c, r = [.fz (encNear x.g), .fz (encS x.st), .fz (iN x.one), .pm (fD x.g.n F), .mu (l.map iN), .fz (iN h), b, c] ∧ HJ x F pp l h q) ⟨F, l', _, _, rfl, hI.out, fun j => ?_, hI.pot, hI.done, fun k hk => by simp at hk, nd', hI.one⟩ (fun q y r hq hJ => ?_) (fun r hJ => ?_)
    · rw [← hI.found j, List.mem_append, List.mem_singleton]
      constructor
      · rintro (z | z | z)
        · exact .inl z
        · exact .inr (.inr z)
        · exact .inr (.inl z)
      · rintro (z | z | z)
        · exact .inl z
        · exact .inr (.inr z)
        · exact .inr (.inl z)
    · obtain ⟨F, l, b, c, rfl, hJ⟩ := hJ
      obtain ⟨y, hy, rfl⟩ := iN_mem hq
      have hy2 := nrow_mem.mp (List.mem_of_getElem? hy)
      have hF := (hJ.found h).mp (.inr (.inl rfl))
      obtain ⟨vh, ev⟩ := Option.ne_none_iff_exists'.mp hF.2
      have hyc : conn x.g x.one y = true := conn_trans hh.1 (conn_nbr ok hy2.2)
      have ath : atI (fD x.g.n F) (h : Int) = some (.int vh) := by rw [fD_at hhn, ev]; rfl
      have aty : atI (fD x.g.n F) (y : Int) = some (oD (F y)) := fD_at hy2.1
      refine sd_seq (sd_set (d := .int (vh + stp x.st h y)) (ef_I0 (ef_ixL (el_varP rfl) (ef_var rfl) ath) (ef_call (d := .int (stp x.st h y)) (ea_cons (ef_var rfl) (ea_cons (ef_var rfl) (ea_cons (ef_var rfl) ea_nil))) ⟨x.st, h, y, rfl, by rw [so.len]; exact hhn, by rw [so.len]; exact hy2.1, rfl⟩)) ?_)
      cases ey : F y with
      | none =>
        rw [ey] at aty
        refine sd_if (b := true) (eb_is (eb_test (ef_isN (Ef.er (ef_ixL (el_varP rfl) (ef_var rfl) aty)))) rfl) (fun _ => ?_) (fun h => by cases h)
        have ynl : ¬ (y ∈ pp ∨ y = h ∨ y ∈ l) := fun z => ((hJ.found y).mp z).2 ey
        have yh : y ≠ h := fun z => ynl (.inr (.inl z))
        have ndl : l.Nodup := (List.nodup_append.mp (List.nodup_cons.mp hJ.nd).2).2.1
        have len : l.length ≤ x.g.n := sub ndl fun j hj => (conn_lt ((hJ.found j).mp (.inr (.inr hj))).1).2
        refine sd_seq (sd_itemP (k := 3) (m := y) rfl (d := .int (vh + stp x.st h y)) (ef_var rfl) (ef_var rfl) (by rw [fD_len]; exact ixN_nat hy2.1) ?_)
        refine sd_app (k := 4) rfl (ef_var rfl) (by rw [List.length_map]; omega) ⟨fun j => if j = y then some (vh + stp x.st h y) else F j, l ++ [y], .fz (iN y), .fz (.int (vh + stp x.st h y)), ?_, fun j hj => ?_, fun j => ?_, fun Q hQ j v hj hv => ?_, fun j hj k nb => ?_, fun k hk => ?_, ?_, ?_⟩
        · show [_, _, _, Slo.pm ((fD x.g.n F).set y (oD (some (vh + stp x.st h y)))), Slo.mu _, _, _, _] = _
          rw [fD_set hy2.1, List.map_append]
          rfl
        · rw [if_neg (fun z => by rw [z, hyc] at hj; cases hj)]
          exact hJ.out j hj
        · by_cases z : j = y
          · subst z
            simp [hyc]
          · rw [if_neg z, ← hJ.found j, List.mem_append, List.mem_singleton]
            simp [z]
        · by_cases z : j = y
          · rw [if_pos z] at hv
            cases hv
            have := hJ.pot Q hQ h vh hh.1 ev
            have := hQ h y hh.1 hy2.2
            rw [z]
            omega
          · rw [if_neg z] at hv
            exact hJ.pot Q hQ j v hj hv
        · obtain ⟨v, z1, z2⟩ := hJ.done j hj k nb
          refine ⟨v, ?_, ?_⟩
          · rw [if_neg (fun z => by rw [z, ey] at z1; cases z1)]; exact z1
          · rw [if_neg (fun z => by rw [z, ey] at z2; cases z2)]; exact z2
        · rw [take_more hy, List.mem_append, List.mem_singleton] at hk
          rcases hk with hk | hk
          · obtain ⟨v, z1, z2⟩ := hJ.half k hk
            refine ⟨v, ?_, ?_⟩
            · rw [if_neg (Ne.symm yh)]; exact z1
            · rw [if_neg (fun z => by rw [z, ey] at z2; cases z2)]; exact z2
          · subst hk
            exact ⟨vh, by rw [if_neg (Ne.symm yh)]; exact ev, by rw [if_pos rfl]⟩
        · have p : (h :: (pp ++ (l ++ [y]))).Perm (y :: h :: (pp ++ l)) := by
            rw [← List.append_assoc, ← List.cons_append]
            exact List.perm_append_singleton _ _
          refine (List.Perm.nodup_iff p).mpr (List.nodup_cons.mpr ⟨fun z => ynl ?_, hJ.nd⟩)
          rcases List.mem_cons.mp z with z | z
          · exact .inr (.inl z)
          · exact (List.mem_append.mp z).elim .inl fun z => .inr (.inr z)
        · by_cases z : x.one = y
          · rw [if_pos z]; simp
          · rw [if_neg z]; exact hJ.one
      | some vy =>
        rw [ey] at aty
        refine sd_if (b := false) (eb_is (eb_test (ef_isN (Ef.er (ef_ixL (el_varP rfl) (ef_var rfl) aty)))) rfl) (fun h => by cases h) (fun _ => ?_)
        refine sd_if (b := !decide (vy = vh + stp x.st h y)) (eb_test (ef_neI (ef_ixL (el_varP rfl) (ef_var rfl) aty) (ef_var rfl))) (fun hb => ?_) (fun hb => sd_next ?_)
        · refine sd_ret ef_bl ⟨_, rfl, .inr ⟨rfl, ?_⟩⟩
          rintro ⟨Q, hQ⟩
          have z1 := hJ.pot Q hQ h vh hh.1 ev
          have z2 := hJ.pot Q hQ y vy hyc ey
          have z3 := hQ h y hh.1 hy2.2
          have : ¬ vy = vh + stp x.st h y := by simpa using hb
          omega
        · have e : vy = vh + stp x.st h y := by simpa using hb
          refine ⟨F, l, .fz (iN y), .fz (.int (vh + stp x.st h y)), rfl, hJ.out, hJ.found, hJ.pot, hJ.done, fun k hk => ?_, hJ.nd, hJ.one⟩
          rw [take_more hy, List.mem_append, List.mem_singleton] at hk
          rcases hk with hk | hk
          · exact hJ.half k hk
          · subst hk
            exact ⟨vh, ev, by rw [ey, e]⟩
    · obtain ⟨F, l, b, c, rfl, hJ⟩ := hJ
      have len : (h :: pp).length ≤ x.g.n := sub ((List.nodup_append.mp (show ((h :: pp) ++ l).Nodup from hJ.nd)).1) fun j hj => by
        rcases List.mem_cons.mp hj with z | z
        · rw [z]; exact hhn
        · exact (conn_lt ((hJ.found j).mp (.inl z)).1).2
      rw [List.length_cons] at len
      refine ⟨k - 1, by omega, F, h :: pp, l, .fz (iN h), b, c, rfl, ⟨hJ.out, fun j => ?_, hJ.pot, fun j hj k nb => ?_, hJ.nd, hJ.one⟩, by rw [List.length_cons]; omega⟩
      · rw [← hJ.found j, List.mem_cons]
        constructor
        · rintro ((z | z) | z)
          · exact .inr (.inl z)
          · exact .inl z
          · exact .inr (.inr z)
        · rintro (z | z | z)
          · exact .inl (.inr z)
          · exact .inl (.inl z)
          · exact .inr z
      · rcases List.mem_cons.mp hj with z | z
        · subst z
          have hh2 := hJ.half k
          rw [List.length_map, List.take_length] at hh2
          exact hh2 (nrow_mem.mpr ⟨(nbr_lt ok nb).2.1, nb⟩)
        · exact hJ.done j z k nb
  · have hl : l = [] := by
      cases l with
      | nil => rfl
      | cons _ _ => cases hb
    subst hl
    have all : ∀ t j, Rc x.g t x.one j → F j ≠ none := fun t => by
      induction t with
      | zero => exact fun j w => by rw [← w.2]; exact hI.one
      | succ t ih =>
        rintro j ⟨k, w, _, e⟩
        rcases e with e | e
        · rw [← e]; exact ih k w
        · have kp := (hI.found k).mpr ⟨conn_iff.mpr ⟨t, w⟩, ih k w⟩
          rcases kp with kp | kp
          · obtain ⟨v, _, z⟩ := hI.done k kp j e
            rw [z]; simp
          · cases kp
    have all' : ∀ j, conn x.g x.one j = true → ∃ v, F j = some v := fun j hj => by
      obtain ⟨t, w⟩ := conn_iff.mp hj
      exact Option.ne_none_iff_exists'.mp (all t j w)
    refine sd_ret ef_bl ⟨_, rfl, .inl ⟨rfl, fun j => (F j).getD 0, fun i j hi nb => ?_, ?_⟩⟩
    · obtain ⟨v, e⟩ := all' i hi
      have ip := (hI.found i).mpr ⟨hi, by rw [e]; simp⟩
      rcases ip with ip | ip
      · obtain ⟨v', z1, z2⟩ := hI.done i ip j nb
        show (F j).getD 0 = (F i).getD 0 + _
        rw [z1, z2]
        rfl
      · cases ip
    · refine fD_congr fun j hj => ?_
      cases q : conn x.g x.one j with
      | true =>
        obtain ⟨v, e⟩ := all' j q
        rw [if_pos rfl]
        show F j = some ((F j).getD 0)
        rw [e]
        rfl
      | false =>
        rw [if_neg Bool.false_ne_true]
        exact hI.out j q
def encH (n : Nat) (h : Nat → Int) : PyData := .list ((List.range n).map fun j => .int (h j))
theorem part_head {g : Web} {r : Nat} (hr : r < g.n) (h : isRoot g r = true) : (partOf g r)[0]? = some r := by
  unfold partOf
  obtain ⟨k, hk⟩ : ∃ k, g.n = r + (k + 1) := ⟨g.n - r - 1, by omega⟩
  rw [hk, List.range_add, List.filter_append, List.range_succ_eq_map, List.map_cons, Nat.add_zero, List.filter_cons, conn_refl hr, if_pos rfl]
  rw [show (List.range r).filter (conn g r) = [] from ?_]
  · rfl
  · rw [List.filter_eq_nil_iff]
    intro j hj
    have := root_iff.mp h j (List.mem_range.mp hj)
    intro z
    rw [conn_symm z] at this
    cases this
theorem nodup_at {α : Type} {l : List α} {m : Nat} {x : α} (nd : l.Nodup) (h : l[m]? = some x) : x ∉ l.take m := by
  intro z
  have : (l.take (m + 1)).Nodup := nd.sublist (List.take_sublist _ _)
  rw [take_more h, List.nodup_append] at this
  exact this.2.2 x z x (by simp) rfl
theorem roots_nodup (g : Web) : (roots g).Nodup := List.nodup_range.filter _
theorem part_nodup (g : Web) (i : Nat) : (partOf g i).Nodup := List.nodup_range.filter _
theorem max_ex (P : Nat → Int) {l : List Nat} (h : l ≠ []) : ∃ k, k ∈ l ∧ ∀ j, j ∈ l → P j ≤ P k := by
  induction l with
  | nil => exact absurd rfl h
  | cons x l ih =>
    by_cases q : l = []
    · subst q
      exact ⟨x, by simp, fun j hj => by simp at hj; rw [hj]; exact Int.le_refl _⟩
    · obtain ⟨k, hk, hm⟩ := ih q
      by_cases q2 : P k ≤ P x
      · exact ⟨x, by simp, fun j hj => by
          rcases List.mem_cons.mp hj with z | z
          · rw [z]; exact Int.le_refl _
          · exact Int.le_trans (hm j z) q2⟩
      · exact ⟨k, List.mem_cons_of_mem _ hk, fun j hj => by
          rcases List.mem_cons.mp hj with z | z
          · rw [z]; omega
          · exact hm j z⟩
noncomputable def hitF (g : Web) (m : Nat) (h : Nat → Int) (j : Nat) : Option Int := if ((roots g).take m).any (fun r => conn g r j) then some (h j) else none
def preHeights (ds : List PyData) (d : PyData) : Prop := ∃ (g : Web) (st : List Int), ds = [encW g, encS st] ∧ WOk g ∧ SOk g.n st ∧ ((∃ h, IsH g st h ∧ d = encH g.n h) ∨ ((¬ ∃ P, Pot g st P) ∧ d = .none))
theorem sc_heights_in : FnScope ["web", "state", "near", "found", "part", "most", "one"] ["web", "state"] (defScope (top 28)) := ⟨rfl, rfl, rfl, by decide +kernel, rfl, by decide +kernel, by decide +kernel⟩
/-- heights_in: 0 web, 1 state, 2 near, 3 found, 4 part, 5 most, 6 one -/
theorem c_heights_in (T : Txt K mg) : Cl P w K mg base 3 "heights_in" (SpP K preHeights) := by
  refine cl_pure T.f_heights_in sc_heights_in (fun _ _ _ _ _ _ us hl => match us, hl with | [_, _], _ => rfl) (by rintro _ _ ⟨_, _, rfl, _⟩; rfl) (fun f cdv A outer s H E hr => ⟨_, (pss_cons (ps_asg (pe_tup (pa_cons (pe_cl (c_near_lists T) hr (by decide) rfl (pa_cons (pv 0) pa_nil)) (pa_cons (pe_op op_rep (pe_lst (pa_cons pe_non pa_nil)) (pe_ix (k_ixT K rfl) (pv 0) pe_int (fun _ _ => rfl))) pa_nil))) (kpg_tup K rfl rfl (pgs_cons (pg_name (i := 2) sc_heights_in.nd rfl (Or.inl rfl)) (pgs_cons (pg_name (i := 3) sc_heights_in.nd rfl (Or.inr rfl)) pgs_nil))))
      (pss_cons (ps_for PassesOwn.never rfl (kpi_list K rfl (pe_cl (c_parts_of T) hr (by decide) rfl (pa_cons (pv 0) pa_nil))) (pg_name (i := 4) sc_heights_in.nd rfl (Or.inl rfl)) (pss_cons (ps_if (pt_not (pt_val (pe_cl (c_heights_from T) hr (by decide) rfl (pa_cons (pv 2) (pa_cons (pv 1) (pa_cons (pe_ix (k_ixT K rfl) (pv 4) pe_int (fun _ _ => rfl)) (pa_cons (pv 3) pa_nil))))))) (pss_one (ps_ret pe_non)) pss_nil)
      (pss_cons (ps_set (i := 5) sc_heights_in.nd rfl (Or.inl rfl) (pe_callB (k_max K rfl rfl) rfl T.n_max bb_max (pa_cons (pe_lc (own := [("one", 6)]) rfl sc_heights_in.nd (kpi_tup K rfl (pv 4)) (blkOk_by (by kernel_rfl)) (fun _ _ _ _ _ => (pg_name (i := 6) sc_heights_in.nd rfl (Or.inl rfl))) (fun _ _ _ _ _ => pts_nil) (fun _ _ _ _ _ => (pe_ix (k_ixL K rfl) (pv 3) (pv 6) (fun _ _ => rfl)))) pa_nil)))
      (pss_one (ps_for PassesOwn.never rfl (kpi_tup K rfl (pv 4)) (pg_name (i := 6) sc_heights_in.nd rfl (Or.inl rfl)) (pss_one (ps_asg (pe_op op_sub (pe_ix (k_ixL K rfl) (pv 3) (pv 6) (fun _ _ => rfl)) (pv 5)) (pg_sub (pv 3) (pv 6) set_list))))))))
      (pss_one (ps_ret (pv 3))))), fun ds d h => ?_⟩)
  obtain ⟨g, st, rfl, ok, so, hd⟩ := h
  have n1 := ok.n1
  have n6 := ok.n6
  have no : ∀ {r : Nat}, r < g.n → (¬ ∃ P, PotAt g st r P) → d = .none := fun {r} hr hn => by
    rcases hd with ⟨h, hh, _⟩ | ⟨_, e⟩
    · exact absurd ⟨h, (hh.at hr).1⟩ hn
    · exact e
  refine sd_seq (sd_tup2 (k1 := .fz (encNear g)) (k2 := .mu (fD g.n fun _ => none)) (ek_fz (ef_call (ea_cons (ef_var rfl) ea_nil) ⟨g, rfl, ok, rfl⟩) (ek_mu (en_is (en_rep (i := g.n) (ea_cons ef_non ea_nil) (ef_ixT (ef_var rfl) ef_int (encW0 g)) (by simp) (by omega)) (by rw [toNat_cast, flat_one, rep_range]; rfl)) ek_nil)) ?_)
  refine sd_seq (sd_forL (ds := (partsL g).map encP) (ef_call (ea_cons (ef_var rfl) ea_nil) ⟨g, rfl, ok, rfl⟩) (fun m r => ∃ h a b c, r = [.fz (encW g), .fz (encS st), .fz (encNear g), .mu (fD g.n (hitF g m h)), a, b, c] ∧ ∀ r, r ∈ (roots g).take m → NormAt g st r h) ⟨fun _ => 0, .no, .no, .no, rfl, fun r hr => by simp at hr⟩ (fun m x r hm hI => ?_) (fun r hI => ?_))
  · obtain ⟨h, a, b, c, rfl, hN⟩ := hI
    unfold partsL at hm
    rw [List.getElem?_map, List.getElem?_map] at hm
    cases er : (roots g)[m]? with
    | none => rw [er] at hm; cases hm
    | some r0 =>
    rw [er] at hm
    cases hm
    have rm := List.mem_filter.mp (List.mem_of_getElem? er)
    have hr0 := List.mem_range.mp rm.1
    have fresh : ∀ j, conn g r0 j = true → hitF g m h j = none := fun j hj => by
      unfold hitF
      refine if_neg fun z => ?_
      obtain ⟨r, z1, z2⟩ := List.any_eq_true.mp z
      have z3 := (List.mem_filter.mp (List.mem_of_mem_take z1)).2
      have := parts_disj z3 rm.2 (conn_trans z2 (conn_symm hj))
      exact nodup_at (roots_nodup g) er (this ▸ z1)
    have at0 : atI ((partOf g r0).map iN) 0 = some (iN r0) := atN (k := 0) (by rw [List.getElem?_map, part_head hr0 rm.2]; rfl)
    refine sd_seq (sd_ifV (evb_not (evb_B (ev_callM ⟨g, st, r0, hitF g m h⟩ (k := 3) (m := 3) rfl rfl (egm_fz (ef_var rfl) (egm_fz (ef_var rfl) (egm_fz (ef_ixT (ef_var rfl) ef_int at0) (egm_pm rfl egm_nil)))) rfl (fun i hi => ?_) ⟨rfl, ok, so, hr0, fresh⟩ fun d' es hp => ?_))))
    · match i, hi with
      | 3, _ => rfl
      | 0, hi => cases hi
      | 1, hi => cases hi
      | 2, hi => cases hi
      | i + 4, hi => cases hi
    rcases hp with ⟨rfl, Q, hQ, rfl⟩ | ⟨rfl, hn⟩
    · refine ⟨true, rfl, ?_⟩
      rw [if_neg (by simp)]
      refine sd_next ?_
      show Sd K _ [.fz (encW g), .fz (encS st), .fz (encNear g), .mu (fD g.n fun j => if conn g r0 j then some (Q j) else hitF g m h j), .fz (encP (partOf g r0)), b, c] _
      have hne : partOf g r0 ≠ [] := fun z => by have := part_head hr0 rm.2; rw [z] at this; cases this
      obtain ⟨k, hk, hmax⟩ := max_ex Q hne
      have hk' := part_mem.mp hk
      have atQ : ∀ j, j ∈ partOf g r0 → atI (fD g.n fun j => if conn g r0 j then some (Q j) else hitF g m h j) (j : Int) = some (.int (Q j)) := fun j hj => by
        rw [fD_at (conn_lt (part_mem.mp hj)).2, if_pos (part_mem.mp hj)]
        rfl
      have pl := part_len g r0
      refine sd_seq (sd_set (d := .int (Q k)) (ef_max (ns := (partOf g r0).map Q) (En.el (en_is (en_lcT (partOf g r0) iN (fun _ => true) (fun j => .int (Q j)) (ef_var rfl) (by omega) (fun m hm => eb_yes) (fun j hj _ => (ef_ixL (el_var rfl) (ef_var rfl) (atQ j hj)))) (by rw [filt_yes, List.map_map]; rfl))) ?_ ?_) ?_)
      · rw [List.length_map]
        exact List.length_pos_of_mem hk
      · intro y hy hy2
        obtain ⟨j, hj, rfl⟩ := List.mem_map.mp hy
        have a1 := hmax j hj
        have a2 := hy2 (Q k) (List.mem_map.mpr ⟨k, hk, rfl⟩)
        omega
      refine sd_forT (ds := (partOf g r0).map iN) (ef_var rfl) (fun q r => ∃ c, r = [.fz (encW g), .fz (encS st), .fz (encNear g), .mu (fD g.n fun j => if conn g r0 j then some (if j ∈ (partOf g r0).take q then Q j - Q k else Q j) else hitF g m h j), .fz (encP (partOf g r0)), .fz (.int (Q k)), c]) ⟨c, ?_⟩ (fun q x r hq hI => ?_) (fun r hI => ?_)
      · show [_, _, _, Slo.mu _, _, _, _] = _
        rw [fD_congr (f' := fun j => if conn g r0 j then some (if j ∈ (partOf g r0).take 0 then Q j - Q k else Q j) else hitF g m h j) fun j hj => by simp]
      · obtain ⟨c, rfl⟩ := hI
        obtain ⟨j, ej, rfl⟩ := iN_mem hq
        have hj := List.mem_of_getElem? ej
        have cj := part_mem.mp hj
        have hjn := (conn_lt cj).2
        have atj : atI (fD g.n fun j => if conn g r0 j then some (if j ∈ (partOf g r0).take q then Q j - Q k else Q j) else hitF g m h j) (j : Int) = some (.int (Q j)) := by
          rw [fD_at hjn, if_pos cj, if_neg (nodup_at (part_nodup g r0) ej)]
          rfl
        refine sd_item (k := 3) rfl (d := .int (Q j - Q k)) (ef_I0 (ef_ixL (el_var rfl) (ef_var rfl) atj) (ef_var rfl)) (ef_var rfl) (m := j) (by rw [fD_len]; exact ixN_nat hjn) ⟨.fz (iN j), ?_⟩
        show [_, _, _, Slo.mu ((fD g.n _).set j (oD (some (Q j - Q k)))), _, _, _] = _
        rw [fD_set hjn]
        rw [fD_congr (f' := fun j => if conn g r0 j then some (if j ∈ (partOf g r0).take (q + 1) then Q j - Q k else Q j) else hitF g m h j) fun i hi => ?_]
        rw [take_more ej]
        by_cases z : i = j
        · subst z
          rw [if_pos rfl, if_pos cj, if_pos (by simp)]
        · rw [if_neg z]
          have : (i ∈ (partOf g r0).take q ++ [j]) ↔ i ∈ (partOf g r0).take q := by simp [z]
          exact ifc Iff.rfl (congrArg some (ifc this.symm rfl rfl)) rfl
      · obtain ⟨c, rfl⟩ := hI
        refine ⟨fun j => if conn g r0 j then Q j - Q k else h j, .fz (encP (partOf g r0)), .fz (.int (Q k)), c, ?_, fun r hr => ?_⟩
        · rw [List.length_map, List.take_length]
          rw [fD_congr (f' := hitF g (m + 1) fun j => if conn g r0 j then Q j - Q k else h j) fun i hi => ?_]
          unfold hitF
          rw [take_more er, List.any_append]
          cases z : conn g r0 i with
          | true =>
            rw [if_pos rfl, if_pos (part_mem.mpr z), if_pos (by simp [z])]
            show some (Q i - Q k) = some (if conn g r0 i = true then Q i - Q k else h i)
            rw [if_pos z]
          | false =>
            rw [if_neg Bool.false_ne_true]
            simp [z]
        · rw [take_more er, List.mem_append, List.mem_singleton] at hr
          rcases hr with hr | hr
          · have hN := hN r hr
            have off : ∀ j, conn g r j = true → conn g r0 j = false := fun j hj => by
              cases z : conn g r0 j with
              | false => rfl
              | true =>
                have := fresh j z
                unfold hitF at this
                rw [if_pos (List.any_eq_true.mpr ⟨r, hr, hj⟩)] at this
                cases this
            refine ⟨fun i j ci nb => ?_, fun j cj => ?_, ?_⟩
            · have cj := conn_trans ci (conn_nbr ok nb)
              simp only [off i ci, off j cj, Bool.false_eq_true, if_false]
              exact hN.1 i j ci nb
            · simp only [off j cj, Bool.false_eq_true, if_false]
              exact hN.2.1 j cj
            · obtain ⟨j, cj, ej⟩ := hN.2.2
              refine ⟨j, cj, ?_⟩
              simp only [off j cj, Bool.false_eq_true, if_false]
              exact ej
          · subst hr
            refine ⟨fun i j ci nb => ?_, fun j cj => ?_, k, hk', ?_⟩
            · have cj := conn_trans ci (conn_nbr ok nb)
              have := hQ i j ci nb
              simp only [ci, cj, if_true]
              have : Q j = Q i + stp st i j := this
              omega
            · have := hmax j (part_mem.mpr cj)
              simp only [cj, if_true]
              omega
            · simp only [hk', if_true]
              omega
    · refine ⟨false, rfl, ?_⟩
      rw [if_pos (show (!false) = true from rfl)]
      exact sd_ret ef_non (no hr0 hn).symm
  · obtain ⟨h, a, b, c, rfl, hN⟩ := hI
    have full : (roots g).take ((partsL g).map encP).length = roots g := by
      unfold partsL
      rw [List.length_map, List.length_map, List.take_length]
    rw [full] at hN
    have rt : ∀ i, i < g.n → ∃ r, NormAt g st r h ∧ conn g r i = true ∧ r ∈ roots g := fun i hi => by
      obtain ⟨r, h1, h2, h3⟩ := root_ex hi
      have : r ∈ roots g := List.mem_filter.mpr ⟨List.mem_range.mpr (by omega), h2⟩
      exact ⟨r, hN r this, h3, this⟩
    have H : IsH g st h := by
      refine ⟨fun i j nb => ?_, fun i hi => ?_, fun i hi => ?_⟩
      · obtain ⟨r, a, b, _⟩ := rt i (nbr_lt ok nb).1
        exact a.1 i j b nb
      · obtain ⟨r, a, b, _⟩ := rt i hi
        exact a.2.1 i b
      · obtain ⟨r, a, b, _⟩ := rt i hi
        obtain ⟨j, cj, ej⟩ := a.2.2
        exact ⟨j, conn_trans (conn_symm b) cj, ej⟩
    refine sd_freeze (k := 3) rfl (sd_ret (ef_var rfl) ?_)
    rcases hd with ⟨h', hh, rfl⟩ | ⟨hn, _⟩
    · show PyData.list _ = encH g.n h'
      unfold encH fD hitF
      rw [full]
      congr 1
      refine List.map_congr_left fun j hj => ?_
      have hj := List.mem_range.mp hj
      obtain ⟨r, _, b, c⟩ := rt j hj
      rw [if_pos (List.any_eq_true.mpr ⟨r, c, b⟩), IsH.inj ok H hh hj]
      rfl
    · exact absurd ⟨h, H.gap⟩ hn
def preTickBy (ds : List PyData) (d : PyData) : Prop := ∃ (g : Web) (h : Nat → Int) (t : Nat), ds = [.list ((List.range g.n).map (encWays g)), encH g.n h] ∧ g.n ≤ 6 ∧ IsTick g h t ∧ d = iN t
noncomputable def topsL (g : Web) (h : Nat → Int) : List Nat := (List.range g.n).filter fun k => decide (h k = 0)
theorem sc_tick_by : FnScope ["ways", "found", "tops", "most", "row", "k"] ["ways", "found"] (defScope (top 29)) := ⟨rfl, rfl, rfl, by decide +kernel, rfl, by decide +kernel, by decide +kernel⟩
/-- tick_by: 0 ways, 1 found, 2 tops, 3 most, 4 row, 5 k -/
theorem c_tick_by (T : Txt K mg) : Cl P w K mg base 1 "tick_by" (SpP K preTickBy) := by
  refine cl_pure T.f_tick_by sc_tick_by (fun _ _ _ _ _ _ us hl => match us, hl with | [_, _], _ => rfl) (by rintro _ _ ⟨_, _, _, rfl, _⟩; rfl) (fun f cdv A outer s H E hr => ⟨_, (pss_cons (ps_par (i := 2) (j := 3) rfl sc_tick_by.nd rfl rfl (by decide) rfl rfl (pa_cons (pe_lc (own := [("k", 5)]) rfl sc_tick_by.nd (pi_range1 rfl T.n_range (pa_cons (pe_callB (k_len K rfl) rfl T.n_len bb_len (pa_cons (pv 1) pa_nil)) pa_nil)) (blkOk_by (by kernel_rfl)) (fun _ _ _ _ _ => (pg_name (i := 5) sc_tick_by.nd rfl (Or.inl rfl))) (fun _ _ _ _ _ => pts_one (pt_cmpR op_eq (pe_ix (k_ixL K rfl) (pv 1) (pv 5) (fun _ _ => rfl)) pe_int (nomark _))) (fun _ _ _ _ _ => (pv 5))) (pa_cons pe_int pa_nil)) (by rfl))
      (pss_cons (ps_for PassesOwn.never rfl (kpi_list K rfl (pv 0)) (pg_name (i := 4) sc_tick_by.nd rfl (Or.inr rfl)) (pss_one (ps_set (i := 3) sc_tick_by.nd rfl (Or.inl rfl) (pe_callB (call_max2 rfl) rfl T.n_max bb_max (pa_cons (pv 3) (pa_cons (pe_callB (k_min K rfl rfl) rfl T.n_min bb_min (pa_cons (pe_lc (own := [("k", 5)]) rfl sc_tick_by.nd (kpi_list K rfl (pv 2)) (blkOk_by (by kernel_rfl)) (fun _ _ _ _ _ => (pg_name (i := 5) sc_tick_by.nd rfl (Or.inl rfl))) (fun _ _ _ _ _ => pts_one (pt_cmpR op_notN (pe_ix (k_ixL K rfl) (pv 4) (pv 5) (fun _ _ => rfl)) pe_non (nomark _))) (fun _ _ _ _ _ => (pe_ix (k_ixL K rfl) (pv 4) (pv 5) (fun _ _ => rfl)))) pa_nil)) pa_nil))))))
      (pss_one (ps_ret (pv 3))))), fun ds d h => ?_⟩)
  obtain ⟨g, h, t, rfl, n6, T, rfl⟩ := h
  have hl : (((List.range g.n).map fun j => PyData.int (h j)).length : Int) = g.n := by rw [List.length_map, List.length_range]
  refine sd_seq (sd_par2 (k1 := .fz (.list ((topsL g h).map iN))) (k2 := .fz (iN 0)) (ek_fz (ef_is (En.ef (en_lcR (n := g.n) (fun k => decide (h k = 0)) iN (ea_cons (ef_is (ef_lenL (Ef.el (ef_var rfl))) (congrArg PyData.int hl)) ea_nil) (by omega) (fun m hm => (eb_test (ef_eqI (ef_ixL (Ef.el (ef_var rfl)) (ef_var rfl) (map_at (by omega))) ef_int))) (fun m hm _ => (ef_var rfl)))) (by rw [toNat_cast]; rfl)) (ek_fz ef_int ek_nil)) ?_)
  have tl : (topsL g h).length ≤ 6 := by
    have := List.length_filter_le (fun k => decide (h k = 0)) (List.range g.n)
    rw [List.length_range] at this
    exact Nat.le_trans this n6
  refine sd_seq (sd_forL (ef_var rfl) (fun m r => ∃ M a b, r = [.fz (.list ((List.range g.n).map (encWays g))), .fz (encH g.n h), .fz (.list ((topsL g h).map iN)), .fz (iN M), a, b] ∧ (∀ i, i < m → ∃ k, NearTop g h i k ∧ k ≤ M) ∧ (M = 0 ∨ ∃ i, i < m ∧ NearTop g h i M)) ⟨0, .no, .no, rfl, fun i hi => absurd hi (Nat.not_lt_zero i), .inl rfl⟩ (fun m x r hm hI => ?_) (fun r hI => ?_))
  · obtain ⟨M, a, b, rfl, hM, hO⟩ := hI
    rw [List.getElem?_map] at hm
    have hmn : m < g.n := by
      by_cases q : m < g.n
      · exact q
      · rw [List.getElem?_eq_none (by rw [List.length_range]; omega)] at hm; cases hm
    rw [List.getElem?_range hmn] at hm
    cases hm
    obtain ⟨k, hk, _⟩ := T.all m hmn
    have at1 : ∀ j, j ∈ topsL g h → atI ((List.range g.n).map fun j => oN (dst g m j)) (j : Int) = some (oN (dst g m j)) := fun j hj => map_at (List.mem_range.mp (List.mem_filter.mp hj).1)
    let L : List Nat := (topsL g h).filter fun j => (dst g m j).isSome
    have hL : ∀ j, j ∈ L ↔ h j = 0 ∧ ∃ d, dst g m j = some d := fun j => by
      show j ∈ (topsL g h).filter _ ↔ _
      unfold topsL
      rw [List.mem_filter, List.mem_filter, List.mem_range, decide_eq_true_iff, Option.isSome_iff_exists]
      constructor
      · exact fun z => ⟨z.1.2, z.2⟩
      · rintro ⟨a, d, e⟩
        exact ⟨⟨(dst_some.mp e).1.lt.2, a⟩, d, e⟩
    refine sd_set (d := iN (max M k)) (ef_is (ef_max2 (ef_var rfl) (ef_min (ns := L.map fun j => (((dst g m j).getD 0 : Nat) : Int)) (m := k) (En.el (en_is (en_lcL (topsL g h) iN (fun j => (dst g m j).isSome) (fun j => oN (dst g m j)) (Ef.el (ef_var rfl)) (by omega) (fun j hj => (eb_is (eb_test (ef_notN (Ef.er (ef_ixL (Ef.el (ef_var rfl)) (ef_var rfl) (at1 j hj))))) ?_)) (fun j hj _ => (ef_ixL (Ef.el (ef_var rfl)) (ef_var rfl) (at1 j hj)))) ?_)) ?_ ?_)) ?_) ⟨max M k, _, _, rfl, fun i hi => ?_, ?_⟩
    · rw [isN_oN]
      cases dst g m j <;> rfl
    · rw [List.map_map]
      refine List.map_congr_left fun j hj => ?_
      obtain ⟨_, d, e⟩ := (hL j).mp hj
      show oN (dst g m j) = PyData.int (((dst g m j).getD 0 : Nat) : Int)
      rw [e]
      rfl
    · obtain ⟨j, e0, e1⟩ := hk.1
      rw [List.length_map]
      exact List.length_pos_of_mem ((hL j).mpr ⟨e0, k, e1⟩)
    · intro y hy hy2
      obtain ⟨j, hj, rfl⟩ := List.mem_map.mp hy
      obtain ⟨e0, d, e1⟩ := (hL j).mp hj
      have z1 := hk.2 j d e0 e1
      obtain ⟨i, f0, f1⟩ := hk.1
      have z2 := hy2 _ (List.mem_map.mpr ⟨i, (hL i).mpr ⟨f0, k, f1⟩, rfl⟩)
      rw [f1] at z2
      rw [e1] at z2 ⊢
      simp only [Option.getD_some] at z2 ⊢
      omega
    · unfold iN
      congr 1
      split <;> omega
    · by_cases q : i = m
      · exact ⟨k, q ▸ hk, by omega⟩
      · obtain ⟨k', a, b⟩ := hM i (by omega)
        exact ⟨k', a, by omega⟩
    · by_cases q : M ≤ k
      · rw [Nat.max_eq_right q]
        exact .inr ⟨m, by omega, hk⟩
      · rw [Nat.max_eq_left (by omega)]
        rcases hO with z | ⟨i, hi, z⟩
        · exact .inl z
        · exact .inr ⟨i, by omega, z⟩
  · obtain ⟨M, a, b, rfl, hM, hO⟩ := hI
    rw [List.length_map, List.length_range] at hM hO
    refine sd_ret (ef_var rfl) ?_
    have : M = t := by
      refine Nat.le_antisymm ?_ ?_
      · rcases hO with z | ⟨i, hi, z⟩
        · omega
        · obtain ⟨k, a, b⟩ := T.all i hi
          rw [z.inj a]
          exact b
      · rcases T.one with z | ⟨i, hi, z⟩
        · omega
        · obtain ⟨k, a, b⟩ := hM i hi
          rw [z.inj a]
          exact b
    rw [this]
    rfl
def preTickIn (ds : List PyData) (d : PyData) : Prop := ∃ (g : Web) (h : Nat → Int) (t : Nat), ds = [encW g, encH g.n h] ∧ WOk g ∧ IsTick g h t ∧ d = iN t
theorem sc_tick_in : FnScope ["web", "found", "near", "one"] ["web", "found"] (defScope (top 30)) := ⟨rfl, rfl, rfl, by decide +kernel, rfl, by decide +kernel, by decide +kernel⟩
/-- tick_in: 0 web, 1 found, 2 near, 3 one -/
theorem c_tick_in (T : Txt K mg) : Cl P w K mg base 2 "tick_in" (SpP K preTickIn) := by
  refine cl_pure T.f_tick_in sc_tick_in (fun _ _ _ _ _ _ us hl => match us, hl with | [_, _], _ => rfl) (by rintro _ _ ⟨_, _, _, rfl, _⟩; rfl) (fun f cdv A outer s H E hr => ⟨_, (pss_cons (ps_set (i := 2) sc_tick_in.nd rfl (Or.inr rfl) (pe_cl (c_near_lists T) hr (by decide) rfl (pa_cons (pv 0) pa_nil)))
      (pss_one (ps_ret (pe_cl (c_tick_by T) hr (by decide) rfl (pa_cons (pe_lc (own := [("one", 3)]) rfl sc_tick_in.nd (pi_range1 rfl T.n_range (pa_cons (pe_ix (k_ixT K rfl) (pv 0) pe_int (fun _ _ => rfl)) pa_nil)) (blkOk_by (by kernel_rfl)) (fun _ _ _ _ _ => (pg_name (i := 3) sc_tick_in.nd rfl (Or.inl rfl))) (fun _ _ _ _ _ => pts_nil) (fun _ _ _ _ _ => (pe_cl (c_ways_from T) hr (by decide) rfl (pa_cons (pv 2) (pa_cons (pv 3) pa_nil))))) (pa_cons (pv 1) pa_nil)))))), fun ds d h => ?_⟩)
  obtain ⟨g, h, t, rfl, ok, HT, rfl⟩ := h
  have n1 := ok.n1
  have n6 := ok.n6
  refine sd_seq (sd_set (ef_call (d := encNear g) (ea_cons (ef_var rfl) ea_nil) ⟨g, rfl, ok, rfl⟩) ?_)
  refine sd_ret (ef_call (ea_cons (En.ef (en_lcR (n := g.n) (fun _ => true) (encWays g) (ea_cons (ef_ixT (ef_var rfl) ef_int (encW0 g)) ea_nil) (by omega) (fun m hm => eb_yes) (fun m hm _ => (ef_call (ea_cons (ef_var rfl) (ea_cons (ef_var rfl) ea_nil)) ⟨g, m, rfl, ok, by omega, rfl⟩)))) (ea_cons (ef_var rfl) ea_nil)) ⟨g, h, t, ?_, n6, HT, rfl⟩) rfl
  rw [filt_yes, toNat_cast]
end
end Tm
set_option maxRecDepth 100000
set_option maxHeartbeats 4000000
/-! Shares and speeds. -/
namespace Tm
open PySem PyProof.Rows L2
section
variable {P : Program} {w : World} {K : PySem.W.Frag} {mg : Str → Option Value} {base : Heap}
def preCommon (ds : List PyData) (d : PyData) : Prop := ∃ a b : Nat, ds = [iN a, iN b] ∧ d = iN (Nat.gcd a b)
theorem gcd_turn (a b : Nat) : Nat.gcd b (a % b) = Nat.gcd a b := by
  rw [Nat.gcd_comm a b, Nat.gcd_comm b (a % b), ← Nat.gcd_rec]
theorem sc_common : FnScope ["one", "other"] ["one", "other"] (defScope (top 41)) := ⟨rfl, rfl, rfl, by decide +kernel, rfl, by decide +kernel, by decide +kernel⟩
/-- common: 0 one, 1 other -/
theorem c_common (T : Txt K mg) : Cl P w K mg base 1 "common" (SpP K preCommon) := by
  refine cl_pure T.f_common sc_common (fun _ _ _ _ _ _ us hl => match us, hl with | [_, _], _ => rfl) (by rintro _ _ ⟨_, _, rfl, _⟩; rfl) (fun f cdv A outer s H E hr => ⟨_, (pss_cons (ps_while PassesOwn.never (pt_cmpR op_ne (pv 1) pe_int (nomark _)) (pss_one (ps_par (i := 0) (j := 1) rfl sc_common.nd rfl rfl (by decide) rfl rfl (pa_cons (pv 1) (pa_cons (pe_op op_mod (pv 0) (pv 1)) pa_nil)) (by rfl))))
      (pss_one (ps_ret (pe_callB call_abs rfl T.n_abs bb_abs (pa_cons (pv 0) pa_nil))))), fun ds d h => ?_⟩)
  obtain ⟨a, b, rfl, rfl⟩ := h
  refine sd_seq (sd_while (fun k r => ∃ x, r = [.fz (iN x), .fz (iN k)] ∧ Nat.gcd x k = Nat.gcd a b) b ⟨a, rfl, rfl⟩ (fun k r hI => ?_))
  obtain ⟨x, rfl, hg⟩ := hI
  refine ⟨!decide (k = 0), eb_is (eb_test (ef_neI (ef_var rfl) ef_int)) (congrArg (!·) (decide_eq_decide.mpr ⟨fun h => by omega, fun h => by omega⟩)), fun hb => ?_, fun hb => ?_⟩
  · have hk : 0 < k := by
      have : ¬ k = 0 := by simpa using hb
      omega
    refine sd_par2 (k1 := .fz (iN k)) (k2 := .fz (iN (x % k))) (ek_fz (ef_var rfl) (ek_fz (ef_is (ef_mod (ef_var rfl) (ef_var rfl) (by omega)) (by unfold iN; congr 1)) ek_nil)) ⟨x % k, Nat.mod_lt _ hk, k, rfl, by rw [gcd_turn]; exact hg⟩
  · have hk : k = 0 := by simpa using hb
    subst hk
    rw [Nat.gcd_zero_right] at hg
    refine sd_ret (ef_is (ef_abs (ef_var rfl)) ?_) rfl
    rw [← hg]
    unfold iN
    rw [if_neg (by omega)]
def fracD (p q : Nat) : PyData := .tuple [iN p, iN q]
def preShare (ds : List PyData) (d : PyData) : Prop := ∃ v t : Nat, ds = [iN v, iN t] ∧ 0 < t ∧ t ≤ 1000 ∧ d = fracD (v / Nat.gcd v t) (t / Nat.gcd v t)
theorem sc_share : FnScope ["top", "bottom", "whole"] ["top", "bottom"] (defScope (top 42)) := ⟨rfl, rfl, rfl, by decide +kernel, rfl, by decide +kernel, by decide +kernel⟩
/-- share: 0 top, 1 bottom, 2 whole -/
theorem c_share (T : Txt K mg) : Cl P w K mg base 2 "share" (SpP K preShare) := by
  refine cl_pure T.f_share sc_share (fun _ _ _ _ _ _ us hl => match us, hl with | [_, _], _ => rfl) (by rintro _ _ ⟨_, _, rfl, _⟩; rfl) (fun f cdv A outer s H E hr => ⟨_, (pss_cons (ps_set (i := 2) sc_share.nd rfl (Or.inl rfl) (pe_cl (c_common T) hr (by decide) rfl (pa_cons (pv 0) (pa_cons (pv 1) pa_nil))))
      (pss_one (ps_ret (pe_tup (pa_cons (pe_op op_fdiv (pv 0) (pv 2)) (pa_cons (pe_op op_fdiv (pv 1) (pv 2)) pa_nil)))))), fun ds d h => ?_⟩)
  obtain ⟨v, t, rfl, ht, hl, rfl⟩ := h
  have g0 : 0 < Nat.gcd v t := Nat.gcd_pos_of_pos_right _ ht
  have g1 : Nat.gcd v t ≤ t := Nat.le_of_dvd ht (Nat.gcd_dvd_right _ _)
  refine sd_seq (sd_set (d := iN (Nat.gcd v t)) (ef_call (ea_cons (ef_var rfl) (ea_cons (ef_var rfl) ea_nil)) ⟨v, t, rfl, rfl⟩) ?_)
  exact sd_ret (ef_is (ef_tup (ea_cons (ef_fdiv (ef_var rfl) (ef_var rfl) (by omega) (by omega)) (ea_cons (ef_fdiv (ef_var rfl) (ef_var rfl) (by omega) (by omega)) ea_nil)) (by simp)) (by unfold fracD iN; congr 1)) rfl
def preLess (ds : List PyData) (d : PyData) : Prop := ∃ p q p' q' : Nat, ds = [fracD p q, fracD p' q'] ∧ p ≤ 1000 ∧ p' ≤ 1000 ∧ d = .bool (decide (p * q' < p' * q))
theorem frac0 (p q : Nat) : atI [iN p, iN q] 0 = some (.int (p : Int)) := rfl
theorem frac1 (p q : Nat) : atI [iN p, iN q] 1 = some (.int (q : Int)) := rfl
theorem sc_is_less : FnScope ["one", "other"] ["one", "other"] (defScope (top 43)) := ⟨rfl, rfl, rfl, by decide +kernel, rfl, by decide +kernel, by decide +kernel⟩
/-- is_less: 0 one, 1 other -/
theorem c_is_less (T : Txt K mg) : Cl P w K mg base 1 "is_less" (SpP K preLess) := by
  refine cl_pure T.f_is_less sc_is_less (fun _ _ _ _ _ _ us hl => match us, hl with | [_, _], _ => rfl) (by rintro _ _ ⟨_, _, _, _, rfl, _⟩; rfl) (fun f cdv A outer s H E hr => ⟨_, (pss_one (ps_ret (pe_cmpR op_lt (pe_op op_mul (pe_ix (k_ixT K rfl) (pv 0) pe_int (fun _ _ => rfl)) (pe_ix (k_ixT K rfl) (pv 1) pe_int (fun _ _ => rfl))) (pe_op op_mul (pe_ix (k_ixT K rfl) (pv 1) pe_int (fun _ _ => rfl)) (pe_ix (k_ixT K rfl) (pv 0) pe_int (fun _ _ => rfl))) (nomark _)))), fun ds d h => ?_⟩)
  obtain ⟨p, q, p', q', rfl, h1, h2, rfl⟩ := h
  refine sd_ret (ef_is (ef_B0 (ef_mul (ef_ixT (ef_var rfl) ef_int (frac0 p q)) (ef_ixT (ef_var rfl) ef_int (frac1 p' q')) (by omega)) (ef_mul (ef_ixT (ef_var rfl) ef_int (frac0 p' q')) (ef_ixT (ef_var rfl) ef_int (frac1 p q)) (by omega))) ?_) rfl
  congr 1
  refine decide_eq_decide.mpr ⟨fun h => ?_, fun h => ?_⟩
  · exact_mod_cast h
  · exact_mod_cast h
theorem cut_all (xs : List PyData) : cutD xs none none = xs := by
  unfold cutD HT.sIx
  simp
theorem encT_at {T : List (List (Option Int))} {k : Nat} (h : k < T.length) : atI (T.map encR) (k : Int) = some (encR (T.getD k [])) := encR_at h
theorem less_share {p q v t : Nat} (ht : 0 < t) : (p * (t / Nat.gcd v t) < v / Nat.gcd v t * q) ↔ p * t < v * q := by
  have g0 : 0 < Nat.gcd v t := Nat.gcd_pos_of_pos_right _ ht
  have e1 : v / Nat.gcd v t * Nat.gcd v t = v := Nat.div_mul_cancel (Nat.gcd_dvd_left _ _)
  have e2 : t / Nat.gcd v t * Nat.gcd v t = t := Nat.div_mul_cancel (Nat.gcd_dvd_right _ _)
  rw [← Nat.mul_lt_mul_right g0 (b := p * (t / Nat.gcd v t)), Nat.mul_assoc, e2, Nat.mul_right_comm, e1]
def preSpeed (ds : List PyData) (d : PyData) : Prop := ∃ (g : Web) (st : List Int) (r : Nat), ds = [encT (tab g st), encP (partOf g r)] ∧ WOk g ∧ SOk g.n st ∧ d = fracD (spd g st r).1 (spd g st r).2
theorem sc_speed_in : FnScope ["table", "part", "found", "rows", "length", "one", "here", "row"] ["table", "part"] (defScope (top 44)) := ⟨rfl, rfl, rfl, by decide +kernel, rfl, by decide +kernel, by decide +kernel⟩
/-- speed_in: 0 table, 1 part, 2 found, 3 rows, 4 length, 5 one, 6 here, 7 row -/
theorem c_speed_in (T : Txt K mg) : Cl P w K mg base 3 "speed_in" (SpP K preSpeed) := by
  refine cl_pure T.f_speed_in sc_speed_in (fun _ _ _ _ _ _ us hl => match us, hl with | [_, _], _ => rfl) (by rintro _ _ ⟨_, _, _, rfl, _⟩; rfl) (fun f cdv A outer s H E hr => ⟨_, (pss_cons (ps_par (i := 2) (j := 3) rfl sc_speed_in.nd rfl rfl (by decide) rfl rfl (pa_cons (pe_tup (pa_cons pe_int (pa_cons pe_int pa_nil))) (pa_cons (pe_lc (own := [("row", 7)]) rfl sc_speed_in.nd (kpi_list K rfl (pv 0)) (blkOk_by (by kernel_rfl)) (fun _ _ _ _ _ => (pg_name (i := 7) sc_speed_in.nd rfl (Or.inl rfl))) (fun _ _ _ _ _ => pts_nil) (fun _ _ _ _ _ => (pe_slice (k_slL K rfl) (pv 7) po_none po_none))) pa_nil)) (by rfl))
      (pss_cons (ps_for PassesOwn.never rfl (pi_range2 rfl T.n_range (pa_cons pe_int (pa_cons (pe_op op_add (pe_callB (k_len K rfl) rfl T.n_len bb_len (pa_cons (pv 1) pa_nil)) pe_int) pa_nil))) (pg_name (i := 4) sc_speed_in.nd rfl (Or.inl rfl)) (pss_cons (ps_for PassesOwn.never rfl (kpi_tup K rfl (pv 1)) (pg_name (i := 5) sc_speed_in.nd rfl (Or.inl rfl)) (pss_cons (ps_set (i := 6) sc_speed_in.nd rfl (Or.inl rfl) (pe_cl (c_share T) hr (by decide) rfl (pa_cons (pe_ix (k_ixL K rfl) (pe_ix (k_ixL K rfl) (pv 3) (pv 5) (fun _ _ => rfl)) (pv 5) (fun _ _ => rfl)) (pa_cons (pv 4) pa_nil))))
      (pss_one (ps_set (i := 2) sc_speed_in.nd rfl (Or.inl rfl) (pe_ifExp (pt_val (pe_cl (c_is_less T) hr (by decide) rfl (pa_cons (pv 2) (pa_cons (pv 6) pa_nil)))) (pv 6) (pv 2))))))
      (pss_one (ps_setLc (i := 3) (own := [("row", 7)]) rfl sc_speed_in.nd rfl rfl (sw_true rfl rfl rfl (by decide +kernel)) (kpi_list K rfl (pv 3)) (blkOk_by (by kernel_rfl)) (fun _ _ _ _ _ => (pg_name (i := 7) sc_speed_in.nd rfl (Or.inl rfl))) (fun _ _ _ _ _ => pts_nil) (fun _ _ _ _ _ => (pe_cl (c_row_behind T) hr (by decide) rfl (pa_cons (pv 7) (pa_cons (pv 0) pa_nil))))))))
      (pss_one (ps_ret (pv 2))))), fun ds d h => ?_⟩)
  obtain ⟨g, st, r, rfl, ok, so, rfl⟩ := h
  have n1 := ok.n1
  have n6 := ok.n6
  have pl := part_len g r
  have tab1 := tab_is (st := st) ok
  have plc : (((partOf g r).map iN).length : Int) + 1 = ((partOf g r).length : Int) + 1 := by rw [List.length_map]
  refine sd_seq (sd_par2 (k1 := .fz (fracD 0 1)) (k2 := .fz (encT (tab g st))) (ek_fz (ef_tup (ea_cons ef_int (ea_cons ef_int ea_nil)) (by simp)) (ek_fz (ef_is (En.ef (en_lcL (tab g st) encR (fun _ => true) encR (Ef.el (ef_var rfl)) (by rw [tab1.len]; omega) (fun m hm => eb_yes) (fun x hx _ => ef_is (En.ef (en_sl (Ef.el (ef_var rfl)) eo_none eo_none)) (by rw [cut_all]; rfl)))) (by rw [filt_yes]; rfl)) ek_nil)) ?_)
  refine sd_seq (sd_for2 (lo := 1) (n := (partOf g r).length + 1) (ea_cons ef_int (ea_cons (ef_is (ef_I0 (ef_lenT (ef_var rfl)) ef_int) (congrArg PyData.int plc)) ea_nil)) (by omega) (fun m ρ => ∃ p q R a b c, ρ = [.fz (encT (tab g st)), .fz (encP (partOf g r)), .fz (fracD p q), .fz (encT R), a, b, c, .no] ∧ TabIs g st (m + 1) R ∧ p ≤ 6 ∧ Best (Seen g st r m []) p q) ⟨0, 1, tab g st, .no, .no, .no, rfl, tab1, by omega, best_zero fun t z => ?_⟩ (fun m ρ hm hI => ?_) (fun ρ hI => ?_))
  · rintro ⟨i, _, ⟨h1, h2, _⟩ | ⟨_, h2⟩⟩
    · omega
    · cases h2
  · obtain ⟨p, q, R, a, b, c, rfl, hR, hp, hB⟩ := hI
    refine sd_seq (sd_forT (ds := (partOf g r).map iN) (ef_var rfl) (fun k ρ => ∃ p q b c, ρ = [.fz (encT (tab g st)), .fz (encP (partOf g r)), .fz (fracD p q), .fz (encT R), .fz (.int (1 + (m : Int))), b, c, .no] ∧ p ≤ 6 ∧ Best (Seen g st r m ((partOf g r).take k)) p q) ⟨p, q, b, c, rfl, hp, hB⟩ (fun k x ρ hk hI => ?_) (fun ρ hI => ?_))
    · obtain ⟨p, q, b, c, rfl, hp, hB⟩ := hI
      obtain ⟨i, ei, rfl⟩ := iN_mem hk
      have hi := part_mem.mp (List.mem_of_getElem? ei)
      have hin := (conn_lt hi).2
      obtain ⟨v, hv, hvl⟩ := mx_ex ok so (m + 1) hin
      have hval : (R.getD i []).getD i none = some (v : Int) := ((hR.is i hin).is i hin).inj hv
      have at1 : atI (R.map encR) (i : Int) = some (encR (R.getD i [])) := encT_at (by rw [hR.len]; exact hin)
      have at2 : atI ((R.getD i []).map oD) (i : Int) = some (iN v) := by
        rw [oD_at (by rw [(hR.is i hin).len]; exact hin), hval]
        rfl
      have g0 : 0 < Nat.gcd v (m + 1) := Nat.gcd_pos_of_pos_right _ (by omega)
      have vl : v / Nat.gcd v (m + 1) ≤ 6 := Nat.le_trans (Nat.div_le_self _ _) (by omega)
      have st2 := best_step (t := m + 1) (v := v) (S' := Seen g st r m ((partOf g r).take (k + 1))) hB (by omega) (fun t z => by
        rw [take_more ei]
        unfold Seen
        constructor
        · rintro ⟨j, h1, h2 | ⟨h2, h3⟩⟩
          · exact .inl ⟨j, h1, .inl h2⟩
          · rcases List.mem_append.mp h3 with h3 | h3
            · exact .inl ⟨j, h1, .inr ⟨h2, h3⟩⟩
            · simp at h3
              subst h3 h2
              have := hv.2 _ h1.1
              have := h1.2 _ hv.1
              exact .inr ⟨rfl, by omega⟩
        · rintro (⟨j, h1, h2 | ⟨h2, h3⟩⟩ | ⟨rfl, rfl⟩)
          · exact ⟨j, h1, .inl h2⟩
          · exact ⟨j, h1, .inr ⟨h2, List.mem_append_left _ h3⟩⟩
          · exact ⟨i, hv, .inr ⟨rfl, by simp⟩⟩)
      refine sd_seq (sd_set (d := fracD (v / Nat.gcd v (m + 1)) ((m + 1) / Nat.gcd v (m + 1))) (ef_call (ea_cons (ef_ixL (Ef.el (ef_ixL (Ef.el (ef_var rfl)) (ef_var rfl) at1)) (ef_var rfl) at2) (ea_cons (ef_var rfl) ea_nil)) ⟨v, m + 1, ?_, by omega, by omega, rfl⟩) ?_)
      · show [iN v, PyData.int (1 + (m : Int))] = _
        unfold iN
        congr 3
        omega
      refine sd_set (d := if p * (m + 1) < v * q then fracD (v / Nat.gcd v (m + 1)) ((m + 1) / Nat.gcd v (m + 1)) else fracD p q) (ef_if (b := decide (p * (m + 1) < v * q)) (eb_B (ef_call (ea_cons (ef_var rfl) (ea_cons (ef_var rfl) ea_nil)) ⟨p, q, v / Nat.gcd v (m + 1), (m + 1) / Nat.gcd v (m + 1), rfl, by omega, by omega, ?_⟩)) (fun h => ?_) (fun h => ?_)) ⟨_, _, .fz (iN i), .fz (fracD (v / Nat.gcd v (m + 1)) ((m + 1) / Nat.gcd v (m + 1))), ?_, ?_, st2⟩
      · congr 1
        exact decide_eq_decide.mpr (less_share (by omega)).symm
      · rw [if_pos (of_decide_eq_true h)]
        exact ef_var rfl
      · rw [if_neg (of_decide_eq_false h)]
        exact ef_var rfl
      · by_cases z : p * (m + 1) < v * q
        · simp only [if_pos z]; rfl
        · simp only [if_neg z]; rfl
      · split
        · exact vl
        · exact hp
    · obtain ⟨p, q, b, c, rfl, hp, hB⟩ := hI
      rw [List.length_map, List.take_length] at hB
      refine sd_set (d := encT (R.map fun row => rowB row (tab g st))) (ef_is (En.ef (en_lcL R encR (fun _ => true) (fun row => encR (rowB row (tab g st))) (Ef.el (ef_var rfl)) (by rw [hR.len]; omega) (fun m hm => eb_yes) (fun x hx _ => (ef_call (ea_cons (ef_var rfl) (ea_cons (ef_var rfl) ea_nil)) ⟨x, tab g st, rfl, by rw [hR.lens x hx]; exact n6, by rw [hR.lens x hx, tab1.len], fun y hy => by rw [hR.lens x hx, tab1.lens y hy], rfl⟩)))) (by rw [filt_yes]; unfold encT; rw [List.map_map]; rfl)) ⟨p, q, _, .fz (.int (1 + (m : Int))), b, c, rfl, tabB_is hR tab1, hp, hB.congr fun t z => ?_⟩
      unfold Seen
      constructor
      · rintro ⟨i, h1, ⟨h2, h3, h4⟩ | ⟨_, h2⟩⟩
        · by_cases e : t = m + 1
          · exact ⟨i, h1, .inr ⟨e, part_mem.mpr h4⟩⟩
          · exact ⟨i, h1, .inl ⟨h2, by omega, h4⟩⟩
        · cases h2
      · rintro ⟨i, h1, ⟨h2, h3, h4⟩ | ⟨h2, h3⟩⟩
        · exact ⟨i, h1, .inl ⟨h2, by omega, h4⟩⟩
        · exact ⟨i, h1, .inl ⟨by omega, by omega, part_mem.mp h3⟩⟩
  · obtain ⟨p, q, R, a, b, c, rfl, hR, hp, hB⟩ := hI
    have e : ((partOf g r).length + 1 - 1 : Int).toNat = (partOf g r).length := by omega
    rw [e] at hB
    rw [spd_is ok so (seen_all ok so hB)]
    exact sd_ret (ef_var rfl) rfl
noncomputable def encSpd (g : Web) (st : List Int) : PyData := .list ((List.range g.n).map fun i => fracD (spd g st i).1 (spd g st i).2)
def preSpeeds (ds : List PyData) (d : PyData) : Prop := ∃ (g : Web) (st : List Int), ds = [encW g, encS st] ∧ WOk g ∧ SOk g.n st ∧ d = encSpd g st
noncomputable def hitS (g : Web) (st : List Int) (L : List Nat) (i : Nat) : PyData := if L.any (fun r => conn g r i) then fracD (spd g st i).1 (spd g st i).2 else .none
theorem sc_speeds_in : FnScope ["web", "state", "found", "table", "part", "told", "one"] ["web", "state"] (defScope (top 45)) := ⟨rfl, rfl, rfl, by decide +kernel, rfl, by decide +kernel, by decide +kernel⟩
/-- speeds_in: 0 web, 1 state, 2 found, 3 table, 4 part, 5 told, 6 one -/
theorem c_speeds_in (T : Txt K mg) : Cl P w K mg base 4 "speeds_in" (SpP K preSpeeds) := by
  refine cl_pure T.f_speeds_in sc_speeds_in (fun _ _ _ _ _ _ us hl => match us, hl with | [_, _], _ => rfl) (by rintro _ _ ⟨_, _, rfl, _⟩; rfl) (fun f cdv A outer s H E hr => ⟨_, (pss_cons (ps_par (i := 2) (j := 3) rfl sc_speeds_in.nd rfl rfl (by decide) rfl rfl (pa_cons (pe_op op_rep (pe_lst (pa_cons pe_non pa_nil)) (pe_ix (k_ixT K rfl) (pv 0) pe_int (fun _ _ => rfl))) (pa_cons (pe_cl (c_table_of T) hr (by decide) rfl (pa_cons (pv 0) (pa_cons (pv 1) pa_nil))) pa_nil)) (by rfl))
      (pss_cons (ps_for PassesOwn.never rfl (kpi_list K rfl (pe_cl (c_parts_of T) hr (by decide) rfl (pa_cons (pv 0) pa_nil))) (pg_name (i := 4) sc_speeds_in.nd rfl (Or.inl rfl)) (pss_cons (ps_set (i := 5) sc_speeds_in.nd rfl (Or.inl rfl) (pe_cl (c_speed_in T) hr (by decide) rfl (pa_cons (pv 3) (pa_cons (pv 4) pa_nil))))
      (pss_one (ps_for PassesOwn.never rfl (kpi_tup K rfl (pv 4)) (pg_name (i := 6) sc_speeds_in.nd rfl (Or.inl rfl)) (pss_one (ps_asg (pv 5) (pg_sub (pv 2) (pv 6) set_list)))))))
      (pss_one (ps_ret (pv 2))))), fun ds d h => ?_⟩)
  obtain ⟨g, st, rfl, ok, so, rfl⟩ := h
  have n1 := ok.n1
  have n6 := ok.n6
  refine sd_seq (sd_par2 (k1 := .mu ((List.range g.n).map (hitS g st []))) (k2 := .fz (encT (tab g st))) (ek_mu (en_is (en_rep (i := g.n) (ea_cons ef_non ea_nil) (ef_ixT (ef_var rfl) ef_int (encW0 g)) (by simp) (by omega)) (by rw [toNat_cast, flat_one, rep_range]; rfl)) (ek_fz (ef_call (ea_cons (ef_var rfl) (ea_cons (ef_var rfl) ea_nil)) ⟨g, st, rfl, ok, so, rfl⟩) ek_nil)) ?_)
  refine sd_seq (sd_forL (ds := (partsL g).map encP) (ef_call (ea_cons (ef_var rfl) ea_nil) ⟨g, rfl, ok, rfl⟩) (fun m ρ => ∃ a b c, ρ = [.fz (encW g), .fz (encS st), .mu ((List.range g.n).map (hitS g st ((roots g).take m))), .fz (encT (tab g st)), a, b, c]) ⟨.no, .no, .no, rfl⟩ (fun m x ρ hm hI => ?_) (fun ρ hI => ?_))
  · obtain ⟨a, b, c, rfl⟩ := hI
    unfold partsL at hm
    rw [List.getElem?_map, List.getElem?_map] at hm
    cases er : (roots g)[m]? with
    | none => rw [er] at hm; cases hm
    | some r0 =>
    rw [er] at hm
    cases hm
    refine sd_seq (sd_set (d := fracD (spd g st r0).1 (spd g st r0).2) (ef_call (ea_cons (ef_var rfl) (ea_cons (ef_var rfl) ea_nil)) ⟨g, st, r0, rfl, ok, so, rfl⟩) ?_)
    refine sd_forT (ds := (partOf g r0).map iN) (ef_var rfl) (fun q ρ => ∃ c, ρ = [.fz (encW g), .fz (encS st), .mu ((List.range g.n).map fun i => if i ∈ (partOf g r0).take q then fracD (spd g st i).1 (spd g st i).2 else hitS g st ((roots g).take m) i), .fz (encT (tab g st)), .fz (encP (partOf g r0)), .fz (fracD (spd g st r0).1 (spd g st r0).2), c]) ⟨c, ?_⟩ (fun q x ρ hq hI => ?_) (fun ρ hI => ?_)
    · show [_, _, Slo.mu _, _, _, _, _] = _
      refine congrArg (fun l => [Slo.fz (encW g), .fz (encS st), .mu l, .fz (encT (tab g st)), .fz (encP (partOf g r0)), .fz (fracD (spd g st r0).1 (spd g st r0).2), c]) ?_
      refine List.map_congr_left fun i hi => ?_
      rw [List.take_zero, if_neg (by simp)]
    · obtain ⟨c, rfl⟩ := hI
      obtain ⟨j, ej, rfl⟩ := iN_mem hq
      have cj := part_mem.mp (List.mem_of_getElem? ej)
      have hjn := (conn_lt cj).2
      refine sd_item (k := 2) rfl (ef_var rfl) (ef_var rfl) (m := j) (by rw [List.length_map, List.length_range]; exact ixN_nat hjn) ⟨.fz (iN j), ?_⟩
      show [_, _, Slo.mu _, _, _, _, _] = _
      rw [set_map_range hjn]
      congr 4
      refine List.map_congr_left fun i hi => ?_
      rw [take_more ej]
      by_cases z : i = j
      · subst z
        rw [if_pos rfl, if_pos (by simp), spd_part ok so cj]
      · rw [if_neg z]
        exact ifc (by simp [z]) rfl rfl
    · obtain ⟨c, rfl⟩ := hI
      refine ⟨.fz (encP (partOf g r0)), .fz (fracD (spd g st r0).1 (spd g st r0).2), c, ?_⟩
      show [_, _, Slo.mu _, _, _, _, _] = _
      refine congrArg (fun l => [Slo.fz (encW g), .fz (encS st), .mu l, .fz (encT (tab g st)), .fz (encP (partOf g r0)), .fz (fracD (spd g st r0).1 (spd g st r0).2), c]) ?_
      refine List.map_congr_left fun i hi => ?_
      rw [List.length_map, List.take_length]
      unfold hitS
      rw [take_more er, List.any_append]
      cases z : conn g r0 i with
      | true =>
        rw [if_pos (part_mem.mpr z), if_pos (by simp [z])]
      | false =>
        rw [if_neg (fun y => by rw [part_mem.mp y] at z; cases z)]
        simp [z]
  · obtain ⟨a, b, c, rfl⟩ := hI
    refine sd_freeze (k := 2) rfl (sd_ret (ef_var rfl) ?_)
    show PyData.list _ = encSpd g st
    unfold encSpd hitS
    congr 1
    refine List.map_congr_left fun i hi => ?_
    have full : (roots g).take ((partsL g).map encP).length = roots g := by
      unfold partsL
      rw [List.length_map, List.length_map, List.take_length]
    obtain ⟨r, h1, h2, h3⟩ := root_ex (List.mem_range.mp hi)
    have : ((roots g).any fun r => conn g r i) = true := List.any_eq_true.mpr ⟨r, List.mem_filter.mpr ⟨List.mem_range.mpr (conn_lt h3).1, h2⟩, h3⟩
    rw [full, if_pos this]
end
end Tm
set_option maxRecDepth 100000
set_option maxHeartbeats 4000000
/-! Numbers and moods as texts. -/
namespace Tm
open PySem PyProof.Rows L2
def badW (x : Str) : Bool := decide (x = "") || (decide (31 < x.length) || !(x.cps.toList.all fun c => decide (c ∈ ("0123456789" : Str).cps.toList)))
def leadW (x : Str) : Bool := decide (1 < x.length) && decide ((⟨#[x.cps.toList.headD 0]⟩ : Str) = "0")
def numIn (x : Str) : Option Int := if badW x then none else if leadW x then none else PySem.intText? x
def tameW (x : Str) : Bool := decide (x.length ≤ 640) && (badW x || leadW x || (PySem.intText? x).isSome)
section
variable {P : Program} {w : World} {K : PySem.W.Frag} {mg : Str → Option Value} {base : Heap}
def preNumIn (ds : List PyData) (d : PyData) : Prop := ∃ x : Str, ds = [.str x] ∧ tameW x = true ∧ d = oD (numIn x)
theorem sc_number_in : FnScope ["word", "sign"] ["word"] (defScope (top 23)) := ⟨rfl, rfl, rfl, by decide +kernel, rfl, by decide +kernel, by decide +kernel⟩
/-- number_in: 0 word, 1 sign -/
theorem c_number_in (T : Txt K mg) : Cl P w K mg base 1 "number_in" (SpP K preNumIn) := by
  refine cl_pure T.f_number_in sc_number_in (fun _ _ _ _ _ _ us hl => match us, hl with | [_], _ => rfl) (by rintro _ _ ⟨_, rfl, _⟩; rfl) (fun f cdv A outer s H E hr => ⟨_, (pss_cons (ps_if (PW.pt (pw_or (pt_cmpR op_eq (pv 0) pe_str (nomark _)) (pw_or (pt_cmpR op_gt (pe_callB (k_len K rfl) rfl T.n_len bb_len (pa_cons (pv 0) pa_nil)) (pe_k rfl T.k_MOST_FIGURES) (nomark _)) (pw_or1 (pt_not (pt_val (pe_callB (k_all K rfl rfl) rfl T.n_all bb_all (pa_cons (pe_lc (own := [("sign", 1)]) rfl sc_number_in.nd (pi_str (pv 0)) (blkOk_by (by kernel_rfl)) (fun _ _ _ _ _ => (pg_name (i := 1) sc_number_in.nd rfl (Or.inl rfl))) (fun _ _ _ _ _ => pts_nil) (fun _ _ _ _ _ => (pe_cmpR op_in_sign (pv 1) (pe_k rfl T.k_FIGURES) rfl))) pa_nil)))))))) (pss_one (ps_ret pe_non)) pss_nil)
      (pss_one (ps_ret (pe_ifExp (PW.pt (pw_and (pt_cmpR op_gt (pe_callB (k_len K rfl) rfl T.n_len bb_len (pa_cons (pv 0) pa_nil)) pe_int (nomark _)) (pw_and1 (pt_cmpR op_eq (pe_ix ix_str (pv 0) pe_int (fun _ _ => rfl)) pe_str (nomark _))))) pe_non (pe_callTy call_int_str rfl T.n_int bb_int (pa_cons (pv 0) pa_nil)))))), fun ds d h => ?_⟩)
  obtain ⟨x, rfl, ht, rfl⟩ := h
  unfold tameW at ht
  rw [Bool.and_eq_true, decide_eq_true_iff] at ht
  obtain ⟨hl, ht⟩ := ht
  have hl2 : x.cps.toList.length ≤ 640 := by
    have : x.cps.toList.length = x.length := Array.length_toList
    omega
  refine sd_seq (sd_if (b := badW x) (eb_or (eb_test (ef_eqS (ef_var rfl) ef_str)) fun _ => (eb_or (eb_is (eb_test (ef_B0 (ef_lenS (ef_var rfl) (by omega)) ef_int)) (decide_eq_decide.mpr ⟨fun h => by omega, fun h => by omega⟩)) fun _ => (eb_not (eb_B (ef_is (ef_all (bs := x.cps.toList.map fun c => decide (c ∈ ("0123456789" : Str).cps.toList)) (En.el (en_is (en_lcS (x := x) (fun _ => true) (fun c => .bool (decide (c ∈ ("0123456789" : Str).cps.toList))) (ef_var rfl) (by omega) (fun m hm => eb_yes) (fun x hx _ => (ef_inS (ef_var rfl) ef_str))) ?_))) ?_))))) (fun h => ?_) (fun h => sd_next ?_))
  · rw [filt_yes, List.map_map]
    rfl
  · rw [List.all_map]
    rfl
  · refine sd_ret ef_non ?_
    unfold numIn
    rw [if_pos h]
    rfl
  · have hne : x.cps.toList ≠ [] := fun z => by
      unfold badW at h
      rw [Bool.or_eq_false_iff, decide_eq_false_iff_not] at h
      refine h.1 ?_
      obtain ⟨⟨cs⟩⟩ := x
      simp at z
      subst z
      decide
    refine sd_ret (ef_if (b := leadW x) (eb_and (eb_is (eb_test (ef_B0 (ef_lenS (ef_var rfl) (by omega)) ef_int)) (decide_eq_decide.mpr ⟨fun h => by omega, fun h => by omega⟩)) fun _ => (eb_test (ef_eqS (ef_ixS (ef_var rfl) ef_int (by omega) ?_) ef_str))) (fun h2 => ?_) (fun h2 => ?_)) rfl
    · cases e : x.cps.toList with
      | nil => exact absurd e hne
      | cons c l =>
        show atI (c :: l) ((0 : Nat) : Int) = some c
        exact atI_nat rfl
    · unfold numIn
      rw [h, h2]
      exact ef_non
    · unfold numIn
      rw [h, h2] at ht ⊢
      obtain ⟨n, hn⟩ := Option.isSome_iff_exists.mp (by simpa using ht)
      show Ef K _ _ (oD (PySem.intText? x))
      rw [hn]
      show Ef K _ _ (.int n)
      exact ef_intT (ef_var rfl) hn hl
def preText (ds : List PyData) (d : PyData) : Prop := ∃ x : Str, ds = [.str x] ∧ d = .none
/-- str(n) -/
def nS (i : Int) : Str := Str.ofString (toString i)
def txtS (st : List Int) : Str := Txt.join "" (st.map nS)
def preMoodsT (ds : List PyData) (d : PyData) : Prop := ∃ (n : Nat) (st : List Int), ds = [encS st] ∧ n ≤ 6 ∧ SOk n st ∧ d = .str (txtS st)
theorem small_len {i : Int} (h0 : 0 ≤ i) (h1 : i ≤ 6) : (nS i).length = 1 ∧ i.natAbs.log2 < 1920 := by
  have : i = 0 ∨ i = 1 ∨ i = 2 ∨ i = 3 ∨ i = 4 ∨ i = 5 ∨ i = 6 := by omega
  rcases this with rfl | rfl | rfl | rfl | rfl | rfl | rfl <;> exact ⟨by decide +kernel, by decide +kernel⟩
theorem sum_ones : ∀ {l : List Int}, (∀ x, x ∈ l → 0 ≤ x ∧ x ≤ 6) → ((l.map nS).map (·.length)).sum = l.length
  | [], _ => rfl
  | x :: l, h => by
    have ih := sum_ones (l := l) fun y hy => h y (List.mem_cons_of_mem _ hy)
    have a := small_len (h x (by simp)).1 (h x (by simp)).2
    rw [List.map_cons, List.map_cons, List.sum_cons, ih, a.1, List.length_cons]
    omega
theorem sc_moods_text : FnScope ["state", "mood"] ["state"] (defScope (top 25)) := ⟨rfl, rfl, rfl, by decide +kernel, rfl, by decide +kernel, by decide +kernel⟩
/-- moods_text: 0 state, 1 mood -/
theorem c_moods_text (T : Txt K mg) : Cl P w K mg base 1 "moods_text" (SpP K preMoodsT) := by
  refine cl_pure T.f_moods_text sc_moods_text (fun _ _ _ _ _ _ us hl => match us, hl with | [_], _ => rfl) (by rintro _ _ ⟨_, _, rfl, _⟩; rfl) (fun f cdv A outer s H E hr => ⟨_, (pss_one (ps_ret (pe_join pe_str (pe_lc (own := [("mood", 1)]) rfl sc_moods_text.nd (kpi_tup K rfl (pv 0)) (blkOk_by (by kernel_rfl)) (fun _ _ _ _ _ => (pg_name (i := 1) sc_moods_text.nd rfl (Or.inl rfl))) (fun _ _ _ _ _ => pts_nil) (fun _ _ _ _ _ => (pe_callTy call_str_int rfl T.n_str bb_str (pa_cons (pv 1) pa_nil))))))), fun ds d h => ?_⟩)
  obtain ⟨n, st, rfl, hn, so, rfl⟩ := h
  refine sd_ret (ef_join ef_str (id (En.el (en_is (en_lcT st PyData.int (fun _ => true) (fun m => .str (nS m)) (ef_var rfl) (by rw [so.len]; omega) (fun m hm => eb_yes) (fun m hm _ => ef_strI (ef_var rfl) (small_len (so.mood m hm).1 (by have := (so.mood m hm).2; omega)).2)) (by rw [filt_yes, List.map_map]; rfl)))) ?_) rfl
  rw [sum_ones (fun x hx => ⟨(so.mood x hx).1, by have := (so.mood x hx).2; omega⟩), List.length_map, so.len]
  have : ("" : Str).length = 0 := by decide
  rw [this]
  omega
end
end Tm
set_option maxRecDepth 100000
set_option maxHeartbeats 4000000
/-! The law's own reckoning: neighbours, steps, the next state. -/
namespace Tm
open PySem PyProof.Rows L2
section
variable {P : Program} {w : World} {K : PySem.W.Frag} {mg : Str → Option Value} {base : Heap}
theorem eqv_eI (e f : Nat × Nat) : PyData.eqv (eI e) (eI f) = decide (e = f) := by
  have h := eqv_encS [(e.1 : Int), (e.2 : Int)] [(f.1 : Int), (f.2 : Int)]
  show PyData.eqv (encS [(e.1 : Int), (e.2 : Int)]) (encS [(f.1 : Int), (f.2 : Int)]) = _
  rw [h]
  obtain ⟨a, b⟩ := e
  obtain ⟨c, d⟩ := f
  refine decide_eq_decide.mpr ⟨fun h => ?_, fun h => ?_⟩
  · simp at h
    rw [show a = c by omega, show b = d by omega]
  · cases h
    rfl
theorem any_eI (es : List (Nat × Nat)) (f : Nat × Nat) : ((es.map eI).any fun z => PyData.eqv z (eI f)) = decide (f ∈ es) := by
  rw [List.any_map, Bool.eq_iff_iff, List.any_eq_true, decide_eq_true_iff]
  constructor
  · rintro ⟨e, h1, h2⟩
    have h2 : PyData.eqv (eI e) (eI f) = true := h2
    rw [eqv_eI] at h2
    exact of_decide_eq_true h2 ▸ h1
  · intro h
    refine ⟨f, h, ?_⟩
    show PyData.eqv (eI f) (eI f) = true
    rw [eqv_eI]
    exact decide_eq_true rfl
theorem sh_eI {k : Nat} (e : Nat × Nat) : Sh (k + 1) (eI e) := sh_encS (k := k) [(e.1 : Int), (e.2 : Int)]
theorem sh_es {k : Nat} (es : List (Nat × Nat)) : Sh (k + 2) (.tuple (es.map eI)) := sh_tup (sh_map fun e _ => sh_eI e)
theorem sc_law_near : FnScope ["_law_web_here", "_law_found", "_law_one", "_law_other"] ["_law_web_here"] (defScope (top 55)) := ⟨rfl, rfl, rfl, by decide +kernel, rfl, by decide +kernel, by decide +kernel⟩
/-- _law_near: 0 _law_web_here, 1 _law_found, 2 _law_one, 3 _law_other -/
theorem c_law_near (T : Txt K mg) : Cl P w K mg base 1 "_law_near" (SpP K preNear) := by
  refine cl_pure T.f_law_near sc_law_near (fun _ _ _ _ _ _ us hl => match us, hl with | [_], _ => rfl) (by rintro _ _ ⟨_, rfl, _⟩; rfl) (fun f cdv A outer s H E hr => ⟨_, (pss_cons (ps_set (i := 1) sc_law_near.nd rfl (Or.inl rfl) (pe_lst pa_nil))
      (pss_cons (ps_for PassesOwn.never rfl (pi_range1 rfl T.n_range (pa_cons (pe_ix (k_ixT K rfl) (pv 0) pe_int (fun _ _ => rfl)) pa_nil)) (pg_name (i := 2) sc_law_near.nd rfl (Or.inr rfl)) (pss_one (ps_expr (pe_bm PySem.F.plainAttrs_list PySem.F.slot_list_append PySem.F.type_list_append mt_append (pv 1) (pa_cons (pe_lc (own := [("_law_other", 3)]) rfl sc_law_near.nd (pi_range1 rfl T.n_range (pa_cons (pe_ix (k_ixT K rfl) (pv 0) pe_int (fun _ _ => rfl)) pa_nil)) (blkOk_by (by kernel_rfl)) (fun _ _ _ _ _ => (pg_name (i := 3) sc_law_near.nd rfl (Or.inl rfl))) (fun _ _ _ _ _ => pts_one (pt_cmpR (k_inT K rfl (hu65 hr)) (pe_tup (pa_cons (pe_callB (call_min2 rfl) rfl T.n_min bb_min (pa_cons (pv 2) (pa_cons (pv 3) pa_nil))) (pa_cons (pe_callB (call_max2 rfl) rfl T.n_max bb_max (pa_cons (pv 2) (pa_cons (pv 3) pa_nil))) pa_nil))) (pe_ix (k_ixT K rfl) (pv 0) pe_int (fun _ _ => rfl)) rfl)) (fun _ _ _ _ _ => (pv 3))) pa_nil)))))
      (pss_one (ps_ret (pv 1))))), fun ds d h => ?_⟩)
  obtain ⟨g, rfl, ok, rfl⟩ := h
  have n1 := ok.n1
  have n6 := ok.n6
  have tk : ∀ m, m < g.n → (near g).take (m + 1) = (near g).take m ++ [nrow g m] := fun m hm => take_more (near_get hm)
  refine sd_seq (sd_setN (en_lst ea_nil (by simp)) ?_)
  refine sd_seq (sd_for1 (n := g.n) (ea_cons (ef_ixT (ef_var rfl) ef_int (encW0 g)) ea_nil) (by omega) (fun m r => ∃ a b, r = [.fz (encW g), .mu (((near g).take m).map encL), a, b]) ⟨_, _, rfl⟩ (fun m r hm hI => ?_) (fun r hI => ?_))
  · obtain ⟨a, b, rfl⟩ := hI
    have hm' : m < g.n := by omega
    refine sd_app (k := 1) rfl (d := encL (nrow g m)) (ef_is (En.ef (en_lcR (n := g.n) (nbr g m) iN (ea_cons (ef_ixT (ef_var rfl) ef_int (encW0 g)) ea_nil) (by omega) (fun j hj => (eb_is (eb_test (ef_inTD (neg := false) (d := eI (min m j, max m j)) (Ef.er (ef_is (ef_tup (ea_cons (ef_min2 (ef_var rfl) (ef_var rfl)) (ea_cons (ef_max2 (ef_var rfl) (ef_var rfl)) ea_nil)) (by simp)) ?_)) (ef_ixT (ef_var rfl) ef_int (encW1 g)) ((sh_eI (k := 1) _).ok (by omega)) ((sh_es (k := 1) _).ok (by omega)))) (any_eI _ _))) (fun m hm _ => (ef_var rfl)))) (by rw [toNat_cast]; rfl)) ?_ ⟨.fz (iN m), b, ?_⟩
    · unfold eI iN
      congr 3
      · split <;> omega
      · congr 2
        split <;> omega
    · rw [List.length_map, List.length_take, near_len]
      omega
    · rw [tk m hm', List.map_append]
      rfl
  · obtain ⟨a, b, rfl⟩ := hI
    refine sd_freeze (k := 1) rfl (sd_ret (ef_var rfl) ?_)
    show PyData.list _ = encNear g
    unfold encNear
    rw [toNat_cast, List.take_of_length_le (by rw [near_len]; omega)]
def preLStep (ds : List PyData) (d : PyData) : Prop := ∃ (n : Nat) (st : List Int) (i j : Nat), ds = [encS st, iN i, iN j] ∧ SOk n st ∧ i < n ∧ j < n ∧ d = .int (stp st i j)
theorem ab_cases {a b : Int} (ha : 0 ≤ a ∧ a ≤ 2) (hb : 0 ≤ b ∧ b ≤ 2) (P : Int → Int → Prop) (h : P 0 0 ∧ P 0 1 ∧ P 0 2 ∧ P 1 0 ∧ P 1 1 ∧ P 1 2 ∧ P 2 0 ∧ P 2 1 ∧ P 2 2) : P a b := by
  have ca : a = 0 ∨ a = 1 ∨ a = 2 := by omega
  have cb : b = 0 ∨ b = 1 ∨ b = 2 := by omega
  rcases ca with rfl | rfl | rfl <;> rcases cb with rfl | rfl | rfl <;> simp only [h]
def ringP : List PyData := [.tuple [.int 0, .int 1], .tuple [.int 1, .int 2], .tuple [.int 2, .int 0]]
theorem sc_law_step : FnScope ["_law_state_here", "_law_one", "_law_other", "_law_pair"] ["_law_state_here", "_law_one", "_law_other"] (defScope (top 56)) := ⟨rfl, rfl, rfl, by decide +kernel, rfl, by decide +kernel, by decide +kernel⟩
/-- _law_step: 0 _law_state_here, 1 _law_one, 2 _law_other, 3 _law_pair -/
theorem c_law_step (T : Txt K mg) : Cl P w K mg base 1 "_law_step" (SpP K preLStep) := by
  refine cl_pure T.f_law_step sc_law_step (fun _ _ _ _ _ _ us hl => match us, hl with | [_, _, _], _ => rfl) (by rintro _ _ ⟨_, _, _, _, rfl, _⟩; rfl) (fun f cdv A outer s H E hr => ⟨_, (pss_cons (ps_set (i := 3) sc_law_step.nd rfl (Or.inl rfl) (pe_tup (pa_cons (pe_ix (k_ixT K rfl) (pv 0) (pv 1) (fun _ _ => rfl)) (pa_cons (pe_ix (k_ixT K rfl) (pv 0) (pv 2) (fun _ _ => rfl)) pa_nil))))
      (pss_one (ps_ret (pe_ifExp (pt_cmpR (k_inD K rfl (hu65 hr)) (pv 3) (pe_lst (pa_cons (pe_tup (pa_cons pe_int (pa_cons pe_int pa_nil))) (pa_cons (pe_tup (pa_cons pe_int (pa_cons pe_int pa_nil))) (pa_cons (pe_tup (pa_cons pe_int (pa_cons pe_int pa_nil))) pa_nil)))) rfl) pe_int (pe_ifExp (pt_cmpR op_ne (pe_ix (k_ixT K rfl) (pv 3) pe_int (fun _ _ => rfl)) (pe_ix (k_ixT K rfl) (pv 3) pe_int (fun _ _ => rfl)) (nomark _)) (pe_un un_neg pe_int) pe_int))))), fun ds d h => ?_⟩)
  obtain ⟨n, st, i, j, rfl, so, hi, hj, rfl⟩ := h
  have a1 := encS_at (st := st) (i := i) (by rw [so.len]; exact hi)
  have a2 := encS_at (st := st) (i := j) (by rw [so.len]; exact hj)
  refine sd_seq (sd_set (d := encS [ms st i, ms st j]) (ef_tup (ea_cons (ef_ixT (ef_var rfl) (ef_var rfl) a1) (ea_cons (ef_ixT (ef_var rfl) (ef_var rfl) a2) ea_nil)) (by simp)) ?_)
  have p0 : atI [PyData.int (ms st i), .int (ms st j)] 0 = some (.int (ms st i)) := rfl
  have p1 : atI [PyData.int (ms st i), .int (ms st j)] 1 = some (.int (ms st j)) := rfl
  have li := so.lim hi
  have lj := so.lim hj
  have sh : SeqAt.shaped (.list ringP) = true := by decide
  refine sd_ret (ef_if (b := ringP.any fun z => PyData.eqv z (encS [ms st i, ms st j])) (eb_test (ef_inD (Ef.er (ef_var rfl)) (El.er (En.el (en_lst (ea_cons (ef_tup (ea_cons ef_int (ea_cons ef_int ea_nil)) (by simp)) (ea_cons (ef_tup (ea_cons ef_int (ea_cons ef_int ea_nil)) (by simp)) (ea_cons (ef_tup (ea_cons ef_int (ea_cons ef_int ea_nil)) (by simp)) ea_nil))) (by decide)))) ((sh_encS (k := 1) _).ok (by omega)) sh)) (fun h => ?_) (fun h => ef_if (b := !decide (ms st i = ms st j)) (eb_test (ef_neI (ef_ixT (ef_var rfl) ef_int p0) (ef_ixT (ef_var rfl) ef_int p1))) (fun h2 => ?_) (fun h2 => ?_))) rfl
  · have : stp st i j = 1 := by
      unfold stp
      generalize ms st i = a at *
      generalize ms st j = b at *
      revert h
      refine ab_cases li lj (fun a b => (ringP.any fun z => PyData.eqv z (encS [a, b])) = true → stepI a b = 1) ?_
      decide
    rw [this]
    exact ef_int
  · have : stp st i j = -1 := by
      unfold stp
      generalize ms st i = a at *
      generalize ms st j = b at *
      revert h h2
      refine ab_cases li lj (fun a b => (ringP.any fun z => PyData.eqv z (encS [a, b])) = false → (!decide (a = b)) = true → stepI a b = -1) ?_
      decide
    rw [this]
    exact ef_neg ef_int
  · have : stp st i j = 0 := by
      unfold stp
      have : ms st i = ms st j := by simpa using h2
      rw [this]
      exact stepI_self
    rw [this]
    exact ef_int
def preLNext (ds : List PyData) (d : PyData) : Prop := ∃ (g : Web) (st : List Int), ds = [encW g, encS st] ∧ WOk g ∧ SOk g.n st ∧ d = encS (nxt g st)
def nxtD : List (Int × PyData) := [(0, .int 1), (1, .int 2), (2, .int 0)]
theorem nxt_get {a : Int} (h : 0 ≤ a ∧ a ≤ 2) : valV (mergeK [] (keyed nxtD)) (Sum.inl a) = some (toV (.int ((a + 1) % 3))) := by
  have : a = 0 ∨ a = 1 ∨ a = 2 := by omega
  rcases this with rfl | rfl | rfl <;> rfl
theorem sc_law_next : FnScope ["_law_web_here", "_law_state_here", "_law_found", "_law_near_here", "_law_one", "_law_other"] ["_law_web_here", "_law_state_here"] (defScope (top 57)) := ⟨rfl, rfl, rfl, by decide +kernel, rfl, by decide +kernel, by decide +kernel⟩
/-- _law_next: 0 _law_web_here, 1 _law_state_here, 2 _law_found, 3 _law_near_here, 4 _law_one, 5 _law_other -/
theorem c_law_next (T : Txt K mg) : Cl P w K mg base 2 "_law_next" (SpP K preLNext) := by
  refine cl_pure T.f_law_next sc_law_next (fun _ _ _ _ _ _ us hl => match us, hl with | [_, _], _ => rfl) (by rintro _ _ ⟨_, _, rfl, _⟩; rfl) (fun f cdv A outer s H E hr => ⟨_, (pss_cons (ps_par (i := 2) (j := 3) rfl sc_law_next.nd rfl rfl (by decide) rfl rfl (pa_cons (pe_callTy (k_list K rfl) rfl T.n_list bb_list (pa_cons (pv 1) pa_nil)) (pa_cons (pe_cl (c_law_near T) hr (by decide) rfl (pa_cons (pv 0) pa_nil)) pa_nil)) (by rfl))
      (pss_cons (ps_for PassesOwn.never rfl (pi_range1 rfl T.n_range (pa_cons (pe_ix (k_ixT K rfl) (pv 0) pe_int (fun _ _ => rfl)) pa_nil)) (pg_name (i := 4) sc_law_next.nd rfl (Or.inr rfl)) (pss_one (ps_if (pt_cmpR (k_neD K rfl hr.units) (pe_lc (own := [("_law_other", 5)]) rfl sc_law_next.nd (kpi_list K rfl (pe_ix (k_ixL K rfl) (pv 3) (pv 4) (fun _ _ => rfl))) (blkOk_by (by kernel_rfl)) (fun _ _ _ _ _ => (pg_name (i := 5) sc_law_next.nd rfl (Or.inl rfl))) (fun _ _ _ _ _ => pts_one (pt_cmpR op_eq (pe_cl (c_law_step T) hr (by decide) rfl (pa_cons (pv 1) (pa_cons (pv 4) (pa_cons (pv 5) pa_nil)))) pe_int (nomark _))) (fun _ _ _ _ _ => (pv 5))) (pe_lst pa_nil) (nomark _)) (pss_one (ps_asg (pe_dget (hu1 hr) (pe_disp (pps_cons pe_int pe_int (pps_cons pe_int pe_int (pps_cons pe_int pe_int pps_nil))) rfl rfl (List.cons_ne_nil _ _) (by decide)) (pe_ix (k_ixT K rfl) (pv 1) (pv 4) (fun _ _ => rfl)) (fun _ _ => rfl)) (pg_sub (pv 2) (pv 4) set_list))) pss_nil)))
      (pss_one (ps_ret (pe_callTy (k_tuple K rfl) rfl T.n_tuple bb_tuple (pa_cons (pv 2) pa_nil)))))), fun ds d h => ?_⟩)
  obtain ⟨g, st, rfl, ok, so, rfl⟩ := h
  have n1 := ok.n1
  have n6 := ok.n6
  refine sd_seq (sd_par2 (k1 := .mu (st.map .int)) (k2 := .fz (encNear g)) (ek_mu (en_listOfT (ef_var rfl)) (ek_fz (ef_call (ea_cons (ef_var rfl) ea_nil) ⟨g, rfl, ok, rfl⟩) ek_nil)) ?_)
  refine sd_seq (sd_for1 (n := g.n) (ea_cons (ef_ixT (ef_var rfl) ef_int (encW0 g)) ea_nil) (by omega) (fun m r => ∃ a b, r = [.fz (encW g), .fz (encS st), .mu ((List.range g.n).map fun i => .int (if i < m then ms (nxt g st) i else ms st i)), .fz (encNear g), a, b]) ⟨.no, .no, ?_⟩ (fun m r hm hI => ?_) (fun r hI => ?_))
  · show [_, _, Slo.mu _, _, _, _] = _
    refine congrArg (fun l => [Slo.fz (encW g), .fz (encS st), .mu l, .fz (encNear g), .no, .no]) ?_
    conv => lhs; rw [list_ms so, List.map_map]
    refine List.map_congr_left fun i _ => ?_
    rw [if_neg (Nat.not_lt_zero i)]
    rfl
  · obtain ⟨a, b, rfl⟩ := hI
    have hm' : m < g.n := by omega
    have L : List Nat := (nrow g m).filter fun j => decide (stp st m j = 1)
    refine sd_if (b := stirB g st m) (eb_is (eb_test (ef_neD (El.er (En.el (en_lcL (nrow g m) iN (fun j => decide (stp st m j = 1)) iN (Ef.el (ef_ixL (Ef.el (ef_var rfl)) (ef_var rfl) (encNear_at hm'))) (by have := nrow_len g m; omega) (fun j hj => (eb_test (ef_eqI (ef_call (d := .int (stp st m j)) (ea_cons (ef_var rfl) (ea_cons (ef_var rfl) (ea_cons (ef_var rfl) ea_nil))) ⟨g.n, st, m, j, rfl, so, hm', (nrow_mem.mp hj).1, rfl⟩) ef_int))) (fun j hj _ => (ef_var rfl))))) (El.er (En.el (en_lst ea_nil (by simp)))) ((sh_encL (k := 1) _).ok (by omega)) ((sh_nil (k := 1)).ok (by omega)))) ?_) (fun hb => ?_) (fun hb => sd_next ⟨.fz (iN m), b, ?_⟩)
    · rw [eqv_nil, List.isEmpty_map]
      unfold stirB
      cases e : (nrow g m).filter fun j => decide (stp st m j = 1) with
      | nil =>
        rw [List.filter_eq_nil_iff] at e
        symm
        show (nrow g m).any _ = false
        rw [List.any_eq_false]
        exact e
      | cons x l =>
        symm
        show (nrow g m).any _ = true
        have hx : x ∈ (nrow g m).filter fun j => decide (stp st m j = 1) := by rw [e]; simp
        rw [List.mem_filter] at hx
        exact List.any_eq_true.mpr ⟨x, hx⟩
    · refine sd_item (k := 2) rfl (d := .int ((ms st m + 1) % 3)) (ef_dget (end_disp (kvs := nxtD) (edp_cons ef_int ef_int rfl (edp_cons ef_int ef_int rfl (edp_cons ef_int ef_int rfl edp_nil))) (by decide)) (ef_ixT (ef_var rfl) (ef_var rfl) (encS_at (by rw [so.len]; exact hm'))) (nxt_get (so.lim hm')) rfl) (ef_var rfl) (m := m) (by rw [List.length_map, List.length_range]; exact ixN_nat hm') ⟨.fz (iN m), b, ?_⟩
      show [_, _, Slo.mu _, _, _, _] = _
      refine congrArg (fun l => [Slo.fz (encW g), .fz (encS st), .mu l, .fz (encNear g), .fz (iN m), b]) ?_
      rw [set_map_range hm']
      refine List.map_congr_left fun i hi => ?_
      by_cases q : i = m
      · subst q
        rw [if_pos rfl, if_pos (Nat.lt_succ_self i), ms_nxt hm', hb, if_pos rfl]
      · rw [if_neg q]
        congr 1
        exact ifc ⟨fun _ => by omega, fun _ => by omega⟩ rfl rfl
    · show [_, _, Slo.mu _, _, _, _] = _
      refine congrArg (fun l => [Slo.fz (encW g), .fz (encS st), .mu l, .fz (encNear g), .fz (iN m), b]) ?_
      refine List.map_congr_left fun i hi => ?_
      congr 1
      by_cases q : i = m
      · subst q
        have := so.lim hm'
        rw [if_neg (Nat.lt_irrefl i), if_pos (Nat.lt_succ_self i), ms_nxt hm', hb]
        simp
        omega
      · exact ifc ⟨fun _ => by omega, fun _ => by omega⟩ rfl rfl
  · obtain ⟨a, b, rfl⟩ := hI
    refine sd_ret (ef_is (ef_tupleOf (el_var rfl)) ?_) rfl
    unfold encS
    rw [toNat_cast]
    conv => rhs; rw [list_ms (nxt_ok (g := g) st), List.map_map]
    congr 1
    refine List.map_congr_left fun i hi => ?_
    rw [if_pos (List.mem_range.mp hi)]
    rfl
end
end Tm
set_option maxRecDepth 100000
set_option maxHeartbeats 4000000
/-! The law's own reckoning: rounds, shares, stills, late states. -/
namespace Tm
open PySem PyProof.Rows L2
section
variable {P : Program} {w : World} {K : PySem.W.Frag} {mg : Str → Option Value} {base : Heap}
def preRound (ds : List PyData) (d : PyData) : Prop := ∃ (n : Nat) (st : List Int) (x : Nat) (l : List Nat), ds = [encS st, encP (x :: l)] ∧ SOk n st ∧ (∀ y, y ∈ x :: l → y < n) ∧ l.length ≤ 6 ∧ d = .int (rsum st x l)
theorem getD_at {l : List Nat} {k : Nat} (h : k < l.length) : atI (l.map iN) (k : Int) = some (iN (l.getD k 0)) := atN (by rw [List.getElem?_map, List.getD_eq_getElem?_getD, List.getElem?_eq_getElem h]; rfl)
theorem sc_law_round : FnScope ["_law_state_here", "_law_ring", "_law_k"] ["_law_state_here", "_law_ring"] (defScope (top 61)) := ⟨rfl, rfl, rfl, by decide +kernel, rfl, by decide +kernel, by decide +kernel⟩
/-- _law_round: 0 _law_state_here, 1 _law_ring, 2 _law_k -/
theorem c_law_round (T : Txt K mg) : Cl P w K mg base 2 "_law_round" (SpP K preRound) := by
  refine cl_pure T.f_law_round sc_law_round (fun _ _ _ _ _ _ us hl => match us, hl with | [_, _], _ => rfl) (by rintro _ _ ⟨_, _, _, _, rfl, _⟩; rfl) (fun f cdv A outer s H E hr => ⟨_, (pss_one (ps_ret (pe_callB (k_sum K rfl rfl) rfl T.n_sum bb_sum (pa_cons (pe_lc (own := [("_law_k", 2)]) rfl sc_law_round.nd (pi_range1 rfl T.n_range (pa_cons (pe_callB (k_len K rfl) rfl T.n_len bb_len (pa_cons (pv 1) pa_nil)) pa_nil)) (blkOk_by (by kernel_rfl)) (fun _ _ _ _ _ => (pg_name (i := 2) sc_law_round.nd rfl (Or.inl rfl))) (fun _ _ _ _ _ => pts_nil) (fun _ _ _ _ _ => (pe_cl (c_law_step T) hr (by decide) rfl (pa_cons (pv 0) (pa_cons (pe_ix (k_ixT K rfl) (pv 1) (pe_op op_sub (pv 2) pe_int) (fun _ _ => rfl)) (pa_cons (pe_ix (k_ixT K rfl) (pv 1) (pv 2) (fun _ _ => rfl)) pa_nil)))))) pa_nil)))), fun ds d h => ?_⟩)
  obtain ⟨n, st, x, l, rfl, so, hlt, hl, rfl⟩ := h
  have el : (((x :: l).map iN).length : Int) = (l.length + 1 : Nat) := by rw [List.length_map, List.length_cons]
  have hne : x :: l ≠ [] := List.cons_ne_nil _ _
  have prev : ∀ m : Nat, m < l.length + 1 → ∃ y, y ∈ x :: l ∧ atI ((x :: l).map iN) ((m : Int) - 1) = some (iN y) ∧ y = if m = 0 then (x :: l).getLast hne else (x :: l).getD (m - 1) 0 := fun m hm => by
    by_cases q : m = 0
    · subst q
      refine ⟨(x :: l).getLast hne, List.getLast_mem hne, ?_, by rw [if_pos rfl]⟩
      have e : x :: l = (x :: l).dropLast ++ [(x :: l).getLast hne] := (List.dropLast_concat_getLast hne).symm
      conv => lhs; rw [e, List.map_append]
      exact atI_last _ _
    · refine ⟨(x :: l).getD (m - 1) 0, getD_mem (by rw [List.length_cons]; omega), ?_, by rw [if_neg q]⟩
      rw [show (m : Int) - 1 = ((m - 1 : Nat) : Int) by omega]
      exact getD_at (by rw [List.length_cons]; omega)
  refine sd_ret (ef_is (ef_sum (ns := (List.range (l.length + 1)).map fun k => stp st (if k = 0 then (x :: l).getLast hne else (x :: l).getD (k - 1) 0) ((x :: l).getD k 0)) (En.el (en_is (en_lcR (n := (l.length + 1 : Nat)) (fun _ => true) (fun k => .int (stp st (if k = 0 then (x :: l).getLast hne else (x :: l).getD (k - 1) 0) ((x :: l).getD k 0))) (ea_cons (ef_is (ef_lenT (ef_var rfl)) (congrArg PyData.int el)) ea_nil) (by omega) (fun m hm => eb_yes) (fun m hm _ => ?_)) (by rw [filt_yes, toNat_cast, List.map_map]; rfl)))) ?_) rfl
  · obtain ⟨y, hy, ay, ey⟩ := prev m (by omega)
    rw [← ey]
    exact ef_call (ea_cons (ef_var rfl) (ea_cons (ef_ixT (ef_var rfl) (ef_I0 (ef_var rfl) ef_int) ay) (ea_cons (ef_ixT (ef_var rfl) (ef_var rfl) (getD_at (by rw [List.length_cons]; omega))) ea_nil))) ⟨n, st, y, (x :: l).getD m 0, rfl, so, hlt y hy, hlt _ (getD_mem (by rw [List.length_cons]; omega)), rfl⟩
  · congr 1
    have e0 : (List.range (l.length + 1)).map (fun k => stp st (if k = 0 then (x :: l).getLast hne else (x :: l).getD (k - 1) 0) ((x :: l).getD k 0)) = stp st ((x :: l).getLast hne) x :: (List.range l.length).map fun k => stp st ((x :: l).getD k 0) (l.getD k 0) := by
      rw [List.range_succ_eq_map, List.map_cons, List.map_map]
      rfl
    rw [e0, List.sum_cons, psum_range]
    unfold rsum
    have := psum_snoc st x l x
    rw [show x :: (l ++ [x]) = x :: l ++ [x] from rfl, this]
    omega
theorem sc_law_share : FnScope ["_law_top", "_law_bottom", "_law_one", "_law_other"] ["_law_top", "_law_bottom"] (defScope (top 62)) := ⟨rfl, rfl, rfl, by decide +kernel, rfl, by decide +kernel, by decide +kernel⟩
/-- _law_share: 0 _law_top, 1 _law_bottom, 2 _law_one, 3 _law_other -/
theorem c_law_share (T : Txt K mg) : Cl P w K mg base 1 "_law_share" (SpP K preShare) := by
  refine cl_pure T.f_law_share sc_law_share (fun _ _ _ _ _ _ us hl => match us, hl with | [_, _], _ => rfl) (by rintro _ _ ⟨_, _, rfl, _⟩; rfl) (fun f cdv A outer s H E hr => ⟨_, (pss_cons (ps_par (i := 2) (j := 3) rfl sc_law_share.nd rfl rfl (by decide) rfl rfl (pa_cons (pe_callB call_abs rfl T.n_abs bb_abs (pa_cons (pv 0) pa_nil)) (pa_cons (pv 1) pa_nil)) (by rfl))
      (pss_cons (ps_while PassesOwn.never (pt_cmpR op_gt (pv 3) pe_int (nomark _)) (pss_one (ps_par (i := 2) (j := 3) rfl sc_law_share.nd rfl rfl (by decide) rfl rfl (pa_cons (pv 3) (pa_cons (pe_op op_mod (pe_callTy call_int1 rfl T.n_int bb_int (pa_cons (pv 2) pa_nil)) (pv 3)) pa_nil)) (by rfl))))
      (pss_one (ps_ret (pe_tup (pa_cons (pe_op op_fdiv (pv 0) (pv 2)) (pa_cons (pe_op op_fdiv (pv 1) (pv 2)) pa_nil))))))), fun ds d h => ?_⟩)
  obtain ⟨v, t, rfl, ht, hl, rfl⟩ := h
  have g0 : 0 < Nat.gcd v t := Nat.gcd_pos_of_pos_right _ ht
  have g1 : Nat.gcd v t ≤ t := Nat.le_of_dvd ht (Nat.gcd_dvd_right _ _)
  refine sd_seq (sd_par2 (k1 := .fz (iN v)) (k2 := .fz (iN t)) (ek_fz (ef_is (ef_abs (ef_var rfl)) (by unfold iN; rw [if_neg (by omega)])) (ek_fz (ef_var rfl) ek_nil)) ?_)
  refine sd_seq (sd_while (fun k r => ∃ x, r = [.fz (iN v), .fz (iN t), .fz (iN x), .fz (iN k)] ∧ Nat.gcd x k = Nat.gcd v t) t ⟨v, rfl, rfl⟩ (fun k r hI => ?_))
  obtain ⟨x, rfl, hg⟩ := hI
  refine ⟨decide (0 < k), eb_is (eb_test (ef_B0 (ef_var rfl) ef_int)) (decide_eq_decide.mpr ⟨fun h => by omega, fun h => by omega⟩), fun hb => ?_, fun hb => ?_⟩
  · have hk : 0 < k := of_decide_eq_true hb
    refine sd_par2 (k1 := .fz (iN k)) (k2 := .fz (iN (x % k))) (ek_fz (ef_var rfl) (ek_fz (ef_is (ef_mod (ef_intI (ef_var rfl)) (ef_var rfl) (by omega)) (by unfold iN; congr 1)) ek_nil)) ⟨x % k, Nat.mod_lt _ hk, k, rfl, by rw [gcd_turn]; exact hg⟩
  · have hk : k = 0 := by have := of_decide_eq_false hb; omega
    subst hk
    rw [Nat.gcd_zero_right] at hg
    subst hg
    exact sd_ret (ef_is (ef_tup (ea_cons (ef_fdiv (ef_var rfl) (ef_var rfl) (by omega) (by omega)) (ea_cons (ef_fdiv (ef_var rfl) (ef_var rfl) (by omega) (by omega)) ea_nil)) (by simp)) (by unfold fracD iN; congr 1)) rfl
def preStill (ds : List PyData) (d : PyData) : Prop := ∃ (g : Web) (st : List Int) (m : Nat) (o : Option Nat), ds = [encW g, encS st, iN m] ∧ WOk g ∧ SOk g.n st ∧ m ≤ 100 ∧ d = oN o ∧ match o with
  | some k => First g st k ∧ k ≤ m
  | none => ∀ k, k ≤ m → ¬ StillAt g st k
theorem sc_law_still : FnScope ["_law_web_here", "_law_state_here", "_law_many", "_law_k", "_law_later"] ["_law_web_here", "_law_state_here", "_law_many"] (defScope (top 64)) := ⟨rfl, rfl, rfl, by decide +kernel, rfl, by decide +kernel, by decide +kernel⟩
/-- _law_still: 0 _law_web_here, 1 _law_state_here, 2 _law_many, 3 _law_k, 4 _law_later -/
theorem c_law_still (T : Txt K mg) : Cl P w K mg base 3 "_law_still" (SpP K preStill) := by
  refine cl_pure T.f_law_still sc_law_still (fun _ _ _ _ _ _ us hl => match us, hl with | [_, _, _], _ => rfl) (by rintro _ _ ⟨_, _, _, _, rfl, _⟩; rfl) (fun f cdv A outer s H E hr => ⟨_, (pss_cons (ps_for PassesOwn.never rfl (pi_range1 rfl T.n_range (pa_cons (pe_op op_add (pv 2) pe_int) pa_nil)) (pg_name (i := 3) sc_law_still.nd rfl (Or.inl rfl)) (pss_cons (ps_set (i := 4) sc_law_still.nd rfl (Or.inl rfl) (pe_cl (c_law_next T) hr (by decide) rfl (pa_cons (pv 0) (pa_cons (pv 1) pa_nil))))
      (pss_cons (ps_if (pt_cmpR (k_eqD K rfl hr.units) (pv 4) (pv 1) (nomark _)) (pss_one (ps_ret (pv 3))) pss_nil)
      (pss_one (ps_set (i := 1) sc_law_still.nd rfl (Or.inl rfl) (pv 4))))))
      (pss_one (ps_ret pe_non))), fun ds d h => ?_⟩)
  obtain ⟨g, st, m, o, rfl, ok, so, hm, rfl, ho⟩ := h
  refine sd_seq (sd_for1 (n := (m + 1 : Nat)) (ea_cons (ef_is (ef_I0 (ef_var rfl) ef_int) rfl) ea_nil) (by omega) (fun k r => ∃ a b, r = [.fz (encW g), .fz (encS (itr g st k)), .fz (iN m), a, b] ∧ ∀ u, u < k → ¬ StillAt g st u) ⟨_, _, rfl, fun u hu => absurd hu (Nat.not_lt_zero u)⟩ (fun k r hk hI => ?_) (fun r hI => ?_))
  · obtain ⟨a, b, rfl, hn⟩ := hI
    refine sd_seq (sd_set (d := encS (itr g st (k + 1))) (ef_call (ea_cons (ef_var rfl) (ea_cons (ef_var rfl) ea_nil)) ⟨g, itr g st k, rfl, ok, itr_ok so k, rfl⟩) ?_)
    refine sd_seq (sd_if (eb_is (eb_test (ef_eqD (Ef.er (ef_var rfl)) (Ef.er (ef_var rfl)) ((sh_encS (k := 1) _).ok (by omega)) ((sh_encS (k := 1) _).ok (by omega)))) (eqv_encS _ _)) (fun hb => ?_) (fun hb => sd_next ?_))
    · have hs0 : itr g st (k + 1) = itr g st k := of_decide_eq_true hb
      have hs : StillAt g st k := hs0
      refine sd_ret (ef_var rfl) ?_
      cases o with
      | none => exact absurd hs (ho k (by omega))
      | some j => rw [First.inj ho.1 ⟨hs, hn⟩]; rfl
    · have hs0 : ¬ itr g st (k + 1) = itr g st k := of_decide_eq_false hb
      have hs : ¬ StillAt g st k := hs0
      refine sd_set (ef_var rfl) ⟨.fz (iN k), .fz (encS (itr g st (k + 1))), rfl, fun u hu => ?_⟩
      by_cases q : u = k
      · rw [q]; exact hs
      · exact hn u (by omega)
  · obtain ⟨a, b, rfl, hn⟩ := hI
    refine sd_ret ef_non ?_
    cases o with
    | none => rfl
    | some j => exact absurd ho.1.1 (hn j (by rw [toNat_cast]; omega))
def encTr (g : Web) (st : List Int) (m : Nat) : PyData := .list ((List.range m).map fun k => encS (itr g st k))
def preTrip (ds : List PyData) (d : PyData) : Prop := ∃ (g : Web) (st : List Int) (m j : Nat), ds = [encW g, encS st] ∧ WOk g ∧ SOk g.n st ∧ Per g st m j ∧ d = .tuple [encTr g st m, iN j]
theorem any_tr (g : Web) (st x : List Int) (m : Nat) : (((List.range m).map fun k => encS (itr g st k)).any fun z => PyData.eqv z (encS x)) = true ↔ ∃ k, k < m ∧ itr g st k = x := by
  rw [List.any_map, List.any_eq_true]
  constructor
  · rintro ⟨k, h1, h2⟩
    have h2 : PyData.eqv (encS (itr g st k)) (encS x) = true := h2
    rw [eqv_encS] at h2
    exact ⟨k, List.mem_range.mp h1, of_decide_eq_true h2⟩
  · rintro ⟨k, h1, h2⟩
    refine ⟨k, List.mem_range.mpr h1, ?_⟩
    show PyData.eqv (encS (itr g st k)) (encS x) = true
    rw [eqv_encS, decide_eq_true h2]
theorem sh_tr {k : Nat} (g : Web) (st : List Int) (m : Nat) : Sh (k + 2) (encTr g st m) := sh_list (sh_map fun i _ => sh_encS _)
theorem ef_indexD {K : PySem.W.Frag} {r : List Slo} {ta tb : TE} {d z : PyData} {ds : List PyData} {j : Nat} (ha : El K ta r ds) (hb : Ef K tb r d) (h1 : SeqAt.shaped (.list ds) = true) (h2 : SeqAt.shaped d = true) (hz : ds[j]? = some z) (e : PyData.eqv z d = true) (hn : ∀ (m : Nat) (z' : PyData), m < j → ds[m]? = some z' → PyData.eqv z' d = false) :
    Ef K (tBM K "list" (rIndexD K) ta (tCons tb tNil)) r (iN j) := by
  intro M F0 H0 s F H S Q q
  refine ha _ _ _ _ _ _ S _ fun p vs F1 H1 g1 sq dv => ?_
  refine ⟨?_, hb _ _ _ _ _ _ (S.grow g1) _ fun y F2 H2 g2 dy => ?_⟩
  · exact .inl ⟨rfl, vs, sq⟩
  · exact ⟨p, y, d, ds, j, z, rfl, rfl, .lst (sl_up g2.h sq) (DpAll.up (g2.f.trans g2.i) _ _ dv), Dp.up g2.i _ _ dy, h1, h2, hz, e, hn, q _ F2 H2 (g1.trans g2) (.int _)⟩
theorem sc_law_round_trip : FnScope ["_law_web_here", "_law_state_here", "_law_found", "_law_later"] ["_law_web_here", "_law_state_here"] (defScope (top 65)) := ⟨rfl, rfl, rfl, by decide +kernel, rfl, by decide +kernel, by decide +kernel⟩
/-- _law_round_trip: 0 _law_web_here, 1 _law_state_here, 2 _law_found, 3 _law_later -/
theorem c_law_round_trip (T : Txt K mg) : Cl P w K mg base 3 "_law_round_trip" (SpP K preTrip) := by
  refine cl_pure T.f_law_round_trip sc_law_round_trip (fun _ _ _ _ _ _ us hl => match us, hl with | [_, _], _ => rfl) (by rintro _ _ ⟨_, _, _, _, rfl, _⟩; rfl) (fun f cdv A outer s H E hr => ⟨_, (pss_cons (ps_set (i := 2) sc_law_round_trip.nd rfl (Or.inl rfl) (pe_lst (pa_cons (pv 1) pa_nil)))
      (pss_cons (ps_set (i := 3) sc_law_round_trip.nd rfl (Or.inl rfl) (pe_cl (c_law_next T) hr (by decide) rfl (pa_cons (pv 0) (pa_cons (pv 1) pa_nil))))
      (pss_cons (ps_while PassesOwn.never (pt_cmpR (k_niD K rfl (hu65 hr)) (pv 3) (pv 2) rfl) (pss_cons (ps_expr (pe_bm PySem.F.plainAttrs_list PySem.F.slot_list_append PySem.F.type_list_append mt_append (pv 2) (pa_cons (pv 3) pa_nil)))
      (pss_one (ps_set (i := 3) sc_law_round_trip.nd rfl (Or.inl rfl) (pe_cl (c_law_next T) hr (by decide) rfl (pa_cons (pv 0) (pa_cons (pv 3) pa_nil)))))))
      (pss_one (ps_ret (pe_tup (pa_cons (pv 2) (pa_cons (pe_bm PySem.F.plainAttrs_list PySem.F.slot_list_index PySem.F.type_list_index (k_indexD K rfl (hu65 hr)) (pv 2) (pa_cons (pv 3) pa_nil)) pa_nil)))))))), fun ds d h => ?_⟩)
  obtain ⟨g, st, m, j, rfl, ok, so, pr, rfl⟩ := h
  refine sd_seq (sd_setN (ds := (List.range 1).map fun k => encS (itr g st k)) (en_lst (ea_cons (ef_var rfl) ea_nil) (by simp)) ?_)
  refine sd_seq (sd_set (d := encS (itr g st 1)) (ef_call (ea_cons (ef_var rfl) (ea_cons (ef_var rfl) ea_nil)) ⟨g, st, rfl, ok, so, rfl⟩) ?_)
  refine sd_seq (sd_while (fun n r => ∃ k, r = [.fz (encW g), .fz (encS st), .mu ((List.range k).map fun k => encS (itr g st k)), .fz (encS (itr g st k))] ∧ 0 < k ∧ k ≤ m ∧ n + k = m) (m - 1) ⟨1, rfl, by omega, by have := pr.lt; omega, by have := pr.lt; omega⟩ (fun n r hI => ?_))
  obtain ⟨k, rfl, h0, hk, hn⟩ := hI
  have le := pr.le
  refine ⟨_, eb_test (ef_niD (Ef.er (ef_var rfl)) (El.er (el_var rfl)) ((sh_encS (k := 1) _).ok (by omega)) ((sh_tr (k := 1) g st k).ok (by omega))), fun hb => ?_, fun hb => ?_⟩
  · have hne : k ≠ m := fun e => by
      subst e
      have := (any_tr g st (itr g st k) k).mpr ⟨j, pr.lt, pr.same.symm⟩
      rw [this] at hb
      cases hb
    refine sd_seq (sd_app (k := 2) rfl (ef_var rfl) (by rw [List.length_map, List.length_range]; omega) ?_)
    refine sd_set (d := encS (itr g st (k + 1))) (ef_call (ea_cons (ef_var rfl) (ea_cons (ef_var rfl) ea_nil)) ⟨g, itr g st k, rfl, ok, itr_ok so k, rfl⟩) ⟨n - 1, by omega, k + 1, ?_, by omega, by omega, by omega⟩
    rw [List.range_succ, List.map_append]
    rfl
  · have ha : (((List.range k).map fun k => encS (itr g st k)).any fun z => PyData.eqv z (encS (itr g st k))) = true := by simpa using hb
    obtain ⟨i, hi, ei⟩ := (any_tr g st (itr g st k) k).mp ha
    have ek : k = m := by
      rcases Nat.lt_or_eq_of_le hk with l | l
      · exact absurd ei (pr.ne i k hi l)
      · exact l
    subst ek
    have ij : i = j := by
      rcases Nat.lt_trichotomy i j with l | l | l
      · exact absurd (ei.trans pr.same) (pr.ne i j l pr.lt)
      · exact l
      · exact absurd (ei.trans pr.same).symm (pr.ne j i l hi)
    subst ij
    refine sd_freeze (k := 2) rfl (sd_ret (ef_tup (ea_cons (ef_var rfl) (ea_cons (ef_indexD (z := encS (itr g st i)) (Ef.el (ef_var rfl)) (ef_var rfl) ((sh_tr (k := 1) g st k).ok (by omega)) ((sh_encS (k := 1) _).ok (by omega)) ?_ ?_ fun a z' ha hz => ?_) ea_nil)) (by simp)) rfl)
    · rw [List.getElem?_map, List.getElem?_range hi]
      rfl
    · rw [eqv_encS, decide_eq_true ei]
    · rw [List.getElem?_map, List.getElem?_range (by omega)] at hz
      cases hz
      rw [eqv_encS, pr.same]
      exact decide_eq_false (pr.ne a i ha hi)
def preSpot (ds : List PyData) (d : PyData) : Prop := ∃ (g : Web) (st : List Int) (m j t : Nat), ds = [encTr g st m, iN j, iN t] ∧ Per g st m j ∧ d = encS (itr g st t)
theorem sc_law_spot : FnScope ["_law_found", "_law_first", "_law_many"] ["_law_found", "_law_first", "_law_many"] (defScope (top 69)) := ⟨rfl, rfl, rfl, by decide +kernel, rfl, by decide +kernel, by decide +kernel⟩
/-- _law_spot: 0 _law_found, 1 _law_first, 2 _law_many -/
theorem c_law_spot (T : Txt K mg) : Cl P w K mg base 1 "_law_spot" (SpP K preSpot) := by
  refine cl_pure T.f_law_spot sc_law_spot (fun _ _ _ _ _ _ us hl => match us, hl with | [_, _, _], _ => rfl) (by rintro _ _ ⟨_, _, _, _, _, rfl, _⟩; rfl) (fun f cdv A outer s H E hr => ⟨_, (pss_one (ps_ret (pe_ifExp (pt_cmpR op_lt (pv 2) (pe_callB (k_len K rfl) rfl T.n_len bb_len (pa_cons (pv 0) pa_nil)) (nomark _)) (pe_ix (k_ixL K rfl) (pv 0) (pv 2) (fun _ _ => rfl)) (pe_ix (k_ixL K rfl) (pv 0) (pe_op op_add (pv 1) (pe_op op_mod (pe_callTy call_int1 rfl T.n_int bb_int (pa_cons (pe_op op_sub (pv 2) (pv 1)) pa_nil)) (pe_op op_sub (pe_callB (k_len K rfl) rfl T.n_len bb_len (pa_cons (pv 0) pa_nil)) (pv 1)))) (fun _ _ => rfl))))), fun ds d h => ?_⟩)
  obtain ⟨g, st, m, j, t, rfl, pr, rfl⟩ := h
  have le := pr.le
  have lt := pr.lt
  have el : (((List.range m).map fun k => encS (itr g st k)).length : Int) = m := by rw [List.length_map, List.length_range]
  refine sd_ret (ef_if (b := decide (t < m)) (eb_is (eb_test (ef_B0 (ef_var rfl) (ef_is (ef_lenL (Ef.el (ef_var rfl))) (congrArg PyData.int el)))) (decide_eq_decide.mpr ⟨fun h => by omega, fun h => by omega⟩)) (fun hb => ?_) (fun hb => ?_)) rfl
  · exact ef_ixL (Ef.el (ef_var rfl)) (ef_var rfl) (map_at (of_decide_eq_true hb))
  · have ht : ¬ t < m := of_decide_eq_false hb
    have hp : 0 < m - j := by omega
    have em : (t - j) % (m - j) < m - j := Nat.mod_lt _ hp
    have e1 : (j : Int) + ((t : Int) - j) % ((m : Int) - j) = ((j + (t - j) % (m - j) : Nat) : Int) := by
      have : ((t : Int) - j) % ((m : Int) - j) = (((t - j) % (m - j) : Nat) : Int) := by
        rw [Int.natCast_emod]
        congr 1 <;> omega
      omega
    have e2 : itr g st t = itr g st (j + (t - j) % (m - j)) := by
      have := per_turn pr (t - j)
      rw [show j + (t - j) = t by omega] at this
      exact this
    rw [e2]
    exact ef_ixL (Ef.el (ef_var rfl)) (ef_I0 (ef_var rfl) (ef_mod (ef_intI (ef_I0 (ef_var rfl) (ef_var rfl))) (ef_I0 (ef_is (ef_lenL (Ef.el (ef_var rfl))) (congrArg PyData.int el)) (ef_var rfl)) (by omega))) (by
      show atI ((List.range m).map fun k => encS (itr g st k)) ((j : Int) + ((t : Int) - j) % ((m : Int) - j)) = _
      rw [e1]
      exact map_at (by omega))
theorem sc_law_late : FnScope ["_law_web_here", "_law_state_here", "_law_many", "_law_found", "_law_first"] ["_law_web_here", "_law_state_here", "_law_many"] (defScope (top 66)) := ⟨rfl, rfl, rfl, by decide +kernel, rfl, by decide +kernel, by decide +kernel⟩
/-- _law_late: 0 _law_web_here, 1 _law_state_here, 2 _law_many, 3 _law_found, 4 _law_first -/
theorem c_law_late (T : Txt K mg) : Cl P w K mg base 4 "_law_late" (SpP K preLater) := by
  refine cl_pure T.f_law_late sc_law_late (fun _ _ _ _ _ _ us hl => match us, hl with | [_, _, _], _ => rfl) (by rintro _ _ ⟨_, _, _, rfl, _⟩; rfl) (fun f cdv A outer s H E hr => ⟨_, (pss_cons (ps_asg (pe_cl (c_law_round_trip T) hr (by decide) rfl (pa_cons (pv 0) (pa_cons (pv 1) pa_nil))) (kpg_tup K rfl rfl (pgs_cons (pg_name (i := 3) sc_law_late.nd rfl (Or.inl rfl)) (pgs_cons (pg_name (i := 4) sc_law_late.nd rfl (Or.inl rfl)) pgs_nil))))
      (pss_one (ps_ret (pe_cl (c_law_spot T) hr (by decide) rfl (pa_cons (pv 3) (pa_cons (pv 4) (pa_cons (pv 2) pa_nil))))))), fun ds d h => ?_⟩)
  obtain ⟨g, st, t, rfl, ok, so, rfl⟩ := h
  obtain ⟨m, j, pr⟩ := per_ex so ok.n6
  refine sd_seq (sd_unp2 (d1 := encTr g st m) (d2 := iN j) (ef_call (ea_cons (ef_var rfl) (ea_cons (ef_var rfl) ea_nil)) ⟨g, st, m, j, rfl, ok, so, pr, rfl⟩) ?_)
  exact sd_ret (ef_call (d := encS (itr g st t)) (ea_cons (ef_var rfl) (ea_cons (ef_var rfl) (ea_cons (ef_var rfl) ea_nil))) ⟨g, st, m, j, t, rfl, pr, rfl⟩) rfl
end
end Tm
set_option maxRecDepth 100000
set_option maxHeartbeats 4000000
/-! The law's own reckoning: rings, speeds by rings. -/
namespace Tm
open PySem PyProof.Rows L2
section
variable {P : Program} {w : World} {K : PySem.W.Frag} {mg : Str → Option Value} {base : Heap}
def preRings (ds : List PyData) (d : PyData) : Prop := ∃ g : Web, ds = [encW g] ∧ WOk g ∧ d = encPs (ringsL g)
theorem sh_encP {k : Nat} (l : List Nat) : Sh (k + 1) (encP l) := sh_tup (sh_map fun x _ => sh_iN x)
theorem sh_encPs {k : Nat} (ps : List (List Nat)) : Sh (k + 2) (.list (ps.map encP)) := sh_list (sh_map fun x _ => sh_encP x)
theorem sca_iNs (l : List Nat) : (l.map iN).all scaD = true := by
  rw [List.all_eq_true]
  intro x hx
  obtain ⟨_, _, rfl⟩ := List.mem_map.mp hx
  rfl
theorem last_at {w : List Nat} (h : w ≠ []) : atI (w.map iN) (-1) = some (iN (w.getLastD 0)) := by
  have e : w = w.dropLast ++ [w.getLast h] := (List.dropLast_concat_getLast h).symm
  have e2 : w.getLastD 0 = w.getLast h := by
    cases w with
    | nil => exact absurd rfl h
    | cons x l => rw [List.getLastD_cons, List.getLast_eq_getLastD]
  rw [e2]
  conv => lhs; rw [e, List.map_append]
  exact atI_last _ _
theorem head_at {w : List Nat} (h : w ≠ []) : atI (w.map iN) 0 = some (iN (w.headD 0)) := by
  cases w with
  | nil => exact absurd rfl h
  | cons x l => exact atN (k := 0) rfl
theorem getLastD_mem {w : List Nat} (h : w ≠ []) : w.getLastD 0 ∈ w := by
  cases w with
  | nil => exact absurd rfl h
  | cons x l => rw [List.getLastD_cons, ← List.getLast_eq_getLastD]; exact List.getLast_mem (List.cons_ne_nil _ _)
theorem sc_law_rings : FnScope ["_law_web_here", "_law_near_here", "_law_found", "_law_row", "_law_walk", "_law_there", "_law_one"] ["_law_web_here"] (defScope (top 60)) := ⟨rfl, rfl, rfl, by decide +kernel, rfl, by decide +kernel, by decide +kernel⟩
/-- _law_rings: 0 _law_web_here, 1 _law_near_here, 2 _law_found, 3 _law_row, 4 _law_walk, 5 _law_there, 6 _law_one -/
theorem c_law_rings (T : Txt K mg) : Cl P w K mg base 2 "_law_rings" (SpP K preRings) := by
  refine cl_pure T.f_law_rings sc_law_rings (fun _ _ _ _ _ _ us hl => match us, hl with | [_], _ => rfl) (by rintro _ _ ⟨_, rfl, _⟩; rfl) (fun f cdv A outer s H E hr => ⟨_, (pss_cons (ps_par3 (i := 1) (j := 2) (l := 3) rfl sc_law_rings.nd rfl rfl rfl (by decide) (by decide) (by decide) rfl rfl rfl (pa_cons (pe_cl (c_law_near T) hr (by decide) rfl (pa_cons (pv 0) pa_nil)) (pa_cons (pe_lst pa_nil) (pa_cons (pe_lc (own := [("_law_one", 6)]) rfl sc_law_rings.nd (pi_range1 rfl T.n_range (pa_cons (pe_ix (k_ixT K rfl) (pv 0) pe_int (fun _ _ => rfl)) pa_nil)) (blkOk_by (by kernel_rfl)) (fun _ _ _ _ _ => (pg_name (i := 6) sc_law_rings.nd rfl (Or.inl rfl))) (fun _ _ _ _ _ => pts_nil) (fun _ _ _ _ _ => (pe_tup (pa_cons (pv 6) pa_nil)))) pa_nil))) (by rfl))
      (pss_cons (ps_while PassesOwn.never (pt_cmpR (k_neD K rfl hr.units) (pv 3) (pe_lst pa_nil) (nomark _)) (pss_cons (ps_set (i := 4) sc_law_rings.nd rfl (Or.inl rfl) (pe_bm0 PySem.F.plainAttrs_list PySem.F.slot_list_pop PySem.F.type_list_pop mt_pop (pv 3)))
      (pss_cons (ps_if (PW.pt (pw_and (pt_cmpR op_gt (pe_callB (k_len K rfl) rfl T.n_len bb_len (pa_cons (pv 4) pa_nil)) pe_int (nomark _)) (pw_and1 (pt_cmpR (k_in K rfl) (pe_ix (k_ixT K rfl) (pv 4) pe_int (fun _ _ => rfl)) (pe_ix (k_ixL K rfl) (pv 1) (pe_ix (k_ixT K rfl) (pv 4) (pe_un un_neg pe_int) (fun _ _ => rfl)) (fun _ _ => rfl)) rfl)))) (pss_one (ps_expr (pe_bm PySem.F.plainAttrs_list PySem.F.slot_list_append PySem.F.type_list_append mt_append (pv 2) (pa_cons (pv 4) pa_nil)))) pss_nil)
      (pss_one (ps_for PassesOwn.never rfl (kpi_list K rfl (pe_ix (k_ixL K rfl) (pv 1) (pe_ix (k_ixT K rfl) (pv 4) (pe_un un_neg pe_int) (fun _ _ => rfl)) (fun _ _ => rfl))) (pg_name (i := 5) sc_law_rings.nd rfl (Or.inl rfl)) (pss_one (ps_if (PW.pt (pw_and (pt_cmpR op_gt (pv 5) (pe_ix (k_ixT K rfl) (pv 4) pe_int (fun _ _ => rfl)) (nomark _)) (pw_and1 (pt_cmpR (k_ni K rfl) (pv 5) (pv 4) rfl)))) (pss_one (ps_expr (pe_bm PySem.F.plainAttrs_list PySem.F.slot_list_append PySem.F.type_list_append mt_append (pv 3) (pa_cons (pe_op (k_catT K rfl) (pv 4) (pe_tup (pa_cons (pv 5) pa_nil))) pa_nil)))) pss_nil)))))))
      (pss_one (ps_ret (pv 2))))), fun ds d h => ?_⟩)
  obtain ⟨g, rfl, ok, rfl⟩ := h
  have n1 := ok.n1
  have n6 := ok.n6
  have tot := rings_len n6
  refine sd_seq (sd_par3 (k1 := .fz (encNear g)) (k2 := .mu []) (k3 := .mu (((List.range g.n).map fun x => [x]).map encP)) (ek_fz (ef_call (ea_cons (ef_var rfl) ea_nil) ⟨g, rfl, ok, rfl⟩) (ek_mu (en_lst ea_nil (by simp)) (ek_mu (en_is (en_lcR (n := g.n) (fun _ => true) (fun x => encP [x]) (ea_cons (ef_ixT (ef_var rfl) ef_int (encW0 g)) ea_nil) (by omega) (fun m hm => eb_yes) (fun m hm _ => (ef_tup (ea_cons (ef_var rfl) ea_nil) (by simp)))) (by rw [filt_yes, toNat_cast, List.map_map]; rfl)) ek_nil))) ?_)
  refine sd_seq (sd_while (fun n r => ∃ found row a b, r = [.fz (encW g), .fz (encNear g), .mu (found.map encP), .mu (row.map encP), a, b, .no] ∧ n = meas row ∧ meas row ≤ 46656 ∧ (∀ w, w ∈ row → GW g w) ∧ found ++ row.reverse.flatMap (dfs g) = ringsL g) (meas ((List.range g.n).map fun x => [x])) ⟨[], _, .no, .no, rfl, rfl, ?_, fun w hw => ?_, ?_⟩ (fun n r hI => ?_))
  · unfold meas
    rw [List.map_map]
    have : ∀ l : List Nat, (l.map ((fun w : List Nat => 6 ^ (6 - w.length)) ∘ fun x => [x])).sum = l.length * 7776 := fun l => by
      induction l with
      | nil => rfl
      | cons x l ih =>
        rw [List.map_cons, List.sum_cons, ih, List.length_cons, Nat.add_mul, Nat.one_mul]
        show 6 ^ 5 + _ = _
        omega
    rw [this, List.length_range]
    omega
  · obtain ⟨x, hx, rfl⟩ := List.mem_map.mp hw
    exact GW.one (List.mem_range.mp hx)
  · rw [List.nil_append, ← List.map_reverse, List.flatMap_map]
    rfl
  obtain ⟨found, row, a, b, rfl, rfl, hm, hG, hR⟩ := hI
  refine ⟨!row.isEmpty, eb_is (eb_test (ef_neD (El.er (el_var rfl)) (El.er (En.el (en_lst ea_nil (by simp)))) ((sh_encPs (k := 1) row).ok (by omega)) ((sh_nil (k := 1)).ok (by omega)))) (by rw [eqv_nil, List.isEmpty_map]), fun hb => ?_, fun hb => ?_⟩
  · have hne : row ≠ [] := fun z => by rw [z] at hb; cases hb
    obtain ⟨row', w, rfl⟩ : ∃ l' h, row = l' ++ [h] := ⟨row.dropLast, row.getLast hne, (List.dropLast_concat_getLast hne).symm⟩
    rw [List.map_append]
    have gw := hG w (by simp)
    have wne : w ≠ [] := by
      obtain ⟨x, l, e, _⟩ := gw.ex
      rw [e]
      exact List.cons_ne_nil _ _
    have hlast := gw.lt _ (getLastD_mem wne)
    have wl := gw.len
    have wlen : ((w.map iN).length : Int) = w.length := by rw [List.length_map]
    have nearw : ∀ {r : List Slo}, r[1]? = some (.fz (encNear g)) → r[4]? = some (.fz (encP w)) → Ef K (tOp (rIxL K) (tVar 1) (tOp (rIxT K) (tVar 4) (tUn (rU fun i => .int (-i)) (tC (.int 1))))) r (encL (nrow g (w.getLastD 0))) := fun {r} h1 h4 =>
      ef_ixL (Ef.el (ef_var h1)) (ef_ixT (ef_var h4) (ef_neg ef_int) (last_at wne)) (encNear_at hlast)
    rw [List.reverse_append, List.flatMap_append, ← List.append_assoc] at hR
    have hR2 : (found ++ (if closes g w then [w] else [])) ++ ((heirs g w).reverse.flatMap fun t => dfs g (w ++ [t])) ++ row'.reverse.flatMap (dfs g) = ringsL g := by
      rw [← hR]
      show _ = (found ++ ([w].flatMap (dfs g))) ++ _
      rw [List.flatMap_singleton, dfs_step n6 gw]
      simp only [List.append_assoc]
    have fl : found.length ≤ 46656 := by
      have := congrArg List.length hR
      simp only [List.length_append] at this
      omega
    rw [meas_app] at hm ⊢
    have mw : meas [w] = 6 ^ (6 - w.length) := by simp [meas]
    have mh := meas_heirs n6 gw
    refine sd_seq (sd_pop (k := 3) (m := 4) (d := encP w) rfl (by decide) ?_)
    -- the ring is told, if it is one
    refine sd_seq (sd_if (b := closes g w) (eb_and (eb_is (eb_test (ef_B0 (ef_is (ef_lenT (ef_var rfl)) (congrArg PyData.int wlen)) ef_int)) (decide_eq_decide.mpr ⟨fun h => by omega, fun h => by omega⟩)) fun _ => (eb_is (eb_test (ef_inL (ef_ixT (ef_var rfl) ef_int (head_at wne)) (Ef.el (nearw rfl rfl)) rfl (sca_iNs _))) (inV_iN _ _))) (fun hc => sd_app (k := 2) rfl (ef_var rfl) (by rw [List.length_map]; omega) ?_) (fun hc => sd_next ?_))
    all_goals
      refine sd_forL (ds := (nrow g (w.getLastD 0)).map iN) (nearw rfl rfl) (fun q r => ∃ b, r = [.fz (encW g), .fz (encNear g), .mu ((found ++ (if closes g w then [w] else [])).map encP), .mu ((row' ++ (((nrow g (w.getLastD 0)).take q).filter fun t => decide (w.headD 0 < t) && !decide (t ∈ w)).map fun t => w ++ [t]).map encP), .fz (encP w), b, .no]) ⟨b, ?_⟩ (fun q y r hq hJ => ?_) (fun r hJ => ?_)
    · rw [hc, if_pos rfl, List.map_append, List.take_zero, List.filter_nil, List.map_nil, List.append_nil]
      rfl
    · obtain ⟨b, rfl⟩ := hJ
      obtain ⟨t, ht, rfl⟩ := iN_mem hq
      have tk := took (fun t => decide (w.headD 0 < t) && !decide (t ∈ w)) (fun t => w ++ [t]) ht
      refine sd_if (b := decide (w.headD 0 < t) && !decide (t ∈ w)) (eb_and (eb_is (eb_test (ef_B0 (ef_var rfl) (ef_ixT (ef_var rfl) ef_int (head_at wne)))) (decide_eq_decide.mpr ⟨fun h => by omega, fun h => by omega⟩)) fun _ => (eb_is (eb_test (ef_inT (neg := true) (ef_var rfl) (ef_var rfl) rfl (sca_iNs _))) (by rw [if_pos rfl, inV_iN]))) (fun hc2 => ?_) (fun hc2 => sd_next ⟨.fz (iN t), ?_⟩)
      · refine sd_app (k := 3) rfl (d := encP (w ++ [t])) (ef_is (ef_catT (ef_var rfl) (ef_tup (ea_cons (ef_var rfl) ea_nil) (by simp)) (by simpa using wne) (by simp) (by rw [List.length_map, List.length_singleton]; omega)) (by unfold encP; rw [List.map_append]; rfl)) ?_ ⟨.fz (iN t), ?_⟩
        · rw [List.length_map, List.length_append]
          have l1 := meas_len row'
          have l2 := took_len q (fun t => decide (w.headD 0 < t) && !decide (t ∈ w)) (fun t => w ++ [t]) (l := nrow g (w.getLastD 0))
          have l3 : q < (nrow g (w.getLastD 0)).length := (List.getElem?_eq_some_iff.mp ht).1
          have l4 := nrow_len g (w.getLastD 0)
          omega
        · rw [tk, if_pos hc2, ← List.append_assoc, List.map_append (l₂ := [w ++ [t]])]
          rfl
      · rw [tk, if_neg (c := (decide (w.headD 0 < t) && !decide (t ∈ w)) = true) (by rw [hc2]; exact Bool.false_ne_true)]
        rfl
    · obtain ⟨b, rfl⟩ := hJ
      rw [List.length_map, List.take_length]
      refine ⟨meas (row' ++ (heirs g w).map fun t => w ++ [t]), by rw [meas_app]; omega, found ++ (if closes g w then [w] else []), row' ++ (heirs g w).map fun t => w ++ [t], .fz (encP w), b, rfl, rfl, by rw [meas_app]; omega, fun v hv => ?_, ?_⟩
      · rcases List.mem_append.mp hv with z | z
        · exact hG v (by simp [z])
        · obtain ⟨t, ht, rfl⟩ := List.mem_map.mp z
          exact gw.heir ht
      · rw [← hR2, List.reverse_append, List.flatMap_append, ← List.map_reverse, List.flatMap_map, ← List.append_assoc]
    · rw [hc, if_neg Bool.false_ne_true, List.append_nil, List.take_zero, List.filter_nil, List.map_nil, List.append_nil]
      rfl
    · obtain ⟨b, rfl⟩ := hJ
      obtain ⟨t, ht, rfl⟩ := iN_mem hq
      have tk := took (fun t => decide (w.headD 0 < t) && !decide (t ∈ w)) (fun t => w ++ [t]) ht
      refine sd_if (b := decide (w.headD 0 < t) && !decide (t ∈ w)) (eb_and (eb_is (eb_test (ef_B0 (ef_var rfl) (ef_ixT (ef_var rfl) ef_int (head_at wne)))) (decide_eq_decide.mpr ⟨fun h => by omega, fun h => by omega⟩)) fun _ => (eb_is (eb_test (ef_inT (neg := true) (ef_var rfl) (ef_var rfl) rfl (sca_iNs _))) (by rw [if_pos rfl, inV_iN]))) (fun hc2 => ?_) (fun hc2 => sd_next ⟨.fz (iN t), ?_⟩)
      · refine sd_app (k := 3) rfl (d := encP (w ++ [t])) (ef_is (ef_catT (ef_var rfl) (ef_tup (ea_cons (ef_var rfl) ea_nil) (by simp)) (by simpa using wne) (by simp) (by rw [List.length_map, List.length_singleton]; omega)) (by unfold encP; rw [List.map_append]; rfl)) ?_ ⟨.fz (iN t), ?_⟩
        · rw [List.length_map, List.length_append]
          have l1 := meas_len row'
          have l2 := took_len q (fun t => decide (w.headD 0 < t) && !decide (t ∈ w)) (fun t => w ++ [t]) (l := nrow g (w.getLastD 0))
          have l3 : q < (nrow g (w.getLastD 0)).length := (List.getElem?_eq_some_iff.mp ht).1
          have l4 := nrow_len g (w.getLastD 0)
          omega
        · rw [tk, if_pos hc2, ← List.append_assoc, List.map_append (l₂ := [w ++ [t]])]
          rfl
      · rw [tk, if_neg (c := (decide (w.headD 0 < t) && !decide (t ∈ w)) = true) (by rw [hc2]; exact Bool.false_ne_true)]
        rfl
    · obtain ⟨b, rfl⟩ := hJ
      rw [List.length_map, List.take_length]
      refine ⟨meas (row' ++ (heirs g w).map fun t => w ++ [t]), by rw [meas_app]; omega, found ++ (if closes g w then [w] else []), row' ++ (heirs g w).map fun t => w ++ [t], .fz (encP w), b, rfl, rfl, by rw [meas_app]; omega, fun v hv => ?_, ?_⟩
      · rcases List.mem_append.mp hv with z | z
        · exact hG v (by simp [z])
        · obtain ⟨t, ht, rfl⟩ := List.mem_map.mp z
          exact gw.heir ht
      · rw [← hR2, List.reverse_append, List.flatMap_append, ← List.map_reverse, List.flatMap_map, ← List.append_assoc]
  · have : row = [] := by
      cases row with
      | nil => rfl
      | cons _ _ => cases hb
    subst this
    refine sd_freeze (k := 2) rfl (sd_ret (ef_var rfl) ?_)
    show PyData.list _ = encPs _
    rw [← hR]
    unfold encPs
    simp
def encSpdT (g : Web) (st : List Int) (f : Nat → Nat × Nat) : PyData := .tuple ((List.range g.n).map fun i => fracD (f i).1 (f i).2)
def preSpeedsBy (ds : List PyData) (d : PyData) : Prop := ∃ (g : Web) (st : List Int) (ps : List (List Nat)), ds = [encW g, encS st, encPs ps, encPs (ringsL g)] ∧ WOk g ∧ SOk g.n st ∧ (∀ p, p ∈ ps → ∃ r, r < g.n ∧ p = partOf g r) ∧ (∀ i, i < g.n → ∃ p, p ∈ ps ∧ i ∈ p) ∧ d = encSpdT g st (spd g st)
noncomputable def hitL (g : Web) (st : List Int) (ps : List (List Nat)) (i : Nat) : PyData := if ps.any (fun p => decide (i ∈ p)) then fracD (spd g st i).1 (spd g st i).2 else fracD 0 1
theorem sc_law_speeds_by : FnScope ["_law_web_here", "_law_state_here", "_law_some", "_law_rings_here", "_law_found", "_law_part", "_law_most", "_law_ring", "_law_total", "_law_one"] ["_law_web_here", "_law_state_here", "_law_some", "_law_rings_here"] (defScope (top 68)) := ⟨rfl, rfl, rfl, by decide +kernel, rfl, by decide +kernel, by decide +kernel⟩
/-- _law_speeds_by: 0 _law_web_here, 1 _law_state_here, 2 _law_some, 3 _law_rings_here, 4 _law_found, 5 _law_part, 6 _law_most, 7 _law_ring, 8 _law_total, 9 _law_one -/
theorem c_law_speeds_by (T : Txt K mg) : Cl P w K mg base 3 "_law_speeds_by" (SpP K preSpeedsBy) := by
  refine cl_pure T.f_law_speeds_by sc_law_speeds_by (fun _ _ _ _ _ _ us hl => match us, hl with | [_, _, _, _], _ => rfl) (by rintro _ _ ⟨_, _, _, rfl, _⟩; rfl) (fun f cdv A outer s H E hr => ⟨_, (pss_cons (ps_set (i := 4) sc_law_speeds_by.nd rfl (Or.inl rfl) (pe_op op_rep (pe_lst (pa_cons (pe_tup (pa_cons pe_int (pa_cons pe_int pa_nil))) pa_nil)) (pe_ix (k_ixT K rfl) (pv 0) pe_int (fun _ _ => rfl))))
      (pss_cons (ps_for PassesOwn.never rfl (kpi_list K rfl (pv 2)) (pg_name (i := 5) sc_law_speeds_by.nd rfl (Or.inr rfl)) (pss_cons (ps_set (i := 6) sc_law_speeds_by.nd rfl (Or.inl rfl) (pe_tup (pa_cons pe_int (pa_cons pe_int pa_nil))))
      (pss_cons (ps_for PassesOwn.never rfl (kpi_list K rfl (pe_lc (own := [("_law_ring", 7)]) rfl sc_law_speeds_by.nd (kpi_list K rfl (pv 3)) (blkOk_by (by kernel_rfl)) (fun _ _ _ _ _ => (pg_name (i := 7) sc_law_speeds_by.nd rfl (Or.inl rfl))) (fun _ _ _ _ _ => pts_one (pt_cmpR (k_in K rfl) (pe_ix (k_ixT K rfl) (pv 7) pe_int (fun _ _ => rfl)) (pv 5) rfl)) (fun _ _ _ _ _ => (pv 7)))) (pg_name (i := 7) sc_law_speeds_by.nd rfl (Or.inl rfl)) (pss_cons (ps_set (i := 8) sc_law_speeds_by.nd rfl (Or.inl rfl) (pe_cl (c_law_round T) hr (by decide) rfl (pa_cons (pv 1) (pa_cons (pv 7) pa_nil))))
      (pss_one (ps_set (i := 6) sc_law_speeds_by.nd rfl (Or.inl rfl) (pe_ifExp (pt_cmpR op_gt (pe_op op_mul (pv 8) (pe_ix (k_ixT K rfl) (pv 6) pe_int (fun _ _ => rfl))) (pe_op op_mul (pe_ix (k_ixT K rfl) (pv 6) pe_int (fun _ _ => rfl)) (pe_callB (k_len K rfl) rfl T.n_len bb_len (pa_cons (pv 7) pa_nil))) (nomark _)) (pe_cl (c_law_share T) hr (by decide) rfl (pa_cons (pv 8) (pa_cons (pe_callB (k_len K rfl) rfl T.n_len bb_len (pa_cons (pv 7) pa_nil)) pa_nil))) (pv 6))))))
      (pss_one (ps_for PassesOwn.never rfl (kpi_tup K rfl (pv 5)) (pg_name (i := 9) sc_law_speeds_by.nd rfl (Or.inl rfl)) (pss_one (ps_asg (pv 6) (pg_sub (pv 4) (pv 9) set_list))))))))
      (pss_one (ps_ret (pe_callTy (k_tuple K rfl) rfl T.n_tuple bb_tuple (pa_cons (pv 4) pa_nil)))))), fun ds d h => ?_⟩)
  obtain ⟨g, st, ps, rfl, ok, so, hps, hcov, rfl⟩ := h
  have n1 := ok.n1
  have n6 := ok.n6
  have tot := rings_len n6
  refine sd_seq (sd_setN (ds := (List.range g.n).map (hitL g st [])) (en_is (en_rep (i := g.n) (ea_cons (ef_tup (ea_cons ef_int (ea_cons ef_int ea_nil)) (by simp)) ea_nil) (ef_ixT (ef_var rfl) ef_int (encW0 g)) (by simp) (by omega)) (by rw [toNat_cast, flat_one, rep_range]; rfl)) ?_)
  refine sd_seq (sd_forL (ds := ps.map encP) (ef_var rfl) (fun m ρ => ∃ a b c d e, ρ = [.fz (encW g), .fz (encS st), .fz (encPs ps), .fz (encPs (ringsL g)), .mu ((List.range g.n).map (hitL g st (ps.take m))), a, b, c, d, e]) ⟨.no, .no, .no, .no, .no, rfl⟩ (fun m x ρ hm hI => ?_) (fun ρ hI => ?_))
  · obtain ⟨a, b, c, d, e, rfl⟩ := hI
    rw [List.getElem?_map] at hm
    cases er : ps[m]? with
    | none => rw [er] at hm; cases hm
    | some p =>
    rw [er] at hm
    cases hm
    obtain ⟨r, hr, rfl⟩ := hps p (List.mem_of_getElem? er)
    have mem : ∀ v, v ∈ ringsL g → ∃ x l, v = x :: l ∧ Ring g x l ∧ l.length ≤ 5 ∧ ∀ y, y ∈ x :: l → y < g.n := fun v hv => by
      obtain ⟨x, l, e, hr, _⟩ := ring_of_mem hv
      have lt : ∀ y, y ∈ x :: l → y < g.n := fun y hy => (conn_lt (hr.conn ok y hy)).2
      have := List.Nodup.length_le_of_subset hr.nd (l₂ := List.range g.n) fun y hy => List.mem_range.mpr (lt y hy)
      rw [List.length_range, List.length_cons] at this
      exact ⟨x, l, e, hr, by omega, lt⟩
    refine sd_seq (sd_set (d := fracD 0 1) (ef_tup (ea_cons ef_int (ea_cons ef_int ea_nil)) (by simp)) ?_)
    refine sd_seq (sd_forL (ds := ((ringsL g).filter fun v => decide (v.headD 0 ∈ partOf g r)).map encP) (En.ef (en_lcL (ringsL g) encP (fun v => decide (v.headD 0 ∈ partOf g r)) encP (Ef.el (ef_var rfl)) (by omega) (fun v hv => ?_) (fun v hv _ => (ef_var rfl)))) (fun k ρ => ∃ p q c d e, ρ = [.fz (encW g), .fz (encS st), .fz (encPs ps), .fz (encPs (ringsL g)), .mu ((List.range g.n).map (hitL g st (ps.take m))), .fz (encP (partOf g r)), .fz (fracD p q), c, d, e] ∧ p ≤ 6 ∧ q ≤ 6 ∧ Best (RSeen g st (((ringsL g).filter fun v => decide (v.headD 0 ∈ partOf g r)).take k)) p q) ⟨0, 1, c, d, e, rfl, by omega, by omega, best_zero fun t z => ?_⟩ (fun k y ρ hk hI => ?_) (fun ρ hI => ?_))
    · obtain ⟨x, l, rfl, _⟩ := mem v hv
      exact eb_is (eb_test (ef_inT (neg := false) (ef_ixT (ef_var rfl) ef_int (head_at (List.cons_ne_nil x l))) (ef_var rfl) rfl (sca_iNs _))) (inV_iN _ _)
    · rintro ⟨x, l, h1, _⟩
      cases h1
    · obtain ⟨p, q, c, d, e, rfl, hp, hq, hB⟩ := hI
      rw [List.getElem?_map] at hk
      cases ev : ((ringsL g).filter fun v => decide (v.headD 0 ∈ partOf g r))[k]? with
      | none => rw [ev] at hk; cases hk
      | some v =>
      rw [ev] at hk
      cases hk
      obtain ⟨x, l, rfl, hring, hl, hlt⟩ := mem v (List.mem_filter.mp (List.mem_of_getElem? ev)).1
      have tk := take_more ev
      have wl := wk_lim so (hring.wk (st := st) ok)
      have len : (((x :: l).map iN).length : Int) = ((l.length + 1 : Nat) : Int) := by rw [List.length_map, List.length_cons]
      have grow : ∀ (u : Nat) (z : Int), RSeen g st (((ringsL g).filter fun v => decide (v.headD 0 ∈ partOf g r)).take (k + 1)) u z ↔ RSeen g st (((ringsL g).filter fun v => decide (v.headD 0 ∈ partOf g r)).take k) u z ∨ (u = l.length + 1 ∧ z = rsum st x l) := fun u z => by
        unfold RSeen
        rw [tk]
        constructor
        · rintro ⟨x', l', h1, h2, h3⟩
          rcases List.mem_append.mp h1 with h1 | h1
          · exact .inl ⟨x', l', h1, h2, h3⟩
          · simp at h1
            obtain ⟨rfl, rfl⟩ := h1
            exact .inr ⟨h2, h3⟩
        · rintro (⟨x', l', h1, h2, h3⟩ | ⟨h2, h3⟩)
          · exact ⟨x', l', List.mem_append_left _ h1, h2, h3⟩
          · exact ⟨x, l, List.mem_append_right _ (by simp), h2, h3⟩
      refine sd_seq (sd_set (d := .int (rsum st x l)) (ef_call (ea_cons (ef_var rfl) (ea_cons (ef_var rfl) ea_nil)) ⟨g.n, st, x, l, rfl, so, hlt, by omega, rfl⟩) ?_)
      have test : ∀ {ρ : List Slo}, ρ[6]? = some (.fz (fracD p q)) → ρ[7]? = some (.fz (encP (x :: l))) → ρ[8]? = some (.fz (.int (rsum st x l))) → Eb K (tTest (tOp (rI0 fun i j => .bl (decide (j < i))) (tOp (rI CMul fun i j => .int (i * j)) (tVar 8) (tOp (rIxT K) (tVar 6) (tC (.int 1)))) (tOp (rI CMul fun i j => .int (i * j)) (tOp (rIxT K) (tVar 6) (tC (.int 0))) (tCB (fun xs H Q => ∃ x n, xs = [x] ∧ LenV K x H n ∧ Q (.int n) H) (tCons (tVar 7) tNil))))) ρ (decide ((p : Int) * (l.length + 1 : Nat) < rsum st x l * q)) := fun {ρ} h6 h7 h8 =>
        eb_test (ef_B0 (ef_mulR (ef_var h8) (ef_ixT (ef_var h6) ef_int (frac1 p q)) (by omega)) (ef_mul (ef_ixT (ef_var h6) ef_int (frac0 p q)) (ef_is (ef_lenT (ef_var h7)) (congrArg PyData.int len)) (by omega)))
      by_cases hc : (p : Int) * (l.length + 1 : Nat) < rsum st x l * q
      · have qp : (0 : Int) < q := by have := hB.pos; omega
        have pos : 0 < rsum st x l := by
          have h0 : (0 : Int) ≤ (p : Int) * (l.length + 1 : Nat) := Int.mul_nonneg (by omega) (by omega)
          refine Classical.byContradiction fun z => ?_
          have : rsum st x l * q ≤ 0 := Int.mul_nonpos_of_nonpos_of_nonneg (by omega) (by omega)
          omega
        obtain ⟨v, ev2⟩ : ∃ v : Nat, rsum st x l = v := ⟨(rsum st x l).toNat, by omega⟩
        have hc2 : p * (l.length + 1) < v * q := by rw [ev2] at hc; exact_mod_cast hc
        have st2 := best_step (S' := RSeen g st (((ringsL g).filter fun v => decide (v.headD 0 ∈ partOf g r)).take (k + 1))) (t := l.length + 1) (v := v) hB (by omega) (fun u z => by rw [← ev2]; exact grow u z)
        rw [if_pos hc2, if_pos hc2] at st2
        have v6 : v ≤ 6 := by omega
        refine sd_set (d := fracD (v / Nat.gcd v (l.length + 1)) ((l.length + 1) / Nat.gcd v (l.length + 1))) (ef_if (b := true) (eb_is (test rfl rfl rfl) (decide_eq_true hc)) (fun _ => ?_) (fun h => by cases h)) ⟨_, _, .fz (encP (x :: l)), .fz (.int (rsum st x l)), e, rfl, Nat.le_trans (Nat.div_le_self _ _) v6, Nat.le_trans (Nat.div_le_self _ _) (by omega), st2⟩
        exact ef_call (ea_cons (ef_var rfl) (ea_cons (ef_is (ef_lenT (ef_var rfl)) (congrArg PyData.int len)) ea_nil)) ⟨v, l.length + 1, by rw [ev2]; rfl, by omega, by omega, rfl⟩
      · refine sd_set (d := fracD p q) (ef_if (b := false) (eb_is (test rfl rfl rfl) (decide_eq_false hc)) (fun h => by cases h) (fun _ => ef_var rfl)) ⟨p, q, .fz (encP (x :: l)), .fz (.int (rsum st x l)), e, rfl, hp, hq, best_skip hB (by omega) grow⟩
    · obtain ⟨p, q, c, d, e, rfl, hp, hq, hB⟩ := hI
      rw [List.length_map, List.take_length] at hB
      have sp := spd_is ok so (rings_all ok so (r := r) hB fun x l => by
        rw [List.mem_filter, decide_eq_true_iff]
        exact and_congr Iff.rfl part_mem)
      refine sd_forT (ds := (partOf g r).map iN) (ef_var rfl) (fun k ρ => ∃ e, ρ = [.fz (encW g), .fz (encS st), .fz (encPs ps), .fz (encPs (ringsL g)), .mu ((List.range g.n).map fun i => if i ∈ (partOf g r).take k then fracD (spd g st i).1 (spd g st i).2 else hitL g st (ps.take m) i), .fz (encP (partOf g r)), .fz (fracD p q), c, d, e]) ⟨e, ?_⟩ (fun k y ρ hk hI => ?_) (fun ρ hI => ?_)
      · refine congrArg (fun l => [Slo.fz (encW g), .fz (encS st), .fz (encPs ps), .fz (encPs (ringsL g)), .mu l, .fz (encP (partOf g r)), .fz (fracD p q), c, d, e]) ?_
        refine List.map_congr_left fun i hi => ?_
        rw [List.take_zero, if_neg (by simp)]
      · obtain ⟨e, rfl⟩ := hI
        obtain ⟨j, ej, rfl⟩ := iN_mem hk
        have cj := part_mem.mp (List.mem_of_getElem? ej)
        have hjn := (conn_lt cj).2
        refine sd_item (k := 4) rfl (ef_var rfl) (ef_var rfl) (m := j) (by rw [List.length_map, List.length_range]; exact ixN_nat hjn) ⟨.fz (iN j), ?_⟩
        refine congrArg (fun l => [Slo.fz (encW g), .fz (encS st), .fz (encPs ps), .fz (encPs (ringsL g)), .mu l, .fz (encP (partOf g r)), .fz (fracD p q), c, d, .fz (iN j)]) ?_
        rw [set_map_range hjn]
        refine List.map_congr_left fun i hi => ?_
        rw [take_more ej]
        by_cases z : i = j
        · subst z
          rw [if_pos rfl, if_pos (by simp), spd_part ok so cj, sp]
        · rw [if_neg z]
          exact ifc (by simp [z]) rfl rfl
      · obtain ⟨e, rfl⟩ := hI
        refine ⟨.fz (encP (partOf g r)), .fz (fracD p q), c, d, e, ?_⟩
        refine congrArg (fun l => [Slo.fz (encW g), .fz (encS st), .fz (encPs ps), .fz (encPs (ringsL g)), .mu l, .fz (encP (partOf g r)), .fz (fracD p q), c, d, e]) ?_
        refine List.map_congr_left fun i hi => ?_
        rw [List.length_map, List.take_length]
        unfold hitL
        rw [take_more er, List.any_append]
        by_cases z : i ∈ partOf g r
        · rw [if_pos z, if_pos (by simp [z])]
        · rw [if_neg z]
          simp [z]
  · obtain ⟨a, b, c, d, e, rfl⟩ := hI
    refine sd_ret (ef_is (ef_tupleOf (el_var rfl)) ?_) rfl
    unfold encSpdT hitL
    rw [List.length_map, List.take_length]
    congr 1
    refine List.map_congr_left fun i hi => ?_
    obtain ⟨p, h1, h2⟩ := hcov i (List.mem_range.mp hi)
    have : (ps.any fun p => decide (i ∈ p)) = true := List.any_eq_true.mpr ⟨p, h1, decide_eq_true h2⟩
    rw [if_pos this]
end
end Tm
set_option maxRecDepth 100000
set_option maxHeartbeats 4000000
/-! Draws. -/
namespace Tm
open PySem PyProof.Rows L2
section
variable {P : Program} {w : World} {K : PySem.W.Frag} {mg : Str → Option Value} {base : Heap}
/-- the law's row: the script, how many cells were read, two more numbers -/
structure Row where
  s : List Int
  a : Nat
  b : Int
  c : Int
def rowD (x : Row) : List PyData := [.list (x.s.map .int), iN x.a, .int x.b, .int x.c]
def preTk (x : Row × Nat) (ks : List Slo) : Prop := ks = [.pm (rowD x.1), .fz (iN x.2)] ∧ 0 < x.2 ∧ x.2 ≤ 1000 ∧ x.1.s.length ≤ 100
def postTk (x : Row × Nat) (d : PyData) (es : List PyData) : Prop := ∃ (v : Nat) (y : Row), d = iN v ∧ v < x.2 ∧ es = rowD y ∧ y.s = x.1.s
theorem mod_nat (i : Int) {n : Nat} (h : 0 < n) : ∃ v : Nat, i % (n : Int) = v ∧ v < n := ⟨(i % (n : Int)).toNat, by have := Int.emod_nonneg i (show (n : Int) ≠ 0 by omega); omega, by have := Int.emod_lt_of_pos i (show (0 : Int) < n by omega); have := Int.emod_nonneg i (show (n : Int) ≠ 0 by omega); omega⟩
theorem sc_law_taken : FnScope ["_law_row", "_law_many", "_law_found", "_law_cell"] ["_law_row", "_law_many"] (defScope (top 50)) := ⟨rfl, rfl, rfl, by decide +kernel, rfl, by decide +kernel, by decide +kernel⟩
/-- _law_taken: 0 _law_row, 1 _law_many, 2 _law_found, 3 _law_cell -/
theorem c_law_taken (T : Txt K mg) : Cl P w K mg base 1 "_law_taken" (SpM K 0 preTk postTk) := by
  refine cl_pm T.f_law_taken sc_law_taken (fun _ _ _ _ _ _ us hl => match us, hl with | [_, _], _ => rfl) (by rintro _ _ ⟨rfl, _⟩; rfl) (fun f cdv A outer s H E hr => ⟨_, (pss_cons (ps_if (pt_cmpR op_gt (pe_ix (k_ixL K rfl) (pv 0) pe_int (fun _ _ => rfl)) pe_int (nomark _)) (pss_cons (ps_set (i := 2) sc_law_taken.nd rfl (Or.inl rfl) (pe_op op_mod (pe_callTy call_int1 rfl T.n_int bb_int (pa_cons (pe_ix (k_ixL K rfl) (pv 0) pe_int (fun _ _ => rfl)) pa_nil)) (pv 1)))
      (pss_cons (ps_asg (pe_op op_fdiv (pe_ix (k_ixL K rfl) (pv 0) pe_int (fun _ _ => rfl)) (pv 1)) (pg_sub (pv 0) pe_int set_list))
      (pss_one (ps_ret (pv 2))))) pss_nil)
      (pss_cons (ps_asg (pe_op op_add (pe_ix (k_ixL K rfl) (pv 0) pe_int (fun _ _ => rfl)) pe_int) (pg_sub (pv 0) pe_int set_list))
      (pss_cons (ps_if (pt_cmpR op_gt (pe_ix (k_ixL K rfl) (pv 0) pe_int (fun _ _ => rfl)) (pe_callB (k_len K rfl) rfl T.n_len bb_len (pa_cons (pe_ix (k_ixL K rfl) (pv 0) pe_int (fun _ _ => rfl)) pa_nil)) (nomark _)) (pss_cons (ps_asg (pe_op op_mod (pe_callTy call_int1 rfl T.n_int bb_int (pa_cons (pe_op op_add (pe_op op_mul (pe_ix (k_ixL K rfl) (pv 0) pe_int (fun _ _ => rfl)) pe_int) pe_int) pa_nil)) pe_int) (pg_sub (pv 0) pe_int set_list))
      (pss_one (ps_ret (pe_op op_mod (pe_callTy call_int1 rfl T.n_int bb_int (pa_cons (pe_op op_fdiv (pe_ix (k_ixL K rfl) (pv 0) pe_int (fun _ _ => rfl)) pe_int) pa_nil)) (pv 1))))) pss_nil)
      (pss_cons (ps_set (i := 3) sc_law_taken.nd rfl (Or.inl rfl) (pe_ix (k_ixL K rfl) (pe_ix (k_ixL K rfl) (pv 0) pe_int (fun _ _ => rfl)) (pe_op op_sub (pe_ix (k_ixL K rfl) (pv 0) pe_int (fun _ _ => rfl)) pe_int) (fun _ _ => rfl)))
      (pss_cons (ps_asg (pe_op op_mod (pe_callTy call_int1 rfl T.n_int bb_int (pa_cons (pe_op op_add (pe_op op_add (pe_op op_mul (pe_ix (k_ixL K rfl) (pv 0) pe_int (fun _ _ => rfl)) pe_int) (pv 3)) pe_int) pa_nil)) pe_int) (pg_sub (pv 0) pe_int set_list))
      (pss_cons (ps_if (pt_cmpR op_ge (pv 3) (pe_op op_pow pe_int pe_int) (nomark _)) (pss_one (ps_asg (pe_op op_fdiv (pv 3) (pv 1)) (pg_sub (pv 0) pe_int set_list))) pss_nil)
      (pss_one (ps_ret (pe_op op_mod (pe_callTy call_int1 rfl T.n_int bb_int (pa_cons (pv 3) pa_nil)) (pv 1)))))))))), fun x ks h => ?_⟩)
  obtain ⟨rfl, h0, h1, hl⟩ := h
  obtain ⟨⟨sc, a, b, c⟩, n⟩ := x
  simp only at h0 h1 hl
  have r0 : ∀ a b c, atI (rowD ⟨sc, a, b, c⟩) 0 = some (.list (sc.map .int)) := fun _ _ _ => rfl
  have r1 : ∀ a b c, atI (rowD ⟨sc, a, b, c⟩) 1 = some (.int (a : Int)) := fun _ _ _ => rfl
  have r2 : ∀ a b c, atI (rowD ⟨sc, a, b, c⟩) 2 = some (.int b) := fun _ _ _ => rfl
  have r3 : ∀ a b c, atI (rowD ⟨sc, a, b, c⟩) 3 = some (.int c) := fun _ _ _ => rfl
  have out : ∀ (i : Int) (y : Row), y.s = sc → (outM 0 (postTk (⟨sc, a, b, c⟩, n))).rt (.int (i % (n : Int))) [.pm (rowD y), .fz (iN n), .no, .no] := fun i y e => by
    obtain ⟨v, e1, e2⟩ := mod_nat i h0
    exact ⟨_, rfl, v, y, by rw [e1]; rfl, e2, rfl, e⟩
  refine sd_seq (sd_if (b := decide (0 < c)) (eb_test (ef_B0 (ef_ixL (el_varP rfl) ef_int (r3 a b c)) ef_int)) (fun hb => ?_) (fun hb => sd_next ?_))
  · refine sd_seq (sd_set (ef_mod (ef_intI (ef_ixL (el_varP rfl) ef_int (r3 a b c))) (ef_var rfl) (by omega)) ?_)
    refine sd_seq (sd_itemP (k := 0) rfl (d := .int (c / (n : Int))) (ef_fdiv (ef_ixL (el_varP rfl) ef_int (r3 a b c)) (ef_var rfl) (by omega) (by omega)) ef_int (m := 3) rfl ?_)
    refine sd_ret (ef_var rfl) ?_
    obtain ⟨v, e1, e2⟩ := mod_nat c h0
    exact ⟨_, rfl, v, ⟨sc, a, b, c / (n : Int)⟩, by rw [e1]; rfl, e2, rfl, rfl⟩
  refine sd_seq (sd_itemP (k := 0) rfl (d := iN (a + 1)) (ef_is (ef_I0 (ef_ixL (el_varP rfl) ef_int (r1 a b c)) ef_int) rfl) ef_int (m := 1) rfl ?_)
  show Sd K _ [.pm (rowD ⟨sc, a + 1, b, c⟩), .fz (iN n), .no, .no] _
  have el : ((sc.map PyData.int).length : Int) = sc.length := by rw [List.length_map]
  refine sd_seq (sd_if (b := decide (sc.length < a + 1)) (eb_is (eb_test (ef_B0 (ef_ixL (el_varP rfl) ef_int (r1 (a + 1) b c)) (ef_is (ef_lenL (Ef.el (ef_ixL (el_varP rfl) ef_int (r0 (a + 1) b c)))) (congrArg PyData.int el)))) (decide_eq_decide.mpr ⟨fun h => by omega, fun h => by omega⟩)) (fun hb => ?_) (fun hb => sd_next ?_))
  · refine sd_seq (sd_itemP (k := 0) rfl (d := .int ((b * 48271 + 11) % 2147483647)) (ef_mod (ef_intI (ef_I0 (ef_mulR (ef_ixL (el_varP rfl) ef_int (r2 (a + 1) b c)) ef_int (by decide)) ef_int)) ef_int (by decide)) ef_int (m := 2) rfl ?_)
    show Sd K _ [.pm (rowD ⟨sc, a + 1, (b * 48271 + 11) % 2147483647, c⟩), .fz (iN n), .no, .no] _
    exact sd_ret (ef_mod (ef_intI (ef_fdiv (ef_ixL (el_varP rfl) ef_int (r2 (a + 1) _ c)) ef_int (by decide) (by decide))) (ef_var rfl) (by omega)) (out _ ⟨sc, a + 1, _, c⟩ rfl)
  have ha : a < sc.length := by have := of_decide_eq_false hb; omega
  obtain ⟨z, hz⟩ : ∃ z, sc[a]? = some z := ⟨sc[a], List.getElem?_eq_getElem ha⟩
  have az : atI (sc.map PyData.int) (((a + 1 : Nat) : Int) - 1) = some (.int z) := by
    rw [show ((a + 1 : Nat) : Int) - 1 = (a : Int) by omega]
    exact atN (by rw [List.getElem?_map, hz]; rfl)
  refine sd_seq (sd_set (d := .int z) (ef_ixL (Ef.el (ef_ixL (el_varP rfl) ef_int (r0 (a + 1) b c))) (ef_I0 (ef_ixL (el_varP rfl) ef_int (r1 (a + 1) b c)) ef_int) az) ?_)
  refine sd_seq (sd_itemP (k := 0) rfl (d := .int ((b * 48271 + z + 11) % 2147483647)) (ef_mod (ef_intI (ef_I0 (ef_I0 (ef_mulR (ef_ixL (el_varP rfl) ef_int (r2 (a + 1) b c)) ef_int (by decide)) (ef_var rfl)) ef_int)) ef_int (by decide)) ef_int (m := 2) rfl ?_)
  show Sd K _ [.pm (rowD ⟨sc, a + 1, (b * 48271 + z + 11) % 2147483647, c⟩), .fz (iN n), .no, .fz (.int z)] _
  have fin : ∀ c', Sd K (tRet (tOp (rI (fun _ j => 0 < j) fun i j => .int (i % j)) (tCB (fun xs H Q => (∃ i, xs = [.int i] ∧ Q (.int i) H) ∨ ∃ k, xs = [.bl k] ∧ Q (.int (if k then 1 else 0)) H) (tCons (tVar 3) tNil)) (tVar 1))) [.pm (rowD ⟨sc, a + 1, (b * 48271 + z + 11) % 2147483647, c'⟩), .fz (iN n), .no, .fz (.int z)] (outM 0 (postTk (⟨sc, a, b, c⟩, n))) := fun c' => by
    refine sd_ret (ef_mod (ef_intI (ef_var rfl)) (ef_var rfl) (by omega)) ?_
    obtain ⟨v, e1, e2⟩ := mod_nat z h0
    exact ⟨_, rfl, v, ⟨sc, a + 1, _, c'⟩, by rw [e1]; rfl, e2, rfl, rfl⟩
  refine sd_seq (sd_if (b := decide ((10 : Int) ^ 18 ≤ z)) (eb_test (ef_B0 (ef_var rfl) (ef_is (ef_pow ef_int ef_int ⟨by decide, by decide, by decide⟩) rfl))) (fun hb => ?_) (fun hb => sd_next (fin c)))
  exact sd_itemP (k := 0) rfl (d := .int (z / (n : Int))) (ef_fdiv (ef_var rfl) (ef_var rfl) (by omega) (by omega)) ef_int (m := 3) rfl (fin (z / (n : Int)))
def preLPick (x : Row × List PyData) (ks : List Slo) : Prop := ks = [.pm (rowD x.1), .fz (.list x.2)] ∧ 0 < x.2.length ∧ x.2.length ≤ 1000 ∧ x.1.s.length ≤ 100
def postLPick (x : Row × List PyData) (d : PyData) (es : List PyData) : Prop := d ∈ x.2 ∧ ∃ y : Row, es = rowD y ∧ y.s = x.1.s
theorem one_pm {es : List PyData} {ks : List Slo} (h : ∀ t, t ∈ ks → t.mut = false) : ∀ i, (.pm es :: ks : List Slo)[i]? = some (.pm es) → i = 0 := fun i hi => by
  cases i with
  | zero => rfl
  | succ i =>
    have := h _ (List.mem_of_getElem? (show ks[i]? = some (.pm es) from by simpa using hi))
    cases this
/-- one draw -/
theorem ev_taken {r : List Slo} {E : XK} {tn : TE} {x : Row} {n k : Nat} {t : Slo} {P : PyData → List Slo → Prop} (e : r[k]? = some t) (mt : t.mut = true) (ei : t.its = rowD x) (h : Ef K tn r (iN n)) (h0 : 0 < n) (h1 : n ≤ 1000) (hl : x.s.length ≤ 100) (hq : ∀ (v : Nat) (y : Row), v < n → y.s = x.s → P (iN v) (r.set k (t.with (rowD y)))) :
    Ev K (tCall (SpM K 0 preTk postTk) [] E (tCons (tVar k) (tCons tn tNil))) r P :=
  ev_callM (x, n) e mt (egm_pm e (egm_fz h egm_nil)) rfl (fun i hi => one_pm (fun t ht => by simp at ht; rw [ht]; rfl) i hi) ⟨by rw [ei], h0, h1, hl⟩ fun d es ⟨v, y, e1, e2, e3, e4⟩ => by
    rw [e1, e3]
    exact hq v y e2 e4
theorem sc_law_pick : FnScope ["_law_row", "_law_things"] ["_law_row", "_law_things"] (defScope (top 51)) := ⟨rfl, rfl, rfl, by decide +kernel, rfl, by decide +kernel, by decide +kernel⟩
/-- _law_pick: 0 _law_row, 1 _law_things -/
theorem c_law_pick (T : Txt K mg) : Cl P w K mg base 2 "_law_pick" (SpM K 0 preLPick postLPick) := by
  refine cl_pm T.f_law_pick sc_law_pick (fun _ _ _ _ _ _ us hl => match us, hl with | [_, _], _ => rfl) (by rintro _ _ ⟨rfl, _⟩; rfl) (fun f cdv A outer s H E hr => ⟨_, (pss_one (ps_ret (pe_ix (k_ixL K rfl) (pv 1) (pe_cl (c_law_taken T) hr (by decide) rfl (pa_cons (pv 0) (pa_cons (pe_callB (k_len K rfl) rfl T.n_len bb_len (pa_cons (pv 1) pa_nil)) pa_nil))) (fun _ _ => rfl)))), fun x ks h => ?_⟩)
  obtain ⟨rfl, h0, h1, hl⟩ := h
  refine sd_retV (ev_ixL (ef_var rfl) (ev_taken (k := 0) rfl rfl rfl (ef_lenL (Ef.el (ef_var rfl))) h0 h1 hl fun v y hv ey => ?_))
  obtain ⟨d, hd⟩ : ∃ d, x.2[v]? = some d := ⟨x.2[v], List.getElem?_eq_getElem hv⟩
  exact ⟨v, d, rfl, atN hd, _, rfl, List.mem_of_getElem? hd, y, rfl, ey⟩
def preLState (x : Row × Web) (ks : List Slo) : Prop := ks = [.pm (rowD x.1), .fz (encW x.2)] ∧ WOk x.2 ∧ x.1.s.length ≤ 100
def postLState (x : Row × Web) (d : PyData) (es : List PyData) : Prop := ∃ (st : List Int) (y : Row), d = encS st ∧ SOk x.2.n st ∧ es = rowD y ∧ y.s = x.1.s
theorem sc_law_state : FnScope ["_law_row", "_law_web_here", "_law_way", "_law_found", "_law_one", "_law_drawn"] ["_law_row", "_law_web_here"] (defScope (top 54)) := ⟨rfl, rfl, rfl, by decide +kernel, rfl, by decide +kernel, by decide +kernel⟩
/-- _law_state: 0 _law_row, 1 _law_web_here, 2 _law_way, 3 _law_found, 4 _law_one, 5 _law_drawn -/
theorem c_law_state (T : Txt K mg) : Cl P w K mg base 2 "_law_state" (SpM K 0 preLState postLState) := by
  refine cl_pm T.f_law_state sc_law_state (fun _ _ _ _ _ _ us hl => match us, hl with | [_, _], _ => rfl) (by rintro _ _ ⟨rfl, _⟩; rfl) (fun f cdv A outer s H E hr => ⟨_, (pss_cons (ps_par (i := 2) (j := 3) rfl sc_law_state.nd rfl rfl (by decide) rfl rfl (pa_cons (pe_cl (c_law_taken T) hr (by decide) rfl (pa_cons (pv 0) (pa_cons pe_int pa_nil))) (pa_cons (pe_lst pa_nil) pa_nil)) (by rfl))
      (pss_cons (ps_for PassesOwn.never rfl (pi_range1 rfl T.n_range (pa_cons (pe_ix (k_ixT K rfl) (pv 1) pe_int (fun _ _ => rfl)) pa_nil)) (pg_name (i := 4) sc_law_state.nd rfl (Or.inl rfl)) (pss_cons (ps_set (i := 5) sc_law_state.nd rfl (Or.inl rfl) (pe_cl (c_law_taken T) hr (by decide) rfl (pa_cons (pv 0) (pa_cons pe_int pa_nil))))
      (pss_one (ps_expr (pe_bm PySem.F.plainAttrs_list PySem.F.slot_list_append PySem.F.type_list_append mt_append (pv 3) (pa_cons (pe_ifExp (pt_cmpR op_gt (pv 2) pe_int (nomark _)) (pv 5) (pe_op op_mod (pe_callTy call_int1 rfl T.n_int bb_int (pa_cons (pe_op op_add (pv 4) (pe_callTy call_int1 rfl T.n_int bb_int (pa_cons (pe_cmpR op_eq (pv 5) pe_int (nomark _)) pa_nil))) pa_nil)) pe_int)) pa_nil))))))
      (pss_one (ps_ret (pe_callTy (k_tuple K rfl) rfl T.n_tuple bb_tuple (pa_cons (pv 3) pa_nil)))))), fun x ks h => ?_⟩)
  obtain ⟨⟨x, g⟩, rest⟩ : ∃ y : Row × Web, y = x := ⟨x, rfl⟩
  subst rest
  obtain ⟨rfl, ok, hl⟩ := h
  simp only at ok hl
  have n1 := ok.n1
  have n6 := ok.n6
  refine sd_seq (sd_par2E (ds := []) (ev_taken (x := x) (n := 4) (k := 0) rfl rfl rfl ef_int (by decide) (by decide) hl (P := fun d r' => ∃ (v : Nat) (y : Row), d = iN v ∧ y.s = x.s ∧ r' = [.pm (rowD y), .fz (encW g), .no, .no, .no, .no]) fun v y hv ey => ⟨v, y, rfl, ey, rfl⟩) fun d r' hp => ?_)
  obtain ⟨way, y, rfl, ey, rfl⟩ := hp
  refine ⟨en_lst ea_nil (by simp), ?_⟩
  refine sd_seq (sd_for1 (n := g.n) (ea_cons (ef_ixT (ef_var rfl) ef_int (encW0 g)) ea_nil) (by omega) (fun m r => ∃ (y : Row) (l : List Int) (a b : Slo), r = [.pm (rowD y), .fz (encW g), .fz (iN way), .mu (l.map .int), a, b] ∧ y.s = x.s ∧ l.length = m ∧ ∀ z, z ∈ l → 0 ≤ z ∧ z ≤ 2) ⟨y, [], .no, .no, rfl, ey, rfl, fun z hz => by cases hz⟩ (fun m r hm hI => ?_) (fun r hI => ?_))
  · obtain ⟨y, l, a, b, rfl, ey, el, hz⟩ := hI
    refine sd_seq (sd_setV (ev_taken (x := y) (n := 3) (k := 0) rfl rfl rfl ef_int (by decide) (by decide) (by rw [ey]; exact hl) fun v y2 hv ey2 => ?_))
    have v3 : v < 3 := hv
    have fin : ∀ z : Int, 0 ≤ z ∧ z ≤ 2 → ∃ (y' : Row) (l' : List Int) (a b : Slo), [Slo.pm (rowD y2), .fz (encW g), .fz (iN way), .mu (l.map PyData.int ++ [.int z]), .fz (iN m), .fz (iN v)] = [.pm (rowD y'), .fz (encW g), .fz (iN way), .mu (l'.map .int), a, b] ∧ y'.s = x.s ∧ l'.length = m + 1 ∧ ∀ z, z ∈ l' → 0 ≤ z ∧ z ≤ 2 := fun z h => ⟨y2, l ++ [z], _, _, by rw [List.map_append]; rfl, ey2.trans ey, by rw [List.length_append, el]; rfl, fun q hq => by
      rcases List.mem_append.mp hq with w | w
      · exact hz q w
      · simp at w; rw [w]; exact h⟩
    by_cases hw : 0 < way
    · exact sd_app (k := 3) rfl (d := .int v) (ef_if (b := true) (eb_is (eb_test (ef_B0 (ef_var rfl) ef_int)) (decide_eq_true (by omega))) (fun _ => ef_var rfl) (fun h => by cases h)) (by rw [List.length_map, el]; omega) (fin v (by omega))
    · exact sd_app (k := 3) rfl (d := .int (((m : Int) + if decide ((v : Int) = 0) = true then 1 else 0) % 3)) (ef_if (b := false) (eb_is (eb_test (ef_B0 (ef_var rfl) ef_int)) (decide_eq_false (by omega))) (fun h => by cases h) (fun _ => ef_mod (ef_intI (ef_I0 (ef_var rfl) (ef_intB (ef_eqI (ef_var rfl) ef_int)))) ef_int (by decide))) (by rw [List.length_map, el]; omega) (fin _ (by omega))
  · obtain ⟨y, l, a, b, rfl, ey, el, hz⟩ := hI
    refine sd_ret (ef_tupleOf (el_var rfl)) ⟨_, rfl, l, y, rfl, ⟨by rw [el, toNat_cast], hz⟩, rfl, ey⟩
end
end Tm
set_option maxRecDepth 100000
set_option maxHeartbeats 4000000
/-! The law's own reckoning: ways and parts by dicts. -/
namespace Tm
open PySem PyProof.Rows L2
section
variable {P : Program} {w : World} {K : PySem.W.Frag} {mg : Str → Option Value} {base : Heap}
def dKv (ks : List Nat) (f : Nat → Int) : List (Key × V) := ks.map fun k : Nat => ((Sum.inl (k : Int) : Key), V.int (f k))
theorem dKv_at (f : Nat → Int) (j : Nat) : ∀ ks : List Nat, valV (dKv ks f) (Sum.inl (j : Int)) = if j ∈ ks then some (V.int (f j)) else none
  | [] => rfl
  | k :: ks => by
    by_cases q : k = j
    · subst q
      rw [if_pos (by simp)]
      exact valV_pos rfl
    · have e : ¬ ((Sum.inl (k : Int) : Key) = Sum.inl (j : Int)) := fun z => q (by have := Sum.inl.inj z; omega)
      show valV ((Sum.inl (k : Int), V.int (f k)) :: dKv ks f) _ = _
      rw [valV_neg e, dKv_at f j ks]
      exact ifc (by simp [Ne.symm q]) rfl rfl
theorem dKv_put {ks : List Nat} {f : Nat → Int} {j : Nat} {v : Int} (h : j ∉ ks) : putK (dKv ks f) (Sum.inl (j : Int)) (V.int v) = dKv (ks ++ [j]) fun k => if k = j then v else f k := by
  rw [putK_new _ (by rw [dKv_at, if_neg h])]
  unfold dKv
  rw [List.map_append]
  congr 1
  · refine List.map_congr_left fun k hk => ?_
    show _ = ((Sum.inl (k : Int) : Key), V.int (if k = j then v else f k))
    rw [if_neg (fun (z : k = j) => h (z ▸ hk))]
  · simp
def preLWays (x : Web × Nat) (ds : List PyData) : Prop := ds = [encW x.1, iN x.2] ∧ WOk x.1 ∧ x.2 < x.1.n
def postLWays (x : Web × Nat) (o : HO) : Prop := ∃ ks f, o = .dK (dKv ks f) ∧ ks.Nodup ∧ ∀ j, j ∈ ks ↔ conn x.1 x.2 j = true
theorem nm_hn {r : List Slo} {s : L2.St} {p : Addr} {i : Nat} (nm : noMut r) : ∀ j u, j ≠ i → r[j]? = some u → u.mut = true → s[j]? ≠ some (some (V.ref p)) := fun j u _ e m => by
  rw [nm u (List.mem_of_getElem? e)] at m
  cases m
theorem keep_dK {kvs : List (Key × V)} : Keep (some (HO.dK kvs)) := ⟨_, rfl, fun _ z => by cases z⟩
theorem keep_dT {kvs : List (List Key × V)} : Keep (some (HO.dT kvs)) := ⟨_, rfl, fun _ z => by cases z⟩
structure WI (g : Web) (one : Nat) (done row : List Nat) : Prop where
  nd : (done ++ row).Nodup
  co : ∀ j, j ∈ done ++ row → conn g one j = true
  one : one ∈ done ++ row
  cl : ∀ j, j ∈ done → ∀ k, nbr g j k = true → k ∈ done ++ row
theorem WI.len {g : Web} {one : Nat} {done row : List Nat} (h : WI g one done row) : done.length + row.length ≤ g.n := by
  have := List.Nodup.length_le_of_subset h.nd (l₂ := List.range g.n) fun j hj => List.mem_range.mpr (conn_lt (h.co j hj)).2
  rw [List.length_append, List.length_range] at this
  exact this
theorem sc_law_ways : FnScope ["_law_web_here", "_law_one", "_law_near_here", "_law_found", "_law_row", "_law_here", "_law_there"] ["_law_web_here", "_law_one"] (defScope (top 58)) := ⟨rfl, rfl, rfl, by decide +kernel, rfl, by decide +kernel, by decide +kernel⟩
/-- _law_ways: 0 _law_web_here, 1 _law_one, 2 _law_near_here, 3 _law_found, 4 _law_row, 5 _law_here, 6 _law_there -/
theorem c_law_ways (T : Txt K mg) : Cl P w K mg base 2 "_law_ways" (SpD K preLWays postLWays) := by
  refine cl_raw T.f_law_ways sc_law_ways (fun _ _ _ _ _ _ us hl => match us, hl with | [_, _], _ => rfl) (by rintro _ _ _ _ ⟨x, F, ds, _, a, ⟨rfl, _⟩, _⟩; exact a.len) (fun f cdv A outer s H E hr => ⟨_, (pss_cons (ps_par3 (i := 2) (j := 3) (l := 4) rfl sc_law_ways.nd rfl rfl rfl (by decide) (by decide) (by decide) rfl rfl rfl (pa_cons (pe_cl (c_law_near T) hr (by decide) rfl (pa_cons (pv 0) pa_nil)) (pa_cons (pe_disp (pps_cons (pv 1) pe_int pps_nil) rfl rfl (List.cons_ne_nil _ _) (by decide)) (pa_cons (pe_lst (pa_cons (pv 1) pa_nil)) pa_nil))) (by rfl))
      (pss_cons (ps_while PassesOwn.never (pt_cmpR (k_neD K rfl hr.units) (pv 4) (pe_lst pa_nil) (nomark _)) (pss_cons (ps_set (i := 5) sc_law_ways.nd rfl (Or.inl rfl) (pe_bm PySem.F.plainAttrs_list PySem.F.slot_list_pop PySem.F.type_list_pop mt_popAt (pv 4) (pa_cons pe_int pa_nil)))
      (pss_one (ps_for PassesOwn.never rfl (kpi_list K rfl (pe_ix (k_ixL K rfl) (pv 2) (pv 5) (fun _ _ => rfl))) (pg_name (i := 6) sc_law_ways.nd rfl (Or.inl rfl)) (pss_one (ps_if (pt_cmp (pc_dnotin (hu1 hr) (pv 6) (pv 3))) (pss_cons (ps_dput (hu1 hr) (pv 3) (pv 6) (pe_op op_add (pe_dget (hu1 hr) (pv 3) (pv 5) (fun _ _ => rfl)) pe_int) (by rfl))
      (pss_one (ps_expr (pe_bm PySem.F.plainAttrs_list PySem.F.slot_list_append PySem.F.type_list_append mt_append (pv 4) (pa_cons (pv 6) pa_nil))))) pss_nil))))))
      (pss_one (ps_ret (pv 3))))), fun vs Q h => ?_⟩)
  obtain ⟨⟨g, one⟩, F, ds, i, a, ⟨rfl, ok, hi⟩, q⟩ := h
  simp only at ok hi
  have n1 := ok.n1
  have n6 := ok.n6
  have S := sta_start (N := ["_law_web_here", "_law_one", "_law_near_here", "_law_found", "_law_row", "_law_here", "_law_there"]) i a
  have nmr : noMut (rho 7 [encW g, iN one]) := fun u hu => by simp [rho] at hu; rcases hu with rfl | rfl | rfl <;> rfl
  refine (ef_call (d := encNear g) (ea_cons (ef_var rfl) ea_nil) ⟨g, rfl, ok, rfl⟩ : Ef K _ _ _) _ _ _ _ _ _ S _ fun v1 F1 H1 g1 d1 => ?_
  have S1 := S.grow g1
  refine (end_disp (kvs := [((one : Int), .int 0)]) (edp_cons (ef_var rfl) ef_int rfl edp_nil) (by simp) : End K _ _ _) _ _ _ _ _ _ S1 _ fun p F2 H2 g2 hp hf hh => ?_
  have S2 := S1.grow g2
  refine (en_lst (ds := [iN one]) (ea_cons (ef_var rfl) ea_nil) (by simp) : En K _ _ _) _ _ _ _ _ _ S2 _ fun z ws F3 H3 g3 hz hfz hhz dz => ?_
  have S3 := S2.grow g3
  have hpH : H p = none := hb_of S p (back_of g1 p hp)
  have hzH : H z = none := hb_of S z (back_of (g1.trans g2) z hz)
  refine ⟨v1, .ref p, .ref z, rfl, ?_⟩
  have fz1 := Dp.up (g2.trans g3).f _ _ d1
  have T1 := (S3.setF (i := 2) fz1).setA (i := 3) (v := .ref p)
  have nm1 : noMut (((rho 7 [encW g, iN one]).set 2 (.fz (encNear g))).set 3 (.ad (.ref p))) := nm_set (nm_set nmr rfl) rfl
  have T2 := T1.setN (i := 4) hfz hzH hhz dz (nm_hn nm1)
  have fp3 : F3 p = none := g3.n p hf ⟨_, hh, fun _ z => by cases z⟩
  have D0 : DSt K (fun _ => False) F H _ _ F3 H3 p (.dK (dKv [one] fun _ => 0)) := DSt.of T2 (g3.h _ _ hh) hpH fp3 (by cases e : F p with | none => rfl | some u => have := i p u e; rw [hpH] at this; cases this) (fun z => z) keep_dK (fun _ z => by cases z)
  -- the loop
  refine raw_while (fun n s' H' => ∃ (F' : Hp) (done row : List Nat) (f : Nat → Int) (a b : Slo), DSt K (fun _ => False) F H [.fz (encW g), .fz (iN one), .fz (encNear g), .ad (.ref p), .mu (row.map iN), a, b] s' F' H' p (.dK (dKv (done ++ row) f)) ∧ WI g one done row ∧ n + done.length = g.n) g.n ⟨F3, [], [one], fun _ => 0, .no, .no, D0, ⟨by simp, fun j hj => by simp at hj; rw [hj]; exact conn_refl hi, by simp, fun j hj => by cases hj⟩, by simp⟩ (fun n s' H' hJ => ?_)
  obtain ⟨F', done, row, f, a, b, D1, wi, hn⟩ := hJ
  have wl := wi.len
  refine D1.eb (b := !row.isEmpty) (eb_is (eb_test (ef_neD (El.er (el_var rfl)) (El.er (En.el (en_lst ea_nil (by simp)))) ((sh_encL (k := 1) row).ok (by omega)) ((sh_nil (k := 1)).ok (by omega)))) (by rw [eqv_nil, List.isEmpty_map])) fun F4 H4 D2 => ?_
  cases row with
  | nil =>
    refine iteF ?_
    -- all is told
    have all : ∀ t j, Rc g t one j → j ∈ done := fun t => by
      induction t with
      | zero => exact fun j w => by rw [← w.2]; have := wi.one; rwa [List.append_nil] at this
      | succ t ih =>
        rintro j ⟨k, w, _, e⟩
        rcases e with e | e
        · rw [← e]; exact ih k w
        · have := wi.cl k (ih k w) j e
          rwa [List.append_nil] at this
    have e3 := D2.st.ad (i := 3) rfl
    refine ⟨_, e3, ?_⟩
    refine q p _ F4 H4 ⟨done, f, rfl, by have := wi.nd; rwa [List.append_nil] at this, fun j => ⟨fun h => wi.co j (by rw [List.append_nil]; exact h), fun h => ?_⟩⟩ D2.back.grown hpH D2.fr (by have := D2.at_; rwa [List.append_nil] at this)
    obtain ⟨t, w⟩ := conn_iff.mp h
    exact all t j w
  | cons here row =>
    refine iteT ⟨_, fun _ _ x => x, ?_⟩
    have hco := wi.co here (by simp)
    have hhn := (conn_lt hco).2
    rw [List.map_cons] at D2
    refine D2.run_nx (N := fun r' => r' = [.fz (encW g), .fz (iN one), .fz (encNear g), .ad (.ref p), .mu (row.map iN), .fz (iN here), b]) (sd_pop0 (k := 4) (m := 5) rfl (by decide) rfl) fun r5 s5 F5 H5 e5 D5 => ?_
    subst e5
    refine dst_forL (ds := (nrow g here).map iN) D5 (ef_ixL (Ef.el (ef_var rfl)) (ef_var rfl) (encNear_at hhn)) (fun m r o => ∃ (added : List Nat) (f : Nat → Int) (b : Slo), r = [.fz (encW g), .fz (iN one), .fz (encNear g), .ad (.ref p), .mu ((row ++ added).map iN), .fz (iN here), b] ∧ o = .dK (dKv (done ++ here :: (row ++ added)) f) ∧ (done ++ here :: (row ++ added)).Nodup ∧ (∀ j, j ∈ done ++ here :: (row ++ added) → conn g one j = true) ∧ ∀ k, k ∈ (nrow g here).take m → k ∈ done ++ here :: (row ++ added)) ⟨[], f, b, by rw [List.append_nil], by rw [List.append_nil], by rw [List.append_nil]; exact wi.nd, by rw [List.append_nil]; exact wi.co, fun k hk => by simp at hk⟩ (fun m d r' o' hm hJ F0' s6 F6 H6 D6 N hN => ?_) (fun r' o' s6 F6 H6 hJ D6 => ?_)
    · obtain ⟨added, f, b, rfl, rfl, nd, co, cl⟩ := hJ
      obtain ⟨there, ht, rfl⟩ := iN_mem hm
      have ht2 := nrow_mem.mp (List.mem_of_getElem? ht)
      obtain ⟨v6, e6, d6⟩ := D6.st.fz (i := 6) rfl
      cases d6
      have e3 := D6.st.ad (i := 3) rfl
      have len : (done ++ here :: (row ++ added)).length ≤ 6 := by
        have := List.Nodup.length_le_of_subset nd (l₂ := List.range g.n) fun j hj => List.mem_range.mpr (conn_lt (co j hj)).2
        rw [List.length_range] at this
        omega
      refine ⟨_, e6, _, e3, p, _, rfl, DGet.k (k := Sum.inl (there : Int)) D6.at_, _, rfl, ?_⟩
      rw [dKv_at]
      by_cases hin : there ∈ done ++ here :: (row ++ added)
      · rw [if_pos hin]
        refine iteF ?_
        refine hN _ _ s6 F6 H6 ⟨added, f, .fz (iN there), rfl, rfl, nd, co, fun k hk => ?_⟩ D6
        rw [take_more ht, List.mem_append, List.mem_singleton] at hk
        rcases hk with hk | hk
        · exact cl k hk
        · rw [hk]; exact hin
      · rw [if_neg hin]
        refine iteT ?_
        obtain ⟨v5, e5, d5⟩ := D6.st.fz (i := 5) rfl
        cases d5
        have hv : valV (dKv (done ++ here :: (row ++ added)) f) (Sum.inl (here : Int)) = some (V.int (f here)) := by rw [dKv_at, if_pos (by simp)]
        refine ⟨_, e3, _, e5, p, V.int (f here), rfl, ?_, ?_⟩
        · rw [← hv]
          exact DGet.k (k := Sum.inl (here : Int)) D6.at_
        refine ⟨_, _, rfl, rfl, ?_⟩
        refine ⟨_, e3, _, e6, p, _, rfl, DPut.k (k := Sum.inl (there : Int)) D6.at_ (by unfold dKv; rw [List.length_map]; exact szLt (by omega)), ?_⟩
        rw [dKv_put hin]
        have D7 := D6.put (o' := .dK (dKv ((done ++ here :: (row ++ added)) ++ [there]) fun k => if k = there then f here + 1 else f k)) keep_dK (fun _ z => by cases z)
        dsimp only
        refine D7.last (t := tDrop _) (N := fun r' => r' = [.fz (encW g), .fz (iN one), .fz (encNear g), .ad (.ref p), .mu ((row ++ (added ++ [there])).map iN), .fz (iN here), .fz (iN there)]) (sd_app (k := 4) rfl (ef_var rfl) ?_ ?_) fun r7 s7 F7 H7 e7 D8 => ?_
        · rw [List.length_map]
          have := len
          rw [List.length_append, List.length_cons] at this
          omega
        · rw [← List.append_assoc, List.map_append (l₂ := [there])]
          rfl
        · subst e7
          have e9 : (done ++ here :: (row ++ added)) ++ [there] = done ++ here :: (row ++ (added ++ [there])) := by simp
          rw [e9] at D8
          refine hN _ _ s7 F7 H7 ⟨added ++ [there], _, .fz (iN there), rfl, rfl, ?_, fun j hj => ?_, fun k hk => ?_⟩ D8
          · rw [← e9, List.nodup_append]
            exact ⟨nd, by simp, fun a ha b hb e => hin (by simp at hb; rw [← hb, ← e]; exact ha)⟩
          · rw [← e9] at hj
            rcases List.mem_append.mp hj with hj | hj
            · exact co j hj
            · simp at hj
              rw [hj]
              exact conn_trans hco (conn_nbr ok ht2.2)
          · rw [← e9]
            rw [take_more ht, List.mem_append, List.mem_singleton] at hk
            rcases hk with hk | hk
            · exact List.mem_append_left _ (cl k hk)
            · rw [hk]; simp
    · obtain ⟨added, f, b, rfl, rfl, nd, co, cl⟩ := hJ
      rw [List.length_map, List.take_length] at cl
      have e9 : done ++ here :: (row ++ added) = (done ++ [here]) ++ (row ++ added) := by simp
      rw [e9] at D6 nd co cl
      refine ⟨n - 1, ?_, F6, done ++ [here], row ++ added, f, .fz (iN here), b, D6, ⟨nd, co, ?_, fun j hj k nb => ?_⟩, ?_⟩
      · have := wl
        rw [List.length_cons] at this
        omega
      · have := wi.one
        simp at this ⊢
        rcases this with z | z | z
        · exact .inl z
        · exact .inr (.inl z)
        · exact .inr (.inr (.inl z))
      · rcases List.mem_append.mp hj with z | z
        · have := wi.cl j z k nb
          simp at this ⊢
          rcases this with z | z | z
          · exact .inl z
          · exact .inr (.inl z)
          · exact .inr (.inr (.inl z))
        · simp at z
          subst z
          exact cl k (nrow_mem.mpr ⟨(nbr_lt ok nb).2.1, nb⟩)
      · have := wl
        rw [List.length_cons] at this
        rw [List.length_append, List.length_singleton]
        omega
end
end Tm
set_option maxRecDepth 100000
set_option maxHeartbeats 4000000
/-! The law's own reckoning: parts, speeds. -/
namespace Tm
open PySem PyProof.Rows L2
section
variable {P : Program} {w : World} {K : PySem.W.Frag} {mg : Str → Option Value} {base : Heap}
/-- pure defs whose answer is one of some -/
def SpE {ι : Type} (K : PySem.W.Frag) (pre : ι → List PyData → Prop) (post : ι → PyData → Prop) : Sp := fun vs H Q _ => ∃ x F ds, Same F H ∧ DpAll K F vs ds ∧ pre x ds ∧ ∀ v d F2 H2, post x d → Grow F H F2 H2 → Dp K F2 v d → Q v H2
theorem ev_callE {ι : Type} {r : List Slo} {pre : ι → List PyData → Prop} {post : ι → PyData → Prop} {E : XK} {t1 : TA} {P : PyData → List Slo → Prop} (x : ι) {ds : List PyData} (h : Ea K t1 r ds) (hp : pre x ds) (hq : ∀ d, post x d → P d r) : Ev K (tCall (SpE K pre post) [] E t1) r P := by
  intro M F0 H0 s F H S Q q
  refine h _ _ _ _ _ _ S _ fun vs F1 H1 g1 dv => ?_
  rw [List.append_nil]
  exact ⟨x, F1, ds, g1.i, dv, hp, fun v d F2 H2 po g a => q v d r F2 H2 (hq d po) (g1.f.trans g.f) (S.grow (g1.trans g)) a⟩
theorem tCB1 {rel : List V → Hp → VK → Prop} {te : TE} {s : L2.St} {H : Hp} {Q : VK} : tCB rel (tCons te tNil) s H Q = te s H fun v H1 => rel [v] H1 Q := rfl
theorem tCall_ {sp : Sp} {E : XK} {ta : TA} {s : L2.St} {H : Hp} {Q : VK} : tCall sp [] E ta s H Q = ta s H fun vs H1 => sp (vs ++ []) H1 Q E := rfl
def preLParts (g : Web) (ds : List PyData) : Prop := ds = [encW g] ∧ WOk g
def PartsOk (g : Web) (ps : List (List Nat)) : Prop := (∀ p, p ∈ ps → ∃ r, r < g.n ∧ p = partOf g r) ∧ ∀ i, i < g.n → ∃ p, p ∈ ps ∧ i ∈ p
def postLParts (g : Web) (d : PyData) : Prop := ∃ ps, d = encPs ps ∧ PartsOk g ps
theorem part_asc (g : Web) (i : Nat) : (partOf g i).Pairwise (· < ·) := List.Pairwise.filter _ List.pairwise_lt_range
theorem part_nd (g : Web) (i : Nat) : (partOf g i).Nodup := (part_asc g i).imp fun h => Nat.ne_of_lt h
theorem part_ne {g : Web} {i : Nat} (h : i < g.n) : partOf g i ≠ [] := fun z => by
  have : i ∈ partOf g i := part_mem.mpr (conn_refl h)
  rw [z] at this
  cases this
theorem sc_law_parts : FnScope ["_law_web_here", "_law_found", "_law_one"] ["_law_web_here"] (defScope (top 59)) := ⟨rfl, rfl, rfl, by decide +kernel, rfl, by decide +kernel, by decide +kernel⟩
/-- _law_parts: 0 _law_web_here, 1 _law_found, 2 _law_one -/
theorem c_law_parts (T : Txt K mg) : Cl P w K mg base 3 "_law_parts" (SpE K preLParts postLParts) := by
  refine cl_raw T.f_law_parts sc_law_parts (fun _ _ _ _ _ _ us hl => match us, hl with | [_], _ => rfl) (by rintro _ _ _ _ ⟨x, F, ds, _, a, ⟨rfl, _⟩, _⟩; exact a.len) (fun f cdv A outer s H E hr => ⟨_, (pss_cons (ps_set (i := 1) sc_law_parts.nd rfl (Or.inl rfl) pe_dnewT)
      (pss_cons (ps_for PassesOwn.never rfl (pi_range1 rfl T.n_range (pa_cons (pe_ix (k_ixT K rfl) (pv 0) pe_int (fun _ _ => rfl)) pa_nil)) (pg_name (i := 2) sc_law_parts.nd rfl (Or.inl rfl)) (pss_one (ps_dput (hu1 hr) (pv 1) (pe_callTy (k_tuple K rfl) rfl T.n_tuple bb_tuple (pa_cons (pe_callB (k_sorted K rfl) rfl T.n_sorted bb_sorted (pa_cons (pe_callTy (call_list_dK rfl) rfl T.n_list bb_list (pa_cons (pe_cl (c_law_ways T) hr (by decide) rfl (pa_cons (pv 0) (pa_cons (pv 2) pa_nil))) pa_nil)) pa_nil)) pa_nil)) pe_bl (by rfl))))
      (pss_one (ps_ret (pe_callB (k_sortedD K rfl hr.units) rfl T.n_sorted bb_sorted (pa_cons (pe_callTy (call_list_dT rfl) rfl T.n_list bb_list (pa_cons (pv 1) pa_nil)) pa_nil)))))), fun vs Q h => ?_⟩)
  obtain ⟨g, F, ds, i, a, ⟨rfl, ok⟩, q⟩ := h
  have n1 := ok.n1
  have n6 := ok.n6
  have S := sta_start (N := ["_law_web_here", "_law_found", "_law_one"]) i a
  intro p hp
  dsimp only
  have g1 : Grow F H F (upd H p (.dT [])) := Grow.newM S.i hp
  have fp : F p = none := S.i.free hp
  have S1 := (S.grow g1).setA (i := 1) (v := .ref p)
  have D0 : DSt K (fun _ => False) F H _ _ F (upd H p (.dT [])) p (.dT (dTv [])) := DSt.of S1 upd_same hp fp fp (fun z => z) keep_dT (fun _ z => by cases z)
  refine dst_forR (n := g.n) D0 (ea_cons (ef_ixT (ef_var rfl) ef_int (encW0 g)) ea_nil) (by omega) (fun m r o => ∃ (L : List (List Nat)) (c : Slo), r = [.fz (encW g), .ad (.ref p), c] ∧ o = .dT (dTv L) ∧ L.length ≤ m ∧ (∀ l, l ∈ L → ∃ r, r < g.n ∧ l = partOf g r) ∧ ∀ i, i < m → partOf g i ∈ L) ⟨[], .no, rfl, rfl, by simp, fun l hl => (List.not_mem_nil hl).elim, fun i hi => by omega⟩ (fun m r o hm hI s1 F1 H1 D1 N hN => ?_) (fun r o s1 F1 H1 hI D1 => ?_)
  · obtain ⟨L, c, rfl, rfl, hl, hL, hc⟩ := hI
    dsimp only
    refine ⟨.ref p, D1.st.ad (i := 1) rfl, ?_⟩
    dsimp only
    rw [tCB1, tCB1, tCB1, tCall_]
    refine (ea_cons (ef_var (i := 0) (d := encW g) rfl) (ea_cons (ef_var (i := 2) (d := iN m) rfl) ea_nil) : Ea K _ _ _) _ _ _ _ _ _ D1.st _ fun vs F2 H2 g2 dv => ?_
    have D2 := D1.grow g2
    rw [List.append_nil]
    refine ⟨(g, m), F2, _, D2.st.i, dv, ⟨rfl, ok, hm⟩, fun p2 o2 F3 H3 po g3 hp2 fp2 hh2 => ?_⟩
    obtain ⟨ks, f, rfl, nd, mem⟩ := po
    have D3 := D2.grow g3
    have perm : ks.Perm (partOf g m) := (List.perm_ext_iff_of_nodup nd (part_nd g m)).mpr fun j => by rw [mem, part_mem]
    have len : ks.length ≤ 6 := by
      have := List.Nodup.length_le_of_subset nd (l₂ := List.range g.n) fun j hj => List.mem_range.mpr (conn_lt ((mem j).mp hj)).2
      rw [List.length_range] at this
      omega
    refine ⟨p2, _, rfl, hh2, fun p3 hp3 => ?_⟩
    have g3b : Grow F3 H3 F3 _ := Grow.newM D3.st.i hp3 (o := .lst ((dKv ks f).map fun kv => kV kv.1))
    have D4 := D3.grow g3b
    refine ⟨p3, ks.map fun k : Nat => (k : Int), rfl, SqL.of ?_, by rw [List.length_map]; omega, fun ns p4 pe as hp4 => ?_⟩
    · rw [upd_same]
      unfold dKv
      rw [List.map_map, List.map_map]
      rfl
    have g4 : Grow F3 _ F3 _ := Grow.newM D4.st.i hp4 (o := .lst (ns.map V.int))
    have D5 := D4.grow g4
    obtain rfl : ns = (partOf g m).map fun k : Nat => (k : Int) := PySem.W.ksm_same (pe.trans (perm.map _)) as (by
      rw [List.pairwise_map]
      exact (part_asc g m).imp fun h => by omega)
    refine ⟨p4, _, rfl, .inl ⟨SqL.of upd_same, fun p5 hp5 => ?_⟩⟩
    have g5 : Grow F3 _ _ _ := Grow.new D5.st.i hp5 (o := .tup (tupV (partOf g m)))
    have e5 : (((partOf g m).map fun k : Nat => (k : Int)).map V.int) = tupV (partOf g m) := by rw [List.map_map]; rfl
    rw [e5] at D5 g5 hp5 ⊢
    have D6 := D5.grow g5
    refine ⟨p, _, rfl, DPut.t D6.at_ (k := keyT (partOf g m)) (by rw [upd_same, keyT_kV]) (by rw [dTv_len]; exact szLt (by omega)), ?_⟩
    rw [dTv_put]
    refine hN _ _ _ _ _ ⟨putL L (partOf g m), _, rfl, rfl, Nat.le_trans putL_len (by omega), fun l hl => ?_, fun i hi => ?_⟩ (D6.put keep_dT (fun _ z => by cases z))
    · rcases putL_mem.mp hl with h | h
      · exact hL l h
      · exact ⟨m, hm, h⟩
    · rcases Nat.lt_or_eq_of_le (Nat.le_of_lt_succ hi) with h | h
      · exact putL_mem.mpr (.inl (hc i h))
      · exact putL_mem.mpr (.inr (by rw [h]))
  · obtain ⟨L, c, rfl, rfl, hl, hL, hc⟩ := hI
    dsimp only
    refine dst_sortedT D1 (k := 1) rfl (fun l hl => ?_) (by omega) fun p2 vs out F2 H2 pe _ g2 hp2 fp2 hh2 dv => ?_
    · obtain ⟨r, hr, e⟩ := hL l hl
      rw [e]
      exact part_ne hr
    · have G := (D1.grow g2).back.grown
      have hp0 : H p2 = none := D1.back.grown.h.free hp2
      have up : Same F2 (upd F2 p2 (.lst vs)) := same_new fp2
      refine q _ (encPs out) (upd F2 p2 (.lst vs)) H2 ⟨out, rfl, fun l hl => hL l (pe.mem_iff.mp hl), fun i hi => ⟨partOf g i, pe.mem_iff.mpr (hc i hi), part_mem.mpr (conn_refl hi)⟩⟩ ⟨G.f.trans up, fun b u x => ?_, G.h, fun b x y => ?_⟩ (.lst (SqL.of upd_same) (DpAll.up up _ _ dv))
      · by_cases w : b = p2
        · subst w
          rw [upd_same] at x
          cases x
          exact hh2
        · rw [upd_ne w] at x
          exact G.i b u x
      · have w : b ≠ p2 := fun w => y.ne (by rw [w]; exact hp0)
        rw [upd_ne w]
        exact G.n b x y
def preLSpeeds (ds : List PyData) (d : PyData) : Prop := ∃ (g : Web) (st : List Int), ds = [encW g, encS st] ∧ WOk g ∧ SOk g.n st ∧ d = encSpdT g st (spd g st)
theorem sc_law_speeds : FnScope ["_law_web_here", "_law_state_here"] ["_law_web_here", "_law_state_here"] (defScope (top 63)) := ⟨rfl, rfl, rfl, by decide +kernel, rfl, by decide +kernel, by decide +kernel⟩
/-- _law_speeds: 0 _law_web_here, 1 _law_state_here -/
theorem c_law_speeds (T : Txt K mg) : Cl P w K mg base 4 "_law_speeds" (SpP K preLSpeeds) := by
  refine cl_pure T.f_law_speeds sc_law_speeds (fun _ _ _ _ _ _ us hl => match us, hl with | [_, _], _ => rfl) (by rintro _ _ ⟨_, _, rfl, _⟩; rfl) (fun f cdv A outer s H E hr => ⟨_, (pss_one (ps_ret (pe_cl (c_law_speeds_by T) hr (by decide) rfl (pa_cons (pv 0) (pa_cons (pv 1) (pa_cons (pe_cl (c_law_parts T) hr (by decide) rfl (pa_cons (pv 0) pa_nil)) (pa_cons (pe_cl (c_law_rings T) hr (by decide) rfl (pa_cons (pv 0) pa_nil)) pa_nil))))))), fun ds d h => ?_⟩)
  obtain ⟨g, st, rfl, ok, so, rfl⟩ := h
  refine sd_retV (ev_call (eva_cons (P := fun d r' => d = encW g ∧ r' = rho 2 [encW g, encS st]) (ev_of (ef_var rfl) ⟨rfl, rfl⟩) fun d r' h => ?_))
  obtain ⟨rfl, rfl⟩ := h
  refine eva_cons (P := fun d r' => d = encS st ∧ r' = rho 2 [encW g, encS st]) (ev_of (ef_var rfl) ⟨rfl, rfl⟩) fun d r' h => ?_
  obtain ⟨rfl, rfl⟩ := h
  refine eva_cons (P := fun d r' => (∃ ps, d = encPs ps ∧ PartsOk g ps) ∧ r' = rho 2 [encW g, encS st]) (ev_callE g (ea_cons (ef_var rfl) ea_nil) ⟨rfl, ok⟩ fun d po => ⟨po, rfl⟩) fun d r' h => ?_
  obtain ⟨⟨ps, rfl, pok⟩, rfl⟩ := h
  refine eva_cons (P := fun d r' => d = encPs (ringsL g) ∧ r' = rho 2 [encW g, encS st]) (ev_of (ef_call (ea_cons (ef_var rfl) ea_nil) ⟨g, rfl, ok, rfl⟩) ⟨rfl, rfl⟩) fun d r' h => ?_
  obtain ⟨rfl, rfl⟩ := h
  exact eva_nil ⟨_, ⟨g, st, ps, rfl, ok, so, pok.1, pok.2, rfl⟩, rfl⟩
end
end Tm
set_option maxRecDepth 100000
set_option maxHeartbeats 4000000
/-! The law's draw of a web. -/
namespace Tm
open PySem PyProof.Rows L2
section
variable {P : Program} {w : World} {K : PySem.W.Frag} {mg : Str → Option Value} {base : Heap}
/-- pairs, each once -/
structure LOk (n : Nat) (L : List (List Nat)) : Prop where
  nd : L.Nodup
  pr : ∀ l, l ∈ L → ∃ a b, l = [a, b] ∧ a < b ∧ b < n
theorem LOk.len {n : Nat} {L : List (List Nat)} (h : LOk n L) (n6 : n ≤ 6) : L.length ≤ 36 :=
  List.Nodup.length_le_of_subset h.nd (l₂ := (List.range 6).flatMap fun a => (List.range 6).map fun b => [a, b]) fun l hl => by
    obtain ⟨a, b, rfl, h1, h2⟩ := h.pr l hl
    exact List.mem_flatMap.mpr ⟨a, List.mem_range.mpr (by omega), List.mem_map.mpr ⟨b, List.mem_range.mpr (by omega), rfl⟩⟩
theorem LOk.put {n : Nat} {L : List (List Nat)} (h : LOk n L) {a b : Nat} (h1 : a < b) (h2 : b < n) : LOk n (putL L [a, b]) :=
  ⟨putL_nodup h.nd, fun l hl => by
    rcases putL_mem.mp hl with z | z
    · exact h.pr l z
    · exact ⟨a, b, z, h1, h2⟩⟩
def prOf (l : List Nat) : Nat × Nat := (l.headD 0, l.getD 1 0)
theorem LOk.web {n : Nat} {L out : List (List Nat)} (h : LOk n L) (n1 : 1 ≤ n) (n6 : n ≤ 6) (pe : out.Perm L) (so : out.Pairwise fun a b => intsL a ≤ intsL b) : WOk ⟨n, out.map prOf⟩ ∧ out.map encT1 = (out.map prOf).map eI := by
  have ho : LOk n out := ⟨(List.Perm.nodup_iff pe).mpr h.nd, fun l hl => h.pr l (pe.mem_iff.mp hl)⟩
  have inj : ∀ l m, l ∈ out → m ∈ out → prOf l = prOf m → l = m := fun l m hl hm e => by
    obtain ⟨a, b, rfl, _⟩ := ho.pr l hl
    obtain ⟨c, d, rfl, _⟩ := ho.pr m hm
    cases e
    rfl
  refine ⟨⟨n1, n6, ?_, fun e he => ?_, fun k e f h1 h2 => ?_, ?_⟩, ?_⟩
  · rw [List.length_map]
    have := ho.len n6
    omega
  · obtain ⟨l, hl, rfl⟩ := List.mem_map.mp he
    obtain ⟨a, b, rfl, h1, h2⟩ := ho.pr l hl
    exact ⟨h1, h2⟩
  · rw [List.getElem?_map] at h1 h2
    cases e1 : out[k]? with
    | none => rw [e1] at h1; cases h1
    | some l =>
    cases e2 : out[k + 1]? with
    | none => rw [e2] at h2; cases h2
    | some m =>
    rw [e1] at h1
    rw [e2] at h2
    cases h1
    cases h2
    obtain ⟨k1, q1⟩ := List.getElem?_eq_some_iff.mp e1
    obtain ⟨k2, q2⟩ := List.getElem?_eq_some_iff.mp e2
    have le := List.pairwise_iff_getElem.mp so k (k + 1) k1 k2 (Nat.lt_succ_self k)
    have ne : l ≠ m := fun z => by
      have := List.pairwise_iff_getElem.mp ho.nd k (k + 1) k1 k2 (Nat.lt_succ_self k)
      rw [q1, q2] at this
      exact this z
    rw [q1, q2] at le
    obtain ⟨a, b, rfl, _⟩ := ho.pr l (List.mem_of_getElem? e1)
    obtain ⟨c, d, rfl, _⟩ := ho.pr m (List.mem_of_getElem? e2)
    have le2 : ¬ ([(c : Int), (d : Int)] < [(a : Int), (b : Int)]) := List.not_lt.mpr le
    rw [List.cons_lt_cons_iff, List.cons_lt_cons_iff] at le2
    show a < c ∨ (a = c ∧ b < d)
    by_cases z : a = c
    · subst z
      refine .inr ⟨rfl, ?_⟩
      have : b ≠ d := fun z => ne (by rw [z])
      by_cases y : d < b
      · exact absurd (.inr ⟨rfl, .inl (by omega)⟩) le2
      · omega
    · by_cases y : c < a
      · exact absurd (.inl (by omega)) le2
      · omega
  · refine (List.pairwise_map.mpr (List.Pairwise.imp_of_mem (fun hl hm ne e => ne (inj _ _ hl hm e)) ho.nd) : (out.map prOf).Pairwise (· ≠ ·))
  · rw [List.map_map]
    refine List.map_congr_left fun l hl => ?_
    obtain ⟨a, b, rfl, _⟩ := ho.pr l hl
    rfl
theorem tCons1 {te : TE} {s : L2.St} {H : Hp} {Q : List V → Hp → Prop} : tCons te tNil s H Q = te s H fun v H1 => Q [v] H1 := rfl
theorem seq_par {i j : Nat} {ta : TA} {u : TS} {D : Ends} {s : L2.St} {H : Hp} : tSeq (tPar i j ta) u D s H = ta s H fun vs H1 => ∃ v w, vs = [v, w] ∧ u D ((s.set i (some v)).set j (some w)) H1 := rfl
def preLWeb (x : Row) (ks : List Slo) : Prop := ks = [.pm (rowD x), .fz (iN 6)] ∧ x.s.length ≤ 100
def postLWeb (x : Row) (d : PyData) (es : List PyData) : Prop := ∃ (g : Web) (y : Row), d = encW g ∧ WOk g ∧ es = rowD y ∧ y.s = x.s
theorem sc_law_web : FnScope ["_law_row", "_law_most", "_law_folk", "_law_way", "_law_found", "_law_one", "_law_turn", "_law_other"] ["_law_row", "_law_most"] (defScope (top 53)) := ⟨rfl, rfl, rfl, by decide +kernel, rfl, by decide +kernel, by decide +kernel⟩
/-- _law_web: 0 _law_row, 1 _law_most, 2 _law_folk, 3 _law_way, 4 _law_found, 5 _law_one, 6 _law_turn, 7 _law_other -/
theorem c_law_web (T : Txt K mg) : Cl P w K mg base 2 "_law_web" (SpM K 0 preLWeb postLWeb) := by
  refine cl_raw T.f_law_web sc_law_web (fun _ _ _ _ _ _ us hl => match us, hl with | [_, _], _ => rfl) (by rintro _ _ _ _ ⟨x, F, ks, es, p, ws, _, _, _, _, a, _, _, ⟨rfl, _⟩, _⟩; exact a.len) (fun f cdv A outer s H E hr => ⟨_, (pss_cons (ps_par3 (i := 2) (j := 3) (l := 4) rfl sc_law_web.nd rfl rfl rfl (by decide) (by decide) (by decide) rfl rfl rfl (pa_cons (pe_op op_add pe_int (pe_cl (c_law_taken T) hr (by decide) rfl (pa_cons (pv 0) (pa_cons (pv 1) pa_nil)))) (pa_cons (pe_cl (c_law_taken T) hr (by decide) rfl (pa_cons (pv 0) (pa_cons pe_int pa_nil))) (pa_cons pe_dnewT pa_nil))) (by rfl))
      (pss_cons (ps_for PassesOwn.never rfl (pi_range2 rfl T.n_range (pa_cons pe_int (pa_cons (pv 2) pa_nil))) (pg_name (i := 5) sc_law_web.nd rfl (Or.inl rfl)) (pss_one (ps_if (PW.pt (pw_or (pt_cmpR op_gt (pv 3) pe_int (nomark _)) (pw_or1 (pt_cmpR op_gt (pe_cl (c_law_taken T) hr (by decide) rfl (pa_cons (pv 0) (pa_cons pe_int pa_nil))) pe_int (nomark _))))) (pss_one (ps_dput (hu1 hr) (pv 4) (pe_tup (pa_cons (pe_ifExp (pt_cmpR op_lt (pv 3) pe_int (nomark _)) (pe_op op_sub (pv 5) pe_int) (pe_cl (c_law_taken T) hr (by decide) rfl (pa_cons (pv 0) (pa_cons (pv 5) pa_nil)))) (pa_cons (pv 5) pa_nil))) pe_bl (by rfl))) pss_nil)))
      (pss_cons (ps_if (PW.pt (pw_and (pt_cmpR (k_in K rfl) (pv 3) (pe_lst (pa_cons pe_int (pa_cons pe_int pa_nil))) rfl) (pw_and1 (pt_cmpR op_gt (pv 2) pe_int (nomark _))))) (pss_one (ps_dput (hu1 hr) (pv 4) (pe_tup (pa_cons pe_int (pa_cons (pe_op op_sub (pv 2) pe_int) pa_nil))) pe_bl (by rfl))) pss_nil)
      (pss_cons (ps_for PassesOwn.never rfl (pi_range1 rfl T.n_range (pa_cons (pe_ifExp (pt_cmpR op_ne (pv 3) pe_int (nomark _)) (pe_cl (c_law_taken T) hr (by decide) rfl (pa_cons (pv 0) (pa_cons (pv 2) pa_nil))) pe_int) pa_nil)) (pg_name (i := 6) sc_law_web.nd rfl (Or.inl rfl)) (pss_cons (ps_par (i := 5) (j := 7) rfl sc_law_web.nd rfl rfl (by decide) rfl rfl (pa_cons (pe_cl (c_law_taken T) hr (by decide) rfl (pa_cons (pv 0) (pa_cons (pv 2) pa_nil))) (pa_cons (pe_cl (c_law_taken T) hr (by decide) rfl (pa_cons (pv 0) (pa_cons (pv 2) pa_nil))) pa_nil)) (by rfl))
      (pss_one (ps_if (pt_cmpR op_ne (pv 5) (pv 7) (nomark _)) (pss_one (ps_dput (hu1 hr) (pv 4) (pe_tup (pa_cons (pe_callB (call_min2 rfl) rfl T.n_min bb_min (pa_cons (pv 5) (pa_cons (pv 7) pa_nil))) (pa_cons (pe_callB (call_max2 rfl) rfl T.n_max bb_max (pa_cons (pv 5) (pa_cons (pv 7) pa_nil))) pa_nil))) pe_bl (by rfl))) pss_nil))))
      (pss_one (ps_ret (pe_tup (pa_cons (pv 2) (pa_cons (pe_callTy (k_tuple K rfl) rfl T.n_tuple bb_tuple (pa_cons (pe_callB (k_sortedD K rfl hr.units) rfl T.n_sorted bb_sorted (pa_cons (pe_callTy (call_list_dT rfl) rfl T.n_list bb_list (pa_cons (pv 4) pa_nil)) pa_nil)) pa_nil)) pa_nil))))))))), fun vs Q h => ?_⟩)
  obtain ⟨x, F, ks, es, p, ws, i, hf, hp, hw, a, hm, hu, ⟨rfl, hl⟩, q⟩ := h
  obtain rfl : rowD x = es := by cases hm; rfl
  have S := sta_startK (N := ["_law_row", "_law_most", "_law_folk", "_law_way", "_law_found", "_law_one", "_law_turn", "_law_other"]) (m := 0) i hf hp hw a rfl hu
  have hpne : ∀ {r s' F' H' p2}, Sta K (· = p) F H r s' F' H' → H' p2 = none → ¬ (p2 = p) := fun T z y => T.hd p (some_ne hp) (y ▸ z)
  refine (ev_I0 (P' := fun d r' => d = .int 1 ∧ r' = rhoK 8 [.pm (rowD x), .fz (iN 6)]) (P := fun d r' => ∃ (v : Nat) (y : Row), v < 6 ∧ d = iN (1 + v) ∧ y.s = x.s ∧ r' = [.pm (rowD y), .fz (iN 6), .no, .no, .no, .no, .no, .no]) (ev_of ef_int ⟨rfl, rfl⟩) (fun d r' h => ⟨1, h.1, ?_⟩) : Ev K _ _ _) _ _ _ _ _ _ S _ fun v1 d1 r1 F1 H1 h1 f1 S1 dv1 => ?_
  · rw [h.2]
    exact ev_taken (x := x) (n := 6) (k := 0) rfl rfl rfl (ef_var rfl) (by decide) (by decide) hl fun v y hv ey => ⟨v, rfl, v, y, hv, by show PyData.int _ = .int _; congr 1, ey, rfl⟩
  obtain ⟨w1, y1, hw1, rfl, ey1, rfl⟩ := h1
  refine (ev_taken (x := y1) (n := 5) (k := 0) rfl rfl rfl ef_int (by decide) (by decide) (by rw [ey1]; exact hl) (P := fun d r' => ∃ (v : Nat) (y : Row), d = iN v ∧ y.s = x.s ∧ r' = [.pm (rowD y), .fz (iN 6), .no, .no, .no, .no, .no, .no]) fun v y hv ey => ⟨v, y, rfl, ey.trans ey1, rfl⟩ : Ev K _ _ _) _ _ _ _ _ _ S1 _ fun v2 d2 r2 F2 H2 h2 f2 S2 dv2 => ?_
  obtain ⟨way, y2, rfl, ey2, rfl⟩ := h2
  intro p2 hp2
  refine ⟨v1, v2, .ref p2, rfl, ?_⟩
  dsimp only
  have hp2F : H p2 = none := by
    cases z : H p2 with
    | none => rfl
    | some o => exact absurd hp2 (S2.hd p2 (some_ne z))
  have g3 : Grow F2 H2 F2 (upd H2 p2 (.dT [])) := Grow.newM S2.i hp2
  have S3 := (((S2.grow g3).setF (i := 2) (Dp.up f2 _ _ dv1)).setF (i := 3) dv2).setA (i := 4) (v := .ref p2)
  have D0 : DSt K (· = p) F H _ _ F2 (upd H2 p2 (.dT [])) p2 (.dT (dTv [])) := DSt.of S3 upd_same hp2F (S2.i.free hp2) (i.free hp2F) (hpne S2 hp2) keep_dT (fun _ z => by cases z)
  obtain ⟨n, en⟩ : ∃ n, n = 1 + w1 := ⟨_, rfl⟩
  have n1 : 1 ≤ n := by omega
  have n6 : n ≤ 6 := by omega
  rw [← en] at D0
  let R : Row → Slo → Slo → Slo → List Slo := fun y a b c => [.pm (rowD y), .fz (iN 6), .fz (iN n), .fz (iN way), .ad (.ref p2), a, b, c]
  have D0 : DSt K (· = p) F H (R y2 .no .no .no) _ F2 (upd H2 p2 (.dT [])) p2 (.dT (dTv [])) := D0
  let J : List Slo → HO → Prop := fun r o => ∃ (y : Row) (a b c : Slo) (L : List (List Nat)), r = R y a b c ∧ o = .dT (dTv L) ∧ y.s = x.s ∧ LOk n L
  have J0 : J (R y2 .no .no .no) (.dT (dTv [])) := ⟨y2, .no, .no, .no, [], rfl, rfl, ey2, ⟨List.nodup_nil, fun l hl => (List.not_mem_nil hl).elim⟩⟩
  -- the first loop
  refine dst_forR2 (lo := 1) (n := n) D0 (ea_cons ef_int (ea_cons (ef_var rfl) ea_nil)) (by omega) (by omega) (fun _ => J) J0 (fun m r o hm hJ s4 F4 H4 D4 N hN => ?_) (fun r o s4 F4 H4 hJ D4 => ?_)
  · obtain ⟨y, a, b, c, L, rfl, rfl, ey, lo⟩ := hJ
    have len := lo.len n6
    obtain ⟨k, ek⟩ : ∃ k, k = 1 + m := ⟨_, rfl⟩
    rw [← ek] at D4
    refine D4.evb (P := fun _ r' => ∃ y : Row, y.s = x.s ∧ r' = R y (.fz (iN k)) b c) (evb_or (B' := fun _ r' => ∃ y : Row, y.s = x.s ∧ r' = R y (.fz (iN k)) b c) (evb_of (eb_test (ef_B0 (ef_var rfl) ef_int)) ⟨y, ey, rfl⟩) (fun r' h => h) fun r' h => ?_) fun bb r' F5 H5 h D5 => ?_
    · obtain ⟨y, ey, rfl⟩ := h
      refine evb_test (ev_B0 (P' := fun d r' => ∃ (v : Nat) (y : Row), d = iN v ∧ y.s = x.s ∧ r' = R y (.fz (iN k)) b c) (ev_taken (x := y) (n := 3) (k := 0) rfl rfl rfl ef_int (by decide) (by decide) (by rw [ey]; exact hl) fun v z hv ez => ⟨v, z, rfl, ez.trans ey, rfl⟩) fun d r' h => ?_)
      obtain ⟨v, y, rfl, ey, rfl⟩ := h
      exact ⟨v, rfl, ev_of ef_int ⟨0, rfl, _, rfl, y, ey, rfl⟩⟩
    · obtain ⟨y, ey, rfl⟩ := h
      cases bb with
      | false => exact iteF (hN _ _ _ _ _ ⟨y, _, _, _, L, rfl, rfl, ey, lo⟩ D5)
      | true =>
        refine iteT ?_
        refine dst_putT (k := 4) D5 (D5.ad_is rfl) (by omega) (B := fun u v r' => u < v ∧ v < n ∧ ∃ y : Row, y.s = x.s ∧ r' = R y (.fz (iN k)) b c) (eva_cons (P := fun d r' => ∃ (u : Nat) (y : Row), d = iN u ∧ u < k ∧ y.s = x.s ∧ r' = R y (.fz (iN k)) b c) (ev_if (B := fun _ r' => r' = R y (.fz (iN k)) b c) (evb_of (eb_test (ef_B0 (ef_var rfl) ef_int)) rfl) (fun r' h => ?_) (fun r' h => ?_)) fun d r' h => ?_) fun u v r' F6 H6 h D6 => ?_
        · rw [h]
          exact ev_of (d := iN (k - 1)) (ef_is (ef_I0 (ef_var rfl) ef_int) (by show PyData.int _ = .int _; congr 1; omega)) ⟨k - 1, y, rfl, by omega, ey, rfl⟩
        · rw [h]
          exact ev_taken (x := y) (n := k) (k := 0) rfl rfl rfl (ef_var rfl) (by omega) (by omega) (by rw [ey]; exact hl) fun v z hv ez => ⟨v, z, rfl, hv, ez.trans ey, rfl⟩
        · obtain ⟨u, y, rfl, hu, ey, rfl⟩ := h
          refine eva_cons (P := fun d r' => d = iN k ∧ r' = R y (.fz (iN k)) b c) (ev_of (ef_var rfl) ⟨rfl, rfl⟩) fun d r' h => ?_
          obtain ⟨rfl, rfl⟩ := h
          exact eva_nil ⟨u, k, rfl, hu, by omega, y, ey, rfl⟩
        · obtain ⟨h1, h2, y, ey, rfl⟩ := h
          exact hN _ _ _ _ _ ⟨y, _, _, _, _, rfl, rfl, ey, lo.put h1 h2⟩ D6
  obtain ⟨y, a, b, c, L, rfl, rfl, ey, lo⟩ := hJ
  have len := lo.len n6
  dsimp only
  -- the long street
  refine dst_ifN J D4 (eb_and (eb_test (ef_inL (neg := false) (ef_var rfl) (En.el (en_lst (ds := [.int 1, .int 2]) (ea_cons ef_int (ea_cons ef_int ea_nil)) (by simp))) rfl rfl)) (fun _ => eb_test (ef_B0 (ef_var rfl) ef_int))) (fun hb F5 H5 D5 N hN => ?_) (fun hb F5 H5 D5 N hN => hN _ _ _ _ _ ⟨y, a, b, c, L, rfl, rfl, ey, lo⟩ D5) fun r o s5 F5 H5 hJ D5 => ?_
  · have hb := of_decide_eq_true ((Bool.and_eq_true _ _).mp hb).2
    refine dst_putT (k := 4) D5 (D5.ad_is rfl) (by omega) (B := fun u v r' => u = 0 ∧ v = n - 1 ∧ r' = R y a b c) (eva_cons (P := fun d r' => d = iN 0 ∧ r' = R y a b c) (ev_of ef_int ⟨rfl, rfl⟩) fun d r' h => ?_) fun u v r' F6 H6 h D6 => ?_
    · obtain ⟨rfl, rfl⟩ := h
      refine eva_cons (P := fun d r' => d = iN (n - 1) ∧ r' = R y a b c) (ev_of (ef_is (ef_I0 (ef_var rfl) ef_int) (by show PyData.int _ = .int _; congr 1; omega)) ⟨rfl, rfl⟩) fun d r' h => ?_
      obtain ⟨rfl, rfl⟩ := h
      exact eva_nil ⟨0, n - 1, rfl, rfl, rfl, rfl⟩
    · obtain ⟨rfl, rfl, rfl⟩ := h
      exact hN _ _ _ _ _ ⟨y, _, _, _, _, rfl, rfl, ey, lo.put (by omega) (by omega)⟩ D6
  obtain ⟨y, a, b, c, L, rfl, rfl, ey, lo⟩ := hJ
  dsimp only
  -- more streets
  refine dst_forRV (B := fun _ r' => ∃ y : Row, y.s = x.s ∧ r' = R y a b c) D5 (eva_cons (P := fun d r' => ∃ (u : Nat) (y : Row), d = iN u ∧ u ≤ 6 ∧ y.s = x.s ∧ r' = R y a b c) (ev_if (B := fun _ r' => r' = R y a b c) (evb_of (eb_test (ef_neI (ef_var rfl) ef_int)) rfl) (fun r' h => ?_) (fun r' h => ?_)) fun d r' h => ?_) (fun _ _ => J) (fun m r' h => ?_) (fun k m r o hm hJ s6 F6 H6 D6 N hN => ?_) (fun m r o s6 F6 H6 hJ D6 => ?_)
  · rw [h]
    exact ev_taken (x := y) (n := n) (k := 0) rfl rfl rfl (ef_var rfl) (by omega) (by omega) (by rw [ey]; exact hl) fun v z hv ez => ⟨v, z, rfl, by omega, ez.trans ey, rfl⟩
  · rw [h]
    exact ev_of ef_int ⟨0, y, rfl, by omega, ey, rfl⟩
  · obtain ⟨u, y, rfl, hu, ey, rfl⟩ := h
    exact eva_nil ⟨u, rfl, by omega, y, ey, rfl⟩
  · obtain ⟨y, ey, rfl⟩ := h
    exact ⟨y, a, b, c, L, rfl, rfl, ey, lo⟩
  · obtain ⟨y, a, b, c, L, rfl, rfl, ey, lo⟩ := hJ
    have len := lo.len n6
    dsimp only
    have tk : ∀ {z : Row} {e1 f1 g1 : Slo}, z.s = x.s → Ev K (tCall (SpM K 0 preTk postTk) [] L2.E0 (tCons (tVar 0) (tCons (tVar 2) tNil))) (R z e1 f1 g1) fun d r' => ∃ (v : Nat) (y : Row), d = iN v ∧ v < n ∧ y.s = x.s ∧ r' = R y e1 f1 g1 := fun {z e1 f1 g1} ez =>
      ev_taken (x := z) (n := n) (k := 0) rfl rfl rfl (ef_var rfl) (by omega) (by omega) (by rw [ez]; exact hl) fun v z2 hv ez2 => ⟨v, z2, rfl, hv, ez2.trans ez, rfl⟩
    rw [seq_par]
    refine (eva_cons (tk ey) fun d r' h => ?_ : Eva K _ _ fun ds r' => ∃ (u v : Nat) (y : Row), ds = [iN u, iN v] ∧ u < n ∧ v < n ∧ y.s = x.s ∧ r' = R y a (.fz (iN m)) c) _ _ _ _ _ _ D6.st _ fun vs ds r' F7 H7 h f7 S7 dv => ?_
    · obtain ⟨u, y, rfl, hu, ey, rfl⟩ := h
      refine eva_cons (tk ey) fun d r' h => ?_
      obtain ⟨v, y, rfl, hv, ey, rfl⟩ := h
      exact eva_nil ⟨u, v, y, rfl, hu, hv, ey, rfl⟩
    · obtain ⟨u, v, y, rfl, hu, hv, ey, rfl⟩ := h
      obtain rfl := DpAll.of_ints (ns := [(u : Int), (v : Int)]) dv
      refine ⟨_, _, rfl, ?_⟩
      have D7 := ((D6.with_ S7).setF (i := 5) (.int (u : Int))).setF (i := 7) (.int (v : Int))
      have D7 : DSt K (· = p) F H (R y (.fz (iN u)) (.fz (iN m)) (.fz (iN v))) _ F7 H7 p2 (.dT (dTv L)) := D7
      refine dst_ifN J D7 (eb_test (ef_neI (ef_var rfl) (ef_var rfl))) (fun hb F8 H8 D8 N8 hN8 => ?_) (fun hb F8 H8 D8 N8 hN8 => hN8 _ _ _ _ _ ⟨y, _, _, _, L, rfl, rfl, ey, lo⟩ D8) fun r o s8 F8 H8 hJ D8 => hN _ _ _ _ _ hJ D8
      have ne : u ≠ v := fun z => by subst z; simp at hb
      refine dst_putT (k := 4) D8 (D8.ad_is rfl) (by omega) (B := fun u v r' => u < v ∧ v < n ∧ ∃ a b c, r' = R y a b c) (eva_cons (P := fun d r' => d = iN (min u v) ∧ r' = R y (.fz (iN u)) (.fz (iN m)) (.fz (iN v))) (ev_of (ef_is (ef_min2 (ef_var rfl) (ef_var rfl)) ?_) ⟨rfl, rfl⟩) fun d r' h => ?_) fun u v r' F6 H6 h D6 => ?_
      · show PyData.int _ = .int _
        congr 1
        split <;> omega
      · obtain ⟨rfl, rfl⟩ := h
        refine eva_cons (P := fun d r' => d = iN (max u v) ∧ r' = R y (.fz (iN u)) (.fz (iN m)) (.fz (iN v))) (ev_of (ef_is (ef_max2 (ef_var rfl) (ef_var rfl)) ?_) ⟨rfl, rfl⟩) fun d r' h => ?_
        · show PyData.int _ = .int _
          congr 1
          split <;> omega
        · obtain ⟨rfl, rfl⟩ := h
          exact eva_nil ⟨_, _, rfl, by omega, by omega, _, _, _, rfl⟩
      · obtain ⟨h1, h2, a, b, c, rfl⟩ := h
        exact hN8 _ _ _ _ _ ⟨y, _, _, _, _, rfl, rfl, ey, lo.put h1 h2⟩ D6
  · obtain ⟨y, a, b, c, L, rfl, rfl, ey, lo⟩ := hJ
    have len := lo.len n6
    dsimp only
    obtain ⟨vn, e2, d2⟩ := D6.st.fz (i := 2) rfl
    cases d2
    refine ⟨_, e2, ?_⟩
    dsimp only
    rw [tCons1, tCB1]
    refine dst_sortedT D6 (k := 4) rfl (fun l hl => ?_) (by omega) fun p3 vs out F7 H7 pe so g7 hp3 fp3 hh3 dv => ?_
    · obtain ⟨a, b, rfl, _⟩ := lo.pr l hl
      exact List.cons_ne_nil _ _
    have D7 := D6.grow g7
    refine ⟨p3, vs, rfl, .inl ⟨SqL.of hh3, fun p4 hp4 => ?_⟩⟩
    have g8 : Grow F7 H7 (upd F7 p4 (.tup vs)) (upd H7 p4 (.tup vs)) := Grow.new D7.st.i hp4
    have D8 := D7.grow g8
    refine ⟨szOf (by simp), fun p5 hp5 => ?_⟩
    have g9 : Grow (upd F7 p4 (.tup vs)) (upd H7 p4 (.tup vs)) (upd (upd F7 p4 (.tup vs)) p5 (.tup [.int n, .ref p4])) (upd (upd H7 p4 (.tup vs)) p5 (.tup [.int n, .ref p4])) := Grow.new D8.st.i hp5
    have D9 := D8.grow g9
    obtain ⟨wok, ew⟩ := lo.web n1 n6 pe so
    obtain ⟨p', ws', _, q2, q3, q4, q5⟩ := D9.back.pm (i := 0) rfl
    have q3 : p' = p := q3.1
    subst q3
    refine q (.ref p5) (encW ⟨n, out.map prOf⟩) (rowD y) ws' _ _ ⟨_, y, rfl, wok, rfl, ey⟩ D9.back.grownM q4 q5 (.tup (SqT.of upd_same) (.cons (.int _) (.cons (.tup (SqT.of (g9.f _ _ upd_same)) ?_) .nil)))
    show DpAll K _ vs ((out.map prOf).map eI)
    rw [← ew]
    exact DpAll.up (g8.f.trans g9.f) _ _ dv
end
end Tm
set_option maxRecDepth 100000
set_option maxHeartbeats 4000000
/-! The desk's methods. -/
namespace Tm
open PySem PyProof.Rows L2
structure DTxt (K : PySem.W.Frag) (mg : Str → Option Value) (C CI CN : Addr) : Prop extends DeskC K C where
  gC : mg "Desk" = some (.ref C)
  k_MOST_TICK : ∃ u, mg "MOST_TICK" = some u ∧ RelV (.int 1000000000000000000000000000000) u
  m_number_at : Fmt K C "number_at" "Desk.number_at" (inClass (top 48) 3)
  m_numbers_of : Fmt K C "numbers_of" "Desk.numbers_of" (inClass (top 48) 4)
  m_told : Fmt K C "told" "Desk.told" (inClass (top 48) 5)
  m_change : Fmt K C "change" "Desk.change" (inClass (top 48) 6)
  m_run : Fmt K C "run" "Desk.run" (inClass (top 48) 7)
section
variable {P : Program} {w : World} {K : PySem.W.Frag} {mg : Str → Option Value} {base : Heap} {C CI CN fI dW : Addr}
def encPast (p : List Int × Int) : PyData := .tuple [encS p.1, .int p.2]
/-- a desk -/
def deskD (g : Web) (st : List Int) (t : Int) (ps : List (List Int × Int)) : DeskD := ⟨encW g, encS st, t, ps.map encPast⟩
theorem one0 {t : Slo} {r : List Slo} (h : (r.all fun t => !t.isDk) = true) : OneDk (t :: r) 0 := fun j u ne e => by
  cases j with
  | zero => exact absurd rfl ne
  | succ j =>
    have := List.all_eq_true.mp h u (List.mem_of_getElem? (show r[j]? = some u from by simpa using e))
    simpa using this
def preChange (x : List Int × Int) (D : DeskD) (ds : List PyData) : Prop := ds = [encS x.1, .int x.2] ∧ D.ps.length ≤ 1000
def postChange (x : List Int × Int) (D : DeskD) (o : Out) (D' : DeskD) : Prop := o = .ok .none ∧ D' = ⟨D.w, encS x.1, D.t + x.2, D.ps ++ [.tuple [D.s, .int D.t]]⟩
theorem sc_Desk_change : FnScope ["self", "state", "many"] ["self", "state", "many"] (defScope (inClass (top 48) 6)) := ⟨rfl, rfl, rfl, by decide +kernel, rfl, by decide +kernel, by decide +kernel⟩
/-- Desk.change: 0 self, 1 state, 2 many -/
theorem m_change (T : Txt K mg) (DT : DTxt K mg C CI CN) (WT : WordTxt P K mg CI fI) (WD : WordsTxt K mg w dW) : DMet P w K mg base 1 C "change" (SpDesk K C CI CN preChange postChange) := by
  refine dmet_raw DT.c DT.m_change sc_Desk_change (fun _ _ _ _ _ _ us hl => match us, hl with | [_, _, _], _ => rfl) (by rintro _ _ _ _ ⟨x, F, ds, a, dx, pl, D, ws, rfl, _, av, ⟨rfl, _⟩, _⟩; rw [List.length_cons, av.len]; rfl) (fun f cdv A outer s H E hr tk => ⟨_, (pss_cons (ps_expr (pe_bm PySem.F.plainAttrs_list PySem.F.slot_list_append PySem.F.type_list_append mt_append (pe_fld (pv 0) rfl) (pa_cons (pe_tup (pa_cons (pe_fld (pv 0) rfl) (pa_cons (pe_fld (pv 0) rfl) pa_nil))) pa_nil)))
      (pss_one (ps_asg (pe_tup (pa_cons (pv 1) (pa_cons (pe_op op_add (pe_fld (pv 0) rfl) (pv 2)) pa_nil))) (kpg_tup K rfl rfl (pgs_cons (pg_fld (pv 0)) (pgs_cons (pg_fld (pv 0)) pgs_nil)))))), fun vs Q h => ?_⟩)
  obtain ⟨x, F, ds, a, dx, pl, D, ws, rfl, dk, av, ⟨rfl, hl⟩, q, _, _⟩ := h
  have S := sta_startD (N := ["self", "state", "many"]) dk av (by decide)
  refine (?body : Sd K _ (rhoD 3 C a dx pl D [encS x.1, .int x.2]) { nx := fun r => r[0]? = some (.dk C a dx pl ⟨D.w, encS x.1, D.t + x.2, D.ps ++ [.tuple [D.s, .int D.t]]⟩) }) _ _ _ _ _ _ _ S ⟨fun r s' F' H' e S' => ?_, fun _ _ _ _ _ _ z => z.elim, fun _ _ _ _ z => z.elim, fun _ _ _ _ z => z.elim⟩
  case body =>
    exact sd_seq (sd_pastApp DT.toDeskC (i := 0) rfl (one0 rfl) (ef_tup (ea_cons (ef_state DT.toDeskC rfl) (ea_cons (ef_ticks DT.toDeskC rfl) ea_nil)) (by simp)) (by omega)
      (sd_two DT.toDeskC (i := 0) rfl (one0 rfl) (ef_tup (ea_cons (ef_var rfl) (ea_cons (ef_I0 (ef_ticks DT.toDeskC rfl) (ef_var rfl)) ea_nil)) (by simp)) rfl))
  exact q .non .none _ F' H' ⟨rfl, rfl⟩ (S'.grownD dk) (S'.endD e) .non
def numAt (ws : List Str) (k : Nat) (lo hi : Int) : Out := match ws[k]? with
  | none => .word ws.length
  | some x => match numIn x with
    | none => .word k
    | some n => if lo ≤ n ∧ n ≤ hi then .ok (.int n) else .word k
structure NumX where
  ws : List Str
  k : Nat
  lo : Int
  hi : Int
def preNumAt (x : NumX) (D : DeskD) (ds : List PyData) : Prop := ds = [.list (x.ws.map .str), iN x.k, .int x.lo, .int x.hi] ∧ (∀ y, y ∈ x.ws → tameW y = true) ∧ x.ws.length ≤ 1000
def postNumAt (x : NumX) (D : DeskD) (o : Out) (D' : DeskD) : Prop := o = numAt x.ws x.k x.lo x.hi ∧ D' = D
theorem sc_Desk_number_at : FnScope ["self", "words", "at", "low", "high", "number"] ["self", "words", "at", "low", "high"] (defScope (inClass (top 48) 3)) := ⟨rfl, rfl, rfl, by decide +kernel, rfl, by decide +kernel, by decide +kernel⟩
/-- Desk.number_at: 0 self, 1 words, 2 at, 3 low, 4 high, 5 number -/
theorem m_number_at (T : Txt K mg) (DT : DTxt K mg C CI CN) (WT : WordTxt P K mg CI fI) (WD : WordsTxt K mg w dW) : DMet P w K mg base 2 C "number_at" (SpDesk K C CI CN preNumAt postNumAt) := by
  refine dmet_raw DT.c DT.m_number_at sc_Desk_number_at (fun _ _ _ _ _ _ us hl => match us, hl with | [_, _, _, _, _], _ => rfl) (by rintro _ _ _ _ ⟨x, F, ds, a, dx, pl, D, ws, rfl, _, av, ⟨rfl, _⟩, _⟩; rw [List.length_cons, av.len]; rfl) (fun f cdv A outer s H E hr tk => ⟨_, (pss_cons (ps_if (pt_cmpR op_le (pe_callB (k_len K rfl) rfl T.n_len bb_len (pa_cons (pv 1) pa_nil)) (pv 2) (nomark _)) (pss_one (ps_raiseWord rfl WT hr tk (pa_cons (pe_callB (k_len K rfl) rfl T.n_len bb_len (pa_cons (pv 1) pa_nil)) pa_nil))) pss_nil)
      (pss_cons (ps_set (i := 5) sc_Desk_number_at.nd rfl (Or.inl rfl) (pe_cl (c_number_in T) hr (by decide) rfl (pa_cons (pe_ix (k_ixL K rfl) (pv 1) (pv 2) (fun _ _ => rfl)) pa_nil)))
      (pss_cons (ps_if (PW.pt (pw_or (pt_cmpR op_isN (pv 5) pe_non (nomark _)) (pw_or1 (pt_not (pt_chain op_le op_le (pv 3) (pv 5) (pv 4)))))) (pss_one (ps_raiseWord rfl WT hr tk (pa_cons (pv 2) pa_nil))) pss_nil)
      (pss_one (ps_ret (pv 5)))))), fun vs Q h => ?_⟩)
  obtain ⟨x, F, ds, a, dx, pl, D, ws, rfl, dk, av, ⟨rfl, tame, hl⟩, q, qw, _⟩ := h
  have S := sta_startD (N := ["self", "words", "at", "low", "high", "number"]) dk av (by decide)
  refine (eb_test (ef_B0 (ef_lenL (Ef.el (ef_var (i := 1) rfl))) (ef_var (i := 2) rfl)) : Eb K _ _ _) _ _ _ _ _ _ S _ fun F1 H1 g1 => ?_
  have S1 := S.grow g1
  have el : ((x.ws.map PyData.str).length : Int) = x.ws.length := by rw [List.length_map]
  by_cases hk : x.ws.length ≤ x.k
  · rw [decide_eq_true (show ((x.ws.map PyData.str).length : Int) ≤ (x.k : Int) by omega)]
    refine iteT ?_
    refine raise_desk S1 dk rfl (ef_lenL (Ef.el (ef_var (i := 1) rfl))) fun F2 H2 e g d2 fe he => qw _ _ F2 H2 e ⟨?_, rfl⟩ g d2 fe he
    unfold numAt
    rw [List.getElem?_eq_none hk, el]
  rw [decide_eq_false (show ¬ ((x.ws.map PyData.str).length : Int) ≤ (x.k : Int) by omega)]
  refine iteF ?_
  obtain ⟨y, hy⟩ : ∃ y, x.ws[x.k]? = some y := ⟨x.ws[x.k]'(by omega), List.getElem?_eq_getElem (by omega)⟩
  have ty := tame y (List.mem_of_getElem? hy)
  dsimp only [tNext]
  refine run_nx (N := fun r' => r' = [.dk C a dx pl D, .fz (.list (x.ws.map .str)), .fz (iN x.k), .fz (.int x.lo), .fz (.int x.hi), .fz (oD (numIn y))]) S1 (sd_set (d := oD (numIn y)) (ef_call (pre := preNumIn) (ea_cons (ef_ixL (d := .str y) (Ef.el (ef_var rfl)) (ef_var rfl) (atN (by rw [List.getElem?_map, hy]; rfl))) ea_nil) ⟨y, rfl, ty, rfl⟩) rfl) fun r2 s2 F2 H2 e2 S2 => ?_
  subst e2
  cases en : numIn y with
  | none =>
    rw [en] at S2
    refine (eb_or (eb_test (ef_is (ef_isN (d := .none) (Ef.er (ef_var (i := 5) rfl))) rfl)) (fun z => by cases z) : Eb K _ _ (true || false)) _ _ _ _ _ _ S2 _ fun F3 H3 g3 => ?_
    refine iteT ?_
    refine raise_desk (S2.grow g3) dk rfl (ef_var (i := 2) rfl) fun F4 H4 e g d2 fe he => qw _ _ F4 H4 e ⟨?_, rfl⟩ g d2 fe he
    unfold numAt
    rw [hy]
    simp only [en]
  | some n =>
    rw [en] at S2
    refine (eb_or (eb_test (ef_is (ef_isN (d := .int n) (Ef.er (ef_var (i := 5) rfl))) rfl)) (fun _ => eb_not (eb_test (ef_chainI (ef_var (i := 3) rfl) (ef_var (i := 5) rfl) (ef_var (i := 4) rfl)))) : Eb K _ _ (false || !(decide (x.lo ≤ n) && decide (n ≤ x.hi)))) _ _ _ _ _ _ S2 _ fun F3 H3 g3 => ?_
    have S3 := S2.grow g3
    by_cases hh : x.lo ≤ n ∧ n ≤ x.hi
    · rw [decide_eq_true hh.1, decide_eq_true hh.2]
      refine iteF ?_
      dsimp only [tNext]
      obtain ⟨v, hv, dv⟩ := S3.fz (i := 5) rfl
      refine ⟨v, hv, q v (.int n) D F3 H3 ⟨?_, rfl⟩ (S3.grownD dk) (S3.endD (i := 0) rfl) dv⟩
      unfold numAt
      rw [hy]
      simp only [en]
      rw [if_pos hh]
    · have e1 : (decide (x.lo ≤ n) && decide (n ≤ x.hi)) = false := by
        rw [Bool.eq_false_iff]
        intro z
        rw [Bool.and_eq_true] at z
        exact hh ⟨of_decide_eq_true z.1, of_decide_eq_true z.2⟩
      rw [e1]
      refine iteT ?_
      refine raise_desk S3 dk rfl (ef_var (i := 2) rfl) fun F4 H4 e g d2 fe he => qw _ _ F4 H4 e ⟨?_, rfl⟩ g d2 fe he
      unfold numAt
      rw [hy]
      simp only [en]
      rw [if_neg hh]
theorem set_same {r : List Slo} {i : Nat} {t : Slo} (e : r[i]? = some t) : r.set i t = r := by
  refine List.ext_getElem? fun j => ?_
  by_cases q : i = j
  · subst q
    rw [List.getElem?_set_self (List.getElem?_eq_some_iff.mp e).1, e]
  · rw [List.getElem?_set_ne q]
/-- found.append(self.number_at(..)) -/
theorem num_app {M : Addr → Prop} {F0 H0 F H : Hp} {s : L2.St} {a dx pl : Addr} {D : DeskD} {r : List Slo} {found : List PyData} {x : NumX} {E : XK} {D1 : Ends} {ta : TA} (S : Sta K M F0 H0 r s F H) (e : r[0]? = some (.dk C a dx pl D)) (one : OneDk r 0) (e3 : r[3]? = some (.mu found)) (hl : found.length < 1000)
    (h : Ea K ta r [.list (x.ws.map .str), iN x.k, .int x.lo, .int x.hi]) (tame : ∀ y, y ∈ x.ws → tameW y = true) (hw : x.ws.length ≤ 1000)
    (qok : ∀ d F2 H2, numAt x.ws x.k x.lo x.hi = .ok d → Sta K M F0 H0 (r.set 3 (.mu (found ++ [d]))) s F2 H2 → D1.nx s H2)
    (qw : ∀ j F2 H2 er, numAt x.ws x.k x.lo x.hi = .word j → Sta K M F0 H0 r s F2 H2 → F2 er = none → H2 er = some (.xd [(("word" : Str), .int j)]) → E (.ref CI) (some er) H2) :
    tDrop (tBM K "list" rAppend (tVar 3) (tCons (tMeth C "number_at" (SpDesk K C CI CN preNumAt postNumAt) [] E (tVar 0) ta) tNil)) D1 s H := by
  obtain ⟨p, vs, hs, f, z, b, c⟩ := S.mu e3
  refine ⟨_, hs, .inl ⟨rfl, _, SqL.of b⟩, ?_⟩
  rw [tCons1]
  refine call_desk x S e one h ⟨rfl, tame, hw⟩ (fun v d D' F2 H2 po _ S2 dv => ?_) (fun j D' F2 H2 er po _ S2 fe he => ?_) (fun D' F2 H2 er po _ S2 => ?_)
  · obtain ⟨po, rfl⟩ := po
    rw [set_same e] at S2
    obtain ⟨p2, vs2, hs2, f2, z2, b2, c2⟩ := S2.mu e3
    rw [hs] at hs2
    cases hs2
    exact ⟨p, vs2, v, rfl, rfl, b2, by rw [c2.len]; exact szLt (by omega), qok d F2 _ po.symm (S2.write e3 hs (c2.app (.one dv)))⟩
  · obtain ⟨po, rfl⟩ := po
    rw [set_same e] at S2
    exact qw j F2 H2 er po.symm S2 fe he
  · obtain ⟨po, _⟩ := po
    unfold numAt at po
    split at po
    · cases po
    · split at po
      · cases po
      · split at po <;> cases po
end
end Tm
set_option maxRecDepth 100000
set_option maxHeartbeats 4000000
/-! More rules: the desk's methods in expressions, its properties, slices and sums of tuples, lists unpacked, texts repeated. -/
namespace Tm
open PySem PySem.Spec PyProof.Rows L2
section
variable {X : Cx} (K : PySem.W.Frag) (e : X.K = K)
include e
theorem k_catA : OpR X (binaryOp .Add) (rCatA K) := by subst e; exact op_catA
theorem kpg_lst {es : List Expr} {gs : TGs} {n k : Nat} {pos : Pos} (hc : X.calm = true) (h : PGs X es gs) (hn : (assignEach es X.env).length = n := by rfl) (hst : (assignEach es X.env).findIdx? (·.1) = none := by rfl) : PG X (.Tuple es k pos) (gLst K n gs) := by subst e; exact pg_lst hc h hn hst
end
section
variable {K : PySem.W.Frag} {M : Addr → Prop} {F0 H0 F H F2 H2 : Hp} {r : List Slo} {s : L2.St} {te ta tb : TE} {tt : TT} {t : TA} {d e d1 d2 : PyData} {ds es : List PyData} {A : Af} {i j : Nat} {C CI CN a dx pl : Addr} {D D' : DeskD} {P : PyData → List Slo → Prop}
/-- t[a:b] of a tuple, any -/
theorem ef_slA {tl th : TO} {lo hi : Option Int} (h : Ef K te r (.tuple ds)) (h1 : Eo K tl r lo) (h2 : Eo K th r hi) : Ef K (tSl (rSlA K) te tl th) r (.tuple (cutD ds lo hi)) := by
  intro M F0 H0 s F H S Q q
  refine h _ _ _ _ _ _ S _ fun v F1 H1 g1 dv => ?_
  refine h1 _ _ _ _ _ _ (S.grow g1) _ fun F2 H2 g2 => ?_
  refine h2 _ _ _ _ _ _ (S.grow (g1.trans g2)) _ fun F3 H3 g3 => ?_
  have g := (g1.trans g2).trans g3
  cases dv with
  | @tup p vs _ sq dvs =>
  refine ⟨p, vs, rfl, st_up (g2.trans g3).h (st_up g1.i sq), fun w => ?_, fun _ z hz => ?_⟩
  · refine q _ F3 H3 g (.tup (st_up (g2.trans g3).f sq) ?_)
    have e1 : cutV vs lo hi = vs := by
      unfold cutV
      rw [w.1, w.2, List.drop_zero, Nat.sub_zero, List.take_length]
    have := cut_of (lo := lo) (hi := hi) (DpAll.up (g2.trans g3).f _ _ dvs)
    rwa [e1] at this
  · have g4 : Grow F3 H3 _ _ := Grow.new (o := .tup (cutV vs lo hi)) g3.i hz
    exact q _ _ _ (g.trans g4) (.tup (SqT.of upd_same) (cut_of (DpAll.up ((g2.trans g3).trans g4).f _ _ dvs)))
/-- t + u of tuples, any -/
theorem ef_catA (ha : Ef K ta r (.tuple ds)) (hb : Ef K tb r (.tuple es)) (hl : ds.length + es.length ≤ 100000) : Ef K (tOp (rCatA K) ta tb) r (.tuple (ds ++ es)) :=
  ef_op ha hb fun x y F H s dx dy Q q => by
    cases dx with
    | @tup p vs _ a b =>
    cases dy with
    | @tup p' ws _ a' b' =>
    refine ⟨p, p', vs, ws, rfl, rfl, st_up s a, st_up s a', by rw [b.len, b'.len]; exact szOf hl, fun z => ?_, fun _ z => ?_, fun _ _ z hz => ?_⟩
    · subst z
      cases b
      exact q _ F H (Grow.refl s) (.tup a' b')
    · subst z
      cases b'
      rw [List.append_nil ds] at q
      exact q _ F H (Grow.refl s) (.tup a b)
    · have g : Grow F H _ _ := Grow.new (o := .tup (vs ++ ws)) s hz
      exact q _ _ _ g (.tup (SqT.of upd_same) (DpAll.up g.f _ _ (b.app b')))
/-- a, b = a list of two -/
theorem sd_unpL2 (h : El K te r [d1, d2]) (q : A.nx ((r.set i (.fz d1)).set j (.fz d2))) : Sd K (tAsg te (gLst K 2 (gCons (gName i) (gCons (gName j) gNil)))) r A := fun M F0 H0 s F H D S W =>
  h _ _ _ _ _ _ S _ fun p vs F2 H2 g sq a => by
    obtain ⟨x, ws, rfl, b1, b2⟩ := dp_cons a
    obtain ⟨y, zs, rfl, c1, c2⟩ := dp_cons b2
    cases c2
    exact ⟨p, _, rfl, sq, rfl, x, [y], rfl, y, [], rfl, rfl, W.nx _ _ F2 H2 q (((S.grow g).setF b1).setF c1)⟩
theorem sd_dropV (h : Ev K te r fun _ r' => A.nx r') : Sd K (tDrop te) r A := fun M F0 H0 s F H D S W =>
  h _ _ _ _ _ _ S _ fun v d r' F2 H2 p f S2 a => W.nx _ _ F2 H2 p S2
/-- a method of the desk that does not raise -/
theorem ev_desk {ι : Type} {m : Str} {pre : ι → DeskD → List PyData → Prop} {post : ι → DeskD → Out → DeskD → Prop} {E : XK} (x : ι) (e : r[i]? = some (.dk C a dx pl D)) (one : OneDk r i) (h : Ea K t r ds) (hp : pre x D ds)
    (hok : ∀ o D', post x D o D' → ∃ d, o = .ok d ∧ P d (r.set i (.dk C a dx pl D'))) (hm : ∀ vw vs t pl, (deskF vw vs t pl).lookup m = none := by intros; rfl) : Ev K (tMeth C m (SpDesk K C CI CN pre post) [] E (tVar i) t) r P := by
  intro M F0 H0 s F H S Q q
  refine call_desk x S e one h hp (fun v d D' F2 H2 po f S2 dv => ?_) (fun j D' F2 H2 er po _ _ _ _ => ?_) (fun D' F2 H2 er po _ _ => ?_) hm
  · obtain ⟨d', z, p⟩ := hok _ _ po
    cases z
    exact q v d _ F2 H2 p f S2 dv
  · obtain ⟨_, z, _⟩ := hok _ _ po
    cases z
  · obtain ⟨_, z, _⟩ := hok _ _ po
    cases z
/-- the ends of a method that does not raise, told in Sd -/
def outD (C a dx pl : Addr) (post : Out → DeskD → Prop) : Af := { nx := fun r => ∃ D', r[0]? = some (.dk C a dx pl D') ∧ post (.ok .none) D', rt := fun d r => ∃ D', r[0]? = some (.dk C a dx pl D') ∧ post (.ok d) D' }
theorem holdsD {Hb : Hp} {post : Out → DeskD → Prop} {Q : VK} {D0 : DeskD} (dk : DeskE K F0 Hb C a dx pl D0) (q : ∀ v d D' F2 H2, post (.ok d) D' → GrowD a dx pl F0 Hb F2 H2 → DeskE K F2 H2 C a dx pl D' → Dp K F2 v d → Q v H2) :
    Holds K (three a dx pl) F0 (upd Hb pl (.own a)) (outD C a dx pl post) { nx := fun _ H' => Q .non H', rt := Q } :=
  ⟨fun r s' F' H' ⟨D', e, p⟩ S' => q .non .none D' F' H' p (S'.grownD dk) (S'.endD e) .non, fun d v r s' F' H' ⟨D', e, p⟩ S' dv => q v d D' F' H' p (S'.grownD dk) (S'.endD e) dv, fun _ _ _ _ z => z.elim, fun _ _ _ _ z => z.elim⟩
theorem desk_sd {post : Out → DeskD → Prop} {t : TS} {N : List Str} {ws : List V} {Q : VK} (dk : DeskE K F H C a dx pl D) (av : DpAll K F ws ds) (hN : 0 < N.length) (h : Sd K t (rhoD N.length C a dx pl D ds) (outD C a dx pl post))
    (q : ∀ v d D' F2 H2, post (.ok d) D' → GrowD a dx pl F H F2 H2 → DeskE K F2 H2 C a dx pl D' → Dp K F2 v d → Q v H2) : t { nx := fun _ H' => Q .non H', rt := Q } (L2.start N (.ref a :: ws)) H :=
  h _ _ _ _ _ _ _ (sta_startD dk av hN) (holdsD dk q)
theorem DeskE.refl (dk : DeskE K F H C a dx pl D) : GrowD a dx pl F H F H := (Grow.refl dk.i).toD
/-! ### the properties -/
theorem ef_propS (e : r[i]? = some (.dk C a dx pl D)) : Ef K (tProp C (getSp C "_state") [] L2.E0 (tVar i)) r D.s := by
  intro M F0 H0 s F H S Q q
  obtain ⟨hs, dk⟩ := S.dk e
  obtain ⟨vw, vs, vps, h1, h2, h3, h4, h5, h6⟩ := dk.h
  exact ⟨_, hs, a, dx, _, rfl, h1, a, dx, _, vs, rfl, h1, rfl, q _ F H (Grow.refl S.i) h5⟩
theorem ef_propT (e : r[i]? = some (.dk C a dx pl D)) : Ef K (tProp C (getSp C "_ticks") [] L2.E0 (tVar i)) r (.int D.t) := by
  intro M F0 H0 s F H S Q q
  obtain ⟨hs, dk⟩ := S.dk e
  obtain ⟨vw, vs, vps, h1, h2, h3, h4, h5, h6⟩ := dk.h
  exact ⟨_, hs, a, dx, _, rfl, h1, a, dx, _, .int D.t, rfl, h1, rfl, q _ F H (Grow.refl S.i) (.int _)⟩
/-- "ab" * 3 -/
def timesS (z : Str) (k : Nat) : Str := ⟨(List.replicate k z.cps).foldl (· ++ ·) #[]⟩
def rRepS : R2 := fun x y H Q => ∃ (z : Str) (k : Nat), x = .str z ∧ y = .int k ∧ 2 ≤ k ∧ k ≤ 1000 ∧ 0 < z.length ∧ z.length ≤ 1000 ∧ (timesS z k).length ≤ 100000 ∧ Q (.str (timesS z k)) H
theorem op_repS {X : Cx} : OpR X (binaryOp .Mult) rRepS := by
  intro pins s σ H x y v u Q I rx ry h
  obtain ⟨z, k, rfl, rfl, h2, hk, hz, hl, hx, q⟩ := h
  obtain ⟨t, rfl⟩ := rx
  obtain ⟨t', rfl⟩ := ry
  have e1 : (((k : Int) == 1) || z.length == 0) = false := by
    rw [Bool.or_eq_false_iff]
    exact ⟨by simp; omega, by simp; omega⟩
  refine P.mul_str ?_ (fun _ _ => ?_) (fun _ _ => ?_) ?_
  · rw [decide_eq_false (show ¬ (k : Int) < -(2 ^ 63) by omega), decide_eq_false (show ¬ (k : Int) ≥ 2 ^ 63 by omega)]; rfl
  · have : (1000 : Int) ≤ (2 ^ 63 - 1) / k := by
      rw [Int.le_ediv_iff_mul_le (by omega)]
      omega
    omega
  · rw [Int.toNat_natCast]
    have h3 : z.length * k ≤ 1000 * 1000 := Nat.mul_le_mul hl hk
    show decide (_ > sizeLine) = false
    refine decide_eq_false (fun w => ?_)
    have : (1000000 : Nat) ≤ sizeLine := by decide
    omega
  · rw [if_neg (by omega), e1, if_neg Bool.false_ne_true, Int.toNat_natCast]
    dsimp only [Made.post]
    exact ⟨szOf hx, .str _, H, I.tok _, ⟨_, rfl⟩, q⟩
theorem ef_repS {z : Str} {k : Nat} (ha : Ef K ta r (.str z)) (hb : Ef K tb r (.int (k : Int))) (h : 2 ≤ k ∧ k ≤ 1000 ∧ 0 < z.length ∧ z.length ≤ 1000 ∧ (timesS z k).length ≤ 100000) : Ef K (tOp rRepS ta tb) r (.str (timesS z k)) := by
  refine ef_op ha hb fun x y F H i dx dy Q q => ?_
  cases dx
  cases dy
  obtain ⟨h1, h2, h3, h4, h5⟩ := h
  exact ⟨z, k, rfl, rfl, h1, h2, h3, h4, h5, q _ F H (Grow.refl i) (.str _)⟩
end
end Tm
set_option maxRecDepth 100000
set_option maxHeartbeats 4000000
/-! need_text; a line's numbers. -/
namespace Tm
open PySem PyProof.Rows L2
def veBases : List Value := [.type "ValueError", .type "Exception", .type "BaseException", .type "object"]
/-- the class NotText, at CN -/
structure NoteTxt (K : PySem.W.Frag) (mg : Str → Option Value) (CN : Addr) : Prop where
  g : mg "NotText" = some (.ref CN)
  x : ∃ bm, PySem.W.excIn K CN bm "ValueError.__new__" = true ∧ bm = veBases
  k : PySem.W.keepIn K (.ref CN) = true
  b : PySem.W.subIn K (.ref CN) (.type "BaseException") = some true
  t : PySem.W.typeIn K (.ref CN) = some (.type "type")
def isStrD : PyData → Bool
  | .str _ => true
  | _ => false
def SpText (K : PySem.W.Frag) (CN : Addr) : Sp := fun vs H Q E => ∃ F d v, vs = [v] ∧ Same F H ∧ Dp K F v d ∧ (isStrD d = true → Q .non H) ∧ (isStrD d = false → E (.ref CN) none H)
theorem str_not (d : PyData) : kitB (tyD d) "str" = some (isStrD d) := by
  cases d with
  | none => exact (by decide +kernel : kitB "NoneType" "str" = some false)
  | bool b => exact (by decide +kernel : kitB "bool" "str" = some false)
  | int i => exact (by decide +kernel : kitB "int" "str" = some false)
  | str x => exact (by decide +kernel : kitB "str" "str" = some true)
  | list l => exact (by decide +kernel : kitB "list" "str" = some false)
  | tuple l => exact (by decide +kernel : kitB "tuple" "str" = some false)
  | dict l => exact (by decide +kernel : kitB "dict" "str" = some false)
section
variable {P : Program} {w : World} {K : PySem.W.Frag} {mg : Str → Option Value} {base : Heap} {C CI CN fI dW : Addr}
theorem sc_need_text : FnScope ["value"] ["value"] (defScope (top 24)) := ⟨rfl, rfl, rfl, by decide +kernel, rfl, by decide +kernel, by decide +kernel⟩
theorem c_need_text (T : Txt K mg) (NT : NoteTxt K mg CN) : Clx P w K mg base 1 "need_text" (SpText K CN) := by
  refine clx_raw T.f_need_text sc_need_text (fun _ _ _ _ _ _ us hl => match us, hl with | [_], _ => rfl) (by rintro _ _ _ _ ⟨F, d, v, rfl, _⟩; rfl) (fun f cdv A outer s H E hr tk => ⟨_, (pss_one (ps_if (pt_not (pt_val (pe_callB (k_isi K rfl) rfl T.n_isinstance bb_isinstance (pa_cons (pv 0) (pa_cons (pe_bltn rfl T.n_str bb_str (v := .ty "str") rfl) pa_nil))))) (pss_one (ps_raise rfl tk (pmk_own0 PySem.F.excBase_ValueError (x := "NotText") (by obtain ⟨bm, h1, h2⟩ := NT.x; rw [h2] at h1; exact h1) NT.g NT.k (raises_own NT.b NT.t) rfl))) pss_nil)), fun vs Q h => ?_⟩)
  obtain ⟨F, d, v, rfl, i, dv, q1, q2⟩ := h
  have S := sta_start (N := ["value"]) (ds := [d]) i (.one dv)
  have hv : (L2.start ["value"] [v])[0]? = some (some v) := rfl
  show tNot (tB _) _ _ _
  refine ⟨v, hv, v, .ty "str", _, _, isStrD d, rfl, .ty "str", tyx_of (Dp.up i _ _ dv), kit_ty (str_not d), _, rfl, ?_⟩
  cases e : isStrD d with
  | true => exact iteF (q1 e)
  | false => exact iteT (q2 e)
/-! ### a line's numbers -/
def addN (b : Bool) (found : List PyData) (o : Out) (k : List PyData → Out) : Out := if b then (match o with | .ok d => k (found ++ [d]) | .word j => .word j | .text => .text) else k found
def mostT : Int := 1000000000000000000000000000000
def numsOf (n : Int) (emp : Bool) (ws : List Str) (w : Str) : Option Int → Out
  | none => .word 0
  | some L => if (decide (w = "back") && emp) = true then .word 0 else addN (decide (w = "ticks")) [] (numAt ws 1 1 mostT) fun f => addN (decide (w = "paint") || decide (w = "speed")) f (numAt ws 1 0 (n - 1)) fun f =>
    addN (decide (w = "paint")) f (numAt ws 2 0 2) fun f => if L < (ws.length : Int) then .word L else .ok (.list f)
theorem numsOf_some {n : Int} {emp : Bool} {ws : List Str} {w : Str} {L : Int} : numsOf n emp ws w (some L) = if (decide (w = "back") && emp) = true then .word 0 else addN (decide (w = "ticks")) [] (numAt ws 1 1 mostT) fun f => addN (decide (w = "paint") || decide (w = "speed")) f (numAt ws 1 0 (n - 1)) fun f =>
    addN (decide (w = "paint")) f (numAt ws 2 0 2) fun f => if L < (ws.length : Int) then .word L else .ok (.list f) := rfl
theorem numAt_no {ws : List Str} {k : Nat} {lo hi : Int} : numAt ws k lo hi ≠ .text := fun po => by
  unfold numAt at po
  split at po
  · cases po
  · split at po
    · cases po
    · split at po <;> cases po
theorem addN_no {b : Bool} {f : List PyData} {o : Out} {k : List PyData → Out} (h : o ≠ .text) (hk : ∀ f, Out.text ≠ k f) : Out.text ≠ addN b f o k := by
  unfold addN
  cases b with
  | false => exact hk f
  | true =>
    rw [if_pos rfl]
    cases o with
    | ok d => exact hk _
    | word j => exact fun z => by cases z
    | text => exact absurd rfl h
theorem numsOf_no (n : Int) (emp : Bool) (ws : List Str) (w : Str) (o : Option Int) : Out.text ≠ numsOf n emp ws w o := by
  cases o with
  | none => exact fun z => by cases z
  | some L =>
    rw [numsOf_some]
    split
    · exact fun z => by cases z
    · refine addN_no numAt_no fun f => addN_no numAt_no fun f => addN_no numAt_no fun f => ?_
      split <;> exact fun z => by cases z
/-- if ..: found.append(self.number_at(..)) -/
theorem num_if {M : Addr → Prop} {F0 H0 F H : Hp} {s : L2.St} {a dx pl : Addr} {D : DeskD} {r : List Slo} {found : List PyData} {E : XK} {D1 : Ends} {ta : TA} {tt : TT} {b : Bool} (x : NumX) (S : Sta K M F0 H0 r s F H) (e : r[0]? = some (.dk C a dx pl D)) (one : OneDk r 0) (e3 : r[3]? = some (.mu found)) (hl : found.length < 1000)
    (hb : Eb K tt r b) (h : Ea K ta r [.list (x.ws.map .str), iN x.k, .int x.lo, .int x.hi]) (tame : ∀ y, y ∈ x.ws → tameW y = true) (hw : x.ws.length ≤ 1000)
    (qok : ∀ f2 F2 H2, (∀ k, addN b found (numAt x.ws x.k x.lo x.hi) k = k f2) → f2.length ≤ found.length + 1 → Sta K M F0 H0 (r.set 3 (.mu f2)) s F2 H2 → D1.nx s H2)
    (qw : ∀ j F2 H2 er, (∀ k, addN b found (numAt x.ws x.k x.lo x.hi) k = .word j) → Sta K M F0 H0 r s F2 H2 → F2 er = none → H2 er = some (.xd [(("word" : Str), .int j)]) → E (.ref CI) (some er) H2) :
    tIfS tt (tDrop (tBM K "list" rAppend (tVar 3) (tCons (tMeth C "number_at" (SpDesk K C CI CN preNumAt postNumAt) [] E (tVar 0) ta) tNil))) tNext D1 s H := by
  refine hb _ _ _ _ _ _ S _ fun F1 H1 g1 => ?_
  have S1 := S.grow g1
  cases b with
  | true =>
    refine iteT (num_app (x := x) S1 e one e3 hl h tame hw (fun d F2 H2 ed S2 => qok _ F2 H2 (fun k => ?_) (by rw [List.length_append]; exact Nat.le_refl _) S2) fun j F2 H2 er ed S2 fe he => qw j F2 H2 er (fun k => ?_) S2 fe he)
    · unfold addN
      rw [if_pos rfl, ed]
    · unfold addN
      rw [if_pos rfl, ed]
  | false => exact iteF (qok found F1 H1 (fun k => by unfold addN; rw [if_neg Bool.false_ne_true]) (Nat.le_succ _) (by rw [set_same e3]; exact S1))
structure NumsX where
  g : Web
  ws : List Str
  w : Str
  o : Option Int
def preNums (x : NumsX) (D : DeskD) (ds : List PyData) : Prop := ds = [.list (x.ws.map .str)] ∧ D.w = encW x.g ∧ x.ws[0]? = some x.w ∧ (x.w, x.o) ∈ wordTab ∧ (∀ y, y ∈ x.ws → tameW y = true) ∧ x.ws.length ≤ 1000 ∧ ∀ d, d ∈ D.ps → Sh 8 d
def postNums (x : NumsX) (D : DeskD) (o : Out) (D' : DeskD) : Prop := o = numsOf x.g.n D.ps.isEmpty x.ws x.w x.o ∧ D' = D
theorem inV_two {x a b : Str} : inV (.str x) [.str a, .str b] = (decide (x = a) || decide (x = b)) := by
  have e : ∀ y : Str, eqV (.str y) (.str x) = decide (x = y) := fun y => by
    show (y == x) = decide (x = y)
    by_cases z : x = y
    · rw [decide_eq_true z, z]; simp
    · rw [decide_eq_false z]; simpa using fun h => z h.symm
  unfold inV
  rw [List.any_cons, List.any_cons, List.any_nil, e, e, Bool.or_false]
theorem sc_Desk_numbers_of : FnScope ["self", "words", "word", "found"] ["self", "words"] (defScope (inClass (top 48) 4)) := ⟨rfl, rfl, rfl, by decide +kernel, rfl, by decide +kernel, by decide +kernel⟩
/-- Desk.numbers_of: 0 self, 1 words, 2 word, 3 found -/
theorem m_numbers_of (T : Txt K mg) (DT : DTxt K mg C CI CN) (WT : WordTxt P K mg CI fI) (WD : WordsTxt K mg w dW) : DMet P w K mg base 3 C "numbers_of" (SpDesk K C CI CN preNums postNums) := by
  refine dmet_raw DT.c DT.m_numbers_of sc_Desk_numbers_of (fun _ _ _ _ _ _ us hl => match us, hl with | [_, _], _ => rfl) (by rintro _ _ _ _ ⟨x, F, ds, a, dx, pl, D, ws, rfl, _, av, ⟨rfl, _⟩, _⟩; rw [List.length_cons, av.len]; rfl) (fun f cdv A outer s H E hr tk => ⟨_, (pss_cons (ps_par (i := 2) (j := 3) rfl sc_Desk_numbers_of.nd rfl rfl (by decide) rfl rfl (pa_cons (pe_ix (k_ixL K rfl) (pv 1) pe_int (fun _ _ => rfl)) (pa_cons (pe_lst pa_nil) pa_nil)) (by rfl))
      (pss_cons (ps_if (PW.pt (pw_or (pt_cmpR (k_notW WD) (pv 2) (pe_k rfl WD.k) rfl) (pw_or1 (PW.pt (pw_and (pt_cmpR op_eq (pv 2) pe_str (nomark _)) (pw_and1 (pt_cmpR (k_eqD K rfl hr.units) (pe_fld (pv 0) rfl) (pe_lst pa_nil) (nomark _)))))))) (pss_one (ps_raiseWord rfl WT hr tk (pa_cons pe_int pa_nil))) pss_nil)
      (pss_cons (ps_if (pt_cmpR op_eq (pv 2) pe_str (nomark _)) (pss_one (ps_expr (pe_bm PySem.F.plainAttrs_list PySem.F.slot_list_append PySem.F.type_list_append mt_append (pv 3) (pa_cons (pe_dmt (m_number_at T DT WT WD) hr (by decide) tk (fun _ _ _ _ h => h) (pv 0) (pa_cons (pv 1) (pa_cons pe_int (pa_cons pe_int (pa_cons (pe_k rfl DT.k_MOST_TICK) pa_nil))))) pa_nil)))) pss_nil)
      (pss_cons (ps_if (pt_cmpR (k_in K rfl) (pv 2) (pe_tup (pa_cons pe_str (pa_cons pe_str pa_nil))) rfl) (pss_one (ps_expr (pe_bm PySem.F.plainAttrs_list PySem.F.slot_list_append PySem.F.type_list_append mt_append (pv 3) (pa_cons (pe_dmt (m_number_at T DT WT WD) hr (by decide) tk (fun _ _ _ _ h => h) (pv 0) (pa_cons (pv 1) (pa_cons pe_int (pa_cons pe_int (pa_cons (pe_op op_sub (pe_ix (k_ixT K rfl) (pe_fld (pv 0) rfl) pe_int (fun _ _ => rfl)) pe_int) pa_nil))))) pa_nil)))) pss_nil)
      (pss_cons (ps_if (pt_cmpR op_eq (pv 2) pe_str (nomark _)) (pss_one (ps_expr (pe_bm PySem.F.plainAttrs_list PySem.F.slot_list_append PySem.F.type_list_append mt_append (pv 3) (pa_cons (pe_dmt (m_number_at T DT WT WD) hr (by decide) tk (fun _ _ _ _ h => h) (pv 0) (pa_cons (pv 1) (pa_cons pe_int (pa_cons pe_int (pa_cons (pe_op op_sub (pe_k rfl T.k_MOODS) pe_int) pa_nil))))) pa_nil)))) pss_nil)
      (pss_cons (ps_if (pt_cmpR op_gt (pe_callB (k_len K rfl) rfl T.n_len bb_len (pa_cons (pv 1) pa_nil)) (pe_itW WD (pe_k rfl WD.k) (pv 2) (fun _ _ => rfl)) (nomark _)) (pss_one (ps_raiseWord rfl WT hr tk (pa_cons (pe_itW WD (pe_k rfl WD.k) (pv 2) (fun _ _ => rfl)) pa_nil))) pss_nil)
      (pss_one (ps_ret (pv 3))))))))), fun vs Q h => ?_⟩)
  obtain ⟨⟨g, ws, wd, o⟩, F, ds, a, dx, pl, D, us, rfl, dk, av, ⟨rfl, ew, hw, ho, tame, hl, hps⟩, q, qw, _⟩ := h
  simp only at ew hw ho tame hl
  have S := sta_startD (N := ["self", "words", "word", "found"]) dk av (by decide)
  have S := (show Sta K _ _ _ [.dk C a dx pl D, .fz (.list (ws.map .str)), .no, .no] _ _ _ from S)
  refine run_nx (N := fun r' => r' = [.dk C a dx pl D, .fz (.list (ws.map .str)), .fz (.str wd), .mu []]) S (sd_par2 (k1 := .fz (.str wd)) (k2 := .mu []) (ek_fz (ef_ixL (d := .str wd) (Ef.el (ef_var rfl)) ef_int (by exact atN (k := 0) (by rw [List.getElem?_map, hw]; rfl))) (ek_mu (en_lst ea_nil (by simp)) ek_nil)) rfl) fun r2 s2 F2 H2 e2 S2 => ?_
  subst e2
  refine (eb_or (eb_test (ef_notW WD (ef_var rfl) ho)) (fun _ => eb_and (eb_test (ef_eqS (ef_var rfl) ef_str)) fun _ => eb_test (ef_eqD (El.er (el_past DT.toDeskC (i := 0) rfl)) (El.er (En.el (en_lst ea_nil (by simp)))) ((sh_list hps).ok (by decide)) ((sh_nil (k := 0)).ok (by decide)))) : Eb K _ _ (o.isNone || (decide (wd = "back") && PyData.eqv (.list D.ps) (.list [])))) _ _ _ _ _ _ S2 _ fun F3 H3 g3 => ?_
  have S3 := S2.grow g3
  rw [eqv_nil]
  cases eb : (o.isNone || (decide (wd = "back") && D.ps.isEmpty)) with
  | true =>
    refine iteT ?_
    refine raise_desk S3 dk rfl ef_int fun F4 H4 e g d2 fe he => qw _ _ F4 H4 e ⟨?_, rfl⟩ g d2 fe he
    show _ = numsOf _ _ _ _ o
    cases o with
    | none => rfl
    | some L =>
      rw [numsOf_some, if_pos (by simpa using eb)]
  | false =>
  refine iteF ?_
  dsimp only [tNext]
  obtain ⟨L, rfl⟩ : ∃ L, o = some L := by
    cases o with
    | none => cases eb
    | some L => exact ⟨L, rfl⟩
  have eb2 : (decide (wd = "back") && D.ps.isEmpty) = false := by simpa using eb
  have spec : numsOf g.n D.ps.isEmpty ws wd (some L) = addN (decide (wd = "ticks")) [] (numAt ws 1 1 mostT) fun f => addN (decide (wd = "paint") || decide (wd = "speed")) f (numAt ws 1 0 (g.n - 1)) fun f =>
    addN (decide (wd = "paint")) f (numAt ws 2 0 2) fun f => if L < (ws.length : Int) then .word L else .ok (.list f) := by
    rw [numsOf_some, eb2, if_neg Bool.false_ne_true]
  refine num_if (CI := CI) (CN := CN) ⟨ws, 1, 1, mostT⟩ S3 rfl (one0 rfl) rfl (by decide) (eb_test (ef_eqS (ef_var (i := 2) rfl) ef_str)) (ea_cons (ef_var rfl) (ea_cons ef_int (ea_cons ef_int (ea_cons ef_int ea_nil)))) tame hl (fun f2 F4 H4 a2 l2 S4 => ?_) (fun j F4 H4 er a2 S4 fe he => qw j _ F4 H4 er ⟨?_, rfl⟩ (S4.grownD dk) (S4.endD (i := 0) rfl) fe he)
  case refine_2 =>
    show _ = numsOf _ _ _ _ _
    rw [spec, a2]
  rw [a2] at spec
  refine num_if (CI := CI) (CN := CN) ⟨ws, 1, 0, g.n - 1⟩ S4 rfl (one0 rfl) rfl (by simp at l2 ⊢; omega) (eb_is (eb_test (ef_inT (neg := false) (ef_var (i := 2) rfl) (ef_tup (ea_cons ef_str (ea_cons ef_str ea_nil)) (by simp)) rfl rfl)) (by exact inV_two)) (ea_cons (ef_var rfl) (ea_cons ef_int (ea_cons ef_int (ea_cons (ef_I0 (ef_ixT (ef_is (ef_web DT.toDeskC (i := 0) rfl) ew) ef_int (encW0 g)) ef_int) ea_nil)))) tame hl (fun f3 F5 H5 a3 l3 S5 => ?_) (fun j F5 H5 er a3 S5 fe he => qw j _ F5 H5 er ⟨?_, rfl⟩ (S5.grownD dk) (S5.endD (i := 0) rfl) fe he)
  case refine_2 =>
    show _ = numsOf _ _ _ _ _
    rw [spec, a3]
  rw [a3] at spec
  refine num_if (CI := CI) (CN := CN) ⟨ws, 2, 0, 2⟩ S5 rfl (one0 rfl) rfl (by simp at l2 ⊢; omega) (eb_test (ef_eqS (ef_var (i := 2) rfl) ef_str)) (ea_cons (ef_var rfl) (ea_cons ef_int (ea_cons ef_int (ea_cons (ef_is (ef_I0 ef_int ef_int) rfl) ea_nil)))) tame hl (fun f4 F6 H6 a4 l4 S6 => ?_) (fun j F6 H6 er a4 S6 fe he => qw j _ F6 H6 er ⟨?_, rfl⟩ (S6.grownD dk) (S6.endD (i := 0) rfl) fe he)
  case refine_2 =>
    show _ = numsOf _ _ _ _ _
    rw [spec, a4]
  rw [a4] at spec
  refine (eb_test (ef_B0 (ef_lenL (Ef.el (ef_var (i := 1) rfl))) (ef_itW WD (ef_var (i := 2) rfl) ho)) : Eb K _ _ _) _ _ _ _ _ _ S6 _ fun F7 H7 g7 => ?_
  have S7 := S6.grow g7
  have el : ((ws.map PyData.str).length : Int) = ws.length := by rw [List.length_map]
  by_cases hc : L < (ws.length : Int)
  · rw [decide_eq_true (by omega)]
    refine iteT ?_
    refine raise_desk S7 dk rfl (ef_itW WD (ef_var (i := 2) rfl) ho) fun F8 H8 e g d2 fe he => qw _ _ F8 H8 e ⟨?_, rfl⟩ g d2 fe he
    show _ = numsOf _ _ _ _ _
    rw [spec, if_pos hc]
  · rw [decide_eq_false (by omega)]
    refine iteF ?_
    dsimp only [tNext]
    obtain ⟨F8, S8⟩ := S7.freeze (i := 3) rfl
    obtain ⟨v, hv, dv⟩ := S8.fz (i := 3) rfl
    refine ⟨v, hv, q v _ D F8 H7 ⟨?_, rfl⟩ (S8.grownD dk) (S8.endD (i := 0) rfl) dv⟩
    show _ = numsOf _ _ _ _ _
    rw [spec, if_neg hc]
end
end Tm
set_option maxRecDepth 100000
set_option maxHeartbeats 4000000
/-! What the desk tells. -/
namespace Tm
open PySem PyProof.Rows L2
/-! the speeds are small -/
theorem best_lim {g : Web} {st : List Int} (ok : WOk g) (s : SOk g.n st) (r : Nat) : (spd g st r).1 ≤ 6 ∧ (spd g st r).2 ≤ 6 := by
  have B := spd_best ok s r
  generalize (spd g st r).1 = p at B
  generalize (spd g st r).2 = q at B
  -- p ≤ q
  have hpq : p ≤ q := by
    rcases B.at_ with ⟨e, _⟩ | ⟨t, z, ht, ⟨i, hi, hw⟩, e⟩
    · omega
    · have hz := wk_lim s hw
      have h1 : z * (q : Int) ≤ (t : Int) * q := Int.mul_le_mul_of_nonneg_right hz (by omega)
      rw [e] at h1
      have h2 : (p : Int) * t ≤ q * t := by rw [Int.mul_comm (q : Int)]; exact h1
      have := Int.le_of_mul_le_mul_right h2 (by omega)
      omega
  -- some closed walk of at most n steps has this share
  have hs : ∃ P Q, Best (Closed g st r) P Q ∧ Q ≤ 6 := by
    have ch : ∀ t i : Nat, ∃ v : Nat, i < g.n → MaxO (Wk g st t i i) (some (v : Int)) := fun t i => by
      by_cases hi : i < g.n
      · obtain ⟨v, h, _⟩ := mx_ex ok s t hi
        exact ⟨v, fun _ => h⟩
      · exact ⟨0, fun z => absurd z hi⟩
    let f : Nat → Nat → Nat := fun t i => Classical.choose (ch t i)
    have hf : ∀ t i, i < g.n → MaxO (Wk g st t i i) (some (f t i : Int)) := fun t i => Classical.choose_spec (ch t i)
    obtain ⟨P, Q, b⟩ := best_list ((partOf g r).flatMap fun i => (List.range (partOf g r).length).map fun k => (k + 1, f (k + 1) i)) fun x hx => by
      obtain ⟨i, _, hx⟩ := List.mem_flatMap.mp hx
      obtain ⟨k, _, e⟩ := List.mem_map.mp hx
      rw [← e]
      exact Nat.succ_pos k
    refine ⟨P, Q, seen_all ok s (b.congr fun t z => ?_), ?_⟩
    · constructor
      · rintro ⟨i, h1, ⟨h2, h3, h4⟩ | ⟨_, h2⟩⟩
        · refine ⟨f t i, List.mem_flatMap.mpr ⟨i, part_mem.mpr h4, List.mem_map.mpr ⟨t - 1, List.mem_range.mpr (by omega), ?_⟩⟩, ?_⟩
          · rw [show t - 1 + 1 = t by omega]
          · have a := hf t i (conn_lt h4).2
            have := h1.2 _ a.1
            have := a.2 _ h1.1
            omega
        · cases h2
      · rintro ⟨v, h, rfl⟩
        obtain ⟨i, hi, hx⟩ := List.mem_flatMap.mp h
        obtain ⟨k, hk, e⟩ := List.mem_map.mp hx
        cases e
        have hi := part_mem.mp hi
        exact ⟨i, hf _ i (conn_lt hi).2, .inl ⟨by omega, by have := List.mem_range.mp hk; omega, hi⟩⟩
    · rcases b.at_ with ⟨_, e⟩ | ⟨t, z, ht, ⟨v, hm, rfl⟩, e⟩
      · omega
      · obtain ⟨i, hi, hx⟩ := List.mem_flatMap.mp hm
        obtain ⟨k, hk, ek⟩ := List.mem_map.mp hx
        have hk := List.mem_range.mp hk
        have t6 : t ≤ g.n := by
          have : k + 1 = t := congrArg Prod.fst ek
          have hl : (partOf g r).length ≤ g.n := by
            unfold partOf
            exact Nat.le_trans (List.length_filter_le _ _) (by rw [List.length_range]; exact Nat.le_refl _)
          omega
        have e' : v * Q = P * t := by exact_mod_cast e
        have d : Q ∣ P * t := ⟨v, by rw [← e', Nat.mul_comm]⟩
        have d2 : Q ∣ t := Nat.Coprime.dvd_of_dvd_mul_left (show Nat.Coprime Q P from by rw [Nat.coprime_comm]; exact b.low) d
        have := Nat.le_of_dvd ht d2
        have := ok.n6
        omega
  obtain ⟨P, Q, b, hQ⟩ := hs
  have := (B.inj b).2
  omega
section
variable {P : Program} {w : World} {K : PySem.W.Frag} {mg : Str → Option Value} {base : Heap} {C CI CN fI dW : Addr}
def stirS (g : Web) (st : List Int) : Str := if stirL g st = [] then "nobody" else Txt.join " " ((stirL g st).map fun i : Nat => nS (i : Int))
noncomputable def spdS (g : Web) (st : List Int) (i : Nat) : Str := nS ((spd g st i).1 : Int) ++ "/" ++ nS ((spd g st i).2 : Int)
def RestS (g : Web) (st : List Int) (y : Str) : Prop := (∃ h t, IsH g st h ∧ IsTick g h t ∧ y = nS ((t : Nat) : Int)) ∨ ((¬ ∃ P, Pot g st P) ∧ y = "never")
def Told (g : Web) (st : List Int) (w : Str) (ns : List PyData) (d : PyData) : Prop := (w = "state" ∧ d = .str (txtS st)) ∨ (w = "stirred" ∧ d = .str (stirS g st)) ∨ (w = "rest" ∧ ∃ y, RestS g st y ∧ d = .str y) ∨ (w = "speed" ∧ ∃ i, i < g.n ∧ ns = [iN i] ∧ d = .str (spdS g st i)) ∨
  ((w = "tick" ∨ w = "ticks" ∨ w = "paint" ∨ w = "back") ∧ d = .none)
structure ToldX where
  g : Web
  st : List Int
  t : Int
  ps : List (List Int × Int)
  w : Str
  ns : List PyData
  d : PyData
def preTold (x : ToldX) (D : DeskD) (ds : List PyData) : Prop := ds = [.str x.w, .list x.ns] ∧ D = deskD x.g x.st x.t x.ps ∧ WOk x.g ∧ SOk x.g.n x.st ∧ Told x.g x.st x.w x.ns x.d
def postTold (x : ToldX) (D : DeskD) (o : Out) (D' : DeskD) : Prop := o = .ok x.d ∧ D' = D
theorem eb_ne {x y : Str} {r : List Slo} {i : Nat} (e : r[i]? = some (.fz (.str x))) (h : decide (x = y) = false) : Eb K (tTest (tOp rEq (tVar i) (tC (.str y)))) r false := h ▸ eb_test (ef_eqS (ef_var e) ef_str)
theorem eb_eq {x y : Str} {r : List Slo} {i : Nat} (e : r[i]? = some (.fz (.str x))) (h : decide (x = y) = true) : Eb K (tTest (tOp rEq (tVar i) (tC (.str y)))) r true := h ▸ eb_test (ef_eqS (ef_var e) ef_str)
theorem sd_skip {tt : TT} {t : TS} {r : List Slo} {A : Af} {u : TS} (h : Eb K tt r false) (hu : Sd K u r A) : Sd K (tSeq (tIfS tt t tNext) u) r A := sd_seq (sd_if h (fun z => by cases z) (fun _ => sd_next hu))
theorem sd_take {tt : TT} {t : TS} {r : List Slo} {A : Af} {u : TS} (h : Eb K tt r true) (hu : Sd K t r A) (n : ∀ r', A.nx r' → Sd K u r' A) : Sd K (tSeq (tIfS tt t tNext) u) r A := sd_seq (sd_if h (fun _ => sd_weak hu n (fun _ _ z => z) (fun _ z => z) (fun _ z => z)) (fun z => by cases z))
theorem sc_Desk_told : FnScope ["self", "word", "numbers", "some", "found", "top", "bottom", "one"] ["self", "word", "numbers"] (defScope (inClass (top 48) 5)) := ⟨rfl, rfl, rfl, by decide +kernel, rfl, by decide +kernel, by decide +kernel⟩
/-- Desk.told: 0 self, 1 word, 2 numbers, 3 some, 4 found, 5 top, 6 bottom, 7 one -/
theorem m_told (T : Txt K mg) (DT : DTxt K mg C CI CN) (WT : WordTxt P K mg CI fI) (WD : WordsTxt K mg w dW) : DMet P w K mg base 5 C "told" (SpDesk K C CI CN preTold postTold) := by
  refine dmet_raw DT.c DT.m_told sc_Desk_told (fun _ _ _ _ _ _ us hl => match us, hl with | [_, _, _], _ => rfl) (by rintro _ _ _ _ ⟨x, F, ds, a, dx, pl, D, ws, rfl, _, av, ⟨rfl, _⟩, _⟩; rw [List.length_cons, av.len]; rfl) (fun f cdv A outer s H E hr tk => ⟨_, (pss_cons (ps_if (pt_cmpR op_eq (pv 1) pe_str (nomark _)) (pss_one (ps_ret (pe_cl (c_moods_text T) hr (by decide) rfl (pa_cons (pe_fld (pv 0) rfl) pa_nil)))) pss_nil)
      (pss_cons (ps_if (pt_cmpR op_eq (pv 1) pe_str (nomark _)) (pss_cons (ps_set (i := 3) sc_Desk_told.nd rfl (Or.inl rfl) (pe_cl (c_stirred_in T) hr (by decide) rfl (pa_cons (pe_cl (c_near_lists T) hr (by decide) rfl (pa_cons (pe_fld (pv 0) rfl) pa_nil)) (pa_cons (pe_fld (pv 0) rfl) pa_nil))))
      (pss_one (ps_ret (pe_ifExp (pt_cmpR (k_neD K rfl hr.units) (pv 3) (pe_lst pa_nil) (nomark _)) (pe_join pe_str (pe_lc (own := [("one", 7)]) rfl sc_Desk_told.nd (kpi_list K rfl (pv 3)) (blkOk_by (by kernel_rfl)) (fun _ _ _ _ _ => (pg_name (i := 7) sc_Desk_told.nd rfl (Or.inl rfl))) (fun _ _ _ _ _ => pts_nil) (fun _ _ _ _ _ => (pe_callTy call_str_int rfl T.n_str bb_str (pa_cons (pv 7) pa_nil))))) pe_str)))) pss_nil)
      (pss_cons (ps_if (pt_cmpR op_eq (pv 1) pe_str (nomark _)) (pss_cons (ps_set (i := 4) sc_Desk_told.nd rfl (Or.inl rfl) (pe_cl (c_heights_in T) hr (by decide) rfl (pa_cons (pe_fld (pv 0) rfl) (pa_cons (pe_fld (pv 0) rfl) pa_nil))))
      (pss_one (ps_ret (pe_ifExp (pt_cmpR op_isN (pv 4) pe_non (nomark _)) pe_str (pe_callTy call_str_int rfl T.n_str bb_str (pa_cons (pe_cl (c_tick_in T) hr (by decide) rfl (pa_cons (pe_fld (pv 0) rfl) (pa_cons (pv 4) pa_nil))) pa_nil)))))) pss_nil)
      (pss_cons (ps_if (pt_cmpR op_eq (pv 1) pe_str (nomark _)) (pss_cons (ps_asg (pe_ix (k_ixL K rfl) (pe_cl (c_speeds_in T) hr (by decide) rfl (pa_cons (pe_fld (pv 0) rfl) (pa_cons (pe_fld (pv 0) rfl) pa_nil))) (pe_ix (k_ixL K rfl) (pv 2) pe_int (fun _ _ => rfl)) (fun _ _ => rfl)) (kpg_tup K rfl rfl (pgs_cons (pg_name (i := 5) sc_Desk_told.nd rfl (Or.inl rfl)) (pgs_cons (pg_name (i := 6) sc_Desk_told.nd rfl (Or.inl rfl)) pgs_nil))))
      (pss_one (ps_ret (pe_op op_add_str (pe_op op_add_str (pe_callTy call_str_int rfl T.n_str bb_str (pa_cons (pv 5) pa_nil)) pe_str) (pe_callTy call_str_int rfl T.n_str bb_str (pa_cons (pv 6) pa_nil)))))) pss_nil)
      (pss_one (ps_ret pe_non)))))), fun vs Q h => ?_⟩)
  obtain ⟨⟨g, st, t, ps, wd, ns, d⟩, F, ds, a, dx, pl, D, us, rfl, dk, av, ⟨rfl, rfl, ok, so, td⟩, q, _, _⟩ := h
  simp only at ok so td
  have n1 := ok.n1
  have n6 := ok.n6
  refine desk_sd (N := ["self", "word", "numbers", "some", "found", "top", "bottom", "one"]) (post := postTold ⟨g, st, t, ps, wd, ns, d⟩ (deskD g st t ps)) dk av (by decide) ?_ q
  show Sd K _ [.dk C a dx pl (deskD g st t ps), .fz (.str wd), .fz (.list ns), .no, .no, .no, .no, .no] _
  have ew : ∀ r : List Slo, r[0]? = some (.dk C a dx pl (deskD g st t ps)) → Ef K (tFld K (tVar 0) "_web") r (encW g) := fun r e => ef_web DT.toDeskC e
  have es : ∀ r : List Slo, r[0]? = some (.dk C a dx pl (deskD g st t ps)) → Ef K (tFld K (tVar 0) "_state") r (encS st) := fun r e => ef_state DT.toDeskC e
  have fin : ∀ r : List Slo, r[0]? = some (.dk C a dx pl (deskD g st t ps)) → (outD C a dx pl (postTold ⟨g, st, t, ps, wd, ns, d⟩ (deskD g st t ps))).rt d r := fun r e => ⟨_, e, rfl, rfl⟩
  rcases td with ⟨hw, rfl⟩ | ⟨hw, rfl⟩ | ⟨hw, y, hr2, rfl⟩ | ⟨hw, i, hi, rfl, rfl⟩ | ⟨hw, rfl⟩
  · refine sd_take (eb_eq (i := 1) rfl (by rw [hw]; decide)) (sd_ret (ef_call (ea_cons (es _ rfl) ea_nil) ⟨g.n, st, rfl, n6, so, rfl⟩) (fin _ rfl)) (fun r' z => by obtain ⟨_, _, z, _⟩ := z; cases z)
  · refine sd_skip (eb_ne (i := 1) rfl (by rw [hw]; decide)) ?_
    refine sd_take (eb_eq (i := 1) rfl (by rw [hw]; decide)) ?_ (fun r' z => by obtain ⟨_, _, z, _⟩ := z; cases z)
    refine sd_seq (sd_set (d := encL (stirL g st)) (ef_call (ea_cons (ef_call (d := encNear g) (ea_cons (ew _ rfl) ea_nil) ⟨g, rfl, ok, rfl⟩) (ea_cons (es _ rfl) ea_nil)) ⟨g, st, rfl, ok, so, rfl⟩) ?_)
    have sl : (stirL g st).length ≤ 6 := by
      unfold stirL
      exact Nat.le_trans (List.length_filter_le _ _) (by rw [List.length_range]; exact n6)
    have s6 : ∀ i, i ∈ stirL g st → i ≤ 6 := fun i hi => by
      unfold stirL at hi
      have := List.mem_range.mp (List.mem_filter.mp hi).1
      omega
    refine sd_ret (d := .str (stirS g st)) (ef_if (b := decide (stirL g st ≠ [])) (eb_is (eb_test (ef_neD (Ef.er (ef_var (i := 3) rfl)) (El.er (En.el (en_lst ea_nil (by simp)))) ((sh_list (k := 1) (sh_map fun x _ => sh_iN x)).ok (by decide)) ((sh_nil (k := 0)).ok (by decide)))) ?_) (fun h => ?_) (fun h => ?_)) (fin _ rfl)
    · show (!PyData.eqv (encL (stirL g st)) (.list [])) = _
      unfold encL
      rw [eqv_nil]
      cases stirL g st <;> rfl
    · unfold stirS
      rw [if_neg (of_decide_eq_true h)]
      refine ef_join (ys := (stirL g st).map fun i : Nat => nS (i : Int)) ef_str (En.el (en_is (en_lcL (stirL g st) iN (fun _ => true) (fun i : Nat => .str (nS (i : Int))) (Ef.el (ef_var (i := 3) rfl)) (by omega) (fun x hx => eb_yes) (fun x hx _ => ef_strI (ef_var rfl) (small_len (by omega) (by have := s6 x hx; omega)).2)) (by rw [filt_yes, List.map_map]; rfl))) ?_
      have e0 : ((stirL g st).map fun i : Nat => nS (i : Int)) = ((stirL g st).map fun i : Nat => (i : Int)).map nS := by rw [List.map_map]; rfl
      rw [e0, sum_ones (fun x hx => by
        obtain ⟨i, hi, rfl⟩ := List.mem_map.mp hx
        have := s6 i hi
        omega)]
      simp only [List.length_map]
      have : (" " : Str).length = 1 := by decide
      rw [this]
      omega
    · unfold stirS
      rw [if_pos (by simpa using h)]
      exact ef_str
  · refine sd_skip (eb_ne (i := 1) rfl (by rw [hw]; decide)) ?_
    refine sd_skip (eb_ne (i := 1) rfl (by rw [hw]; decide)) ?_
    refine sd_take (eb_eq (i := 1) rfl (by rw [hw]; decide)) ?_ (fun r' z => by obtain ⟨_, _, z, _⟩ := z; cases z)
    rcases hr2 with ⟨h, tk, hh, ht, rfl⟩ | ⟨hn, rfl⟩
    · refine sd_seq (sd_set (d := encH g.n h) (ef_call (ea_cons (ew _ rfl) (ea_cons (es _ rfl) ea_nil)) ⟨g, st, rfl, ok, so, .inl ⟨h, hh, rfl⟩⟩) ?_)
      refine sd_ret (d := .str (nS (tk : Int))) (ef_if (b := false) (eb_test (ef_isN (d := encH g.n h) (Ef.er (ef_var (i := 4) rfl)))) (fun z => by cases z) (fun _ => ef_strI (ef_call (d := iN tk) (ea_cons (ew _ rfl) (ea_cons (ef_var rfl) ea_nil)) ⟨g, h, tk, rfl, ok, ht, rfl⟩) ?_)) (fin _ rfl)
      have := tick_lt ht n1
      exact (small_len (i := (tk : Int)) (by omega) (by omega)).2
    · refine sd_seq (sd_set (d := .none) (ef_call (ea_cons (ew _ rfl) (ea_cons (es _ rfl) ea_nil)) ⟨g, st, rfl, ok, so, .inr ⟨hn, rfl⟩⟩) ?_)
      exact sd_ret (ef_if (b := true) (eb_test (ef_isN (d := .none) (Ef.er (ef_var (i := 4) rfl)))) (fun _ => ef_str) (fun z => by cases z)) (fin _ rfl)
  · refine sd_skip (eb_ne (i := 1) rfl (by rw [hw]; decide)) ?_
    refine sd_skip (eb_ne (i := 1) rfl (by rw [hw]; decide)) ?_
    refine sd_skip (eb_ne (i := 1) rfl (by rw [hw]; decide)) ?_
    refine sd_take (eb_eq (i := 1) rfl (by rw [hw]; decide)) ?_ (fun r' z => by obtain ⟨_, _, z, _⟩ := z; cases z)
    obtain ⟨l1, l2⟩ := best_lim ok so i
    have z1 := small_len (i := ((spd g st i).1 : Int)) (by omega) (by omega)
    have z2 := small_len (i := ((spd g st i).2 : Int)) (by omega) (by omega)
    refine sd_seq (sd_unp2 (d1 := iN (spd g st i).1) (d2 := iN (spd g st i).2) (ef_ixL (d := fracD (spd g st i).1 (spd g st i).2) (Ef.el (ef_call (d := encSpd g st) (ea_cons (ew _ rfl) (ea_cons (es _ rfl) ea_nil)) ⟨g, st, rfl, ok, so, rfl⟩)) (ef_ixL (d := iN i) (Ef.el (ef_var rfl)) ef_int rfl) (atN (by rw [List.getElem?_map, List.getElem?_range hi]; rfl))) ?_)
    have s1 : ("/" : Str).length = 1 := by decide
    refine sd_ret (d := .str (spdS g st i)) (ef_addS (ef_addS (ef_strI (ef_var rfl) z1.2) ef_str ?_) (ef_strI (ef_var rfl) z2.2) ?_) (fin _ rfl)
    · show (nS _).length + _ ≤ _
      rw [z1.1, s1]
      omega
    · show Str.length (nS _ ++ "/") + (nS _).length ≤ _
      rw [z2.1]
      have : (nS ((spd g st i).1 : Int) ++ "/").length = (nS ((spd g st i).1 : Int)).length + ("/" : Str).length := Array.size_append
      rw [this, z1.1, s1]
      omega
  · have n : ∀ y : Str, (y = "state" ∨ y = "stirred" ∨ y = "rest" ∨ y = "speed") → decide (wd = y) = false := fun y hy => by
      rcases hw with rfl | rfl | rfl | rfl <;> rcases hy with rfl | rfl | rfl | rfl <;> decide
    refine sd_skip (eb_ne (i := 1) rfl (n _ (by simp))) ?_
    refine sd_skip (eb_ne (i := 1) rfl (n _ (by simp))) ?_
    refine sd_skip (eb_ne (i := 1) rfl (n _ (by simp))) ?_
    refine sd_skip (eb_ne (i := 1) rfl (n _ (by simp))) ?_
    exact sd_ret ef_non (fin _ rfl)
end
end Tm
set_option maxRecDepth 100000
set_option maxHeartbeats 4000000
/-! A line at the desk. -/
namespace Tm
open PySem PyProof.Rows L2
theorem cut_set {xs : List PyData} {i : Nat} (h : i < xs.length) (d : PyData) : cutD xs none (some (i : Int)) ++ [d] ++ cutD xs (some ((i : Int) + 1)) none = xs.set i d := by
  unfold cutD
  rw [show ((i : Int) + 1) = ((i + 1 : Nat) : Int) by omega, HT.sIx_nat, HT.sIx_nat, HT.sIx_none, HT.sIx_none, Nat.min_eq_left (by omega), Nat.min_eq_left (by omega), List.drop_zero, Nat.sub_zero, List.set_eq_take_append_cons_drop, if_pos h, List.append_assoc]
  have e : (xs.drop (i + 1)).take (xs.length - (i + 1)) = xs.drop (i + 1) := List.take_of_length_le (by rw [List.length_drop]; omega)
  rw [e]
  rfl
/-- a line of texts in the words' dict -/
structure Ln (x : Str) (ws : List Str) (w : Str) (o : Option Int) : Prop where
  sp : Txt.split x " " = ws
  xl : x.length ≤ 90000
  wl : ws.length ≤ 1000
  hd : ws[0]? = some w
  tb : (w, o) ∈ wordTab
  tame : ∀ y, y ∈ ws → tameW y = true
abbrev Past := List (List Int × Int)
inductive RunNs (g : Web) (st : List Int) (t : Int) (ps : Past) : Str → List PyData → PyData → DeskD → Prop
  | ask {w ns y} : Told g st w ns (.str y) → RunNs g st t ps w ns (.str y) (deskD g st t ps)
  | back {ns p ps'} : ps = ps' ++ [p] → RunNs g st t ps "back" ns (.str "") (deskD g p.1 p.2 ps')
  | paint {i : Nat} {m : Int} : i < g.n → ps.length ≤ 1000 → RunNs g st t ps "paint" [iN i, .int m] (.str "") (deskD g (st.set i m) (t + 0) (ps ++ [(st, t)]))
  | tick : ps.length ≤ 1000 → RunNs g st t ps "tick" [] (.str "") (deskD g (itr g st 1) (t + 1) (ps ++ [(st, t)]))
  | ticks {k : Nat} : ps.length ≤ 1000 → RunNs g st t ps "ticks" [iN k] (.str "") (deskD g (itr g st k) (t + k) (ps ++ [(st, t)]))
inductive RunOk (g : Web) (st : List Int) (t : Int) (ps : Past) : PyData → Out → DeskD → Prop
  | text {d} : isStrD d = false → RunOk g st t ps d .text (deskD g st t ps)
  | bad {x ws w o j} : Ln x ws w o → numsOf g.n ps.isEmpty ws w o = .word j → RunOk g st t ps (.str x) (.word j) (deskD g st t ps)
  | good {x ws w o ns d D'} : Ln x ws w o → numsOf g.n ps.isEmpty ws w o = .ok (.list ns) → RunNs g st t ps w ns d D' → RunOk g st t ps (.str x) (.ok d) D'
structure RunX where
  g : Web
  st : List Int
  t : Int
  ps : Past
  line : PyData
  o : Out
  D' : DeskD
def preRun (x : RunX) (D : DeskD) (ds : List PyData) : Prop := ds = [x.line] ∧ D = deskD x.g x.st x.t x.ps ∧ WOk x.g ∧ SOk x.g.n x.st ∧ RunOk x.g x.st x.t x.ps x.line x.o x.D'
def postRun (x : RunX) (D : DeskD) (o : Out) (D' : DeskD) : Prop := o = x.o ∧ D' = x.D'
theorem past_sh (ps : Past) : ∀ d, d ∈ ps.map encPast → Sh 8 d := sh_map fun p _ => sh_tup (k := 7) fun d hd => by
  simp at hd
  rcases hd with rfl | rfl
  · exact sh_encS (k := 6) _
  · exact sh_int _
section
variable {P : Program} {w : World} {K : PySem.W.Frag} {mg : Str → Option Value} {base : Heap} {C CI CN fI dW : Addr}
theorem sc_Desk_run : FnScope ["self", "line", "words", "numbers", "answer", "one", "mood", "many"] ["self", "line"] (defScope (inClass (top 48) 7)) := ⟨rfl, rfl, rfl, by decide +kernel, rfl, by decide +kernel, by decide +kernel⟩
/-- Desk.run: 0 self, 1 line, 2 words, 3 numbers, 4 answer, 5 one, 6 mood, 7 many -/
theorem m_run (T : Txt K mg) (DT : DTxt K mg C CI CN) (WT : WordTxt P K mg CI fI) (WD : WordsTxt K mg w dW) (NT : NoteTxt K mg CN) : DMet P w K mg base 6 C "run" (SpDesk K C CI CN preRun postRun) := by
  refine dmet_raw DT.c DT.m_run sc_Desk_run (fun _ _ _ _ _ _ us hl => match us, hl with | [_, _], _ => rfl) (by rintro _ _ _ _ ⟨x, F, ds, a, dx, pl, D, ws, rfl, _, av, ⟨rfl, _⟩, _⟩; rw [List.length_cons, av.len]; rfl) (fun f cdv A outer s H E hr tk => ⟨_, (pss_cons (ps_expr (pe_clx (c_need_text T NT) hr (by decide) tk (fun _ _ _ _ h => h) rfl (pa_cons (pv 1) pa_nil)))
      (pss_cons (ps_set (i := 2) sc_Desk_run.nd rfl (Or.inl rfl) (pe_split (pv 1) pe_str))
      (pss_cons (ps_set (i := 3) sc_Desk_run.nd rfl (Or.inl rfl) (pe_dmt (m_numbers_of T DT WT WD) hr (by decide) tk (fun _ _ _ _ h => h) (pv 0) (pa_cons (pv 2) pa_nil)))
      (pss_cons (ps_set (i := 4) sc_Desk_run.nd rfl (Or.inl rfl) (pe_dmt (m_told T DT WT WD) hr (by decide) tk (fun _ _ _ _ h => h) (pv 0) (pa_cons (pe_ix (k_ixL K rfl) (pv 2) pe_int (fun _ _ => rfl)) (pa_cons (pv 3) pa_nil))))
      (pss_cons (ps_if (pt_cmpR op_notN (pv 4) pe_non (nomark _)) (pss_one (ps_ret (pv 4))) pss_nil)
      (pss_cons (ps_if (pt_cmpR op_eq (pe_ix (k_ixL K rfl) (pv 2) pe_int (fun _ _ => rfl)) pe_str (nomark _)) (pss_one (ps_asg (pe_bm0 PySem.F.plainAttrs_list PySem.F.slot_list_pop PySem.F.type_list_pop mt_pop (pe_fld (pv 0) rfl)) (kpg_tup K rfl rfl (pgs_cons (pg_fld (pv 0)) (pgs_cons (pg_fld (pv 0)) pgs_nil))))) (pss_one (ps_if (pt_cmpR op_eq (pe_ix (k_ixL K rfl) (pv 2) pe_int (fun _ _ => rfl)) pe_str (nomark _)) (pss_cons (ps_asg (pv 3) (kpg_lst K rfl rfl (pgs_cons (pg_name (i := 5) sc_Desk_run.nd rfl (Or.inl rfl)) (pgs_cons (pg_name (i := 6) sc_Desk_run.nd rfl (Or.inl rfl)) pgs_nil))))
      (pss_one (ps_expr (pe_dmt (m_change T DT WT WD) hr (by decide) tk (fun _ _ _ _ h => h) (pv 0) (pa_cons (pe_op (k_catA K rfl) (pe_op (k_catA K rfl) (pe_slice (k_slA K rfl) (pe_fld (pv 0) rfl) po_none (po_some (pv 5))) (pe_tup (pa_cons (pv 6) pa_nil))) (pe_slice (k_slA K rfl) (pe_fld (pv 0) rfl) (po_some (pe_op op_add (pv 5) pe_int)) po_none)) (pa_cons pe_int pa_nil)))))) (pss_cons (ps_set (i := 7) sc_Desk_run.nd rfl (Or.inl rfl) (pe_ifExp (pt_cmpR (k_neD K rfl hr.units) (pv 3) (pe_lst pa_nil) (nomark _)) (pe_ix (k_ixL K rfl) (pv 3) pe_int (fun _ _ => rfl)) pe_int))
      (pss_one (ps_expr (pe_dmt (m_change T DT WT WD) hr (by decide) tk (fun _ _ _ _ h => h) (pv 0) (pa_cons (pe_cl (c_state_in T) hr (by decide) rfl (pa_cons (pe_fld (pv 0) rfl) (pa_cons (pe_fld (pv 0) rfl) (pa_cons (pv 7) pa_nil)))) (pa_cons (pv 7) pa_nil)))))))))
      (pss_one (ps_ret pe_str)))))))), fun vs Q h => ?_⟩)
  obtain ⟨⟨g, st, t, ps, line, out, D2⟩, F, ds, a, dx, pl, D, us, rfl, dk, av, ⟨rfl, rfl, ok, so, hrun⟩, q, qw, qt⟩ := h
  simp only at ok so hrun
  have n1 := ok.n1
  have n6 := ok.n6
  have S := sta_startD (N := ["self", "line", "words", "numbers", "answer", "one", "mood", "many"]) dk av (by decide)
  have S := (show Sta K _ _ _ [.dk C a dx pl (deskD g st t ps), .fz line, .no, .no, .no, .no, .no, .no] _ _ _ from S)
  obtain ⟨v, hv, dv⟩ := S.fz (i := 1) rfl
  -- the words, and the call of numbers_of
  have words : ∀ {x : Str} {ws : List Str} {wd : Str} {o : Option Int} {rest : TS} {E2 : XK} {D1 : Ends}, line = .str x → Ln x ws wd o →
      (∀ j F2 H2 e, numsOf g.n ps.isEmpty ws wd o = .word j → GrowD a dx pl F H F2 H2 → DeskE K F2 H2 C a dx pl (deskD g st t ps) → F2 e = none → H2 e = some (.xd [(("word" : Str), .int j)]) → E2 (.ref CI) (some e) H2) →
      (∀ ns s2 F2 H2, numsOf g.n ps.isEmpty ws wd o = .ok ns → Sta K (three a dx pl) F (upd H pl (.own a)) [.dk C a dx pl (deskD g st t ps), .fz (.str x), .fz (.list (ws.map .str)), .fz ns, .no, .no, .no, .no] s2 F2 H2 → rest D1 s2 H2) →
      tSeq (tAsg (tM1 (fun x xs H Q => ∃ a b, x = .str a ∧ xs = [.str b] ∧ (b.length == 0) = false ∧ a.length + 2 ≤ sizeLine ∧ rNewStrs (Txt.split a b) H Q) (tVar 1) (tC (.str " "))) (gName 2)) (tSeq (tAsg (tMeth C "numbers_of" (SpDesk K C CI CN preNums postNums) [] E2 (tVar 0) (tCons (tVar 2) tNil)) (gName 3)) rest) D1 (L2.start ["self", "line", "words", "numbers", "answer", "one", "mood", "many"] (.ref a :: us)) H := by
    intro x ws wd o rest E2 D1 el ln hb hg
    subst el
    refine run_nx (N := fun r' => r' = [.dk C a dx pl (deskD g st t ps), .fz (.str x), .mu (ws.map .str), .no, .no, .no, .no, .no]) S (sd_setN (ds := ws.map .str) (en_is (en_split (ef_var rfl) ef_str (by decide) ln.xl) (by rw [ln.sp])) rfl) fun r2 s2 F2 H2 e2 S2 => ?_
    subst e2
    obtain ⟨F3, S3⟩ := S2.freeze (i := 2) rfl
    have S3 := (show Sta K _ _ _ [.dk C a dx pl (deskD g st t ps), .fz (.str x), .fz (.list (ws.map .str)), .no, .no, .no, .no, .no] _ _ _ from S3)
    refine call_desk (x := (⟨g, ws, wd, o⟩ : NumsX)) S3 rfl (one0 rfl) (ea_cons (ef_var rfl) ea_nil) ⟨rfl, rfl, ln.hd, ln.tb, ln.tame, ln.wl, past_sh ps⟩ (fun v d D' F4 H4 po _ S4 dv => ?_) (fun j D' F4 H4 er po _ S4 fe he => ?_) (fun D' F4 H4 er po _ S4 => ?_)
    · obtain ⟨po, rfl⟩ := po
      have po : Out.ok d = numsOf g.n (ps.map encPast).isEmpty ws wd o := po
      rw [List.isEmpty_map] at po
      exact hg d _ F4 H4 po.symm (S4.setF (i := 3) dv)
    · obtain ⟨po, rfl⟩ := po
      have po : Out.word j = numsOf g.n (ps.map encPast).isEmpty ws wd o := po
      rw [List.isEmpty_map] at po
      exact hb j F4 H4 er po.symm (S4.grownD dk) (S4.endD (i := 0) rfl) fe he
    · obtain ⟨po, _⟩ := po
      have po : Out.text = numsOf g.n (ps.map encPast).isEmpty ws wd o := po
      exact absurd po (numsOf_no _ _ _ _ _)
  refine ⟨v, hv, F, line, v, rfl, S.i, dv, fun hs => ?_, fun hs => ?_⟩
  case refine_2 =>
    cases hrun with
    | text h => exact qt none _ F H ⟨rfl, rfl⟩ dk.refl dk
    | bad _ _ => cases hs
    | good _ _ _ => cases hs
  cases hrun with
  | text h => rw [h] at hs; cases hs
  | @bad x ws wd o j ln hn =>
    refine words rfl ln (fun j' F2 H2 e hj g2 d2 fe he => ?_) (fun ns s2 F2 H2 hj _ => ?_)
    · rw [hn] at hj
      cases hj
      exact qw j _ F2 H2 e ⟨rfl, rfl⟩ g2 d2 fe he
    · rw [hn] at hj
      cases hj
  | @good x ws wd o ns d _ ln hn rn =>
  refine words rfl ln (fun j' F2 H2 e hj g2 d2 fe he => ?_) (fun ns' s2 F2 H2 hj S2 => ?_)
  · rw [hn] at hj
    cases hj
  rw [hn] at hj
  cases hj
  have q' : ∀ v d' D' F2 H2, postRun ⟨g, st, t, ps, .str x, .ok d, D2⟩ (deskD g st t ps) (.ok d') D' → GrowD a dx pl F H F2 H2 → DeskE K F2 H2 C a dx pl D' → Dp K F2 v d' → Q v H2 := fun v d' D' F2 H2 po => q v d' D' F2 H2 po
  refine (?_ : Sd K _ [.dk C a dx pl (deskD g st t ps), .fz (.str x), .fz (.list (ws.map .str)), .fz (.list ns), .no, .no, .no, .no] (outD C a dx pl (postRun ⟨g, st, t, ps, .str x, .ok d, D2⟩ (deskD g st t ps)))) _ _ _ _ _ _ _ S2 (holdsD dk q')
  have ew : ∀ r : List Slo, r[0]? = some (.dk C a dx pl (deskD g st t ps)) → Ef K (tFld K (tVar 0) "_web") r (encW g) := fun r e => ef_web DT.toDeskC e
  have es : ∀ r : List Slo, r[0]? = some (.dk C a dx pl (deskD g st t ps)) → Ef K (tFld K (tVar 0) "_state") r (encS st) := fun r e => ef_state DT.toDeskC e
  have w0 : atI (ws.map PyData.str) 0 = some (.str wd) := atN (k := 0) (by rw [List.getElem?_map, ln.hd]; rfl)
  -- told
  have told : ∀ {d1 : PyData} {u : TS}, Told g st wd ns d1 → Sd K u [.dk C a dx pl (deskD g st t ps), .fz (.str x), .fz (.list (ws.map .str)), .fz (.list ns), .fz d1, .no, .no, .no] (outD C a dx pl (postRun ⟨g, st, t, ps, .str x, .ok d, D2⟩ (deskD g st t ps))) →
      Sd K (tSeq (tAsg (tMeth C "told" (SpDesk K C CI CN preTold postTold) [] E (tVar 0) (tCons (tOp (rIxL K) (tVar 2) (tC (.int 0))) (tCons (tVar 3) tNil))) (gName 4)) u) [.dk C a dx pl (deskD g st t ps), .fz (.str x), .fz (.list (ws.map .str)), .fz (.list ns), .no, .no, .no, .no] (outD C a dx pl (postRun ⟨g, st, t, ps, .str x, .ok d, D2⟩ (deskD g st t ps))) := fun {d1 u} td hu =>
    sd_seq (sd_setV (ev_desk (⟨g, st, t, ps, wd, ns, d1⟩ : ToldX) rfl (one0 rfl) (ea_cons (ef_ixL (d := .str wd) (Ef.el (ef_var rfl)) ef_int w0) (ea_cons (ef_var rfl) ea_nil)) ⟨rfl, rfl, ok, so, td⟩ fun o' D' po => ⟨d1, po.1, by rw [po.2]; exact hu⟩))
  have wne : ∀ {r : List Slo} {y : Str} {b : Bool}, r[2]? = some (.fz (.list (ws.map .str))) → decide (wd = y) = b → Eb K (tTest (tOp rEq (tOp (rIxL K) (tVar 2) (tC (.int 0))) (tC (.str y)))) r b := fun e1 e2 => e2 ▸ eb_test (ef_eqS (ef_ixL (d := .str wd) (Ef.el (ef_var e1)) ef_int w0) ef_str)
  cases rn with
  | @ask _ _ y td =>
    refine told td ?_
    exact sd_take (eb_test (ef_notN (d := .str y) (Ef.er (ef_var (i := 4) rfl)))) (sd_ret (ef_var rfl) ⟨_, rfl, rfl, rfl⟩) (fun r' z => by obtain ⟨_, _, z, _⟩ := z; cases z)
  | @back _ p ps' he =>
    refine told (d1 := .none) (.inr (.inr (.inr (.inr ⟨by simp, rfl⟩)))) ?_
    refine sd_skip (eb_test (ef_notN (d := .none) (Ef.er (ef_var (i := 4) rfl)))) ?_
    refine sd_seq (sd_if (b := true) (wne rfl (by decide)) (fun _ => sd_pastPop (i := 0) (ds := ps'.map encPast) DT.toDeskC rfl (one0 rfl) (d := encS p.1) (n := p.2) ?_ ?_) (fun z => by cases z))
    · show ps.map encPast = _
      rw [he, List.map_append]
      rfl
    · exact sd_ret ef_str ⟨_, rfl, rfl, rfl⟩
  | @paint i m hi hl =>
    refine told (d1 := .none) (.inr (.inr (.inr (.inr ⟨by simp, rfl⟩)))) ?_
    refine sd_skip (eb_test (ef_notN (d := .none) (Ef.er (ef_var (i := 4) rfl)))) ?_
    refine sd_seq (sd_if (b := false) (wne rfl (by decide)) (fun z => by cases z) (fun _ => sd_if (b := true) (wne rfl (by decide)) (fun _ => ?_) (fun z => by cases z)))
    refine sd_seq (sd_unpL2 (d1 := iN i) (d2 := .int m) (Ef.el (ef_var (i := 3) rfl)) ?_)
    have hi2 : i < (st.map PyData.int).length := by rw [List.length_map, so.len]; exact hi
    refine sd_dropV (ev_desk ((st.set i m, 0) : List Int × Int) rfl (one0 rfl) (ea_cons (ef_is (ef_catA (ef_catA (ef_slA (es _ rfl) eo_none (eo_some (ef_var (i := 5) rfl))) (ef_tup (ea_cons (ef_var (i := 6) rfl) ea_nil) (by simp)) ?_) (ef_slA (es _ rfl) (eo_some (ef_I0 (ef_var (i := 5) rfl) ef_int)) eo_none) ?_) ?_) (ea_cons ef_int ea_nil)) ⟨rfl, ?_⟩ fun o' D' po => ⟨.none, po.1, ?_⟩)
    · unfold cutD
      rw [List.length_take, List.length_drop, List.length_map, so.len, List.length_singleton]
      omega
    · unfold cutD
      rw [List.length_append, List.length_take, List.length_drop, List.length_take, List.length_drop, List.length_map, so.len, List.length_singleton]
      omega
    · rw [cut_set hi2]
      unfold encS
      rw [List.map_set]
    · show (ps.map encPast).length ≤ 1000
      rw [List.length_map]
      exact hl
    · rw [po.2]
      refine sd_ret ef_str ⟨_, rfl, rfl, ?_⟩
      show _ = deskD g (st.set i m) (t + 0) (ps ++ [(st, t)])
      unfold deskD
      rw [List.map_append]
      rfl
  | tick hl =>
    refine told (d1 := .none) (.inr (.inr (.inr (.inr ⟨by simp, rfl⟩)))) ?_
    refine sd_skip (eb_test (ef_notN (d := .none) (Ef.er (ef_var (i := 4) rfl)))) ?_
    refine sd_seq (sd_if (b := false) (wne rfl (by decide)) (fun z => by cases z) (fun _ => sd_if (b := false) (wne rfl (by decide)) (fun z => by cases z) (fun _ => ?_)))
    refine sd_seq (sd_set (d := iN 1) (ef_if (b := false) (eb_is (eb_test (ef_neD (Ef.er (ef_var (i := 3) rfl)) (El.er (En.el (en_lst ea_nil (by simp)))) ((sh_nil (k := 0)).ok (by decide)) ((sh_nil (k := 0)).ok (by decide)))) (by rw [eqv_nil]; rfl)) (fun z => by cases z) (fun _ => ef_int)) ?_)
    refine sd_dropV (ev_desk ((itr g st 1, 1) : List Int × Int) rfl (one0 rfl) (ea_cons (ef_call (d := encS (itr g st 1)) (ea_cons (ew _ rfl) (ea_cons (es _ rfl) (ea_cons (ef_var rfl) ea_nil))) ⟨g, st, 1, rfl, ok, so, rfl⟩) (ea_cons (ef_var rfl) ea_nil)) ⟨rfl, ?_⟩ fun o' D' po => ⟨.none, po.1, ?_⟩)
    · show (ps.map encPast).length ≤ 1000
      rw [List.length_map]
      exact hl
    · rw [po.2]
      refine sd_ret ef_str ⟨_, rfl, rfl, ?_⟩
      show _ = deskD g (itr g st 1) (t + 1) (ps ++ [(st, t)])
      unfold deskD
      rw [List.map_append]
      rfl
  | @ticks k hl =>
    refine told (d1 := .none) (.inr (.inr (.inr (.inr ⟨by simp, rfl⟩)))) ?_
    refine sd_skip (eb_test (ef_notN (d := .none) (Ef.er (ef_var (i := 4) rfl)))) ?_
    refine sd_seq (sd_if (b := false) (wne rfl (by decide)) (fun z => by cases z) (fun _ => sd_if (b := false) (wne rfl (by decide)) (fun z => by cases z) (fun _ => ?_)))
    refine sd_seq (sd_set (d := iN k) (ef_if (b := true) (eb_is (eb_test (ef_neD (Ef.er (ef_var (i := 3) rfl)) (El.er (En.el (en_lst ea_nil (by simp)))) ((sh_list (k := 0) (sh_map (f := iN) (xs := [k]) fun x _ => sh_iN x)).ok (by decide)) ((sh_nil (k := 0)).ok (by decide)))) (by rw [eqv_nil]; rfl)) (fun _ => ef_ixL (d := iN k) (Ef.el (ef_var rfl)) ef_int rfl) (fun z => by cases z)) ?_)
    refine sd_dropV (ev_desk ((itr g st k, (k : Int)) : List Int × Int) rfl (one0 rfl) (ea_cons (ef_call (d := encS (itr g st k)) (ea_cons (ew _ rfl) (ea_cons (es _ rfl) (ea_cons (ef_var rfl) ea_nil))) ⟨g, st, k, rfl, ok, so, rfl⟩) (ea_cons (ef_var rfl) ea_nil)) ⟨rfl, ?_⟩ fun o' D' po => ⟨.none, po.1, ?_⟩)
    · show (ps.map encPast).length ≤ 1000
      rw [List.length_map]
      exact hl
    · rw [po.2]
      refine sd_ret ef_str ⟨_, rfl, rfl, ?_⟩
      show _ = deskD g (itr g st k) (t + k) (ps ++ [(st, t)])
      unfold deskD
      rw [List.map_append]
      rfl
end
end Tm
set_option maxRecDepth 100000
set_option maxHeartbeats 4000000
/-! Alike. -/
namespace Tm
open PySem PyProof.Rows L2
def tNevE : TE := fun _ _ _ => False
theorem pe_nev {X : Cx} {x : Str} {es : List Expr} {t : TA} {p pos : Pos} (_ : True) (ha : PA X es t) : PE X (.Call (.Name x p) es [] pos) tNevE := ⟨fun _ _ _ _ _ _ h => h.elim⟩
theorem k_ixA {X : Cx} (K : PySem.W.Frag) (e : X.K = K) : IxR X (rIx K) := by subst e; exact ix_seq
/-- data of whole numbers, texts, lists and tuples -/
def okA : Nat → PyData → Bool
  | _, .int _ => true
  | _, .str _ => true
  | k + 1, .list ds => decide (ds.length ≤ 1000) && ds.all (okA k)
  | k + 1, .tuple ds => decide (ds.length ≤ 1000) && ds.all (okA k)
  | _, _ => false
def preAl (k : Nat) (ds : List PyData) (d : PyData) : Prop := ∃ x, ds = [x, x] ∧ okA k x = true ∧ d = .bool true
section
variable {K : PySem.W.Frag} {r : List Slo} {te ta tb : TE} {d : PyData} {ds : List PyData}
theorem ef_eqB {a b : Bool} (ha : Ef K ta r (.bool a)) (hb : Ef K tb r (.bool b)) : Ef K (tOp rEq ta tb) r (.bool (decide (a = b))) :=
  er_op ha.er hb.er fun x y H dx dy Q q => by
    cases dx; cases dy
    refine ⟨rfl, ?_⟩
    have e : decide (V.bl a = V.bl b) = decide (a = b) := by rw [decide_eq_decide]; exact ⟨V.bl.inj, fun h => by rw [h]⟩
    rw [e]
    exact q _ (.bl _)
theorem ef_neB {a b : Bool} (ha : Ef K ta r (.bool a)) (hb : Ef K tb r (.bool b)) : Ef K (tOp rNe ta tb) r (.bool (!decide (a = b))) :=
  er_op ha.er hb.er fun x y H dx dy Q q => by
    cases dx; cases dy
    refine ⟨rfl, ?_⟩
    have e : decide (V.bl a = V.bl b) = decide (a = b) := by rw [decide_eq_decide]; exact ⟨V.bl.inj, fun h => by rw [h]⟩
    rw [e]
    exact q _ (.bl _)
theorem ef_ixA_L {i : Int} (ha : Ef K ta r (.list ds)) (hb : Ef K tb r (.int i)) (h : atI ds i = some d) : Ef K (tOp (rIx K) ta tb) r d := by
  intro M F0 H0 s F H S Q q
  refine Ef.el ha _ _ _ _ _ _ S _ fun p vs F1 H1 g1 sq dx => ?_
  refine hb _ _ _ _ _ _ (S.grow g1) _ fun y F2 H2 g2 dy => ?_
  cases dy
  obtain ⟨v, h1, h2⟩ := atI_get dx h
  exact .inl ⟨p, vs, i, v, rfl, rfl, sl_up g2.h sq, h1, q v F2 H2 (g1.trans g2) (Dp.up g2.f _ _ h2)⟩
theorem ef_ixA_T {i : Int} (ha : Ef K ta r (.tuple ds)) (hb : Ef K tb r (.int i)) (h : atI ds i = some d) : Ef K (tOp (rIx K) ta tb) r d :=
  ef_op ha hb fun x y F H s dx dy Q q => by
    cases dy
    cases dx with
    | tup a b =>
      obtain ⟨v, h1, h2⟩ := atI_get b h
      exact .inr (.inl ⟨_, _, i, v, rfl, rfl, st_up s a, h1, q v F H (Grow.refl s) h2⟩)
end
section
variable {P : Program} {w : World} {K : PySem.W.Frag} {mg : Str → Option Value} {base : Heap} {C CI CN fI dW : Addr}
theorem sc_law_alike : FnScope ["_law_found", "_law_due", "_law_k"] ["_law_found", "_law_due"] (defScope (top 52)) := ⟨rfl, rfl, rfl, by decide +kernel, rfl, by decide +kernel, by decide +kernel⟩
theorem alike_sca {r : List Slo} {A : Af} {x : PyData} (hx : okA 0 x = true) (e0 : r[0]? = some (.fz x)) (e1 : r[1]? = some (.fz x)) (q : A.rt (.bool true) r) {t1 : TS} :
    Sd K (tSeq (tIfS (tB (tCB (rIsiT K) (tCons (tVar 1) (tCons (tTup (tCons (tC (.ty "tuple")) (tCons (tC (.ty "list")) tNil))) tNil)))) t1 tNext)
      (tSeq (tIfS (tOr (tTest (tOp (fun x y H Q => y = .non ∧ Q (.bl (decide (x = .non))) H) (tVar 1) (tC .non))) (tB (tCB (rIsi K) (tCons (tVar 1) (tCons (tC (.ty "str")) tNil)))))
        (tRet (tAndV (tOp rEq (tVar 0) (tVar 1)) (tOp rEq (tCB (rIsi K) (tCons (tVar 0) (tCons (tC (.ty "str")) tNil))) (tCB (rIsi K) (tCons (tVar 1) (tCons (tC (.ty "str")) tNil)))))) tNext)
      (tRet (tAndV (tCB (rIsi K) (tCons (tVar 0) (tCons (tC (.ty "int")) tNil))) (tAndV (tOp rEq (tCB (rIsi K) (tCons (tVar 0) (tCons (tC (.ty "bool")) tNil))) (tCB (rIsi K) (tCons (tVar 1) (tCons (tC (.ty "bool")) tNil)))) (tOp rEq (tVar 0) (tVar 1))))))) r A := by
  cases x with
  | int i =>
    refine sd_skip (eb_B (ef_isi2 (b := false) (c := false) (Ef.er (ef_var e1)) kt_it kt_il)) ?_
    refine sd_seq (sd_if (b := false) (eb_or (a := false) (b := false) (eb_test (ef_isN (d := .int i) (Ef.er (ef_var e1)))) fun _ => eb_B (ef_isi (Ef.er (ef_var e1)) kt_is)) (fun z => by cases z) (fun _ => sd_next ?_))
    refine sd_ret (d := .bool true) (ef_is (ef_andV (ef_isi (b := true) (Ef.er (ef_var e0)) kt_ii) fun _ => ef_andV (ef_eqB (ef_isi (b := false) (Ef.er (ef_var e0)) kt_ib) (ef_isi (b := false) (Ef.er (ef_var e1)) kt_ib)) fun _ => ef_eqI (ef_var e0) (ef_var e1)) (by simp)) q
  | str y =>
    refine sd_skip (eb_B (ef_isi2 (b := false) (c := false) (Ef.er (ef_var e1)) kt_st kt_sl)) ?_
    refine sd_seq (sd_if (b := true) (eb_or (a := false) (b := true) (eb_test (ef_isN (d := .str y) (Ef.er (ef_var e1)))) fun _ => eb_B (ef_isi (Ef.er (ef_var e1)) kt_ss)) (fun _ => ?_) (fun z => by cases z))
    exact sd_ret (d := .bool true) (ef_is (ef_andV (ef_eqS (ef_var e0) (ef_var e1)) fun _ => ef_eqB (ef_isi (b := true) (Ef.er (ef_var e0)) kt_ss) (ef_isi (b := true) (Ef.er (ef_var e1)) kt_ss)) (by simp)) q
  | none => cases hx
  | bool b => cases hx
  | list ds => cases hx
  | tuple ds => cases hx
  | dict ds => cases hx
theorem c_law_alike0 (T : Txt K mg) : Cl P w K mg base 1 "_law_alike" (SpP K (preAl 0)) := by
  refine cl_pure T.f_law_alike sc_law_alike (fun _ _ _ _ _ _ us hl => match us, hl with | [_, _], _ => rfl) (by rintro _ _ ⟨_, rfl, _⟩; rfl) (fun f cdv A outer s H E hr => ⟨_, (pss_cons (ps_if (pt_val (pe_callB (k_isiT K rfl) rfl T.n_isinstance bb_isinstance (pa_cons (pv 1) (pa_cons (pe_tup (pa_cons (pe_bltn rfl T.n_tuple bb_tuple (v := .ty "tuple") rfl) (pa_cons (pe_bltn rfl T.n_list bb_list (v := .ty "list") rfl) pa_nil))) pa_nil)))) (pss_cons (ps_if (PW.pt (pw_or (pt_not (pt_val (pe_callB (k_isiT K rfl) rfl T.n_isinstance bb_isinstance (pa_cons (pv 0) (pa_cons (pe_tup (pa_cons (pe_bltn rfl T.n_tuple bb_tuple (v := .ty "tuple") rfl) (pa_cons (pe_bltn rfl T.n_list bb_list (v := .ty "list") rfl) pa_nil))) pa_nil))))) (pw_or1 (pt_cmpR op_ne (pe_callB (k_isi K rfl) rfl T.n_isinstance bb_isinstance (pa_cons (pv 0) (pa_cons (pe_bltn rfl T.n_list bb_list (v := .ty "list") rfl) pa_nil))) (pe_callB (k_isi K rfl) rfl T.n_isinstance bb_isinstance (pa_cons (pv 1) (pa_cons (pe_bltn rfl T.n_list bb_list (v := .ty "list") rfl) pa_nil))) (nomark _))))) (pss_one (ps_ret pe_bl)) pss_nil)
      (pss_cons (ps_if (pt_cmpR op_ne (pe_callB (k_len K rfl) rfl T.n_len bb_len (pa_cons (pv 0) pa_nil)) (pe_callB (k_len K rfl) rfl T.n_len bb_len (pa_cons (pv 1) pa_nil)) (nomark _)) (pss_one (ps_ret pe_bl)) pss_nil)
      (pss_one (ps_ret (pe_cmpR (k_eqD K rfl hr.units) (pe_lc (own := [("_law_k", 2)]) rfl sc_law_alike.nd (pi_range1 rfl T.n_range (pa_cons (pe_callB (k_len K rfl) rfl T.n_len bb_len (pa_cons (pv 1) pa_nil)) pa_nil)) (blkOk_by (by kernel_rfl)) (fun _ _ _ _ _ => (pg_name (i := 2) sc_law_alike.nd rfl (Or.inl rfl))) (fun _ _ _ _ _ => pts_one (pt_not (pt_val (pe_nev trivial (pa_cons (pe_ix (k_ixA K rfl) (pv 0) (pv 2) (fun _ _ => rfl)) (pa_cons (pe_ix (k_ixA K rfl) (pv 1) (pv 2) (fun _ _ => rfl)) pa_nil)))))) (fun _ _ _ _ _ => (pv 2))) (pe_lst pa_nil) (nomark _)))))) pss_nil)
      (pss_cons (ps_if (PW.pt (pw_or (pt_cmpR op_isN (pv 1) pe_non (nomark _)) (pw_or1 (pt_val (pe_callB (k_isi K rfl) rfl T.n_isinstance bb_isinstance (pa_cons (pv 1) (pa_cons (pe_bltn rfl T.n_str bb_str (v := .ty "str") rfl) pa_nil))))))) (pss_one (ps_ret (pe_and (pe_cmpR op_eq (pv 0) (pv 1) (nomark _)) (pe_one (pe_cmpR op_eq (pe_callB (k_isi K rfl) rfl T.n_isinstance bb_isinstance (pa_cons (pv 0) (pa_cons (pe_bltn rfl T.n_str bb_str (v := .ty "str") rfl) pa_nil))) (pe_callB (k_isi K rfl) rfl T.n_isinstance bb_isinstance (pa_cons (pv 1) (pa_cons (pe_bltn rfl T.n_str bb_str (v := .ty "str") rfl) pa_nil))) (nomark _)))))) pss_nil)
      (pss_one (ps_ret (pe_and (pe_callB (k_isi K rfl) rfl T.n_isinstance bb_isinstance (pa_cons (pv 0) (pa_cons (pe_bltn rfl T.n_int bb_int (v := .ty "int") rfl) pa_nil))) (pe_and (pe_cmpR op_eq (pe_callB (k_isi K rfl) rfl T.n_isinstance bb_isinstance (pa_cons (pv 0) (pa_cons (pe_bltn rfl T.n_bool bb_bool (v := .ty "bool") rfl) pa_nil))) (pe_callB (k_isi K rfl) rfl T.n_isinstance bb_isinstance (pa_cons (pv 1) (pa_cons (pe_bltn rfl T.n_bool bb_bool (v := .ty "bool") rfl) pa_nil))) (nomark _)) (pe_one (pe_cmpR op_eq (pv 0) (pv 1) (nomark _))))))))), fun ds d h => ?_⟩)
  obtain ⟨x, rfl, hx, rfl⟩ := h
  exact alike_sca hx rfl rfl rfl
theorem c_law_alikeS (T : Txt K mg) {k : Nat} (ih : Cl P w K mg base (k + 1) "_law_alike" (SpP K (preAl k))) : Cl P w K mg base (k + 2) "_law_alike" (SpP K (preAl (k + 1))) := by
  refine cl_pure T.f_law_alike sc_law_alike (fun _ _ _ _ _ _ us hl => match us, hl with | [_, _], _ => rfl) (by rintro _ _ ⟨_, rfl, _⟩; rfl) (fun f cdv A outer s H E hr => ⟨_, (pss_cons (ps_if (pt_val (pe_callB (k_isiT K rfl) rfl T.n_isinstance bb_isinstance (pa_cons (pv 1) (pa_cons (pe_tup (pa_cons (pe_bltn rfl T.n_tuple bb_tuple (v := .ty "tuple") rfl) (pa_cons (pe_bltn rfl T.n_list bb_list (v := .ty "list") rfl) pa_nil))) pa_nil)))) (pss_cons (ps_if (PW.pt (pw_or (pt_not (pt_val (pe_callB (k_isiT K rfl) rfl T.n_isinstance bb_isinstance (pa_cons (pv 0) (pa_cons (pe_tup (pa_cons (pe_bltn rfl T.n_tuple bb_tuple (v := .ty "tuple") rfl) (pa_cons (pe_bltn rfl T.n_list bb_list (v := .ty "list") rfl) pa_nil))) pa_nil))))) (pw_or1 (pt_cmpR op_ne (pe_callB (k_isi K rfl) rfl T.n_isinstance bb_isinstance (pa_cons (pv 0) (pa_cons (pe_bltn rfl T.n_list bb_list (v := .ty "list") rfl) pa_nil))) (pe_callB (k_isi K rfl) rfl T.n_isinstance bb_isinstance (pa_cons (pv 1) (pa_cons (pe_bltn rfl T.n_list bb_list (v := .ty "list") rfl) pa_nil))) (nomark _))))) (pss_one (ps_ret pe_bl)) pss_nil)
      (pss_cons (ps_if (pt_cmpR op_ne (pe_callB (k_len K rfl) rfl T.n_len bb_len (pa_cons (pv 0) pa_nil)) (pe_callB (k_len K rfl) rfl T.n_len bb_len (pa_cons (pv 1) pa_nil)) (nomark _)) (pss_one (ps_ret pe_bl)) pss_nil)
      (pss_one (ps_ret (pe_cmpR (k_eqD K rfl hr.units) (pe_lc (own := [("_law_k", 2)]) rfl sc_law_alike.nd (pi_range1 rfl T.n_range (pa_cons (pe_callB (k_len K rfl) rfl T.n_len bb_len (pa_cons (pv 1) pa_nil)) pa_nil)) (blkOk_by (by kernel_rfl)) (fun _ _ _ _ _ => (pg_name (i := 2) sc_law_alike.nd rfl (Or.inl rfl))) (fun _ _ _ _ _ => pts_one (pt_not (pt_val (pe_cl ih hr (Nat.le_refl _) rfl (pa_cons (pe_ix (k_ixA K rfl) (pv 0) (pv 2) (fun _ _ => rfl)) (pa_cons (pe_ix (k_ixA K rfl) (pv 1) (pv 2) (fun _ _ => rfl)) pa_nil)))))) (fun _ _ _ _ _ => (pv 2))) (pe_lst pa_nil) (nomark _)))))) pss_nil)
      (pss_cons (ps_if (PW.pt (pw_or (pt_cmpR op_isN (pv 1) pe_non (nomark _)) (pw_or1 (pt_val (pe_callB (k_isi K rfl) rfl T.n_isinstance bb_isinstance (pa_cons (pv 1) (pa_cons (pe_bltn rfl T.n_str bb_str (v := .ty "str") rfl) pa_nil))))))) (pss_one (ps_ret (pe_and (pe_cmpR op_eq (pv 0) (pv 1) (nomark _)) (pe_one (pe_cmpR op_eq (pe_callB (k_isi K rfl) rfl T.n_isinstance bb_isinstance (pa_cons (pv 0) (pa_cons (pe_bltn rfl T.n_str bb_str (v := .ty "str") rfl) pa_nil))) (pe_callB (k_isi K rfl) rfl T.n_isinstance bb_isinstance (pa_cons (pv 1) (pa_cons (pe_bltn rfl T.n_str bb_str (v := .ty "str") rfl) pa_nil))) (nomark _)))))) pss_nil)
      (pss_one (ps_ret (pe_and (pe_callB (k_isi K rfl) rfl T.n_isinstance bb_isinstance (pa_cons (pv 0) (pa_cons (pe_bltn rfl T.n_int bb_int (v := .ty "int") rfl) pa_nil))) (pe_and (pe_cmpR op_eq (pe_callB (k_isi K rfl) rfl T.n_isinstance bb_isinstance (pa_cons (pv 0) (pa_cons (pe_bltn rfl T.n_bool bb_bool (v := .ty "bool") rfl) pa_nil))) (pe_callB (k_isi K rfl) rfl T.n_isinstance bb_isinstance (pa_cons (pv 1) (pa_cons (pe_bltn rfl T.n_bool bb_bool (v := .ty "bool") rfl) pa_nil))) (nomark _)) (pe_one (pe_cmpR op_eq (pv 0) (pv 1) (nomark _))))))))), fun ds d h => ?_⟩)
  obtain ⟨x, rfl, hx, rfl⟩ := h
  cases x with
  | int i => exact alike_sca (x := .int i) rfl rfl rfl rfl
  | str y => exact alike_sca (x := .str y) rfl rfl rfl rfl
  | none => cases hx
  | bool b => cases hx
  | dict ds => cases hx
  | list xs =>
    have hx : (decide (xs.length ≤ 1000) && xs.all (okA k)) = true := hx
    rw [Bool.and_eq_true, decide_eq_true_iff] at hx
    have item : ∀ m : Nat, (m : Int) < (xs.length : Int) → ∃ d, xs[m]? = some d ∧ okA k d = true := fun m hm => ⟨xs[m]'(by omega), List.getElem?_eq_getElem (by omega), List.all_eq_true.mp hx.2 _ (List.getElem_mem _)⟩
    refine sd_seq (sd_if (b := true) (eb_B (ef_isi2 (b := false) (c := true) (d := .list xs) (Ef.er (ef_var (i := 1) rfl)) kt_lt kt_ll)) (fun _ => ?_) (fun z => by cases z))
    refine sd_seq (sd_if (b := false) (eb_or (a := false) (b := false) (eb_is (eb_not (eb_B (ef_isi2 (b := false) (c := true) (d := .list xs) (Ef.er (ef_var (i := 0) rfl)) kt_lt kt_ll))) rfl) fun _ => eb_is (eb_test (ef_neB (ef_isi (d := .list xs) (b := true) (Ef.er (ef_var (i := 0) rfl)) kt_ll) (ef_isi (d := .list xs) (b := true) (Ef.er (ef_var (i := 1) rfl)) kt_ll))) rfl) (fun z => by cases z) (fun _ => sd_next ?_))
    refine sd_seq (sd_if (b := false) (eb_is (eb_test (ef_neI (ef_lenL (ds := xs) (Ef.el (ef_var (i := 0) rfl))) (ef_lenL (ds := xs) (Ef.el (ef_var (i := 1) rfl))))) (by simp)) (fun z => by cases z) (fun _ => sd_next ?_))
    refine sd_ret (d := .bool true) (ef_is (ef_eqD (d1 := .list []) (d2 := .list []) (El.er (En.el (en_is (en_lcR (n := (xs.length : Int)) (fun _ => false) (fun m => iN m) (ea_cons (ef_lenL (ds := xs) (Ef.el (ef_var (i := 1) rfl))) ea_nil) (by omega) (fun m hm => ?_) (fun m hm z => by cases z)) (by simp)))) (El.er (En.el (en_lst ea_nil (by simp)))) ((sh_nil (k := 0)).ok (by decide)) ((sh_nil (k := 0)).ok (by decide))) (by rw [eqv_nil]; rfl)) rfl
    obtain ⟨d, hd, od⟩ := item m hm
    exact eb_is (eb_not (eb_B (ef_call (d := .bool true) (ea_cons (ef_ixA_L (ds := xs) (ef_var (i := 0) rfl) (ef_var (i := 2) rfl) (atN hd)) (ea_cons (ef_ixA_L (ds := xs) (ef_var (i := 1) rfl) (ef_var (i := 2) rfl) (atN hd)) ea_nil)) ⟨d, rfl, od, rfl⟩))) rfl
  | tuple xs =>
    have hx : (decide (xs.length ≤ 1000) && xs.all (okA k)) = true := hx
    rw [Bool.and_eq_true, decide_eq_true_iff] at hx
    have item : ∀ m : Nat, (m : Int) < (xs.length : Int) → ∃ d, xs[m]? = some d ∧ okA k d = true := fun m hm => ⟨xs[m]'(by omega), List.getElem?_eq_getElem (by omega), List.all_eq_true.mp hx.2 _ (List.getElem_mem _)⟩
    refine sd_seq (sd_if (b := true) (eb_B (ef_isi2 (b := true) (c := false) (d := .tuple xs) (Ef.er (ef_var (i := 1) rfl)) kt_tt kt_tl)) (fun _ => ?_) (fun z => by cases z))
    refine sd_seq (sd_if (b := false) (eb_or (a := false) (b := false) (eb_is (eb_not (eb_B (ef_isi2 (b := true) (c := false) (d := .tuple xs) (Ef.er (ef_var (i := 0) rfl)) kt_tt kt_tl))) rfl) fun _ => eb_is (eb_test (ef_neB (ef_isi (d := .tuple xs) (b := false) (Ef.er (ef_var (i := 0) rfl)) kt_tl) (ef_isi (d := .tuple xs) (b := false) (Ef.er (ef_var (i := 1) rfl)) kt_tl))) rfl) (fun z => by cases z) (fun _ => sd_next ?_))
    refine sd_seq (sd_if (b := false) (eb_is (eb_test (ef_neI (ef_lenT (ds := xs) (ef_var (i := 0) rfl)) (ef_lenT (ds := xs) (ef_var (i := 1) rfl)))) (by simp)) (fun z => by cases z) (fun _ => sd_next ?_))
    refine sd_ret (d := .bool true) (ef_is (ef_eqD (d1 := .list []) (d2 := .list []) (El.er (En.el (en_is (en_lcR (n := (xs.length : Int)) (fun _ => false) (fun m => iN m) (ea_cons (ef_lenT (ds := xs) (ef_var (i := 1) rfl)) ea_nil) (by omega) (fun m hm => ?_) (fun m hm z => by cases z)) (by simp)))) (El.er (En.el (en_lst ea_nil (by simp)))) ((sh_nil (k := 0)).ok (by decide)) ((sh_nil (k := 0)).ok (by decide))) (by rw [eqv_nil]; rfl)) rfl
    obtain ⟨d, hd, od⟩ := item m hm
    exact eb_is (eb_not (eb_B (ef_call (d := .bool true) (ea_cons (ef_ixA_T (ds := xs) (ef_var (i := 0) rfl) (ef_var (i := 2) rfl) (atN hd)) (ea_cons (ef_ixA_T (ds := xs) (ef_var (i := 1) rfl) (ef_var (i := 2) rfl) (atN hd)) ea_nil)) ⟨d, rfl, od, rfl⟩))) rfl
theorem c_law_alike (T : Txt K mg) : ∀ k, Cl P w K mg base (k + 1) "_law_alike" (SpP K (preAl k))
  | 0 => c_law_alike0 T
  | k + 1 => c_law_alikeS T (c_law_alike T k)
end
end Tm
set_option maxRecDepth 100000
set_option maxHeartbeats 4000000
/-! The desk made, its properties; what is told of a lambda. -/
namespace Tm
open PySem PySem.Spec PyProof.Rows L2 LamX
/-! ### the desk made -/
def SpInit (K : PySem.W.Frag) (C : Addr) : Sp := fun vs H Q _ => ∃ F g st x dx vw vs2, vs = [.ref x, vw, vs2] ∧ Same F H ∧ Dp K F vw (encW g) ∧ Dp K F vs2 (encS st) ∧ WOk g ∧ SOk g.n st ∧ H x = some (.ins C dx []) ∧
  ∀ F2 H2 pl, Grow F H F2 H2 → H2 pl = none → Q .non (upd (upd H2 pl (.lst [])) x (.ins C dx (deskF vw vs2 0 pl)))
structure MkTxt (K : PySem.W.Frag) (C : Addr) : Prop where
  ex : ∃ f fd, L2.Fun K "__init__" "Desk.__init__" (inClass (top 48) 0) f fd ∧ Mk K C f
structure Mkr (P : Program) (w : World) (K : PySem.W.Frag) (mg : Str → Option Value) (base : Heap) (k : Nat) (C : Addr) (sp : Sp) : Prop where
  ex : ∃ (f : Addr) (fd : FuncData) (ps : List Str), FnOk P w K mg base L2.CX0 k f fd ps sp ∧ Mk K C f ∧ Binds K fd ps []
theorem pe_mkr {X : Cx} {x : Str} {k j : Nat} {C : Addr} {sp : Sp} {e : Expr} {es : List Expr} {t : TA} {p pos : Pos} (c : Mkr X.prog X.w X.K X.mg X.base k C sp) (hr : Room j X.A) (hk : k + 1 ≤ j) (hg : Gl X x) (hm : X.mg x = some (.ref C)) (ha : PA X (e :: es) t)
    (hdb : (x == ("__debug__" : Str)) = false := by decide) (he : starEach (e :: es) X.env = (false, eval e X.env) :: starEach es X.env := by rfl) (hpl : (backTo pos (starEach es X.env)).any (·.1) = false := by rfl) :
    PE X (.Call (.Name x p) (e :: es) [] pos) (tMake C sp [] L2.E0 t) := by
  obtain ⟨f, fd, ps, F, M, b⟩ := c.ex
  exact pe_make M F (hr.mono hk) hg hm b .nil pass0 ha hdb he hpl
theorem upd_swap {H : Hp} {x p : Addr} {o o' l : HO} (h : p ≠ x) : upd (upd (upd H x o) p l) x o' = upd (upd H p l) x o' := by
  funext b
  by_cases q : b = x
  · rw [q, upd_same, upd_same]
  · rw [upd_ne q, upd_ne q]
    by_cases z : b = p
    · rw [z, upd_same, upd_same]
    · rw [upd_ne z, upd_ne z, upd_ne q]
section
variable {P : Program} {w : World} {K : PySem.W.Frag} {mg : Str → Option Value} {base : Heap} {C CI CN fI dW : Addr}
theorem sc_Desk___init__ : FnScope ["self", "web", "state"] ["self", "web", "state"] (defScope (inClass (top 48) 0)) := ⟨rfl, rfl, rfl, by decide +kernel, rfl, by decide +kernel, by decide +kernel⟩
theorem c_make (T : Txt K mg) (DC : DeskC K C) (MT : MkTxt K C) : Mkr P w K mg base 5 C (SpInit K C) := by
  obtain ⟨f, fd, F, M⟩ := MT.ex
  refine ⟨f, fd, _, F.ok sc_Desk___init__ (fun vs H Q E h => ?_) (fun cdv A outer s H vs Q E hr h => ⟨_, (pss_cons (ps_expr (pe_cl (c_need_both T) hr (by decide) rfl (pa_cons (pv 1) (pa_cons (pv 2) pa_nil))))
      (pss_cons (ps_asg (pv 1) (pg_fld (pv 0)))
      (pss_cons (ps_asg (pv 2) (pg_fld (pv 0)))
      (pss_cons (ps_asg pe_int (pg_fld (pv 0)))
      (pss_one (ps_asg (pe_lst pa_nil) (pg_fld (pv 0)))))))), ?_⟩), M, F.binds (fun _ _ _ _ _ _ us hl => match us, hl with | [_, _, _], _ => rfl)⟩
  · obtain ⟨F, g, st, x, dx, vw, vs2, rfl, _⟩ := h
    rfl
  obtain ⟨F, g, st, x, dx, vw, vs2, rfl, i, dw, ds, ok, so, hx, q⟩ := h
  refine ⟨vw, rfl, vs2, rfl, F, [encW g, encS st], .none, i, .cons dw (.cons ds .nil), ⟨g, st, rfl, ok, so, rfl⟩, fun v F2 H2 gr _ => ?_⟩
  have hx2 := gr.h _ _ hx
  refine ⟨vw, rfl, .ref x, rfl, x, C, dx, [], rfl, hx2, DC.c, DC.nW, by decide, ?_⟩
  refine ⟨vs2, rfl, .ref x, rfl, x, C, dx, _, rfl, upd_same, DC.c, DC.nS, (by show 1 < 1000; decide), ?_⟩
  rw [upd_upd]
  refine ⟨.ref x, rfl, x, C, dx, _, rfl, upd_same, DC.c, DC.nT, (by show 2 < 1000; decide), ?_⟩
  rw [upd_upd]
  refine ⟨by show 0 ≤ sizeLine; decide, fun pl hp => ?_⟩
  have ne : pl ≠ x := fun z => by rw [z, upd_same] at hp; cases hp
  refine ⟨.ref x, rfl, x, C, dx, _, rfl, by rw [upd_ne (Ne.symm ne), upd_same], DC.c, DC.nP, (by show 3 < 1000; decide), ?_⟩
  rw [upd_swap ne]
  rw [upd_ne ne] at hp
  exact q F2 H2 pl gr hp
/-! ### its properties -/
structure GetTxt (K : PySem.W.Frag) (C : Addr) (m qual : Str) (st : Stmt) : Prop where
  ex : ∃ p g fd, PropOf K C m p g ∧ L2.Fun K m qual st g fd
structure Gtr (P : Program) (w : World) (K : PySem.W.Frag) (mg : Str → Option Value) (base : Heap) (C : Addr) (m : Str) (sp : Sp) : Prop where
  ex : ∃ (p g : Addr) (fd : FuncData), PropOf K C m p g ∧ FnOk P w K mg base L2.CX0 1 g fd ["self"] sp ∧ Binds K fd ["self"] []
theorem pe_get {X : Cx} {m : Str} {j : Nat} {C : Addr} {sp : Sp} {e : Expr} {te : TE} {pos : Pos} (G : Gtr X.prog X.w X.K X.mg X.base C m sp) (c : Cls X.K C) (he : PE X e te) (hr : Room j X.A) (hj : 2 ≤ j) (hab : attributeBase e m X.env (eval e X.env) = eval e X.env := by rfl) : PE X (.Attribute e m pos) (tProp C sp [] L2.E0 te) := by
  obtain ⟨p, g, fd, hp, F, b⟩ := G.ex
  exact pe_prop he c hp F (hr.mono hj) b .nil pass0 hab
theorem sc_Desk_state : FnScope ["self"] ["self"] (defScope (inClass (top 48) 1)) := ⟨rfl, rfl, rfl, by decide +kernel, rfl, by decide +kernel, by decide +kernel⟩
theorem sc_Desk_ticks : FnScope ["self"] ["self"] (defScope (inClass (top 48) 2)) := ⟨rfl, rfl, rfl, by decide +kernel, rfl, by decide +kernel, by decide +kernel⟩
theorem c_state (DC : DeskC K C) (G : GetTxt K C "state" "Desk.state" (inClass (top 48) 1)) : Gtr P w K mg base C "state" (getSp C "_state") := by
  obtain ⟨p, g, fd, hp, F⟩ := G.ex
  have b := F.binds (ps := ["self"]) (fun _ _ _ _ _ _ us hl => match us, hl with | [_], _ => rfl)
  obtain ⟨oc, od, kV, doc, pm, an, cdv, ct, osl, rfl, lk, hcd⟩ := F.ex
  exact ⟨p, g, _, hp, fn_getter lk hcd sc_Desk_state rfl rfl DC.c DC.nS, b⟩
theorem c_ticks (DC : DeskC K C) (G : GetTxt K C "ticks" "Desk.ticks" (inClass (top 48) 2)) : Gtr P w K mg base C "ticks" (getSp C "_ticks") := by
  obtain ⟨p, g, fd, hp, F⟩ := G.ex
  have b := F.binds (ps := ["self"]) (fun _ _ _ _ _ _ us hl => match us, hl with | [_], _ => rfl)
  obtain ⟨oc, od, kV, doc, pm, an, cdv, ct, osl, rfl, lk, hcd⟩ := F.ex
  exact ⟨p, g, _, hp, fn_getter lk hcd sc_Desk_ticks rfl rfl DC.c DC.nT, b⟩
end
/-! ### what is told of a lambda -/
def TTold2 (K : PySem.W.Frag) (CI CN : Addr) : (XK → Hp → VK → Prop) → Hp → VK → Prop := fun tl H Q =>
  tl (fun cls d H' => ∃ b, PySem.W.exmOne K cls (.ref CI) = some b ∧ (b = true → ∃ dd v, cls = .ref CI ∧ d = some dd ∧ H' dd = some (.xd [(("word" : Str), v)]) ∧ ∀ p, H' p = none → Q (.ref p) (upd H' p (.tup [.str "word", v]))) ∧ (b = false → PySem.W.exmOne K cls (.ref CN) = some true ∧ Q (.str "text") H')) H Q
theorem sc_law_told : FnScope ["_law_work", "e"] ["_law_work"] (defScope (top 67)) := ⟨rfl, rfl, rfl, by decide +kernel, rfl, by decide +kernel, by decide +kernel⟩
theorem told_gives2 {X : Cx} {CI CN fI g : Addr} {cdg : Value} {q : Str} (WT : WordTxt X.prog X.K X.mg CI fI) (gN : X.mg "NotText" = some (.ref CN)) : GivesTo X ["_law_work", "e"] "_law_told" (defScope (top 67)) g cdg (defBody (top 67)) "_law_work" q (TTold2 X.K CI CN) := by
  intro f c' s H Q tl act hc h
  refine ⟨_, pss_one (ps_try_two (X := (cxOf C8.CX0 X.prog X.w X.K X.mg X.base ["_law_work", "e"] "_law_told" (defScope (top 67)) g cdg X.A X.stack s H C8.E0).nox) (c1 := .ref CI) (c2 := .ref CN) (i := 1) (n := "e")
      (tb := fun W D σ H => ∃ Ech : XK, (∀ cls d σ' H', Ech cls d H' → W cls d σ' H') ∧ σ[0]? = some (some (.ref f)) ∧ H c' = some (CodeO c' q) ∧ tl Ech H D.rt)
      rfl rfl sc_law_told.nd rfl rfl ⟨rfl, by decide, .inl WT.gC⟩ ⟨rfl, by decide, .inl gN⟩ (fun W pn xe tk _ => ?_) (fun a oe cls d pn hz hf => pss_one (ps_ret (pe_tup (pa_cons pe_str (pa_cons (pe_wordOf WT hz hf (pv 1)) pa_nil))))) (fun a oe cls d pn _ _ => pss_one (ps_ret pe_str))), ?_⟩
  · refine ⟨fun pins s' σ H' D I h' => ?_⟩
    obtain ⟨Ech, hW, h1, h2, h3⟩ := h'
    exact (pss_one (ps_ret (act W pn xe Ech _ _ tk hW))).run pins s' σ H' D I ⟨h1, h2, h3⟩
  · refine ⟨_, fun cls d σ' H' hw => ?_, rfl, hc, h⟩
    obtain ⟨b, e1, e2, e3⟩ := hw
    refine ⟨b, e1, fun hb hl a ha => ?_, fun hb => ⟨(e3 hb).1, fun a ha => (e3 hb).2⟩⟩
    obtain ⟨dd, v, h1, h2, h3, h4⟩ := e2 hb
    have hl : σ'.length = 2 := hl
    refine ⟨.ref a, List.getElem?_set_self (by omega), rfl, h1, dd, v, h2, h3, ?_⟩
    exact ⟨(by show 2 ≤ sizeLine; decide), fun p hp => h4 p hp⟩
end Tm
set_option maxRecDepth 100000
set_option maxHeartbeats 4000000
/-! The law's state: the slots, the desk, the tables of the lambdas' code objects. -/
namespace Tm
open PySem PySem.Spec PyProof.Rows L2 LamX
/-- neither a table nor a code object -/
def plainO : HO → Bool
  | .tbl _ => false
  | .ext _ => false
  | _ => true
def PlainH (F : Hp) : Prop := ∀ b u, F b = some u → plainO u = true
/-- the frozen part without tables and code objects -/
def plainF (F : Hp) : Hp := fun b => match F b with
  | some u => if plainO u then some u else none
  | none => none
theorem plainF_some {F : Hp} {b : Addr} {u : HO} : plainF F b = some u ↔ F b = some u ∧ plainO u = true := by
  unfold plainF
  cases e : F b with
  | none => simp
  | some w =>
    dsimp only
    by_cases h : plainO w = true
    · rw [if_pos h]
      exact ⟨fun z => by cases z; exact ⟨rfl, h⟩, fun z => z.1⟩
    · rw [if_neg h]
      exact ⟨(fun z => by cases z), fun z => by obtain ⟨z1, z2⟩ := z; cases z1; exact absurd z2 h⟩
theorem plainF_none {F : Hp} {b : Addr} (h : F b = none) : plainF F b = none := by unfold plainF; rw [h]
theorem plain_seq {F : Hp} {a : Addr} {u : HO} (hu : plainO u = true) (h : Rd F a u) : Rd (plainF F) a u := by
  rcases h with h | ⟨o, h⟩
  · exact .inl (plainF_some.mpr ⟨h, hu⟩)
  · exact .inr ⟨o, plainF_some.mpr ⟨h, rfl⟩⟩
theorem plain_l {K : PySem.W.Frag} {F : Hp} {a : Addr} {xs : List V} (h : SqL K F a xs) : SqL K (plainF F) a xs := by
  rcases h with h | h
  · exact .inl (plain_seq rfl h)
  · exact .inr h
theorem plain_t {K : PySem.W.Frag} {F : Hp} {a : Addr} {xs : List V} (h : SqT K F a xs) : SqT K (plainF F) a xs := by
  rcases h with h | h
  · exact .inl (plain_seq rfl h)
  · exact .inr h
mutual
theorem dp_plain {K : PySem.W.Frag} {F : Hp} : ∀ (d : PyData) (v : V), Dp K F v d → Dp K (plainF F) v d
  | .none, _, h => by cases h; exact .non
  | .bool b, _, h => by cases h; exact .bl b
  | .int i, _, h => by cases h; exact .int i
  | .str x, _, h => by cases h; exact .str x
  | .list ds, _, h => by
    cases h with
    | lst a b => exact .lst (plain_l a) (dps_plain ds _ b)
  | .tuple ds, _, h => by
    cases h with
    | tup a b => exact .tup (plain_t a) (dps_plain ds _ b)
  | .dict _, _, h => by cases h
theorem dps_plain {K : PySem.W.Frag} {F : Hp} : ∀ (ds : List PyData) (vs : List V), DpAll K F vs ds → DpAll K (plainF F) vs ds
  | [], _, h => by cases h; exact .nil
  | d :: ds, _, h => by
    cases h with
    | cons a b => exact .cons (dp_plain d _ a) (dps_plain ds _ b)
end
/-- the base behind a lambda's making -/
def lamB (H0 H1 : Hp) : Hp := fun b => match H0 b with
  | some (.tbl _) => H1 b
  | some o => some o
  | none => match H1 b with
    | some (.ext f) => some (.ext f)
    | _ => none
theorem lamB_plain {H0 H1 : Hp} {b : Addr} {o : HO} (h : H0 b = some o) (hp : ∀ ps, o ≠ .tbl ps) : lamB H0 H1 b = some o := by
  unfold lamB
  rw [h]
  cases o <;> first | rfl | exact absurd rfl (hp _)
theorem lamB_tbl {H0 H1 : Hp} {b : Addr} {ps : Array Value} (h : H0 b = some (.tbl ps)) : lamB H0 H1 b = H1 b := by
  unfold lamB
  rw [h]
theorem lamB_none {H0 H1 : Hp} {b : Addr} (h : H0 b = none) (n : ∀ f, H1 b ≠ some (.ext f)) : lamB H0 H1 b = none := by
  unfold lamB
  rw [h]
  dsimp only
  cases e : H1 b with
  | none => rfl
  | some o => cases o <;> first | rfl | exact absurd e (n _)
theorem lamB_ext {H0 H1 : Hp} {b : Addr} {f : Heap → Prop} (h : H0 b = none) (e : H1 b = some (.ext f)) : lamB H0 H1 b = some (.ext f) := by
  unfold lamB
  rw [h]
  dsimp only
  rw [e]
section
variable {K : PySem.W.Frag} {M : Addr → Prop} {F0 H0 F H H1 F2 H2 : Hp} {r : List Slo} {s : L2.St} {C a dx pl : Addr} {D : DeskD} {T : List (Addr × Str)} {i : Nat}
theorem plain_ne {o : HO} (h : plainO o = true) : ∀ ps, o ≠ .tbl ps := fun ps z => by rw [z] at h; cases h
theorem ext_pl (e : ExtN H H1) {b : Addr} {o : HO} (h : H b = some o) (p : plainO o = true) : H1 b = some o := e b o h (plain_ne p)
theorem keep_cases {b : Addr} (k : Keep (H1 b)) (e : ExtN H H1) {u : HO} (h : H b = some u) : Keep (H b) := by
  rw [h]
  cases u with
  | tup xs =>
    rw [ext_pl e h rfl] at k
    exact k
  | _ => exact ⟨_, rfl, fun _ z => by cases z⟩
/-- a lambda was made -/
theorem Sta.lam (S : Sta K M F0 H0 r s F H) (hF : PlainH F0) (hM : ∀ b, M b → ∃ o, H b = some o ∧ plainO o = true) (e : ExtN H H1) : Sta K M F0 (lamB H0 H1) r s (plainF F) H1 := by
  refine ⟨fun b u h => plainF_some.mpr ⟨S.f0 b u h, hF b u h⟩, fun b u h => ?_, fun b o nm h => ?_, fun b h => ?_, fun b h1 h2 k => ?_, S.len, fun j t ej => ?_, S.dj⟩
  · obtain ⟨h1, h2⟩ := plainF_some.mp h
    exact ext_pl e (S.i b u h1) h2
  · cases z : H0 b with
    | none =>
      unfold lamB at h
      rw [z] at h
      dsimp only at h
      split at h
      · rename_i f q
        cases h
        exact q
      · cases h
    | some w =>
      by_cases p : ∃ ps, w = .tbl ps
      · obtain ⟨ps, rfl⟩ := p
        rw [lamB_tbl z] at h
        exact h
      · rw [lamB_plain z (fun ps q => p ⟨ps, q⟩)] at h
        cases h
        exact e b o (S.h0 b o nm z) fun ps q => p ⟨ps, q⟩
  · cases z : H0 b with
    | none =>
      unfold lamB at h
      rw [z] at h
      dsimp only at h
      split at h
      · rename_i f q
        rw [q]
        exact fun z => by cases z
      · exact absurd rfl h
    | some w =>
      by_cases p : ∃ ps, w = .tbl ps
      · obtain ⟨ps, rfl⟩ := p
        rw [lamB_tbl z] at h
        exact h
      · by_cases m : M b
        · obtain ⟨o, h3, h4⟩ := hM b m
          rw [ext_pl e h3 h4]
          exact fun z => by cases z
        · rw [e b w (S.h0 b w m z) fun ps q => p ⟨ps, q⟩]
          exact fun z => by cases z
  · cases z : plainF F b with
    | none => rfl
    | some u =>
      obtain ⟨z1, z2⟩ := plainF_some.mp z
      have hb := S.i b u z1
      have k0 := keep_cases k e hb
      cases w : H0 b with
      | some o => rw [S.n0 b h1 (by rw [w]; exact fun z => by cases z) k0] at z1; cases z1
      | none =>
        unfold lamB at h2
        rw [w] at h2
        dsimp only at h2
        split at h2
        · rename_i f q
          rw [ext_pl e hb z2] at q
          cases q
          cases z2
        · exact absurd rfl h2
  · rcases S.sl j t ej with z | ⟨v, h1, h2⟩
    · exact .inl z
    · refine .inr ⟨v, h1, ?_⟩
      cases t with
      | no => trivial
      | ad w => exact h2
      | fz d => exact dp_plain _ _ h2
      | mu ds =>
        obtain ⟨p, vs, rfl, h3, h4, h5, h6⟩ := h2
        have h7 := ext_pl e h5 rfl
        exact ⟨p, vs, rfl, plainF_none h3, lamB_none h4 (fun f q => by rw [h7] at q; cases q), h7, dps_plain _ _ h6⟩
      | pm ds =>
        obtain ⟨p, vs, rfl, h3, h4, h5, h6⟩ := h2
        have h7 := ext_pl e h5 rfl
        refine ⟨p, vs, rfl, plainF_none h3, ⟨h4.1, fun x q => ?_⟩, h7, dps_plain _ _ h6⟩
        cases z : H0 p with
        | none => rw [lamB_none z (fun f q => by rw [h7] at q; cases q)] at q; cases q
        | some w =>
          by_cases y : ∃ ps, w = .tbl ps
          · obtain ⟨ps, rfl⟩ := y
            rw [lamB_tbl z, h7] at q
            cases q
          · rw [lamB_plain z (fun ps q => y ⟨ps, q⟩)] at q
            cases q
            exact h4.2 x z
      | dk C a dx pl D =>
        obtain ⟨h3, h4⟩ := h2
        obtain ⟨vw, vs, vps, g1, g2, g3, g4, g5, g6⟩ := h4.h
        refine ⟨h3, fun b hb => ⟨plainF_none (h4.fa b hb).1, (h4.fa b hb).2.1, ?_⟩, lamB_plain h4.mr (fun _ z => by cases z), vw, vs, vps, ext_pl e g1 rfl, ext_pl e g2 rfl, ext_pl e g3 rfl, dp_plain _ _ g4, dp_plain _ _ g5, dps_plain _ _ g6⟩
        have n := (h4.fa b hb).2.2
        cases z : H0 b with
        | none => exact absurd z n
        | some w =>
          by_cases y : ∃ ps, w = .tbl ps
          · obtain ⟨ps, rfl⟩ := y
            rw [lamB_tbl z]
            obtain ⟨o, q1, q2⟩ := hM b (h4.fa b hb).2.1
            rw [ext_pl e q1 q2]
            exact fun z => by cases z
          · rw [lamB_plain z (fun ps q => y ⟨ps, q⟩)]
            exact fun z => by cases z
/-- the law's state; ks: objects beside the slots -/
structure Lw (K : PySem.W.Frag) (T : List (Addr × Str)) (C a dx pl : Addr) (ks : List (Addr × HO)) (D : DeskD) (r : List Slo) (s : L2.St) (F H : Hp) : Prop where
  ex : ∃ F0 H0, Sta K (three a dx pl) F0 H0 r s F H ∧ Tabs T H0 ∧ PlainH F0 ∧ (∀ b, three a dx pl b → ∃ o, H0 b = some o ∧ plainO o = true) ∧ ∀ p, p ∈ ks → H0 p.1 = some p.2 ∧ plainO p.2 = true ∧ ¬ three a dx pl p.1 ∧ F0 p.1 = none
  dk : r[4]? = some (.dk C a dx pl D)
/-- frozen data stand -/
structure FzS (K : PySem.W.Frag) (F F2 : Hp) : Prop where
  d : ∀ v d, Dp K F v d → Dp K F2 v d
  l : ∀ a xs, SqL K F a xs → SqL K F2 a xs
theorem FzS.of (h : Same F F2) : FzS K F F2 := ⟨fun v d => Dp.up h d v, fun a xs => sl_up h⟩
theorem FzS.plain : FzS K F (plainF F) := ⟨fun v d => dp_plain d v, fun a xs => plain_l⟩
theorem FzS.all (z : FzS K F F2) : ∀ {vs : List V} {ds : List PyData}, DpAll K F vs ds → DpAll K F2 vs ds
  | _, _, .nil => .nil
  | _, _, .cons a t => .cons (z.d _ _ a) (FzS.all z t)
theorem FzS.trans {F3 : Hp} (a : FzS K F F2) (b : FzS K F2 F3) : FzS K F F3 := ⟨fun v d h => b.d v d (a.d v d h), fun p xs h => b.l p xs (a.l p xs h)⟩
theorem desk_pl (d : DeskO K M H0 F H C a dx pl D) : ∀ b, three a dx pl b → ∃ o, H b = some o ∧ plainO o = true := by
  obtain ⟨vw, vs, vps, h1, h2, h3, _⟩ := d.h
  rintro b (rfl | rfl | rfl)
  · exact ⟨_, h1, rfl⟩
  · exact ⟨_, h2, rfl⟩
  · exact ⟨_, h3, rfl⟩
theorem tabs_on (t : Tabs T H0) (hM : ∀ b, M b → ∃ o, H0 b = some o ∧ plainO o = true) (h : ∀ b o, ¬ M b → H0 b = some o → H b = some o) : Tabs T H := fun p hp => by
  obtain ⟨ps, h1, h2, h3⟩ := t p hp
  have nP : ¬ M p.1 := fun m => by
    obtain ⟨o, q1, q2⟩ := hM _ m
    rw [h1] at q1
    cases q1
    cases q2
  refine ⟨ps, h _ _ nP h1, h2, fun pos cv hc => ?_⟩
  obtain ⟨c, e1, e2⟩ := h3 pos cv hc
  refine ⟨c, e1, h _ _ (fun m => ?_) e2⟩
  obtain ⟨o, q1, q2⟩ := hM _ m
  rw [e2] at q1
  cases q1
  cases q2
section
variable {ks : List (Addr × HO)}
theorem Lw.tabs (L : Lw K T C a dx pl ks D r s F H) : Tabs T H := by
  obtain ⟨F0, H0, S, t, _, m, _⟩ := L.ex
  exact tabs_on t m S.h0
theorem Lw.grow (L : Lw K T C a dx pl ks D r s F H) (g : Grow F H F2 H2) : Lw K T C a dx pl ks D r s F2 H2 := by
  obtain ⟨F0, H0, S, t⟩ := L.ex
  exact ⟨⟨F0, H0, S.grow g, t⟩, L.dk⟩
theorem Lw.at_ (L : Lw K T C a dx pl ks D r s F H) {p : Addr × HO} (h : p ∈ ks) : H p.1 = some p.2 := by
  obtain ⟨F0, H0, S, t, _, _, k⟩ := L.ex
  obtain ⟨k1, _, k3, _⟩ := k p h
  exact S.h0 _ _ k3 k1
theorem Lw.sf (L : Lw K T C a dx pl ks D r s F H) : Same F H := by
  obtain ⟨F0, H0, S, _⟩ := L.ex
  exact S.i
theorem Lw.lam (L : Lw K T C a dx pl ks D r s F H) (e : ExtN H H1) (t1 : Tabs T H1) : Lw K T C a dx pl ks D r s (plainF F) H1 := by
  obtain ⟨F0, H0, S, t, hF, m, k⟩ := L.ex
  obtain ⟨_, dk⟩ := S.dk L.dk
  refine ⟨⟨F0, lamB H0 H1, S.lam hF (desk_pl dk) e, fun p hp => ?_, hF, fun b hb => ?_, fun p hp => ?_⟩, L.dk⟩
  · obtain ⟨ps0, z1, z2, z3⟩ := t p hp
    obtain ⟨ps, h1, h2, h3⟩ := t1 p hp
    refine ⟨ps, by rw [lamB_tbl z1]; exact h1, h2, fun pos cv hc => ?_⟩
    obtain ⟨c, e1, e2⟩ := h3 pos cv hc
    refine ⟨c, e1, ?_⟩
    cases z : H0 c with
    | none => exact lamB_ext z e2
    | some w =>
      by_cases y : ∃ ps, w = .tbl ps
      · obtain ⟨ps, rfl⟩ := y
        rw [lamB_tbl z]
        exact e2
      · rw [lamB_plain z (fun ps q => y ⟨ps, q⟩)]
        by_cases mc : three a dx pl c
        · obtain ⟨o, q1, q2⟩ := desk_pl dk c mc
          rw [ext_pl e q1 q2] at e2
          cases e2
          cases q2
        · rw [← e2, e c w (S.h0 c w mc z) fun ps q => y ⟨ps, q⟩]
  · obtain ⟨o, h1, h2⟩ := m b hb
    exact ⟨o, lamB_plain h1 (plain_ne h2), h2⟩
  · obtain ⟨k1, k2, k3, k4⟩ := k p hp
    exact ⟨lamB_plain k1 (plain_ne k2), k2, k3, k4⟩
end
end
end Tm
set_option maxRecDepth 100000
set_option maxHeartbeats 4000000
/-! The law's lambdas told; the desk made in the law. -/
namespace Tm
open PySem PySem.Spec PyProof.Rows L2 LamX
section
variable {K : PySem.W.Frag} {M : Addr → Prop} {F0 H0 F H H1 F2 H2 : Hp} {r : List Slo} {s : L2.St} {C CI CN a dx pl : Addr} {D : DeskD} {T : List (Addr × Str)} {i j : Nat} {g : Web} {st : List Int} {t : Int} {ps : Past} {ta : TA} {line : PyData} {w : Int} {Q : VK}
/-- expressions, tests of the law -/
def Lg (K : PySem.W.Frag) (T : List (Addr × Str)) (C a dx pl : Addr) (D : DeskD) (te : TE) (r : List Slo) (d : PyData) : Prop := ∀ ks s F H, Lw K T C a dx pl ks D r s F H → ∀ Q : VK, (∀ v F2 H2, Lw K T C a dx pl ks D r s F2 H2 → FzS K F F2 → Dp K F2 v d → Q v H2) → te s H Q
def Lgb (K : PySem.W.Frag) (T : List (Addr × Str)) (C a dx pl : Addr) (D : DeskD) (tt : TT) (r : List Slo) (b : Bool) : Prop := ∀ ks s F H, Lw K T C a dx pl ks D r s F H → ∀ Q : Bool → Hp → Prop, (∀ F2 H2, Lw K T C a dx pl ks D r s F2 H2 → FzS K F F2 → Q b H2) → tt s H Q
variable {te tb : TE} {tt : TT} {d e : PyData} {ds : List PyData}
theorem eg_of (h : Ef K te r d) : Lg K T C a dx pl D te r d := fun ks s F H L Q q => by
  obtain ⟨F0, H0, S, t⟩ := L.ex
  exact h _ _ _ _ _ _ S Q fun v F2 H2 g dv => q v F2 H2 (L.grow g) (.of g.f) dv
theorem lgb_of {b : Bool} (h : Eb K tt r b) : Lgb K T C a dx pl D tt r b := fun ks s F H L Q q => by
  obtain ⟨F0, H0, S, t⟩ := L.ex
  exact h _ _ _ _ _ _ S Q fun F2 H2 g => q F2 H2 (L.grow g) (.of g.f)
theorem eg_neD (ha : Lg K T C a dx pl D te r d) (hb : Ef K tb r e) (h1 : SeqAt.shaped d = true) (h2 : SeqAt.shaped e = true) : Lg K T C a dx pl D (tOp (rNeD K) te tb) r (.bool (!PyData.eqv d e)) := fun ks s F H L Q q => by
  refine ha ks s F H L _ fun x F1 H1 L1 z1 dx => ?_
  refine eg_of hb ks s F1 H1 L1 _ fun y F2 H2 L2 z2 dy => ?_
  exact ⟨d, e, Dp.up L2.sf _ _ (z2.d _ _ dx), Dp.up L2.sf _ _ dy, h1, h2, q _ F2 H2 L2 (z1.trans z2) (.bl _)⟩
theorem lgb_test {b : Bool} (h : Lg K T C a dx pl D te r (.bool b)) : Lgb K T C a dx pl D (tTest te) r b := fun ks s F H L Q q => h ks s F H L _ fun v F2 H2 L2 z dv => by cases dv; exact ⟨b, rfl, q F2 H2 L2 z⟩
theorem lgb_B {b : Bool} (h : Lg K T C a dx pl D te r (.bool b)) : Lgb K T C a dx pl D (tB te) r b := fun ks s F H L Q q => h ks s F H L _ fun v F2 H2 L2 z dv => by cases dv; exact ⟨b, rfl, q F2 H2 L2 z⟩
theorem lgb_not {b : Bool} (h : Lgb K T C a dx pl D tt r b) : Lgb K T C a dx pl D (tNot tt) r (!b) := fun ks s F H L Q q => h ks s F H L _ q
theorem eg_is (h : Lg K T C a dx pl D te r d) (e' : d = e) : Lg K T C a dx pl D te r e := e' ▸ h
theorem lgb_is {b c : Bool} (h : Lgb K T C a dx pl D tt r b) (e' : b = c) : Lgb K T C a dx pl D tt r c := e' ▸ h
/-- f(e, x), a pure def -/
theorem eg_call2 {pre : List PyData → PyData → Prop} {E : XK} {c : PyData} (ha : Lg K T C a dx pl D te r d) (hb : Ef K tb r e) (hp : pre [d, e] c) : Lg K T C a dx pl D (tCall (SpP K pre) [] E (tCons te (tCons tb tNil))) r c := fun ks s F H L Q q => by
  refine ha ks s F H L _ fun x F1 H1 L1 z1 dx => ?_
  refine eg_of hb ks s F1 H1 L1 _ fun y F2 H2 L2 z2 dy => ?_
  refine ⟨F2, [d, e], c, L2.sf, .cons (z2.d _ _ dx) (.cons dy .nil), hp, fun v F3 H3 g dv => q v F3 H3 (L2.grow g) ((z1.trans z2).trans (.of g.f)) dv⟩
theorem eg_bad (one : OneDk r 4) (ok : WOk g) (so : SOk g.n st) (h : Ea K ta r [line]) (hr : RunOk g st t ps line (.word w) (deskD g st t ps)) (te : PySem.W.exmOne K (.ref CI) (.ref CI) = some true) :
    Lg K T C a dx pl (deskD g st t ps) (tLam T (TTold2 K CI CN) (fun E => tMeth C "run" (SpDesk K C CI CN preRun postRun) [] E (tVar 4) ta)) r (.tuple [.str "word", .int w]) := fun ks s F H L Q q => by
  refine ⟨L.tabs, fun H1 e t1 => ?_⟩
  have L1 := L.lam e t1
  obtain ⟨F0, H0, S, tb⟩ := L1.ex
  refine call_desk (⟨g, st, t, ps, line, .word w, deskD g st t ps⟩ : RunX) S L.dk one h ⟨rfl, rfl, ok, so, hr⟩ (fun v d D' F2 H2 po _ _ _ => by cases po.1) (fun j' D' F2 H2 er po f2 S2 fe he => ?_) (fun D' F2 H2 er po _ _ => by cases po.1)
  obtain ⟨po1, rfl⟩ := po
  cases po1
  rw [set_same L.dk] at S2
  have L2 : Lw K T C a dx pl ks (deskD g st t ps) r s F2 H2 := ⟨⟨F0, H0, S2, tb⟩, L.dk⟩
  refine ⟨true, te, fun _ => ⟨er, .int w, rfl, rfl, he, fun p hp => ?_⟩, fun z => by cases z⟩
  have g2 : Grow F2 H2 _ _ := Grow.new (o := .tup [.str "word", .int w]) S2.i hp
  exact q (.ref p) _ _ (L2.grow g2) ((FzS.plain.trans (.of f2)).trans (.of g2.f)) (.tup (SqT.of upd_same) (.cons (.str _) (.cons (.int _) .nil)))
theorem eg_text (one : OneDk r 4) (ok : WOk g) (so : SOk g.n st) (h : Ea K ta r [line]) (hr : isStrD line = false) (tf : PySem.W.exmOne K (.ref CN) (.ref CI) = some false) (tn : PySem.W.exmOne K (.ref CN) (.ref CN) = some true) :
    Lg K T C a dx pl (deskD g st t ps) (tLam T (TTold2 K CI CN) (fun E => tMeth C "run" (SpDesk K C CI CN preRun postRun) [] E (tVar 4) ta)) r (.str "text") := fun ks s F H L Q q => by
  refine ⟨L.tabs, fun H1 e t1 => ?_⟩
  have L1 := L.lam e t1
  obtain ⟨F0, H0, S, tb⟩ := L1.ex
  refine call_desk (⟨g, st, t, ps, line, .text, deskD g st t ps⟩ : RunX) S L.dk one h ⟨rfl, rfl, ok, so, .text hr⟩ (fun v d D' F2 H2 po _ _ _ => by cases po.1) (fun j' D' F2 H2 er po _ _ _ _ => by cases po.1) (fun D' F2 H2 er po f2 S2 => ?_)
  obtain ⟨po1, rfl⟩ := po
  rw [set_same L.dk] at S2
  exact ⟨false, tf, (fun z => by cases z), fun _ => ⟨tn, q _ F2 H2 ⟨⟨F0, H0, S2, tb⟩, L.dk⟩ (FzS.plain.trans (.of f2)) (.str _)⟩⟩
/-- a line that asks -/
theorem eg_run {E : XK} (one : OneDk r 4) (ok : WOk g) (so : SOk g.n st) (h : Ea K ta r [line]) (hr : RunOk g st t ps line (.ok d) (deskD g st t ps)) : Lg K T C a dx pl (deskD g st t ps) (tMeth C "run" (SpDesk K C CI CN preRun postRun) [] E (tVar 4) ta) r d := fun ks s F H L Q q => by
  obtain ⟨F0, H0, S, tb⟩ := L.ex
  refine call_desk (⟨g, st, t, ps, line, .ok d, deskD g st t ps⟩ : RunX) S L.dk one h ⟨rfl, rfl, ok, so, hr⟩ (fun v d D' F2 H2 po f2 S2 dv => ?_) (fun j' D' F2 H2 er po _ _ _ _ => by cases po.1) (fun D' F2 H2 er po _ _ => by cases po.1)
  obtain ⟨po1, rfl⟩ := po
  cases po1
  rw [set_same L.dk] at S2
  exact q v F2 H2 ⟨⟨F0, H0, S2, tb⟩, L.dk⟩ (.of f2) dv
/-! ### comprehensions in which the desk is called -/
def dropH (H : Hp) (p : Addr) : Hp := fun b => if b = p then none else H b
theorem dropH_same {H : Hp} {p : Addr} : dropH H p p = none := if_pos rfl
theorem dropH_ne {H : Hp} {p b : Addr} (h : b ≠ p) : dropH H p b = H b := if_neg h
/-- an object beside the slots is let go and frozen -/
theorem Sta.release {p : Addr} {acc : List V} (S : Sta K M F0 H0 r s F H) (h0 : H0 p = some (.lst acc)) (nm : ¬ M p) (f0 : F0 p = none) : F p = none ∧ Sta K M F0 (dropH H0 p) r s (L2.upd F p (.lst acc)) H := by
  have hp : H p = some (.lst acc) := S.h0 p _ nm h0
  have fp : F p = none := S.n0 p f0 (by rw [h0]; exact fun z => by cases z) (by rw [hp]; exact ⟨_, rfl, fun _ z => by cases z⟩)
  have up : Same F (L2.upd F p (.lst acc)) := same_new fp
  refine ⟨fp, S.f0.trans up, fun b u e => ?_, fun b o nb e => ?_, fun b e => ?_, fun b e1 e2 k => ?_, S.len, fun j t ej => ?_, S.dj⟩
  · by_cases z : b = p
    · rw [z, upd_same] at e
      cases e
      rw [z]
      exact hp
    · rw [upd_ne z] at e
      exact S.i b u e
  · by_cases z : b = p
    · rw [z, dropH_same] at e; cases e
    · rw [dropH_ne z] at e; exact S.h0 b o nb e
  · by_cases z : b = p
    · rw [z, dropH_same] at e; exact absurd rfl e
    · rw [dropH_ne z] at e; exact S.hd b e
  · by_cases z : b = p
    · rw [z, dropH_same] at e2; exact absurd rfl e2
    · rw [dropH_ne z] at e2
      rw [upd_ne z]
      exact S.n0 b e1 e2 k
  · rcases S.sl j t ej with z | ⟨v, h1, h2⟩
    · exact .inl z
    · refine .inr ⟨v, h1, ?_⟩
      cases t with
      | no => trivial
      | ad w => exact h2
      | fz d => exact Dp.up up _ _ h2
      | mu ds =>
        obtain ⟨q, vs, rfl, h3, h4, h5, h6⟩ := h2
        have ne : q ≠ p := fun z => by rw [z, h0] at h4; cases h4
        exact ⟨q, vs, rfl, by rw [upd_ne ne]; exact h3, by rw [dropH_ne ne]; exact h4, h5, DpAll.up up _ _ h6⟩
      | pm ds =>
        obtain ⟨q, vs, rfl, h3, h4, h5, h6⟩ := h2
        have ne : q ≠ p := fun z => nm (by rw [← z]; exact h4.1)
        exact ⟨q, vs, rfl, by rw [upd_ne ne]; exact h3, ⟨h4.1, fun x => by rw [dropH_ne ne]; exact h4.2 x⟩, h5, DpAll.up up _ _ h6⟩
      | dk C a dx pl D =>
        have ne : ∀ b, b = a ∨ b = dx ∨ b = pl → b ≠ p := fun b hb z => nm (by rw [← z]; exact (h2.2.fa b hb).2.1)
        exact ⟨h2.1, (h2.2.to up (fun b hb => by rw [upd_ne (ne b hb)]; exact (h2.2.fa b hb).1) fun _ _ _ e => e).on fun b o mb e => by
          rw [dropH_ne (fun z => nm (by rw [← z]; exact mb))]
          exact e⟩
theorem Lw.release {ks : List (Addr × HO)} {p : Addr} {acc : List V} {es : List PyData} (L : Lw K T C a dx pl ((p, .lst acc) :: ks) D r s F H) (hk : ∀ q, q ∈ ks → q.1 ≠ p) (h : DpAll K F acc es) : ∃ F2, Lw K T C a dx pl ks D r s F2 H ∧ Same F F2 ∧ Dp K F2 (.ref p) (.list es) := by
  obtain ⟨F0, H0, S, t, hF, m, k⟩ := L.ex
  obtain ⟨k1, k2, k3, k4⟩ := k (p, .lst acc) (by simp)
  obtain ⟨fp, S2⟩ := S.release k1 k3 k4
  have up : Same F (L2.upd F p (.lst acc)) := same_new fp
  refine ⟨_, ⟨⟨F0, _, S2, fun q hq => ?_, hF, fun b hb => ?_, fun q hq => ?_⟩, L.dk⟩, up, .lst (SqL.of upd_same) (DpAll.up up _ _ h)⟩
  · obtain ⟨ps, h1, h2, h3⟩ := t q hq
    have ne : q.1 ≠ p := fun z => by rw [z, k1] at h1; cases h1
    refine ⟨ps, by rw [dropH_ne ne]; exact h1, h2, fun pos cv hc => ?_⟩
    obtain ⟨c, e1, e2⟩ := h3 pos cv hc
    have ne : c ≠ p := fun z => by rw [z, k1] at e2; cases e2
    exact ⟨c, e1, by rw [dropH_ne ne]; exact e2⟩
  · obtain ⟨o, h1, h2⟩ := m b hb
    exact ⟨o, by rw [dropH_ne (fun z => k3 (by rw [← z]; exact hb))]; exact h1, h2⟩
  · obtain ⟨k1, k2, k3, k4⟩ := k q (List.mem_cons_of_mem _ hq)
    exact ⟨by rw [dropH_ne (hk q hq)]; exact k1, k2, k3, k4⟩
/-- a new list beside the slots -/
theorem Lw.join {ks : List (Addr × HO)} {p : Addr} (L : Lw K T C a dx pl ks D r s F H) (hp : H p = none) : Lw K T C a dx pl ((p, .lst []) :: ks) D r s F (L2.upd H p (.lst [])) ∧ ∀ q, q ∈ ks → q.1 ≠ p := by
  have ne : ∀ q, q ∈ ks → q.1 ≠ p := fun q hq z => by
    have := L.at_ hq
    rw [z, hp] at this
    cases this
  obtain ⟨F0, H0, S, t, hF, m, k⟩ := L.ex
  have z0 := hb_of S p hp
  have up : Same H0 (L2.upd H0 p (.lst [])) := same_new z0
  refine ⟨⟨⟨F0, _, S.join hp, t.ext up, hF, fun b hb => ?_, fun q hq => ?_⟩, L.dk⟩, ne⟩
  · obtain ⟨o, h1, h2⟩ := m b hb
    exact ⟨o, up b o h1, h2⟩
  · rcases List.mem_cons.mp hq with rfl | hq
    · refine ⟨upd_same, rfl, fun z => ?_, ?_⟩
      · obtain ⟨o, h1, _⟩ := m p z
        rw [z0] at h1
        cases h1
      · cases z : F0 p with
        | none => rfl
        | some u =>
          have := S.i p u (S.f0 p u z)
          rw [hp] at this
          cases this
    · obtain ⟨k1, k2, k3, k4⟩ := k q hq
      exact ⟨up _ _ k1, k2, k3, k4⟩
/-- .. written -/
theorem Lw.write {ks : List (Addr × HO)} {p : Addr} {acc acc2 : List V} (L : Lw K T C a dx pl ((p, .lst acc) :: ks) D r s F H) (hk : ∀ q, q ∈ ks → q.1 ≠ p) : Lw K T C a dx pl ((p, .lst acc2) :: ks) D r s F (L2.upd H p (.lst acc2)) := by
  obtain ⟨F0, H0, S, t, hF, m, k⟩ := L.ex
  obtain ⟨k1, k2, k3, k4⟩ := k (p, .lst acc) (by simp)
  obtain ⟨fp, _⟩ := S.release k1 k3 k4
  refine ⟨⟨F0, _, S.over (p := p) (o := .lst acc2) (by rw [k1]; exact fun z => by cases z) fp k3, fun q hq => ?_, hF, fun b hb => ?_, fun q hq => ?_⟩, L.dk⟩
  · obtain ⟨ps, h1, h2, h3⟩ := t q hq
    have ne : q.1 ≠ p := fun z => by rw [z, k1] at h1; cases h1
    refine ⟨ps, by rw [upd_ne ne]; exact h1, h2, fun pos cv hc => ?_⟩
    obtain ⟨c, e1, e2⟩ := h3 pos cv hc
    have ne : c ≠ p := fun z => by rw [z, k1] at e2; cases e2
    exact ⟨c, e1, by rw [upd_ne ne]; exact e2⟩
  · obtain ⟨o, h1, h2⟩ := m b hb
    exact ⟨o, by rw [upd_ne (fun z => k3 (by rw [← z]; exact hb))]; exact h1, h2⟩
  · rcases List.mem_cons.mp hq with rfl | hq
    · exact ⟨upd_same, rfl, k3, k4⟩
    · obtain ⟨k1, k2, k3, k4⟩ := k q (List.mem_cons_of_mem _ hq)
      exact ⟨by rw [upd_ne (hk q hq)]; exact k1, k2, k3, k4⟩
/-- the slots from other ones -/
theorem Sta.onto {r2 : List Slo} {s2 : L2.St} (S : Sta K M F0 H0 r2 s2 F H) (hl : s.length = r.length) (h : ∀ (j : Nat) (t : Slo), r[j]? = some t → t = .no ∨ (r2[j]? = some t ∧ s2[j]? = s[j]?)) : Sta K M F0 H0 r s F H := by
  have mu : ∀ (j : Nat) (t : Slo), r[j]? = some t → t.mut = true → r2[j]? = some t ∧ s2[j]? = s[j]? := fun j t e m => by
    rcases h j t e with z | z
    · rw [z] at m; cases m
    · exact z
  refine ⟨S.f0, S.i, S.h0, S.hd, S.n0, hl, fun j t e => ?_, fun i j t u p e1 e2 m1 m2 s1 s2 => ?_⟩
  · rcases h j t e with z | ⟨z1, z2⟩
    · exact .inl z
    · rw [← z2]
      exact S.sl j t z1
  · obtain ⟨a1, a2⟩ := mu i t e1 m1
    obtain ⟨b1, b2⟩ := mu j u e2 m2
    exact S.dj i j t u p a1 b1 m1 m2 (by rw [a2]; exact s1) (by rw [b2]; exact s2)
theorem Lw.onto {ks : List (Addr × HO)} {r2 : List Slo} {s2 : L2.St} (L : Lw K T C a dx pl ks D r2 s2 F H) (hl : s.length = r.length) (h4 : r[4]? = some (.dk C a dx pl D)) (h : ∀ (j : Nat) (t : Slo), r[j]? = some t → t = .no ∨ (r2[j]? = some t ∧ s2[j]? = s[j]?)) : Lw K T C a dx pl ks D r s F H := by
  obtain ⟨F0, H0, S, t⟩ := L.ex
  exact ⟨⟨F0, H0, S.onto hl h, t⟩, h4⟩
theorem wipe_at {s s2 : L2.St} {vs : List Nat} (h : wipe s2 vs = wipe s vs) {j : Nat} (hj : j ∉ vs) : s2[j]? = s[j]? := by
  rw [← wipe_out (σ := s2) hj, ← wipe_out (σ := s) hj, h]
/-- [e for x in xs if t]; R: the slots within -/
theorem eg_lc {α : Type} {tl : TE} {gt : TG} {vs : List Nat} (xs : List α) (f : α → PyData) (R : α → List Slo) (p : α → Bool) (g : α → PyData) (h : Ef K tl r (.list (xs.map f))) (hz : xs.length ≤ 90000)
    (hR : ∀ x, x ∈ xs → ∀ (j : Nat) (t : Slo), r[j]? = some t → t = .no ∨ ((R x)[j]? = some t ∧ j ∉ vs))
    (hg : ∀ x, x ∈ xs → ∀ ks s v F H, Lw K T C a dx pl ks D r s F H → Dp K F v (f x) → ∀ N : L2.St → Hp → Prop, (∀ s2, Lw K T C a dx pl ks D (R x) s2 F H → wipe s2 vs = wipe s vs → N s2 H) → gt v (wipe s vs) H N)
    (ht : ∀ x, x ∈ xs → Lgb K T C a dx pl D tt (R x) (p x)) (he : ∀ x, x ∈ xs → p x = true → Lg K T C a dx pl D te (R x) (g x)) : Lg K T C a dx pl D (tLc (iList K tl) gt tt te vs) r (.list ((xs.filter p).map g)) := fun ks s F H L Q q => by
  refine eg_of h ks s F H L _ fun v F1 H1 L1 z1 dl => ?_
  cases dl with
  | @lst src us _ sq dv =>
  have hlen : us.length = xs.length := by rw [dv.len, List.length_map]
  refine ⟨src, rfl, ⟨us, sl_up L1.sf sq⟩, fun Dl hD => ?_⟩
  obtain ⟨LJ, nk⟩ := L1.join hD
  -- what holds behind m items
  refine lc_list (K := K) (a := src) (xs := us) (fun m H' => ∃ F' acc, Lw K T C a dx pl ((Dl, .lst acc) :: ks) D r s F' H' ∧ FzS K F1 F' ∧ DpAll K F' acc (((xs.take m).filter p).map g)) ⟨F1, [], LJ, .of (Same.refl _), by simpa using .nil⟩ (fun m H' _ ⟨F', acc, L', z', _⟩ => sl_up L'.sf (z'.l _ _ sq)) (fun m x H' hx ⟨F', acc, L', z', da⟩ => ?_) (fun H' ⟨F', acc, L', z', da⟩ => ?_)
  · obtain ⟨d, e1, e2⟩ := dv.getV hx
    rw [List.getElem?_map] at e1
    cases ex : xs[m]? with
    | none => rw [ex] at e1; cases e1
    | some y =>
    rw [ex] at e1
    cases e1
    have hm : m < xs.length := (List.getElem?_eq_some_iff.mp ex).1
    have hmem : y ∈ xs := List.mem_of_getElem? ex
    refine hg y hmem _ s x F' H' L' (z'.d _ _ e2) _ fun s2 L2 w2 => ⟨w2, ?_⟩
    have hl : s.length = r.length := by
      obtain ⟨_, _, S, _⟩ := L.ex
      exact S.len
    have back : ∀ {acc2 : List V} {F3 H3 : Hp}, Lw K T C a dx pl ((Dl, .lst acc2) :: ks) D (R y) s2 F3 H3 → Lw K T C a dx pl ((Dl, .lst acc2) :: ks) D r s F3 H3 := fun h => h.onto hl L.dk fun j t ej => (hR y hmem j t ej).imp id fun ⟨z1, z2⟩ => ⟨z1, wipe_at w2 z2⟩
    refine ht y hmem _ _ _ _ L2 _ fun F3 H3 L3 z3 => ?_
    cases hp : p y with
    | false =>
      refine iteF ⟨F3, acc, back L3, z'.trans z3, ?_⟩
      rw [took p g ex, hp]
      exact z3.all da
    | true =>
      refine iteT (he y hmem hp _ _ _ _ L3 _ fun w F4 H4 L4 z4 dw => ⟨acc, L4.at_ (p := (Dl, .lst acc)) (by simp), ?_, F4, acc ++ [w], (back L4).write nk, (z'.trans z3).trans z4, ?_⟩)
      · rw [da.len]
        exact szLt (Nat.lt_of_le_of_lt (took_len m p g) (by omega))
      · rw [took p g ex, hp]
        exact ((z3.trans z4).all da).app (.one dw)
  · rw [hlen, List.take_length] at da
    obtain ⟨F2, L2, up, dl⟩ := L'.release nk da
    exact q (.ref Dl) F2 H' L2 ((z1.trans z').trans (.of up)) dl
end
section
variable {K : PySem.W.Frag} {M : Addr → Prop} {F0 H0 F H H1 F2 H2 : Hp} {r : List Slo} {s : L2.St} {C CI CN a dx pl : Addr} {D : DeskD} {T : List (Addr × Str)} {i j : Nat} {g : Web} {st : List Int} {t : Int} {ps : Past} {ta : TA} {line : PyData} {w : Int} {Q : VK}
/-- over another base, more given -/
theorem Sta.rebaseM {M2 : Addr → Prop} (S : Sta K (fun _ => False) F0 H0 r s F H) (h : ∀ b, ¬ M2 b → H1 b = H0 b) (hn : ∀ b, H1 b = none ↔ H0 b = none) : Sta K M2 F0 H1 r s F H := by
  refine ⟨S.f0, S.i, fun b o nm e => S.h0 b o (fun z => z) (by rw [← h b nm]; exact e), fun b e => S.hd b (fun z => e ((hn b).mpr z)), fun b e1 e2 k => S.n0 b e1 (fun z => e2 ((hn b).mpr z)) k, S.len, fun j u e => ?_, S.dj⟩
  rcases S.sl j u e with z | ⟨v, h1, h2⟩
  · exact .inl z
  · refine .inr ⟨v, h1, ?_⟩
    cases u with
    | no => trivial
    | ad w => exact h2
    | dk C a dx pl D => exact (h2.2.fa _ (.inl rfl)).2.1.elim
    | fz d => exact h2
    | mu ds =>
      obtain ⟨p, ws, e, f, z, a⟩ := h2
      exact ⟨p, ws, e, f, (hn p).mpr z, a⟩
    | pm ds =>
      obtain ⟨p, ws, e, f, z, a⟩ := h2
      exact z.1.elim
/-- Desk(web, state) -/
theorem sta_make (S : Sta K (fun _ => False) F0 H0 r s F H) (hw : r[i]? = some (.fz (encW g))) (hs : r[j]? = some (.fz (encS st))) (ok : WOk g) (so : SOk g.n st)
    (q : ∀ x dx pl F2 H2 H1, Sta K (three x dx pl) F0 H1 r s F2 H2 → VOk K (three x dx pl) H1 F2 H2 (.ref x) (.dk C x dx pl (deskD g st 0 [])) → (∀ b, ¬ three x dx pl b → H1 b = H0 b) → (∀ b, three x dx pl b → H0 b = none ∧ ∃ o, H1 b = some o ∧ plainO o = true) → Q (.ref x) H2) :
    tMake C (SpInit K C) [] L2.E0 (tCons (tVar i) (tCons (tVar j) tNil)) s H Q := by
  obtain ⟨vw, hvw, dw⟩ := S.fz hw
  obtain ⟨vs, hvs, ds⟩ := S.fz hs
  refine ⟨vw, hvw, vs, hvs, fun x dx hx hdx ne => ?_⟩
  rw [List.append_nil]
  -- the dict's marker, then the object
  have S1 := S.join (o := .own x) hdx
  have hx1 : upd H dx (.own x) x = none := by rw [upd_ne (Ne.symm ne)]; exact hx
  have S2 := S1.join (o := .ins C dx []) hx1
  have fx : F x = none := S.i.free hx
  have fd : F dx = none := S.i.free hdx
  refine ⟨F, g, st, x, dx, vw, vs, rfl, S2.i, dw, ds, ok, so, upd_same, fun F2 H2 pl gr hpl => ⟨rfl, ?_⟩⟩
  have S3 := S2.grow gr
  have S4 := S3.join (o := .lst []) hpl
  have h2x : H2 x = some (.ins C dx []) := gr.h _ _ upd_same
  have h2d : H2 dx = some (.own x) := gr.h _ _ (by rw [upd_ne ne, upd_same])
  have plx : pl ≠ x := fun z => by rw [z, h2x] at hpl; cases hpl
  have pld : pl ≠ dx := fun z => by rw [z, h2d] at hpl; cases hpl
  have f2x : F2 x = none := gr.n x fx ⟨_, upd_same, fun _ z => by cases z⟩
  have f2d : F2 dx = none := gr.n dx fd ⟨_, by rw [upd_ne ne, upd_same], fun _ z => by cases z⟩
  have f2p : F2 pl = none := gr.i.free hpl
  have S5 := S4.over (p := x) (o := .ins C dx (deskF vw vs 0 pl)) (by rw [upd_ne (Ne.symm plx), upd_same]; exact fun z => by cases z) f2x (fun z => z)
  have z0x : H0 x = none := hb_of S x hx
  have z0d : H0 dx = none := hb_of S dx hdx
  have z0p : H0 pl = none := by
    cases z : H0 pl with
    | none => rfl
    | some o =>
      have := S3.hd pl (by rw [upd_ne plx, upd_ne pld, z]; exact fun z => by cases z)
      exact absurd hpl this
  -- the desk's three are given
  have S6 : Sta K (three x dx pl) F0 (upd (upd (upd H0 dx (.own x)) x (.ins C dx (deskF vw vs 0 pl))) pl (.own x)) r s F2 (upd (upd H2 pl (.lst [])) x (.ins C dx (deskF vw vs 0 pl))) := by
    refine S5.rebaseM (fun b nb => ?_) (fun b => ?_)
    · have n1 : b ≠ x := fun z => nb (.inl z)
      have n2 : b ≠ dx := fun z => nb (.inr (.inl z))
      have n3 : b ≠ pl := fun z => nb (.inr (.inr z))
      rw [upd_ne n3, upd_ne n1, upd_ne n2, upd_ne n1, upd_ne n3, upd_ne n1, upd_ne n2]
    · by_cases n1 : b = x
      · rw [n1, upd_ne (Ne.symm plx), upd_same, upd_same]
      · by_cases n3 : b = pl
        · rw [n3, upd_same, upd_ne plx, upd_same]
          exact ⟨(fun z => by cases z), (fun z => by cases z)⟩
        · rw [upd_ne n3, upd_ne n1, upd_ne n1, upd_ne n3, upd_ne n1]
  refine q x dx pl F2 _ _ S6 ⟨rfl, fun b hb => ?_, upd_same, vw, vs, [], upd_same, ?_, ?_, Dp.up gr.f _ _ dw, Dp.up gr.f _ _ ds, .nil⟩ (fun b nb => ?_) (fun b hb => ?_)
  · rcases hb with rfl | rfl | rfl
    · exact ⟨f2x, .inl rfl, by rw [upd_ne (Ne.symm plx), upd_same]; exact fun z => by cases z⟩
    · exact ⟨f2d, .inr (.inl rfl), by rw [upd_ne (Ne.symm pld), upd_ne ne, upd_same]; exact fun z => by cases z⟩
    · exact ⟨f2p, .inr (.inr rfl), by rw [upd_same]; exact fun z => by cases z⟩
  · rw [upd_ne ne, upd_ne (Ne.symm pld)]
    exact h2d
  · rw [upd_ne plx, upd_same]
  · have n1 : b ≠ x := fun z => nb (.inl z)
    have n2 : b ≠ dx := fun z => nb (.inr (.inl z))
    have n3 : b ≠ pl := fun z => nb (.inr (.inr z))
    rw [upd_ne n3, upd_ne n1, upd_ne n2]
  · rcases hb with rfl | rfl | rfl
    · exact ⟨z0x, _, by rw [upd_ne (Ne.symm plx), upd_same], rfl⟩
    · exact ⟨z0d, _, by rw [upd_ne (Ne.symm pld), upd_ne ne, upd_same], rfl⟩
    · exact ⟨z0p, _, upd_same, rfl⟩
end
end Tm
set_option maxRecDepth 100000
set_option maxHeartbeats 4000000
/-! _law_told(lambda: _law_desk.run(e)). -/
namespace Tm
open PySem PySem.Spec PyProof.Rows L2 LamX
def lamQ : Str := ("law" : Str) ++ ".<locals>." ++ "<lambda>"
def TL (P : Addr) : List (Addr × Str) := [(P, lamQ)]
theorem pe_told {X : Cx} {j : Nat} {CI CN C fI c P0 : Addr} {arg : Expr} {ta : TE} {scope : Scope} {params : Arguments} {p lpos pos p1 p2 p3 : Pos} {pl : Env → Sem Bool} (FT : Ft X.K X.mg "_law_told" (top 67)) (WT : WordTxt X.prog X.K X.mg CI fI) (NT : NoteTxt X.K X.mg CN) (TB : TabB X.base X.mg c P0) (hcode : X.env.code = .ref c) (hr : Room j X.A) (hj : 8 ≤ j)
    (M : DMet X.prog X.w X.K X.mg X.base 6 C "run" (SpDesk X.K C CI CN preRun postRun)) (L : LamS X.env.scope scope) (hN : X.N[4]? = some ("_law_desk" : Str)) (hv : Vis scope "_law_desk")
    (ha : ∀ (A : Around) (outer : List Env) (s : Shared) (H : Hp) (E : XK) (f c' : Addr), Room 6 (A.deeper (lamEnv X scope s.heap.objs.size f c')) → PE (lamCx X A outer s H E scope f c') arg ta)
    (hq : X.env.qual ++ "<lambda>" = lamQ := by rfl) (hg : Gl X "_law_told" := by rfl) (hdef : defaultsOf params X.env = ([], []) := by rfl)
    (hbind : ∀ (q : Str) (cl : List (Str × Addr)) (pm cv ctv : Value), bindArgs (PySem.W.kla_fn "<lambda>" q params (.Call (.Attribute (.Name "_law_desk" p1) "run" p2) [arg] [] p3) scope cl pm cv ctv) ⟨[], []⟩ = pure [] := by intros; rfl)
    (hst : ∀ env, starEach [arg] env = (false, eval arg env) :: starEach [] env := by intro _; rfl) (hpl : ∀ env, (backTo p3 (starEach [] env)).any (·.1) = false := by intro _; rfl)
    (ht : ∀ env, eval (.Call (.Attribute (.Name "_law_desk" p1) "run" p2) [arg] [] p3) env = (do
      let ov ← eval (.Name "_law_desk" p1) env
      standAt p2.atName
      let (f, first) ← holding [ov] (getMethod ov "run" (pl env))
      callWith p3 f first (backTo p3 (starEach [arg] env)) (backToKw p3 (keywordEach [] env))) := by intro _; rfl) :
    PE X (.Call (.Name "_law_told" p) [.Lambda params (.Call (.Attribute (.Name "_law_desk" p1) "run" p2) [arg] [] p3) scope lpos] [] pos) (tLam (TL P0) (TTold2 X.K CI CN) (fun E => tMeth C "run" (SpDesk X.K C CI CN preRun postRun) [] E (tVar 4) (tCons ta tNil))) := by
  obtain ⟨g, fd, F, hm⟩ := FT.ex
  have b := F.binds (ps := ["_law_work"]) (fun _ _ _ _ _ _ us hl => match us, hl with | [_], _ => rfl)
  obtain ⟨oc, od, kV, doc, pm, an, cdv, ct, osl, rfl, lk, hcd⟩ := F.ex
  refine pe_lamcall (k := 6) hg hm F.kp lk hcd b sc_law_told rfl (Or.inl rfl) (told_gives2 WT NT.g) TB hcode ?_ ?_ (hr.mono (by omega)) L hdef hbind ?_
  · rw [hq]
    exact List.mem_singleton.mpr rfl
  · intro q hq2 _
    rw [hq, List.mem_singleton.mp hq2]
  · intro A outer s H E f c' hr6
    exact pe_dmt (X := lamCx X A outer s H E scope f c') (E := E) M hr6 (Nat.le_refl _) (takes_of rfl rfl rfl rfl) (fun _ _ _ _ h => h) (pe_var (i := 4) hN hv) (pa_cons (ha A outer s H E f c' hr6) pa_nil (hst _)) (hst _) (hpl _) (ht _)
end Tm
set_option maxRecDepth 100000
set_option maxHeartbeats 4000000
/-! The law: more rules of statements, the last mathematics. -/
namespace Tm
open PySem PySem.Spec PyProof.Rows L2 LamX
section
variable {K : PySem.W.Frag} {M : Addr → Prop} {F0 H0 F H H1 F2 H2 : Hp} {r r0 : List Slo} {s : L2.St} {te tb : TE} {ta : TA} {t u : TS} {d d1 d2 d3 : PyData} {ds es : List PyData} {A : Af} {i j l k : Nat}
theorem dps3 {vs : List V} (h : DpAll K F vs [d1, d2, d3]) : ∃ x y z, vs = [x, y, z] ∧ Dp K F x d1 ∧ Dp K F y d2 ∧ Dp K F z d3 := by
  obtain ⟨x, ws, rfl, a, h⟩ := dp_cons h
  obtain ⟨y, zs, rfl, b, h⟩ := dp_cons h
  obtain ⟨z, os, rfl, c, h⟩ := dp_cons h
  cases h
  exact ⟨x, y, z, rfl, a, b, c⟩
theorem sd_par3V (h : Eva K ta r fun ds r' => ∃ d1 d2 d3, ds = [d1, d2, d3] ∧ A.nx (((r'.set i (.fz d1)).set j (.fz d2)).set l (.fz d3))) : Sd K (tPar3 i j l ta) r A := fun M F0 H0 s F H D S W =>
  h _ _ _ _ _ _ S _ fun vs ds r' F2 H2 p f S2 dv => by
    obtain ⟨d1, d2, d3, rfl, q⟩ := p
    obtain ⟨x, y, z, rfl, a, b, c⟩ := dps3 dv
    exact ⟨x, y, z, rfl, W.nx _ _ F2 H2 q (((S2.setF a).setF b).setF c)⟩
theorem sd_par2V (h : Eva K ta r fun ds r' => ∃ d1 d2, ds = [d1, d2] ∧ A.nx ((r'.set i (.fz d1)).set j (.fz d2))) : Sd K (tPar i j ta) r A := fun M F0 H0 s F H D S W =>
  h _ _ _ _ _ _ S _ fun vs ds r' F2 H2 p f S2 dv => by
    obtain ⟨d1, d2, rfl, q⟩ := p
    obtain ⟨x, ws, rfl, a, h⟩ := dp_cons dv
    obtain ⟨y, zs, rfl, b, h⟩ := dp_cons h
    cases h
    exact ⟨x, y, rfl, W.nx _ _ F2 H2 q ((S2.setF a).setF b)⟩
theorem sd_for1V (J : Nat → Nat → List Slo → Prop) (h : Eva K ta r fun ds r' => ∃ n : Nat, ds = [iN n] ∧ n ≤ 1000 ∧ J n 0 r') (hs : ∀ (n m : Nat) r', m < n → n ≤ 1000 → J n m r' → Sd K t (r'.set k (.fz (iN m))) (A.loop (J n (m + 1)))) (hd : ∀ n r', n ≤ 1000 → J n n r' → A.nx r') : Sd K (tFor (iRng1 ta) (gName k) t) r A := fun M F0 H0 s F H D S W => by
  refine h _ _ _ _ _ _ S _ fun vs ds r1 F1 H1 p f1 S1 a => ?_
  obtain ⟨n, rfl, hn, j0⟩ := p
  obtain rfl := DpAll.of_ints (ns := [(n : Int)]) a
  refine ⟨n, rfl, by omega, by omega, for_range (lo := 0) (n := (n : Int).toNat) (fun m s' H' => ∃ r' F', J n m r' ∧ Sta K M F0 H0 r' s' F' H') ⟨r1, F1, j0, S1⟩ (fun m s' H' hm => ?_) (fun s' H' => ?_)⟩
  · rintro ⟨r', F', a, S'⟩
    have e : (0 : Int) + (m : Int) = m := by omega
    rw [e]
    rw [Int.toNat_natCast] at hm
    exact hs n m r' hm hn a M F0 H0 _ F' H' _ (S'.setF (.int _)) (W.loop fun r s F H b T => ⟨r, F, b, T⟩)
  · rintro ⟨r', F', a, S'⟩
    rw [Int.toNat_natCast] at a
    exact W.nx r' s' F' H' (hd n r' hn a) S'
/-- xs + [..], xs the list in slot k -/
theorem en_cat (e : r[k]? = some (.mu ds)) (hb : En K tb r es) (hl : ds.length + es.length ≤ 100000) : En K (tOp rCat (tVar k) tb) r (ds ++ es) := by
  intro M F0 H0 s F H S Q q
  obtain ⟨p, vs, hs, f, z, b, c⟩ := S.mu e
  refine ⟨_, hs, ?_⟩
  refine hb _ _ _ _ _ _ S _ fun p2 ws F1 H1 g1 hp2 hf2 hh2 dw => ?_
  refine ⟨p, p2, vs, ws, rfl, rfl, g1.h _ _ b, hh2, by rw [c.len, dw.len]; exact szOf hl, fun x hx => ?_⟩
  have g2 : Grow F1 H1 F1 (upd H1 x (.lst (vs ++ ws))) := Grow.newM g1.i hx
  exact q x _ F1 _ (g1.trans g2) (g1.h.free hx) (g1.i.free hx) upd_same ((DpAll.up g1.f _ _ c).app dw)
/-- slots forgotten -/
def Wkn : List Slo → List Slo → Prop
  | [], [] => True
  | t :: r, u :: r0 => (u = .no ∨ u = t) ∧ Wkn r r0
  | _, _ => False
theorem Wkn.len : ∀ {r r0 : List Slo}, Wkn r r0 → r.length = r0.length
  | [], [], _ => rfl
  | _ :: _, _ :: _, h => congrArg (· + 1) (Wkn.len h.2)
theorem Wkn.get : ∀ {r r0 : List Slo} {j : Nat} {t : Slo}, Wkn r r0 → r0[j]? = some t → t = .no ∨ r[j]? = some t
  | [], [], _, _, _, e => by simp at e
  | a :: r, b :: r0, 0, t, h, e => by
    simp at e
    subst e
    exact h.1.imp id fun z => by rw [z]; rfl
  | a :: r, b :: r0, j + 1, t, h, e => by
    have := Wkn.get (j := j) h.2 (by simpa using e)
    simpa using this
theorem Wkn.refl : ∀ r : List Slo, Wkn r r
  | [] => trivial
  | t :: r => ⟨.inr rfl, Wkn.refl r⟩
theorem Sta.wkn (S : Sta K M F0 H0 r s F H) (h : Wkn r r0) : Sta K M F0 H0 r0 s F H := S.onto (by rw [S.len, h.len]) fun j t e => (h.get e).imp id fun z => ⟨z, rfl⟩
theorem sd_wk (h : Wkn r r0) (q : Sd K t r0 A) : Sd K t r A := fun M F0 H0 s F H D S W => q M F0 H0 s F H D (S.wkn h) W
end
section
variable {K : PySem.W.Frag} {F H F2 H2 : Hp} {r r0 : List Slo} {s : L2.St} {C a dx pl : Addr} {D D' : DeskD} {T : List (Addr × Str)} {ks : List (Addr × HO)} {t u : TS} {E : Ends}
theorem Lw.wkn (L : Lw K T C a dx pl ks D r s F H) (h : Wkn r r0) (h4 : r0[4]? = some (.dk C a dx pl D)) : Lw K T C a dx pl ks D r0 s F H := by
  obtain ⟨F0, H0, S, t⟩ := L.ex
  exact ⟨⟨F0, H0, S.wkn h, t⟩, h4⟩
/-- a statement of the law that only goes on -/
theorem Lw.run {N : List Slo → Prop} (L : Lw K T C a dx pl ks D r s F H) (h : Sd K t r { nx := N }) (hn : ∀ r' s' F' H', N r' → (∀ D', r'[4]? = some (.dk C a dx pl D') → Lw K T C a dx pl ks D' r' s' F' H') → u E s' H') : tSeq t u E s H := by
  obtain ⟨F0, H0, S, x⟩ := L.ex
  exact run_nx S h fun r' s' F' H' n S' => hn r' s' F' H' n fun D' e => ⟨⟨F0, H0, S', x⟩, e⟩
/-- if .. : return False, not taken -/
theorem Lw.skip {tt : TT} {tr : TS} (L : Lw K T C a dx pl ks D r s F H) (h : Lgb K T C a dx pl D tt r false) (hn : ∀ F' H', Lw K T C a dx pl ks D r s F' H' → u E s H') : tSeq (tIfS tt tr tNext) u E s H :=
  h ks s F H L _ fun F2 H2 L2 _ => iteF (hn F2 H2 L2)
end
/-! ### who changes; when all is still -/
section
variable {g : Web} {st : List Int}
theorem some_is (ok : WOk g) (so : SOk g.n st) : ((List.range g.n).filter fun i => !decide (ms (nxt g st) i = ms st i)) = stirL g st := by
  unfold stirL
  refine List.filter_congr fun i hi => ?_
  have hi := List.mem_range.mp hi
  have := so.lim hi
  rw [ms_nxt hi]
  cases stirB g st i with
  | true =>
    rw [if_pos rfl, decide_eq_false (by omega)]
    rfl
  | false =>
    rw [if_neg Bool.false_ne_true, decide_eq_true (by omega)]
    rfl
theorem pot_still (ok : WOk g) (so : SOk g.n st) {P : Nat → Int} (p : Pot g st P) : StillAt g st g.n := (still_cnt ok so).mpr fun i hi => by
  obtain ⟨⟨j, w⟩, _⟩ := cnt_top (st := st) (g.n + 1) hi
  obtain ⟨⟨k, w2⟩, top2⟩ := cnt_top (st := st) g.n hi
  obtain ⟨e, rc⟩ := wk_sum p w
  obtain ⟨d, _, hl⟩ := lev_ex rc
  obtain ⟨z, wz⟩ := rc_wk (st := st) (hl.1.mono (Nat.le_of_lt (lev_lt hl)))
  have a := top2 j z wz
  have b := (wk_sum p wz).1
  have c : Wk g st (g.n + 1) i k (cnt g st g.n i) := ⟨k, cnt g st g.n i, 0, w2, ⟨w2.lt.2, w2.lt.2, .inl ⟨rfl, rfl⟩⟩, by omega⟩
  have d := (cnt_top (st := st) (g.n + 1) hi).2 k _ c
  omega
theorem tick_ex {h : Nat → Int} (H : IsH g st h) : ∃ t, IsTick g h t := by
  have key : ∀ b, b ≤ g.n → ∃ t, (∀ i, i < b → ∃ m, NearTop g h i m ∧ m ≤ t) ∧ (t = 0 ∨ ∃ i, i < b ∧ NearTop g h i t) := fun b => by
    induction b with
    | zero => exact fun _ => ⟨0, fun i hi => absurd hi (Nat.not_lt_zero i), .inl rfl⟩
    | succ b ih =>
      intro hb
      obtain ⟨t, h1, h2⟩ := ih (by omega)
      obtain ⟨m, hm⟩ := neartop_ex H (show b < g.n by omega)
      by_cases q : m ≤ t
      · refine ⟨t, fun i hi => ?_, h2.imp id fun ⟨i, a, c⟩ => ⟨i, by omega, c⟩⟩
        by_cases z : i = b
        · subst z; exact ⟨m, hm, q⟩
        · exact h1 i (by omega)
      · refine ⟨m, fun i hi => ?_, .inr ⟨b, by omega, hm⟩⟩
        by_cases z : i = b
        · subst z; exact ⟨m, hm, Nat.le_refl _⟩
        · obtain ⟨m', a, c⟩ := h1 i (by omega)
          exact ⟨m', a, by omega⟩
  obtain ⟨t, h1, h2⟩ := key g.n (Nat.le_refl _)
  exact ⟨t, h1, h2⟩
def restY : Option Nat → Str
  | some k => nS (k : Int)
  | none => "never"
theorem rest_ex (ok : WOk g) (so : SOk g.n st) : ∃ o : Option Nat, (match o with | some k => First g st k ∧ k ≤ 12 | none => ∀ k, k ≤ 12 → ¬ StillAt g st k) ∧ RestS g st (restY o) ∧ ∀ k, o = some k → k ≤ 6 := by
  have n6 := ok.n6
  by_cases h : StillAt g st g.n
  · have H := still_pot ok so h
    obtain ⟨t, ht⟩ := tick_ex H
    have f := tick_first ok so H ht
    have := tick_lt ht ok.n1
    exact ⟨some t, ⟨f, by omega⟩, .inl ⟨_, t, H, ht, rfl⟩, fun k e => by cases e; omega⟩
  · have np : ¬ ∃ P, Pot g st P := fun ⟨P, p⟩ => h (pot_still ok so p)
    refine ⟨none, fun k _ hk => np ⟨_, (still_pot ok so hk).gap⟩, .inr ⟨np, rfl⟩, fun k e => by cases e⟩
end
end Tm
set_option maxRecDepth 100000
set_option maxHeartbeats 4000000
/-! The lines. -/
namespace Tm
open PySem PySem.Spec PyProof.Rows L2
def lnB (x : Str) (ws : List Str) (w : Str) (o : Option Int) : Bool := decide (Txt.split x " " = ws) && (decide (x.length ≤ 90000) && (decide (ws.length ≤ 1000) && (decide (ws[0]? = some w) && (decide ((w, o) ∈ wordTab) && ws.all tameW))))
theorem ln_mk {x : Str} {ws : List Str} {w : Str} {o : Option Int} (h : lnB x ws w o = true) : Ln x ws w o := by
  unfold lnB at h
  simp only [Bool.and_eq_true, decide_eq_true_eq, List.all_eq_true] at h
  obtain ⟨h1, h2, h3, h4, h5, h6⟩ := h
  exact ⟨h1, h2, h3, h4, h5, h6⟩
section
variable {ws : List Str} {k : Nat} {lo hi n : Int} {x w : Str} {emp : Bool} {L : Int}
theorem numAt_ok (h1 : ws[k]? = some x) (h2 : numIn x = some n) (h3 : lo ≤ n ∧ n ≤ hi) : numAt ws k lo hi = .ok (.int n) := by
  unfold numAt
  rw [h1]
  simp only [h2]
  rw [if_pos h3]
theorem numAt_out (h1 : ws[k]? = some x) (h2 : numIn x = some n) (h3 : ¬ (lo ≤ n ∧ n ≤ hi)) : numAt ws k lo hi = .word k := by
  unfold numAt
  rw [h1]
  simp only [h2]
  rw [if_neg h3]
theorem numAt_non (h1 : ws[k]? = some x) (h2 : numIn x = none) : numAt ws k lo hi = .word k := by
  unfold numAt
  rw [h1]
  simp only [h2]
theorem numAt_end (h1 : ws[k]? = none) : numAt ws k lo hi = .word ws.length := by
  unfold numAt
  rw [h1]
theorem nums_plain (hb : decide (w = "back") = false) (ht : decide (w = "ticks") = false) (hp : decide (w = "paint") = false) (hs : decide (w = "speed") = false) : numsOf n emp ws w (some L) = if L < (ws.length : Int) then .word L else .ok (.list []) := by
  rw [numsOf_some, hb, ht, hp, hs]
  rfl
theorem nums_back : numsOf n emp ws "back" (some 1) = if emp then .word 0 else if (1 : Int) < (ws.length : Int) then .word 1 else .ok (.list []) := by
  rw [numsOf_some, show decide (("back" : Str) = "back") = true by decide, show decide (("back" : Str) = "ticks") = false by decide, show decide (("back" : Str) = "paint") = false by decide, show decide (("back" : Str) = "speed") = false by decide]
  cases emp <;> rfl
theorem nums_ticks : numsOf n emp ws "ticks" (some 2) = addN true [] (numAt ws 1 1 mostT) fun f => if (2 : Int) < (ws.length : Int) then .word 2 else .ok (.list f) := by
  rw [numsOf_some, show decide (("ticks" : Str) = "back") = false by decide, show decide (("ticks" : Str) = "ticks") = true by decide, show decide (("ticks" : Str) = "paint") = false by decide, show decide (("ticks" : Str) = "speed") = false by decide]
  rfl
theorem nums_speed : numsOf n emp ws "speed" (some 2) = addN true [] (numAt ws 1 0 (n - 1)) fun f => if (2 : Int) < (ws.length : Int) then .word 2 else .ok (.list f) := by
  rw [numsOf_some, show decide (("speed" : Str) = "back") = false by decide, show decide (("speed" : Str) = "ticks") = false by decide, show decide (("speed" : Str) = "paint") = false by decide, show decide (("speed" : Str) = "speed") = true by decide]
  rfl
theorem nums_paint : numsOf n emp ws "paint" (some 3) = addN true [] (numAt ws 1 0 (n - 1)) fun f => addN true f (numAt ws 2 0 2) fun f => if (3 : Int) < (ws.length : Int) then .word 3 else .ok (.list f) := by
  rw [numsOf_some, show decide (("paint" : Str) = "back") = false by decide, show decide (("paint" : Str) = "ticks") = false by decide, show decide (("paint" : Str) = "paint") = true by decide, show decide (("paint" : Str) = "speed") = false by decide]
  rfl
end
theorem num_small : ∀ i : Nat, i < 7 → numIn (nS (i : Int)) = some (i : Int) := by decide +kernel
/-! ### lines that stand -/
section
variable {g : Web} {st : List Int} {t : Int} {ps : Past}
theorem run_tick (hl : ps.length ≤ 1000) : RunOk g st t ps (.str "tick") (.ok (.str "")) (deskD g (itr g st 1) (t + 1) (ps ++ [(st, t)])) :=
  .good (ws := ["tick"]) (w := "tick") (o := some 1) (ns := []) (ln_mk (by decide +kernel)) ((nums_plain (by decide) (by decide) (by decide) (by decide)).trans (if_neg (by decide))) (.tick hl)
theorem run_back {p : List Int × Int} {ps' : Past} (h : ps = ps' ++ [p]) : RunOk g st t ps (.str "back") (.ok (.str "")) (deskD g p.1 p.2 ps') :=
  .good (ws := ["back"]) (w := "back") (o := some 1) (ns := []) (ln_mk (by decide +kernel)) (by
    have e : ps.isEmpty = false := by rw [h]; cases ps' <;> rfl
    rw [nums_back, e]
    rfl) (.back h)
theorem run_ticks {x : Str} {k : Nat} (hl : ps.length ≤ 1000) (h : lnB ("ticks " ++ x) ["ticks", x] "ticks" (some 2) = true) (hn : numIn x = some (k : Int)) (hk : 1 ≤ (k : Int) ∧ (k : Int) ≤ mostT) : RunOk g st t ps (.str ("ticks " ++ x)) (.ok (.str "")) (deskD g (itr g st k) (t + k) (ps ++ [(st, t)])) :=
  .good (ws := ["ticks", x]) (w := "ticks") (o := some 2) (ns := [iN k]) (ln_mk h) (by
    rw [nums_ticks, numAt_ok (x := x) rfl hn hk]
    rfl) (.ticks hl)
theorem paint_ln : ∀ i : Nat, i < 6 → ∀ m : Nat, m < 3 → lnB ("paint " ++ nS (i : Int) ++ " " ++ nS (m : Int)) ["paint", nS (i : Int), nS (m : Int)] "paint" (some 3) = true := by decide +kernel
theorem run_paint {i m : Nat} (ok : WOk g) (hl : ps.length ≤ 1000) (hi : i < g.n) (hm : m < 3) : RunOk g st t ps (.str ("paint " ++ nS (i : Int) ++ " " ++ nS (m : Int))) (.ok (.str "")) (deskD g (st.set i (m : Int)) (t + 0) (ps ++ [(st, t)])) :=
  .good (ws := ["paint", nS (i : Int), nS (m : Int)]) (w := "paint") (o := some 3) (ns := [iN i, .int (m : Int)]) (ln_mk (paint_ln i (by have := ok.n6; omega) m hm)) (by
    have := ok.n6
    rw [nums_paint, numAt_ok (x := nS (i : Int)) rfl (num_small i (by omega)) ⟨by omega, by omega⟩, numAt_ok (x := nS (m : Int)) rfl (num_small m (by omega)) ⟨by omega, by omega⟩]
    rfl) (.paint hi hl)
theorem run_state : RunOk g st t ps (.str "state") (.ok (.str (txtS st))) (deskD g st t ps) :=
  .good (ws := ["state"]) (w := "state") (o := some 1) (ns := []) (ln_mk (by decide +kernel)) ((nums_plain (by decide) (by decide) (by decide) (by decide)).trans (if_neg (by decide))) (.ask (.inl ⟨rfl, rfl⟩))
theorem run_stirred : RunOk g st t ps (.str "stirred") (.ok (.str (stirS g st))) (deskD g st t ps) :=
  .good (ws := ["stirred"]) (w := "stirred") (o := some 1) (ns := []) (ln_mk (by decide +kernel)) ((nums_plain (by decide) (by decide) (by decide) (by decide)).trans (if_neg (by decide))) (.ask (.inr (.inl ⟨rfl, rfl⟩)))
theorem run_rest {y : Str} (h : RestS g st y) : RunOk g st t ps (.str "rest") (.ok (.str y)) (deskD g st t ps) :=
  .good (ws := ["rest"]) (w := "rest") (o := some 1) (ns := []) (ln_mk (by decide +kernel)) ((nums_plain (by decide) (by decide) (by decide) (by decide)).trans (if_neg (by decide))) (.ask (.inr (.inr (.inl ⟨rfl, y, h, rfl⟩))))
theorem speed_ln : ∀ i : Nat, i < 6 → lnB ("speed " ++ nS (i : Int)) ["speed", nS (i : Int)] "speed" (some 2) = true := by decide +kernel
theorem run_speed {i : Nat} (ok : WOk g) (hi : i < g.n) : RunOk g st t ps (.str ("speed " ++ nS (i : Int))) (.ok (.str (spdS g st i))) (deskD g st t ps) :=
  .good (ws := ["speed", nS (i : Int)]) (w := "speed") (o := some 2) (ns := [iN i]) (ln_mk (speed_ln i (by have := ok.n6; omega))) (by
    have := ok.n6
    rw [nums_speed, numAt_ok (x := nS (i : Int)) rfl (num_small i (by omega)) ⟨by omega, by omega⟩]
    rfl) (.ask (.inr (.inr (.inr (.inl ⟨rfl, i, hi, rfl, rfl⟩)))))
/-! ### lines that cannot stand -/
theorem bad_of {x w : Str} {ws : List Str} {o : Option Int} {j : Int} (h : lnB x ws w o = true) (hn : numsOf g.n ps.isEmpty ws w o = .word j) : RunOk g st t ps (.str x) (.word j) (deskD g st t ps) := .bad (ln_mk h) hn
theorem bad_no {x w : Str} {ws : List Str} (h : lnB x ws w none = true) : RunOk g st t ps (.str x) (.word 0) (deskD g st t ps) := bad_of h rfl
theorem bad_more {x w : Str} {ws : List Str} {L : Int} (h : lnB x ws w (some L) = true) (hw : (decide (w = "back") || decide (w = "ticks") || decide (w = "paint") || decide (w = "speed")) = false) (hl : L < (ws.length : Int)) : RunOk g st t ps (.str x) (.word L) (deskD g st t ps) := by
  simp only [Bool.or_eq_false_iff] at hw
  obtain ⟨⟨⟨h1, h2⟩, h3⟩, h4⟩ := hw
  exact bad_of h ((nums_plain h1 h2 h3 h4).trans (if_pos hl))
/-- ticks: no number of the bounds -/
theorem bad_ticks {x y : Str} {ws : List Str} (h : lnB x ("ticks" :: y :: ws) "ticks" (some 2) = true) (hy : numIn y = none ∨ numIn y = some 0) : RunOk g st t ps (.str x) (.word 1) (deskD g st t ps) := by
  refine bad_of h ?_
  rw [nums_ticks]
  rcases hy with hy | hy
  · rw [numAt_non (x := y) rfl hy]; rfl
  · rw [numAt_out (x := y) rfl hy (by omega)]; rfl
theorem back_first : RunOk g st t [] (.str "back") (.word 0) (deskD g st t []) := .bad (ws := ["back"]) (w := "back") (o := some 1) (ln_mk (by decide +kernel)) (by rw [nums_back]; rfl)
/-- the law's rows -/
def badA : List (Str × Int) := [("", 0), ("Tick", 0), ("tick 1", 1), ("ticks", 1), ("ticks 0", 1), ("ticks 01", 1), ("ticks 1 2", 2), ("ticks x", 1)]
def badB (n : Nat) : List (Str × Int) := [("paint", 1), ("paint 0", 2), ("paint 0 3", 2), ("paint " ++ nS (n : Int) ++ " 0", 1), ("paint 0 1 2", 3)]
def badC : List (Str × Int) := [("state ", 1), (" state", 0), ("speed", 1), ("speed 0 0", 2), ("rest 1", 1), ("ticks 1" ++ timesS "0" 30 ++ "1", 1)]
def badD (e : Bool) : List (Str × Int) := [("ticks " ++ timesS "9" 99, 1), ("paint 00 1", 1), ("back 1", if e then 0 else 1), ("stirred all", 1), ("speed -1", 1)]
theorem num_0 : numIn "0" = some 0 := by decide +kernel
theorem bad_A : ∀ p, p ∈ badA → RunOk g st t ps (.str p.1) (.word p.2) (deskD g st t ps) := by
  intro p hp
  unfold badA at hp
  simp only [List.mem_cons, List.not_mem_nil, or_false] at hp
  rcases hp with rfl | rfl | rfl | rfl | rfl | rfl | rfl | rfl
  · exact bad_no (ws := [""]) (w := "") (by decide +kernel)
  · exact bad_no (ws := ["Tick"]) (w := "Tick") (by decide +kernel)
  · exact bad_more (ws := ["tick", "1"]) (w := "tick") (by decide +kernel) (by decide) (by decide)
  · refine bad_of (ws := ["ticks"]) (w := "ticks") (o := some 2) (by decide +kernel) ?_
    rw [nums_ticks, numAt_end rfl]
    rfl
  · exact bad_ticks (y := "0") (ws := []) (by decide +kernel) (.inr (by decide +kernel))
  · exact bad_ticks (y := "01") (ws := []) (by decide +kernel) (.inl (by decide +kernel))
  · refine bad_of (ws := ["ticks", "1", "2"]) (w := "ticks") (o := some 2) (by decide +kernel) ?_
    rw [nums_ticks, numAt_ok (x := "1") (n := 1) rfl (by decide +kernel) (by decide)]
    rfl
  · exact bad_ticks (y := "x") (ws := []) (by decide +kernel) (.inl (by decide +kernel))
theorem paintn_ln : ∀ i : Nat, i < 7 → lnB ("paint " ++ nS (i : Int) ++ " 0") ["paint", nS (i : Int), "0"] "paint" (some 3) = true := by decide +kernel
theorem bad_B (ok : WOk g) : ∀ p, p ∈ badB g.n → RunOk g st t ps (.str p.1) (.word p.2) (deskD g st t ps) := by
  intro p hp
  have n1 := ok.n1
  have n6 := ok.n6
  unfold badB at hp
  simp only [List.mem_cons, List.not_mem_nil, or_false] at hp
  rcases hp with rfl | rfl | rfl | rfl | rfl
  · refine bad_of (ws := ["paint"]) (w := "paint") (o := some 3) (by decide +kernel) ?_
    rw [nums_paint, numAt_end rfl]
    rfl
  · refine bad_of (ws := ["paint", "0"]) (w := "paint") (o := some 3) (by decide +kernel) ?_
    rw [nums_paint, numAt_ok (x := "0") rfl num_0 ⟨by omega, by omega⟩, numAt_end rfl]
    rfl
  · refine bad_of (ws := ["paint", "0", "3"]) (w := "paint") (o := some 3) (by decide +kernel) ?_
    rw [nums_paint, numAt_ok (x := "0") rfl num_0 ⟨by omega, by omega⟩, numAt_out (x := "3") (n := 3) rfl (by decide +kernel) (by omega)]
    rfl
  · refine bad_of (ws := ["paint", nS (g.n : Int), "0"]) (w := "paint") (o := some 3) (paintn_ln g.n (by omega)) ?_
    rw [nums_paint, numAt_out (x := nS (g.n : Int)) rfl (num_small g.n (by omega)) (by omega)]
    rfl
  · refine bad_of (ws := ["paint", "0", "1", "2"]) (w := "paint") (o := some 3) (by decide +kernel) ?_
    rw [nums_paint, numAt_ok (x := "0") rfl num_0 ⟨by omega, by omega⟩, numAt_ok (x := "1") (n := 1) rfl (by decide +kernel) (by decide)]
    rfl
theorem bad_C (ok : WOk g) : ∀ p, p ∈ badC → RunOk g st t ps (.str p.1) (.word p.2) (deskD g st t ps) := by
  intro p hp
  have n1 := ok.n1
  unfold badC at hp
  simp only [List.mem_cons, List.not_mem_nil, or_false] at hp
  rcases hp with rfl | rfl | rfl | rfl | rfl | rfl
  · exact bad_more (ws := ["state", ""]) (w := "state") (by decide +kernel) (by decide) (by decide)
  · exact bad_no (ws := ["", "state"]) (w := "") (by decide +kernel)
  · refine bad_of (ws := ["speed"]) (w := "speed") (o := some 2) (by decide +kernel) ?_
    rw [nums_speed, numAt_end rfl]
    rfl
  · refine bad_of (ws := ["speed", "0", "0"]) (w := "speed") (o := some 2) (by decide +kernel) ?_
    rw [nums_speed, numAt_ok (x := "0") rfl num_0 ⟨by omega, by omega⟩]
    rfl
  · exact bad_more (ws := ["rest", "1"]) (w := "rest") (by decide +kernel) (by decide) (by decide)
  · exact bad_ticks (y := "1" ++ timesS "0" 30 ++ "1") (ws := []) (by decide +kernel) (.inl (by decide +kernel))
theorem bad_D : ∀ p, p ∈ badD ps.isEmpty → RunOk g st t ps (.str p.1) (.word p.2) (deskD g st t ps) := by
  intro p hp
  unfold badD at hp
  simp only [List.mem_cons, List.not_mem_nil, or_false] at hp
  rcases hp with rfl | rfl | rfl | rfl | rfl
  · exact bad_ticks (y := timesS "9" 99) (ws := []) (by decide +kernel) (.inl (by decide +kernel))
  · refine bad_of (ws := ["paint", "00", "1"]) (w := "paint") (o := some 3) (by decide +kernel) ?_
    rw [nums_paint, numAt_non (x := "00") rfl (by decide +kernel)]
    rfl
  · refine bad_of (ws := ["back", "1"]) (w := "back") (o := some 1) (show lnB "back 1" ["back", "1"] "back" (some 1) = true by decide +kernel) ?_
    rw [nums_back]
    cases ps.isEmpty <;> rfl
  · exact bad_more (ws := ["stirred", "all"]) (w := "stirred") (by decide +kernel) (by decide) (by decide)
  · refine bad_of (ws := ["speed", "-1"]) (w := "speed") (o := some 2) (by decide +kernel) ?_
    rw [nums_speed, numAt_non (x := "-1") rfl (by decide +kernel)]
    rfl
/-- the ticks asked for -/
theorem run_many {k : Nat} (hl : ps.length ≤ 1000) (hk : k = 1 ∨ k = 2 ∨ k = 5 ∨ k = 1000000000000000000000000000000 ∨ k = 1000000000007) : RunOk g st t ps (.str ("ticks " ++ nS (k : Int))) (.ok (.str "")) (deskD g (itr g st k) (t + k) (ps ++ [(st, t)])) := by
  rcases hk with rfl | rfl | rfl | rfl | rfl <;> exact run_ticks hl (by decide +kernel) (by decide +kernel) (by decide +kernel)
end
end Tm
set_option maxRecDepth 100000
set_option maxHeartbeats 4000000
/-! The law: last rules. -/
namespace Tm
open PySem PySem.Spec PyProof.Rows L2 LamX
section
variable {K : PySem.W.Frag} {M : Addr → Prop} {F0 H0 F H H1 F2 H2 : Hp} {r r0 : List Slo} {s : L2.St} {te tb : TE} {ta : TA} {t u : TS} {d d1 d2 d3 : PyData} {ds es : List PyData} {A : Af} {i j l k : Nat}
theorem sd_popTup (e : r[k]? = some (.mu (ds ++ [.tuple [d1, d2]]))) (q : A.nx (((r.set k (.mu ds)).set i (.fz d1)).set j (.fz d2))) : Sd K (tAsg (tBM0 K "list" rPop (tVar k)) (gTup K 2 (gCons (gName i) (gCons (gName j) gNil)))) r A := fun M F0 H0 s F H D S W => by
  obtain ⟨p, vs, hs, f, z, b, c⟩ := S.mu e
  obtain ⟨us, y, rfl, h7, h8⟩ := dpAll_snoc c
  refine ⟨_, hs, .inl ⟨rfl, _, SqL.of b⟩, p, us ++ [y], y, rfl, rfl, b, by simp, ?_⟩
  rw [List.dropLast_concat]
  have S2 := S.write e hs h7
  cases h8 with
  | @tup a vs _ sq dv =>
  obtain ⟨x, ws, rfl, a1, dv⟩ := dp_cons dv
  obtain ⟨y, zs, rfl, a2, dv⟩ := dp_cons dv
  cases dv
  exact ⟨a, [x, y], rfl, st_up S2.i sq, rfl, x, [y], rfl, y, [], rfl, rfl, W.nx _ _ F _ q ((S2.setF a1).setF a2)⟩
theorem Wkn.set {t : Slo} : ∀ {r r0 : List Slo} {k : Nat}, Wkn r r0 → Wkn (r.set k t) (r0.set k t)
  | [], [], _, _ => trivial
  | _ :: _, _ :: _, 0, h => ⟨.inr rfl, h.2⟩
  | _ :: _, _ :: _, k + 1, h => ⟨h.1, Wkn.set (k := k) h.2⟩
theorem mut_ne {p : Addr} (S : Sta K M F0 H0 r s F H) (hp : H p = none) : ∀ (j : Nat) (u : Slo), r[j]? = some u → u.mut = true → s[j]? ≠ some (some (.ref p)) := fun j u e m w => by
  obtain ⟨vs, x⟩ := S.known e m w
  rw [hp] at x
  cases x
end
section
variable {K : PySem.W.Frag} {F H F2 H2 : Hp} {r r0 : List Slo} {s : L2.St} {C CI CN a dx pl : Addr} {D D' : DeskD} {T : List (Addr × Str)} {ks : List (Addr × HO)} {t u : TS} {E : Ends} {k : Nat} {d d1 d2 : PyData} {ds : List PyData} {v : V}
theorem Lw.freeze (L : Lw K T C a dx pl ks D r s F H) (e : r[k]? = some (.mu ds)) (hk : k ≠ 4) : ∃ F2, Lw K T C a dx pl ks D (r.set k (.fz (.list ds))) s F2 H := by
  obtain ⟨F0, H0, S, x⟩ := L.ex
  obtain ⟨F2, S2⟩ := S.freeze e
  exact ⟨F2, ⟨F0, H0, S2, x⟩, by rw [List.getElem?_set_ne hk]; exact L.dk⟩
theorem Lw.setF (L : Lw K T C a dx pl ks D r s F H) (h : Dp K F v d) (hk : k ≠ 4) : Lw K T C a dx pl ks D (r.set k (.fz d)) (s.set k (some v)) F H := by
  obtain ⟨F0, H0, S, x⟩ := L.ex
  exact ⟨⟨F0, H0, S.setF h, x⟩, by rw [List.getElem?_set_ne hk]; exact L.dk⟩
theorem hg_name (hk : k ≠ 4) : ∀ ks s v F H, Lw K T C a dx pl ks D r s F H → Dp K F v d → ∀ N : L2.St → Hp → Prop, (∀ s2, Lw K T C a dx pl ks D (r.set k (.fz d)) s2 F H → wipe s2 [k] = wipe s [k] → N s2 H) → gName k v (wipe s [k]) H N := fun ks s v F H L dv N q => by
  show N ((wipe s [k]).set k (some v)) H
  rw [set_wipe]
  refine q _ (L.setF dv hk) ?_
  show (s.set k (some v)).set k none = s.set k none
  rw [List.set_set]
theorem hg_pair {k2 : Nat} (hk : k ≠ 4) (hk2 : k2 ≠ 4) (ne : k ≠ k2) : ∀ ks s v F H, Lw K T C a dx pl ks D r s F H → Dp K F v (.tuple [d1, d2]) → ∀ N : L2.St → Hp → Prop, (∀ s2, Lw K T C a dx pl ks D ((r.set k (.fz d1)).set k2 (.fz d2)) s2 F H → wipe s2 [k, k2] = wipe s [k, k2] → N s2 H) →
    gTup K 2 (gCons (gName k) (gCons (gName k2) gNil)) v (wipe s [k, k2]) H N := fun ks s v F H L dv N q => by
  cases dv with
  | @tup p vs _ sq dvs =>
  obtain ⟨x, ws, rfl, a1, dvs⟩ := dp_cons dvs
  obtain ⟨y, zs, rfl, a2, dvs⟩ := dp_cons dvs
  cases dvs
  refine ⟨p, [x, y], rfl, st_up L.sf sq, rfl, x, [y], rfl, y, [], rfl, rfl, ?_⟩
  have e1 : ((wipe s [k, k2]).set k (some x)).set k2 (some y) = (s.set k (some x)).set k2 (some y) := by
    show ((((s.set k2 none).set k none).set k (some x)).set k2 (some y)) = _
    rw [List.set_set, List.set_comm _ _ (Ne.symm ne), List.set_set]
  rw [e1]
  refine q _ ((L.setF a1 hk).setF a2 hk2) ?_
  show ((((s.set k (some x)).set k2 (some y)).set k2 none).set k none) = ((s.set k2 none).set k none)
  rw [List.set_set, List.set_comm _ _ ne, List.set_set]
end
theorem told_ne (w : Int) : (!PyData.eqv (.tuple [.str "word", .int w]) (.tuple [.str "word", .int w])) = false := by
  simp [PyData.eqv, PyData.eqvAll]
theorem sh_told (w : Int) : SeqAt.shaped (.tuple [.str "word", .int w]) = true := (sh_tup (k := 0) fun d hd => by
  simp at hd
  rcases hd with rfl | rfl
  · exact ⟨by decide +kernel, Nat.zero_le _⟩
  · exact sh_int _).ok (by decide)
theorem okA_ints {k : Nat} : ∀ l : List Int, (l.map PyData.int).all (okA k) = true
  | [] => rfl
  | _ :: l => by
    have := okA_ints (k := k) l
    rw [List.map_cons, List.all_cons, this]
    cases k <;> rfl
theorem okA_desk {n : Nat} {st : List Int} {t : Int} (so : SOk n st) (hn : n ≤ 6) : okA 2 (.list [encS st, .int t]) = true := by
  have e : okA 1 (encS st) = true := by
    show (decide ((st.map PyData.int).length ≤ 1000) && (st.map PyData.int).all (okA 0)) = true
    rw [okA_ints, List.length_map, so.len, decide_eq_true (by omega)]
    rfl
  show (decide (2 ≤ 1000) && (okA 1 (encS st) && (okA 1 (.int t) && true))) = true
  rw [e]
  rfl
def lineS (way : Nat) (k o m : Int) : Str := if way = 0 then "tick" else if way = 1 then "ticks " ++ nS k else if way = 2 then "paint " ++ nS o ++ " " ++ nS m else "back"
def moreN (way k : Nat) : Nat := if way = 0 then 1 else if way = 1 then k else if way = 2 then 0 else 1
theorem dict_line {way : Nat} (h : way < 6) (a b : Str) : (valV (mergeK [] (keyed [(0, .str "tick"), (1, .str a), (2, .str b)])) (Sum.inl (way : Int))).getD (toV (.str "back")) = toV (.str (if way = 0 then "tick" else if way = 1 then a else if way = 2 then b else "back")) := by
  have : way = 0 ∨ way = 1 ∨ way = 2 ∨ way = 3 ∨ way = 4 ∨ way = 5 := by omega
  rcases this with rfl | rfl | rfl | rfl | rfl | rfl <;> rfl
theorem dict_more {way : Nat} (h : way < 6) (k : Nat) : (valV (mergeK [] (keyed [(0, .int 1), (1, iN k), (2, .int 0)])) (Sum.inl (way : Int))).getD (toV (.int 1)) = toV (iN (moreN way k)) := by
  have : way = 0 ∨ way = 1 ∨ way = 2 ∨ way = 3 ∨ way = 4 ∨ way = 5 := by omega
  rcases this with rfl | rfl | rfl | rfl | rfl | rfl <;> rfl
def manyL : List PyData := [iN 1, iN 2, iN 5, iN 1000000000000000000000000000000, iN 1000000000007]
theorem many_is {d : PyData} (h : d ∈ manyL) : ∃ k : Nat, d = iN k ∧ (k = 1 ∨ k = 2 ∨ k = 5 ∨ k = 1000000000000000000000000000000 ∨ k = 1000000000007) := by
  unfold manyL at h
  simp only [List.mem_cons, List.not_mem_nil, or_false] at h
  rcases h with rfl | rfl | rfl | rfl | rfl
  · exact ⟨_, rfl, by simp⟩
  · exact ⟨_, rfl, by simp⟩
  · exact ⟨_, rfl, by simp⟩
  · exact ⟨_, rfl, by simp⟩
  · exact ⟨_, rfl, by simp⟩
theorem many_small {k : Nat} (h : k = 1 ∨ k = 2 ∨ k = 5 ∨ k = 1000000000000000000000000000000 ∨ k = 1000000000007) : (nS (k : Int)).length ≤ 40 ∧ (k : Int).natAbs.log2 < 1920 := by
  rcases h with rfl | rfl | rfl | rfl | rfl <;> exact ⟨by decide +kernel, by decide +kernel⟩
theorem len_app (x y : Str) : (x ++ y).length = x.length + y.length := Array.size_append
end Tm
set_option maxRecDepth 100000
set_option maxHeartbeats 4000000
/-! The law, as a term of rules. -/
namespace Tm
open PySem PySem.Spec PyProof.Rows L2 LamX
theorem sc_law : FnScope ["_law_script", "_law_row", "_law_web_here", "_law_state_here", "_law_desk", "_law_here", "_law_gone", "_law_past", "_law_turn", "_law_way", "_law_one", "_law_mood", "_law_many", "_law_line", "_law_more", "_law_some", "_law_still_here", "_law_due", "_law_top", "_law_bottom", "_law_bad", "_law_other", "_law_word"] ["_law_script"] (defScope (top 70)) := ⟨rfl, rfl, rfl, by decide +kernel, rfl, by decide +kernel, by decide +kernel⟩
/-- the left side of the i-th statement's test -/
def ifE (i : Nat) : Expr := match (defBody (top 70)).getD i (.Pass ⟨0, 0, 0, 0⟩) with
  | .If (.Compare e _ _ _) _ _ _ => e
  | _ => .Constant .none 0 ⟨0, 0, 0, 0⟩
/-- the law's context -/
abbrev lawX (P : Program) (w : World) (K : PySem.W.Frag) (mg : Str → Option Value) (base : Heap) (f c : Addr) (A : Around) (outer : List Env) (s : Shared) (H : Hp) (E : XK) : Cx := (cxOf L2.CX0 P w K mg base ["_law_script", "_law_row", "_law_web_here", "_law_state_here", "_law_desk", "_law_here", "_law_gone", "_law_past", "_law_turn", "_law_way", "_law_one", "_law_mood", "_law_many", "_law_line", "_law_more", "_law_some", "_law_still_here", "_law_due", "_law_top", "_law_bottom", "_law_bad", "_law_other", "_law_word"] "law" (defScope (top 70)) f (.ref c) A outer s H E).nox
def toldT (K : PySem.W.Frag) (C CI CN P0 : Addr) (te : TE) : TE := tLam (TL P0) (TTold2 K CI CN) (fun E => tMeth C "run" (SpDesk K C CI CN preRun postRun) [] E (tVar 4) (tCons te tNil))
section
variable {P : Program} {w : World} {K : PySem.W.Frag} {mg : Str → Option Value} {base : Heap} {C CI CN fI dW : Addr} {f c P0 : Addr} {A : Around} {outer : List Env} {s : Shared} {H : Hp} {E : XK}
def badT (K : PySem.W.Frag) (C CI CN P0 : Addr) : TE := tLc (iList K (tVar 20)) (gTup K 2 (gCons (gName 13) (gCons (gName 22) gNil))) (tTest (tOp (rNeD K) (toldT K C CI CN P0 (tVar 13)) (tTup (tCons (tC (.str "word")) (tCons (tVar 22) tNil))))) (tVar 13) [13, 22]
theorem d_bad (T : Txt K mg) (DT : DTxt K mg C CI CN) (WT : WordTxt P K mg CI fI) (WD : WordsTxt K mg w dW) (NT : NoteTxt K mg CN) (FT : Ft K mg "_law_told" (top 67)) (TB : TabB base mg c P0)
    (hr : Room 8 (A.deeper (envOfC "law" (defScope (top 70)) s.heap.objs.size f (.ref c)))) : PE (lawX P w K mg base f c A outer s H E) (ifE 17) (badT K C CI CN P0) := by
  refine pe_lc (own := [("_law_line", 13), ("_law_word", 22)]) rfl sc_law.nd (kpi_list K rfl (pv 20)) (blkOk_by (by kernel_rfl)) (fun _ _ _ _ _ => (kpg_tup (n := 2) K rfl rfl (pgs_cons (pg_name (i := 13) sc_law.nd rfl (Or.inr rfl)) (pgs_cons (pg_name (i := 22) sc_law.nd rfl (Or.inl rfl)) pgs_nil)))) (fun _ _ _ _ _ => pts_one (pt_cmpR (k_neD K rfl hr.units) ?told (pe_tup (pa_cons pe_str (pa_cons (pv 22) pa_nil))) (nomark _))) (fun _ _ _ _ _ => (pv 13))
  case told =>
    refine pe_told (j := 8) FT WT NT TB ?h1 hr (by decide) (m_run T DT WT WD NT) ?h2 ?h3 ?h4 ?h5 ?h6 ?h7 ?h8 ?h9 ?h10 ?h11 (fun _ => rfl)
    case h1 => rfl
    case h3 => rfl
    case h4 => exact Or.inr (Or.inr rfl)
    case h2 => exact lamS_by (by kernel_rfl)
    case h5 => exact fun A outer s H E f c' _ => pe_var (i := 13) rfl (Or.inr (Or.inr rfl))
    case h6 => rfl
    case h7 => rfl
    case h8 => rfl
    case h9 => intros; rfl
    case h10 => intros; rfl
    case h11 => intros; rfl
def textT (K : PySem.W.Frag) (C CI CN P0 : Addr) : TE := tLc (iList K (tLst (tCons (tC .non) (tCons (tC (.int 3)) (tCons (tLst (tCons (tC (.str "tick")) tNil)) (tCons (tC (.bl true)) tNil)))))) (gName 13) tYes (toldT K C CI CN P0 (tVar 13)) [13]
theorem d_text (T : Txt K mg) (DT : DTxt K mg C CI CN) (WT : WordTxt P K mg CI fI) (WD : WordsTxt K mg w dW) (NT : NoteTxt K mg CN) (FT : Ft K mg "_law_told" (top 67)) (TB : TabB base mg c P0)
    (hr : Room 8 (A.deeper (envOfC "law" (defScope (top 70)) s.heap.objs.size f (.ref c)))) : PE (lawX P w K mg base f c A outer s H E) (ifE 18) (textT K C CI CN P0) := by
  refine pe_lc (own := [("_law_line", 13)]) rfl sc_law.nd (kpi_list K rfl (pe_lst (pa_cons pe_non (pa_cons pe_int (pa_cons (pe_lst (pa_cons pe_str pa_nil)) (pa_cons pe_bl pa_nil)))))) (blkOk_by (by kernel_rfl)) (fun _ _ _ _ _ => (pg_name (i := 13) sc_law.nd rfl (Or.inr rfl))) (fun _ _ _ _ _ => pts_nil) (fun _ _ _ _ _ => ?told)
  case told =>
    refine pe_told (j := 8) FT WT NT TB ?h1 hr (by decide) (m_run T DT WT WD NT) ?h2 ?h3 ?h4 ?h5 ?h6 ?h7 ?h8 ?h9 ?h10 ?h11 (fun _ => rfl)
    case h1 => rfl
    case h3 => rfl
    case h4 => exact Or.inr (Or.inr rfl)
    case h2 => exact lamS_by (by kernel_rfl)
    case h5 => exact fun A outer s H E f c' _ => pe_var (i := 13) rfl (Or.inr (Or.inr rfl))
    case h6 => rfl
    case h7 => rfl
    case h8 => rfl
    case h9 => intros; rfl
    case h10 => intros; rfl
    case h11 => intros; rfl
theorem d_law (T : Txt K mg) (DT : DTxt K mg C CI CN) (WT : WordTxt P K mg CI fI) (WD : WordsTxt K mg w dW) (NT : NoteTxt K mg CN) (MT : MkTxt K C) (FT : Ft K mg "_law_told" (top 67)) (TB : TabB base mg c P0)
    (GS : GetTxt K C "state" "Desk.state" (inClass (top 48) 1)) (GT : GetTxt K C "ticks" "Desk.ticks" (inClass (top 48) 2)) (hr : Room 8 (A.deeper (envOfC "law" (defScope (top 70)) s.heap.objs.size f (.ref c)))) :
    ∃ t, PSs (lawX P w K mg base f c A outer s H E) (defBody (top 70)) t := by
  refine ⟨_, (pss_cons (ps_set (i := 1) sc_law.nd rfl (Or.inl rfl) (pe_lst (pa_cons (pv 0) (pa_cons pe_int (pa_cons pe_int (pa_cons pe_int pa_nil))))))
      (pss_cons (ps_set (i := 2) sc_law.nd rfl (Or.inr rfl) (pe_cl (c_law_web T) hr (by decide) rfl (pa_cons (pv 1) (pa_cons pe_int pa_nil))))
      (pss_cons (ps_set (i := 3) sc_law.nd rfl (Or.inl rfl) (pe_cl (c_law_state T) hr (by decide) rfl (pa_cons (pv 1) (pa_cons (pv 2) pa_nil))))
      (pss_cons (ps_asg (pe_tup (pa_cons (pe_mkr (c_make T DT.toDeskC MT) hr (by decide) rfl DT.gC (pa_cons (pv 2) (pa_cons (pv 3) pa_nil))) (pa_cons (pv 3) (pa_cons pe_int (pa_cons (pe_lst pa_nil) pa_nil))))) (kpg_tup K rfl rfl (pgs_cons (pg_name (i := 4) sc_law.nd rfl (Or.inr rfl)) (pgs_cons (pg_name (i := 5) sc_law.nd rfl (Or.inr rfl)) (pgs_cons (pg_name (i := 6) sc_law.nd rfl (Or.inl rfl)) (pgs_cons (pg_name (i := 7) sc_law.nd rfl (Or.inl rfl)) pgs_nil))))))
      (pss_cons (ps_if (pt_cmpR (k_neD K rfl hr.units) (pe_told FT WT NT TB rfl hr (by decide) (m_run T DT WT WD NT) (lamS_by (by kernel_rfl)) rfl (Or.inr (Or.inr rfl)) (fun _ _ _ _ _ _ _ _ => pe_str)) (pe_tup (pa_cons pe_str (pa_cons pe_int pa_nil))) (nomark _)) (pss_one (ps_ret pe_bl)) pss_nil)
      (pss_cons (ps_for PassesOwn.never rfl (pi_range1 rfl T.n_range (pa_cons (pe_op op_add pe_int (pe_cl (c_law_taken T) hr (by decide) rfl (pa_cons (pv 1) (pa_cons pe_int pa_nil)))) pa_nil)) (pg_name (i := 8) sc_law.nd rfl (Or.inl rfl)) (pss_cons (ps_par3 (i := 9) (j := 10) (l := 11) rfl sc_law.nd rfl rfl rfl (by decide) (by decide) (by decide) rfl rfl rfl (pa_cons (pe_cl (c_law_taken T) hr (by decide) rfl (pa_cons (pv 1) (pa_cons pe_int pa_nil))) (pa_cons (pe_cl (c_law_taken T) hr (by decide) rfl (pa_cons (pv 1) (pa_cons (pe_ix (k_ixT K rfl) (pv 2) pe_int (fun _ _ => rfl)) pa_nil))) (pa_cons (pe_cl (c_law_taken T) hr (by decide) rfl (pa_cons (pv 1) (pa_cons pe_int pa_nil))) pa_nil))) (by rfl))
      (pss_cons (ps_set (i := 12) sc_law.nd rfl (Or.inl rfl) (pe_cl (c_law_pick T) hr (by decide) rfl (pa_cons (pv 1) (pa_cons (pe_lst (pa_cons pe_int (pa_cons pe_int (pa_cons pe_int (pa_cons (pe_op op_pow pe_int pe_int) (pa_cons (pe_op op_add (pe_op op_pow pe_int pe_int) pe_int) pa_nil)))))) pa_nil))))
      (pss_cons (ps_set (i := 13) sc_law.nd rfl (Or.inl rfl) (pe_dget2 (hu1 hr) (pe_disp (pps_cons pe_int pe_str (pps_cons pe_int (pe_op op_add_str pe_str (pe_callTy call_str_int rfl T.n_str bb_str (pa_cons (pv 12) pa_nil))) (pps_cons pe_int (pe_op op_add_str (pe_op op_add_str (pe_op op_add_str pe_str (pe_callTy call_str_int rfl T.n_str bb_str (pa_cons (pv 10) pa_nil))) pe_str) (pe_callTy call_str_int rfl T.n_str bb_str (pa_cons (pv 11) pa_nil))) pps_nil))) rfl rfl (List.cons_ne_nil _ _) (by decide)) (pv 9) pe_str ⟨rfl, rfl, rfl, rfl⟩))
      (pss_cons (ps_if (PW.pt (pw_and (pt_cmpR op_gt (pv 9) pe_int (nomark _)) (pw_and1 (pt_cmpR (k_eqD K rfl hr.units) (pv 7) (pe_lst pa_nil) (nomark _))))) (pss_one (ps_set (i := 13) sc_law.nd rfl (Or.inl rfl) pe_str)) pss_nil)
      (pss_cons (ps_if (pt_not (pt_val (pe_cl (c_law_alike T 2) hr (by decide) rfl (pa_cons (pe_dmt (m_run T DT WT WD NT) hr (by decide) LamX.takes0 (fun _ _ _ _ h => h) (pv 4) (pa_cons (pv 13) pa_nil)) (pa_cons pe_str pa_nil))))) (pss_one (ps_ret pe_bl)) pss_nil)
      (pss_cons (ps_if (pt_cmpR op_eq (pv 13) pe_str (nomark _)) (pss_one (ps_asg (pe_bm0 PySem.F.plainAttrs_list PySem.F.slot_list_pop PySem.F.type_list_pop mt_pop (pv 7)) (kpg_tup K rfl rfl (pgs_cons (pg_name (i := 5) sc_law.nd rfl (Or.inr rfl)) (pgs_cons (pg_name (i := 6) sc_law.nd rfl (Or.inl rfl)) pgs_nil))))) (pss_cons (ps_expr (pe_bm PySem.F.plainAttrs_list PySem.F.slot_list_append PySem.F.type_list_append mt_append (pv 7) (pa_cons (pe_tup (pa_cons (pv 5) (pa_cons (pv 6) pa_nil))) pa_nil)))
      (pss_cons (ps_set (i := 14) sc_law.nd rfl (Or.inl rfl) (pe_dget2 (hu1 hr) (pe_disp (pps_cons pe_int pe_int (pps_cons pe_int (pv 12) (pps_cons pe_int pe_int pps_nil))) rfl rfl (List.cons_ne_nil _ _) (by decide)) (pv 9) pe_int ⟨rfl, rfl, rfl, rfl⟩))
      (pss_cons (ps_set (i := 5) sc_law.nd rfl (Or.inr rfl) (pe_ifExp (pt_cmpR op_eq (pv 9) pe_int (nomark _)) (pe_op (k_catA K rfl) (pe_op (k_catA K rfl) (pe_slice (k_slA K rfl) (pv 5) po_none (po_some (pv 10))) (pe_tup (pa_cons (pv 11) pa_nil))) (pe_slice (k_slA K rfl) (pv 5) (po_some (pe_op op_add (pv 10) pe_int)) po_none)) (pe_cl (c_law_late T) hr (by decide) rfl (pa_cons (pv 2) (pa_cons (pv 5) (pa_cons (pv 14) pa_nil))))))
      (pss_one (ps_set (i := 6) sc_law.nd rfl (Or.inl rfl) (pe_op op_add (pv 6) (pv 14))))))))
      (pss_one (ps_if (pt_not (pt_val (pe_cl (c_law_alike T 2) hr (by decide) rfl (pa_cons (pe_lst (pa_cons (pe_get (c_state DT.toDeskC GS) DT.c (pv 4) hr (by decide)) (pa_cons (pe_get (c_ticks DT.toDeskC GT) DT.c (pv 4) hr (by decide)) pa_nil))) (pa_cons (pe_lst (pa_cons (pv 5) (pa_cons (pv 6) pa_nil))) pa_nil))))) (pss_one (ps_ret pe_bl)) pss_nil)))))))))
      (pss_cons (ps_setLc (i := 15) (own := [("_law_one", 10)]) rfl sc_law.nd rfl rfl (sw_true rfl rfl rfl (by decide +kernel)) (pi_range1 rfl T.n_range (pa_cons (pe_ix (k_ixT K rfl) (pv 2) pe_int (fun _ _ => rfl)) pa_nil)) (blkOk_by (by kernel_rfl)) (fun _ _ _ _ _ => (pg_name (i := 10) sc_law.nd rfl (Or.inl rfl))) (fun _ _ _ _ _ => pts_one (pt_cmpR op_ne (pe_ix (k_ixT K rfl) (pe_cl (c_law_next T) hr (by decide) rfl (pa_cons (pv 2) (pa_cons (pv 5) pa_nil))) (pv 10) (fun _ _ => rfl)) (pe_ix (k_ixT K rfl) (pv 5) (pv 10) (fun _ _ => rfl)) (nomark _))) (fun _ _ _ _ _ => (pv 10)))
      (pss_cons (ps_par (i := 16) (j := 10) rfl sc_law.nd rfl rfl (by decide) rfl rfl (pa_cons (pe_cl (c_law_still T) hr (by decide) rfl (pa_cons (pv 2) (pa_cons (pv 5) (pa_cons pe_int pa_nil)))) (pa_cons (pe_cl (c_law_taken T) hr (by decide) rfl (pa_cons (pv 1) (pa_cons (pe_ix (k_ixT K rfl) (pv 2) pe_int (fun _ _ => rfl)) pa_nil))) pa_nil)) (by rfl))
      (pss_cons (ps_set (i := 17) sc_law.nd rfl (Or.inl rfl) (pe_lst (pa_cons (pe_join pe_str (pe_lc (own := [("_law_mood", 11)]) rfl sc_law.nd (kpi_tup K rfl (pv 5)) (blkOk_by (by kernel_rfl)) (fun _ _ _ _ _ => (pg_name (i := 11) sc_law.nd rfl (Or.inl rfl))) (fun _ _ _ _ _ => pts_nil) (fun _ _ _ _ _ => (pe_callTy call_str_int rfl T.n_str bb_str (pa_cons (pv 11) pa_nil))))) (pa_cons (pe_ifExp (pt_cmpR (k_neD K rfl hr.units) (pv 15) (pe_lst pa_nil) (nomark _)) (pe_join pe_str (pe_lc (own := [("_law_other", 21)]) rfl sc_law.nd (kpi_list K rfl (pv 15)) (blkOk_by (by kernel_rfl)) (fun _ _ _ _ _ => (pg_name (i := 21) sc_law.nd rfl (Or.inl rfl))) (fun _ _ _ _ _ => pts_nil) (fun _ _ _ _ _ => (pe_callTy call_str_int rfl T.n_str bb_str (pa_cons (pv 21) pa_nil))))) pe_str) pa_nil))))
      (pss_cons (ps_expr (pe_bm PySem.F.plainAttrs_list PySem.F.slot_list_append PySem.F.type_list_append mt_append (pv 17) (pa_cons (pe_ifExp (pt_cmpR op_isN (pv 16) pe_non (nomark _)) pe_str (pe_callTy call_str_int rfl T.n_str bb_str (pa_cons (pv 16) pa_nil))) pa_nil)))
      (pss_cons (ps_if (pt_not (pt_val (pe_cl (c_law_alike T 2) hr (by decide) rfl (pa_cons (pe_lc (own := [("_law_line", 13)]) rfl sc_law.nd (kpi_list K rfl (pe_lst (pa_cons pe_str (pa_cons pe_str (pa_cons pe_str pa_nil))))) (blkOk_by (by kernel_rfl)) (fun _ _ _ _ _ => (pg_name (i := 13) sc_law.nd rfl (Or.inl rfl))) (fun _ _ _ _ _ => pts_nil) (fun _ _ _ _ _ => (pe_dmt (m_run T DT WT WD NT) hr (by decide) LamX.takes0 (fun _ _ _ _ h => h) (pv 4) (pa_cons (pv 13) pa_nil)))) (pa_cons (pv 17) pa_nil))))) (pss_one (ps_ret pe_bl)) pss_nil)
      (pss_cons (ps_asg (pe_ix (k_ixT K rfl) (pe_cl (c_law_speeds T) hr (by decide) rfl (pa_cons (pv 2) (pa_cons (pv 5) pa_nil))) (pv 10) (fun _ _ => rfl)) (kpg_tup K rfl rfl (pgs_cons (pg_name (i := 18) sc_law.nd rfl (Or.inl rfl)) (pgs_cons (pg_name (i := 19) sc_law.nd rfl (Or.inl rfl)) pgs_nil))))
      (pss_cons (ps_if (pt_not (pt_val (pe_cl (c_law_alike T 2) hr (by decide) rfl (pa_cons (pe_dmt (m_run T DT WT WD NT) hr (by decide) LamX.takes0 (fun _ _ _ _ h => h) (pv 4) (pa_cons (pe_op op_add_str pe_str (pe_callTy call_str_int rfl T.n_str bb_str (pa_cons (pv 10) pa_nil))) pa_nil)) (pa_cons (pe_op op_add_str (pe_op op_add_str (pe_callTy call_str_int rfl T.n_str bb_str (pa_cons (pv 18) pa_nil)) pe_str) (pe_callTy call_str_int rfl T.n_str bb_str (pa_cons (pv 19) pa_nil))) pa_nil))))) (pss_one (ps_ret pe_bl)) pss_nil)
      (pss_cons (ps_set (i := 20) sc_law.nd rfl (Or.inl rfl) (pe_lst (pa_cons (pe_tup (pa_cons pe_str (pa_cons pe_int pa_nil))) (pa_cons (pe_tup (pa_cons pe_str (pa_cons pe_int pa_nil))) (pa_cons (pe_tup (pa_cons pe_str (pa_cons pe_int pa_nil))) (pa_cons (pe_tup (pa_cons pe_str (pa_cons pe_int pa_nil))) (pa_cons (pe_tup (pa_cons pe_str (pa_cons pe_int pa_nil))) (pa_cons (pe_tup (pa_cons pe_str (pa_cons pe_int pa_nil))) (pa_cons (pe_tup (pa_cons pe_str (pa_cons pe_int pa_nil))) (pa_cons (pe_tup (pa_cons pe_str (pa_cons pe_int pa_nil))) pa_nil))))))))))
      (pss_cons (ps_set (i := 20) sc_law.nd rfl (Or.inl rfl) (pe_op op_cat (pv 20) (pe_lst (pa_cons (pe_tup (pa_cons pe_str (pa_cons pe_int pa_nil))) (pa_cons (pe_tup (pa_cons pe_str (pa_cons pe_int pa_nil))) (pa_cons (pe_tup (pa_cons pe_str (pa_cons pe_int pa_nil))) (pa_cons (pe_tup (pa_cons (pe_op op_add_str (pe_op op_add_str pe_str (pe_callTy call_str_int rfl T.n_str bb_str (pa_cons (pe_ix (k_ixT K rfl) (pv 2) pe_int (fun _ _ => rfl)) pa_nil))) pe_str) (pa_cons pe_int pa_nil))) (pa_cons (pe_tup (pa_cons pe_str (pa_cons pe_int pa_nil))) pa_nil))))))))
      (pss_cons (ps_set (i := 20) sc_law.nd rfl (Or.inl rfl) (pe_op op_cat (pv 20) (pe_lst (pa_cons (pe_tup (pa_cons pe_str (pa_cons pe_int pa_nil))) (pa_cons (pe_tup (pa_cons pe_str (pa_cons pe_int pa_nil))) (pa_cons (pe_tup (pa_cons pe_str (pa_cons pe_int pa_nil))) (pa_cons (pe_tup (pa_cons pe_str (pa_cons pe_int pa_nil))) (pa_cons (pe_tup (pa_cons pe_str (pa_cons pe_int pa_nil))) (pa_cons (pe_tup (pa_cons (pe_op op_add_str (pe_op op_add_str pe_str (pe_op op_repS pe_str pe_int)) pe_str) (pa_cons pe_int pa_nil))) pa_nil)))))))))
      (pss_cons (ps_set (i := 20) sc_law.nd rfl (Or.inl rfl) (pe_op op_cat (pv 20) (pe_lst (pa_cons (pe_tup (pa_cons (pe_op op_add_str pe_str (pe_op op_repS pe_str pe_int)) (pa_cons pe_int pa_nil))) (pa_cons (pe_tup (pa_cons pe_str (pa_cons pe_int pa_nil))) (pa_cons (pe_tup (pa_cons pe_str (pa_cons (pe_ifExp (pt_cmpR (k_eqD K rfl hr.units) (pv 7) (pe_lst pa_nil) (nomark _)) pe_int pe_int) pa_nil))) (pa_cons (pe_tup (pa_cons pe_str (pa_cons pe_int pa_nil))) (pa_cons (pe_tup (pa_cons pe_str (pa_cons pe_int pa_nil))) pa_nil))))))))
      (pss_cons (ps_if (pt_cmpR (k_neD K rfl hr.units) (d_bad T DT WT WD NT FT TB hr) (pe_lst pa_nil) (nomark _)) (pss_one (ps_ret pe_bl)) pss_nil)
      (pss_cons (ps_if (pt_cmpR (k_neD K rfl hr.units) (d_text T DT WT WD NT FT TB hr) (pe_op op_rep (pe_lst (pa_cons pe_str pa_nil)) pe_int) (nomark _)) (pss_one (ps_ret pe_bl)) pss_nil)
      (pss_one (ps_ret (pe_cl (c_law_alike T 2) hr (by decide) rfl (pa_cons (pe_lst (pa_cons (pe_get (c_state DT.toDeskC GS) DT.c (pv 4) hr (by decide)) (pa_cons (pe_get (c_ticks DT.toDeskC GT) DT.c (pv 4) hr (by decide)) pa_nil))) (pa_cons (pe_lst (pa_cons (pv 5) (pa_cons (pv 6) pa_nil))) pa_nil))))))))))))))))))))))))⟩
end
end Tm
set_option maxRecDepth 100000
set_option maxHeartbeats 40000000
/-! The law holds. -/
namespace Tm
open PySem PySem.Spec PyProof.Rows L2 LamX
def spLaw (K : PySem.W.Frag) (P0 : Addr) : Sp := fun vs H Q _ => ∃ (a : Addr) (ns : List Int), vs = [.ref a] ∧ SqL K H a (ns.map V.int) ∧ ns.length ≤ 63 ∧ H P0 = some (.tbl #[]) ∧ ∀ H', Q (.bl true) H'
/-- the law's slots -/
abbrev RL (sc : List Int) (row : Row) (g : Web) (st0 : List Int) (dk : Slo) (st : List Int) (t : Int) (ps : Past) (z : List Slo) : List Slo :=
  .fz (.list (sc.map .int)) :: .mu (rowD row) :: .fz (encW g) :: .fz (encS st0) :: dk :: .fz (encS st) :: .fz (.int t) :: .mu (ps.map encPast) :: z
abbrev Z15 : List Slo := [.no, .no, .no, .no, .no, .no, .no, .no, .no, .no, .no, .no, .no, .no, .no]
def LoopJ (C a dx pl : Addr) (sc : List Int) (g : Web) (st0 : List Int) (m : Nat) (r : List Slo) : Prop := ∃ (row : Row) (st : List Int) (t : Int) (ps : Past), Wkn r (RL sc row g st0 (.dk C a dx pl (deskD g st t ps)) st t ps Z15) ∧ row.s = sc ∧ SOk g.n st ∧ ps.length ≤ m ∧ ∀ p, p ∈ ps → SOk g.n p.1
section
variable {P : Program} {w : World} {K : PySem.W.Frag} {mg : Str → Option Value} {base : Heap} {C CI CN fI dW : Addr}
theorem paint_ne : ∀ o : Nat, o < 6 → ∀ m : Nat, m < 3 → decide (("paint " ++ nS (o : Int) ++ " " ++ nS (m : Int) : Str) = "back") = false := by decide +kernel
def badE (p : Str × Int) : PyData := .tuple [.str p.1, .int p.2]
theorem hR_set {r : List Slo} {k : Nat} {u : Slo} (h : r[k]? = some .no) : ∀ (j : Nat) (t : Slo), r[j]? = some t → t = .no ∨ ((r.set k u)[j]? = some t ∧ j ∉ [k]) := fun j t e => by
  by_cases q : k = j
  · subst q
    rw [h] at e
    cases e
    exact .inl rfl
  · exact .inr ⟨by rw [List.getElem?_set_ne q]; exact e, fun z => q (List.mem_singleton.mp z).symm⟩
theorem hR_set2 {r : List Slo} {k k2 : Nat} {u u2 : Slo} (ne : k ≠ k2) (h : r[k]? = some .no) (h2 : r[k2]? = some .no) : ∀ (j : Nat) (t : Slo), r[j]? = some t → t = .no ∨ (((r.set k u).set k2 u2)[j]? = some t ∧ j ∉ [k, k2]) := fun j t e => by
  by_cases q : k = j
  · subst q
    rw [h] at e
    cases e
    exact .inl rfl
  · by_cases q2 : k2 = j
    · subst q2
      rw [h2] at e
      cases e
      exact .inl rfl
    · refine .inr ⟨by rw [List.getElem?_set_ne q2, List.getElem?_set_ne q]; exact e, fun z => ?_⟩
      simp at z
      rcases z with z | z
      · exact q z.symm
      · exact q2 z.symm
theorem asg_tup {te : TE} {ta : TA} {g : TG} {u : TS} {D : Ends} {σ : L2.St} {H : Hp} (h : te σ H fun x H1 => ta σ H1 fun xs H2 => (x :: xs).length ≤ sizeLine ∧ ∀ p, H2 p = none → g (.ref p) σ (upd H2 p (.tup (x :: xs))) fun σ2 H3 => u D σ2 H3) : tSeq (tAsg (tTup (tCons te ta)) g) u D σ H := h
theorem one4 {r : List Slo} (h : ∀ j t, j ≠ 4 → r[j]? = some t → t.isDk = false) : OneDk r 4 := h
theorem law_ok {f c P0 : Addr} {oc kV doc pm ct : Value} {od an : Option Addr} {osl : Array (Option Value)} (T : Txt K mg) (DT : DTxt K mg C CI CN) (WT : WordTxt P K mg CI fI) (WD : WordsTxt K mg w dW) (NT : NoteTxt K mg CN) (MT : MkTxt K C) (FT : Ft K mg "_law_told" (top 67)) (TB : TabB base mg c P0)
    (GS : GetTxt K C "state" "Desk.state" (inClass (top 48) 1)) (GT : GetTxt K C "ticks" "Desk.ticks" (inClass (top 48) 2)) (tf : PySem.W.exmOne K (.ref CN) (.ref CI) = some false) (tn : PySem.W.exmOne K (.ref CN) (.ref CN) = some true)
    (lk : K.lookup f = some ⟨oc, od, .func (PySem.W.fnOf "law" "law" (defArgs (top 70)) (defBody (top 70)) (defScope (top 70)) .none kV doc pm an (.ref c) ct), osl⟩) (hcd : PySem.W.codeIn K (.ref c) "law" = true) :
    FnOk P w K mg base L2.CX0 9 f (PySem.W.fnOf "law" "law" (defArgs (top 70)) (defBody (top 70)) (defScope (top 70)) .none kV doc pm an (.ref c) ct) ["_law_script"] (spLaw K P0) := by
  refine fn_of lk hcd sc_law (fun vs H Q E h => by obtain ⟨a, ns, e, _⟩ := h; rw [e]; rfl) (fun A outer s H vs Q E hr h => ⟨_, PSs.nox (pss_cons (ps_set (i := 1) sc_law.nd rfl (Or.inl rfl) (pe_lst (pa_cons (pv 0) (pa_cons pe_int (pa_cons pe_int (pa_cons pe_int pa_nil))))))
      (pss_cons (ps_set (i := 2) sc_law.nd rfl (Or.inr rfl) (pe_cl (c_law_web T) hr (by decide) rfl (pa_cons (pv 1) (pa_cons pe_int pa_nil))))
      (pss_cons (ps_set (i := 3) sc_law.nd rfl (Or.inl rfl) (pe_cl (c_law_state T) hr (by decide) rfl (pa_cons (pv 1) (pa_cons (pv 2) pa_nil))))
      (pss_cons (ps_asg (pe_tup (pa_cons (pe_mkr (c_make T DT.toDeskC MT) hr (by decide) rfl DT.gC (pa_cons (pv 2) (pa_cons (pv 3) pa_nil))) (pa_cons (pv 3) (pa_cons pe_int (pa_cons (pe_lst pa_nil) pa_nil))))) (kpg_tup K rfl rfl (pgs_cons (pg_name (i := 4) sc_law.nd rfl (Or.inr rfl)) (pgs_cons (pg_name (i := 5) sc_law.nd rfl (Or.inr rfl)) (pgs_cons (pg_name (i := 6) sc_law.nd rfl (Or.inl rfl)) (pgs_cons (pg_name (i := 7) sc_law.nd rfl (Or.inl rfl)) pgs_nil))))))
      (pss_cons (ps_if (pt_cmpR (k_neD K rfl hr.units) (pe_told FT WT NT TB rfl hr (by decide) (m_run T DT WT WD NT) (lamS_by (by kernel_rfl)) rfl (Or.inr (Or.inr rfl)) (fun _ _ _ _ _ _ _ _ => pe_str)) (pe_tup (pa_cons pe_str (pa_cons pe_int pa_nil))) (nomark _)) (pss_one (ps_ret pe_bl)) pss_nil)
      (pss_cons (ps_for PassesOwn.never rfl (pi_range1 rfl T.n_range (pa_cons (pe_op op_add pe_int (pe_cl (c_law_taken T) hr (by decide) rfl (pa_cons (pv 1) (pa_cons pe_int pa_nil)))) pa_nil)) (pg_name (i := 8) sc_law.nd rfl (Or.inl rfl)) (pss_cons (ps_par3 (i := 9) (j := 10) (l := 11) rfl sc_law.nd rfl rfl rfl (by decide) (by decide) (by decide) rfl rfl rfl (pa_cons (pe_cl (c_law_taken T) hr (by decide) rfl (pa_cons (pv 1) (pa_cons pe_int pa_nil))) (pa_cons (pe_cl (c_law_taken T) hr (by decide) rfl (pa_cons (pv 1) (pa_cons (pe_ix (k_ixT K rfl) (pv 2) pe_int (fun _ _ => rfl)) pa_nil))) (pa_cons (pe_cl (c_law_taken T) hr (by decide) rfl (pa_cons (pv 1) (pa_cons pe_int pa_nil))) pa_nil))) (by rfl))
      (pss_cons (ps_set (i := 12) sc_law.nd rfl (Or.inl rfl) (pe_cl (c_law_pick T) hr (by decide) rfl (pa_cons (pv 1) (pa_cons (pe_lst (pa_cons pe_int (pa_cons pe_int (pa_cons pe_int (pa_cons (pe_op op_pow pe_int pe_int) (pa_cons (pe_op op_add (pe_op op_pow pe_int pe_int) pe_int) pa_nil)))))) pa_nil))))
      (pss_cons (ps_set (i := 13) sc_law.nd rfl (Or.inl rfl) (pe_dget2 (hu1 hr) (pe_disp (pps_cons pe_int pe_str (pps_cons pe_int (pe_op op_add_str pe_str (pe_callTy call_str_int rfl T.n_str bb_str (pa_cons (pv 12) pa_nil))) (pps_cons pe_int (pe_op op_add_str (pe_op op_add_str (pe_op op_add_str pe_str (pe_callTy call_str_int rfl T.n_str bb_str (pa_cons (pv 10) pa_nil))) pe_str) (pe_callTy call_str_int rfl T.n_str bb_str (pa_cons (pv 11) pa_nil))) pps_nil))) rfl rfl (List.cons_ne_nil _ _) (by decide)) (pv 9) pe_str ⟨rfl, rfl, rfl, rfl⟩))
      (pss_cons (ps_if (PW.pt (pw_and (pt_cmpR op_gt (pv 9) pe_int (nomark _)) (pw_and1 (pt_cmpR (k_eqD K rfl hr.units) (pv 7) (pe_lst pa_nil) (nomark _))))) (pss_one (ps_set (i := 13) sc_law.nd rfl (Or.inl rfl) pe_str)) pss_nil)
      (pss_cons (ps_if (pt_not (pt_val (pe_cl (c_law_alike T 2) hr (by decide) rfl (pa_cons (pe_dmt (m_run T DT WT WD NT) hr (by decide) LamX.takes0 (fun _ _ _ _ h => h) (pv 4) (pa_cons (pv 13) pa_nil)) (pa_cons pe_str pa_nil))))) (pss_one (ps_ret pe_bl)) pss_nil)
      (pss_cons (ps_if (pt_cmpR op_eq (pv 13) pe_str (nomark _)) (pss_one (ps_asg (pe_bm0 PySem.F.plainAttrs_list PySem.F.slot_list_pop PySem.F.type_list_pop mt_pop (pv 7)) (kpg_tup K rfl rfl (pgs_cons (pg_name (i := 5) sc_law.nd rfl (Or.inr rfl)) (pgs_cons (pg_name (i := 6) sc_law.nd rfl (Or.inl rfl)) pgs_nil))))) (pss_cons (ps_expr (pe_bm PySem.F.plainAttrs_list PySem.F.slot_list_append PySem.F.type_list_append mt_append (pv 7) (pa_cons (pe_tup (pa_cons (pv 5) (pa_cons (pv 6) pa_nil))) pa_nil)))
      (pss_cons (ps_set (i := 14) sc_law.nd rfl (Or.inl rfl) (pe_dget2 (hu1 hr) (pe_disp (pps_cons pe_int pe_int (pps_cons pe_int (pv 12) (pps_cons pe_int pe_int pps_nil))) rfl rfl (List.cons_ne_nil _ _) (by decide)) (pv 9) pe_int ⟨rfl, rfl, rfl, rfl⟩))
      (pss_cons (ps_set (i := 5) sc_law.nd rfl (Or.inr rfl) (pe_ifExp (pt_cmpR op_eq (pv 9) pe_int (nomark _)) (pe_op (k_catA K rfl) (pe_op (k_catA K rfl) (pe_slice (k_slA K rfl) (pv 5) po_none (po_some (pv 10))) (pe_tup (pa_cons (pv 11) pa_nil))) (pe_slice (k_slA K rfl) (pv 5) (po_some (pe_op op_add (pv 10) pe_int)) po_none)) (pe_cl (c_law_late T) hr (by decide) rfl (pa_cons (pv 2) (pa_cons (pv 5) (pa_cons (pv 14) pa_nil))))))
      (pss_one (ps_set (i := 6) sc_law.nd rfl (Or.inl rfl) (pe_op op_add (pv 6) (pv 14))))))))
      (pss_one (ps_if (pt_not (pt_val (pe_cl (c_law_alike T 2) hr (by decide) rfl (pa_cons (pe_lst (pa_cons (pe_get (c_state DT.toDeskC GS) DT.c (pv 4) hr (by decide)) (pa_cons (pe_get (c_ticks DT.toDeskC GT) DT.c (pv 4) hr (by decide)) pa_nil))) (pa_cons (pe_lst (pa_cons (pv 5) (pa_cons (pv 6) pa_nil))) pa_nil))))) (pss_one (ps_ret pe_bl)) pss_nil)))))))))
      (pss_cons (ps_setLc (i := 15) (own := [("_law_one", 10)]) rfl sc_law.nd rfl rfl (sw_true rfl rfl rfl (by decide +kernel)) (pi_range1 rfl T.n_range (pa_cons (pe_ix (k_ixT K rfl) (pv 2) pe_int (fun _ _ => rfl)) pa_nil)) (blkOk_by (by kernel_rfl)) (fun _ _ _ _ _ => (pg_name (i := 10) sc_law.nd rfl (Or.inl rfl))) (fun _ _ _ _ _ => pts_one (pt_cmpR op_ne (pe_ix (k_ixT K rfl) (pe_cl (c_law_next T) hr (by decide) rfl (pa_cons (pv 2) (pa_cons (pv 5) pa_nil))) (pv 10) (fun _ _ => rfl)) (pe_ix (k_ixT K rfl) (pv 5) (pv 10) (fun _ _ => rfl)) (nomark _))) (fun _ _ _ _ _ => (pv 10)))
      (pss_cons (ps_par (i := 16) (j := 10) rfl sc_law.nd rfl rfl (by decide) rfl rfl (pa_cons (pe_cl (c_law_still T) hr (by decide) rfl (pa_cons (pv 2) (pa_cons (pv 5) (pa_cons pe_int pa_nil)))) (pa_cons (pe_cl (c_law_taken T) hr (by decide) rfl (pa_cons (pv 1) (pa_cons (pe_ix (k_ixT K rfl) (pv 2) pe_int (fun _ _ => rfl)) pa_nil))) pa_nil)) (by rfl))
      (pss_cons (ps_set (i := 17) sc_law.nd rfl (Or.inl rfl) (pe_lst (pa_cons (pe_join pe_str (pe_lc (own := [("_law_mood", 11)]) rfl sc_law.nd (kpi_tup K rfl (pv 5)) (blkOk_by (by kernel_rfl)) (fun _ _ _ _ _ => (pg_name (i := 11) sc_law.nd rfl (Or.inl rfl))) (fun _ _ _ _ _ => pts_nil) (fun _ _ _ _ _ => (pe_callTy call_str_int rfl T.n_str bb_str (pa_cons (pv 11) pa_nil))))) (pa_cons (pe_ifExp (pt_cmpR (k_neD K rfl hr.units) (pv 15) (pe_lst pa_nil) (nomark _)) (pe_join pe_str (pe_lc (own := [("_law_other", 21)]) rfl sc_law.nd (kpi_list K rfl (pv 15)) (blkOk_by (by kernel_rfl)) (fun _ _ _ _ _ => (pg_name (i := 21) sc_law.nd rfl (Or.inl rfl))) (fun _ _ _ _ _ => pts_nil) (fun _ _ _ _ _ => (pe_callTy call_str_int rfl T.n_str bb_str (pa_cons (pv 21) pa_nil))))) pe_str) pa_nil))))
      (pss_cons (ps_expr (pe_bm PySem.F.plainAttrs_list PySem.F.slot_list_append PySem.F.type_list_append mt_append (pv 17) (pa_cons (pe_ifExp (pt_cmpR op_isN (pv 16) pe_non (nomark _)) pe_str (pe_callTy call_str_int rfl T.n_str bb_str (pa_cons (pv 16) pa_nil))) pa_nil)))
      (pss_cons (ps_if (pt_not (pt_val (pe_cl (c_law_alike T 2) hr (by decide) rfl (pa_cons (pe_lc (own := [("_law_line", 13)]) rfl sc_law.nd (kpi_list K rfl (pe_lst (pa_cons pe_str (pa_cons pe_str (pa_cons pe_str pa_nil))))) (blkOk_by (by kernel_rfl)) (fun _ _ _ _ _ => (pg_name (i := 13) sc_law.nd rfl (Or.inl rfl))) (fun _ _ _ _ _ => pts_nil) (fun _ _ _ _ _ => (pe_dmt (m_run T DT WT WD NT) hr (by decide) LamX.takes0 (fun _ _ _ _ h => h) (pv 4) (pa_cons (pv 13) pa_nil)))) (pa_cons (pv 17) pa_nil))))) (pss_one (ps_ret pe_bl)) pss_nil)
      (pss_cons (ps_asg (pe_ix (k_ixT K rfl) (pe_cl (c_law_speeds T) hr (by decide) rfl (pa_cons (pv 2) (pa_cons (pv 5) pa_nil))) (pv 10) (fun _ _ => rfl)) (kpg_tup K rfl rfl (pgs_cons (pg_name (i := 18) sc_law.nd rfl (Or.inl rfl)) (pgs_cons (pg_name (i := 19) sc_law.nd rfl (Or.inl rfl)) pgs_nil))))
      (pss_cons (ps_if (pt_not (pt_val (pe_cl (c_law_alike T 2) hr (by decide) rfl (pa_cons (pe_dmt (m_run T DT WT WD NT) hr (by decide) LamX.takes0 (fun _ _ _ _ h => h) (pv 4) (pa_cons (pe_op op_add_str pe_str (pe_callTy call_str_int rfl T.n_str bb_str (pa_cons (pv 10) pa_nil))) pa_nil)) (pa_cons (pe_op op_add_str (pe_op op_add_str (pe_callTy call_str_int rfl T.n_str bb_str (pa_cons (pv 18) pa_nil)) pe_str) (pe_callTy call_str_int rfl T.n_str bb_str (pa_cons (pv 19) pa_nil))) pa_nil))))) (pss_one (ps_ret pe_bl)) pss_nil)
      (pss_cons (ps_set (i := 20) sc_law.nd rfl (Or.inl rfl) (pe_lst (pa_cons (pe_tup (pa_cons pe_str (pa_cons pe_int pa_nil))) (pa_cons (pe_tup (pa_cons pe_str (pa_cons pe_int pa_nil))) (pa_cons (pe_tup (pa_cons pe_str (pa_cons pe_int pa_nil))) (pa_cons (pe_tup (pa_cons pe_str (pa_cons pe_int pa_nil))) (pa_cons (pe_tup (pa_cons pe_str (pa_cons pe_int pa_nil))) (pa_cons (pe_tup (pa_cons pe_str (pa_cons pe_int pa_nil))) (pa_cons (pe_tup (pa_cons pe_str (pa_cons pe_int pa_nil))) (pa_cons (pe_tup (pa_cons pe_str (pa_cons pe_int pa_nil))) pa_nil))))))))))
      (pss_cons (ps_set (i := 20) sc_law.nd rfl (Or.inl rfl) (pe_op op_cat (pv 20) (pe_lst (pa_cons (pe_tup (pa_cons pe_str (pa_cons pe_int pa_nil))) (pa_cons (pe_tup (pa_cons pe_str (pa_cons pe_int pa_nil))) (pa_cons (pe_tup (pa_cons pe_str (pa_cons pe_int pa_nil))) (pa_cons (pe_tup (pa_cons (pe_op op_add_str (pe_op op_add_str pe_str (pe_callTy call_str_int rfl T.n_str bb_str (pa_cons (pe_ix (k_ixT K rfl) (pv 2) pe_int (fun _ _ => rfl)) pa_nil))) pe_str) (pa_cons pe_int pa_nil))) (pa_cons (pe_tup (pa_cons pe_str (pa_cons pe_int pa_nil))) pa_nil))))))))
      (pss_cons (ps_set (i := 20) sc_law.nd rfl (Or.inl rfl) (pe_op op_cat (pv 20) (pe_lst (pa_cons (pe_tup (pa_cons pe_str (pa_cons pe_int pa_nil))) (pa_cons (pe_tup (pa_cons pe_str (pa_cons pe_int pa_nil))) (pa_cons (pe_tup (pa_cons pe_str (pa_cons pe_int pa_nil))) (pa_cons (pe_tup (pa_cons pe_str (pa_cons pe_int pa_nil))) (pa_cons (pe_tup (pa_cons pe_str (pa_cons pe_int pa_nil))) (pa_cons (pe_tup (pa_cons (pe_op op_add_str (pe_op op_add_str pe_str (pe_op op_repS pe_str pe_int)) pe_str) (pa_cons pe_int pa_nil))) pa_nil)))))))))
      (pss_cons (ps_set (i := 20) sc_law.nd rfl (Or.inl rfl) (pe_op op_cat (pv 20) (pe_lst (pa_cons (pe_tup (pa_cons (pe_op op_add_str pe_str (pe_op op_repS pe_str pe_int)) (pa_cons pe_int pa_nil))) (pa_cons (pe_tup (pa_cons pe_str (pa_cons pe_int pa_nil))) (pa_cons (pe_tup (pa_cons pe_str (pa_cons (pe_ifExp (pt_cmpR (k_eqD K rfl hr.units) (pv 7) (pe_lst pa_nil) (nomark _)) pe_int pe_int) pa_nil))) (pa_cons (pe_tup (pa_cons pe_str (pa_cons pe_int pa_nil))) (pa_cons (pe_tup (pa_cons pe_str (pa_cons pe_int pa_nil))) pa_nil))))))))
      (pss_cons (ps_if (pt_cmpR (k_neD K rfl hr.units) (d_bad T DT WT WD NT FT TB hr) (pe_lst pa_nil) (nomark _)) (pss_one (ps_ret pe_bl)) pss_nil)
      (pss_cons (ps_if (pt_cmpR (k_neD K rfl hr.units) (d_text T DT WT WD NT FT TB hr) (pe_op op_rep (pe_lst (pa_cons pe_str pa_nil)) pe_int) (nomark _)) (pss_one (ps_ret pe_bl)) pss_nil)
      (pss_one (ps_ret (pe_cl (c_law_alike T 2) hr (by decide) rfl (pa_cons (pe_lst (pa_cons (pe_get (c_state DT.toDeskC GS) DT.c (pv 4) hr (by decide)) (pa_cons (pe_get (c_ticks DT.toDeskC GT) DT.c (pv 4) hr (by decide)) pa_nil))) (pa_cons (pe_lst (pa_cons (pv 5) (pa_cons (pv 6) pa_nil))) pa_nil)))))))))))))))))))))))), ?_⟩)
  obtain ⟨a0, ns, rfl, sq, hl, htb, q⟩ := h
  -- the script alone is frozen
  have sq0 : SqL K (plainF fun b => if b = a0 then H b else none) a0 (ns.map V.int) := by
    refine plain_l ?_
    rcases sq with (z | ⟨o, z⟩) | z
    · exact .inl (.inl (by show (if a0 = a0 then H a0 else none) = _; rw [if_pos rfl]; exact z))
    · exact .inl (.inr ⟨o, by show (if a0 = a0 then H a0 else none) = _; rw [if_pos rfl]; exact z⟩)
    · exact .inr z
  have F0p : PlainH (plainF fun b => if b = a0 then H b else none) := fun b u e => (plainF_some.mp e).2
  have F0i : Same (plainF fun b => if b = a0 then H b else none) H := fun b u e => by
    have e := (plainF_some.mp e).1
    by_cases z : b = a0
    · rw [if_pos z] at e; exact e
    · rw [if_neg z] at e; cases e
  generalize (plainF fun b => if b = a0 then H b else none) = F0 at sq0 F0p F0i
  have S0 := sta_start (N := ["_law_script", "_law_row", "_law_web_here", "_law_state_here", "_law_desk", "_law_here", "_law_gone", "_law_past", "_law_turn", "_law_way", "_law_one", "_law_mood", "_law_many", "_law_line", "_law_more", "_law_some", "_law_still_here", "_law_due", "_law_top", "_law_bottom", "_law_bad", "_law_other", "_law_word"]) F0i (.one (Dp.lst sq0 (DpAll.ints ns)))
  have S0 := (show Sta K _ _ _ (.fz (.list (ns.map .int)) :: .no :: .no :: .no :: .no :: .no :: .no :: .no :: Z15) _ _ _ from S0)
  have l100 : ∀ {x : Row}, x.s = ns → x.s.length ≤ 100 := fun e => by rw [e]; omega
  refine run_nx (N := fun r' => r' = .fz (.list (ns.map .int)) :: .mu (rowD ⟨ns, 0, 15565, 0⟩) :: .no :: .no :: .no :: .no :: .no :: .no :: Z15) S0 (sd_setN (ds := rowD ⟨ns, 0, 15565, 0⟩) (en_is (en_lst (ea_cons (ef_var rfl) (ea_cons ef_int (ea_cons ef_int (ea_cons ef_int ea_nil)))) (by simp)) rfl) rfl) fun r1 s1 F1 H1 e1 S1 => ?_
  subst e1
  refine run_nx (N := fun r' => ∃ g row, r' = .fz (.list (ns.map .int)) :: .mu (rowD row) :: .fz (encW g) :: .no :: .no :: .no :: .no :: .no :: Z15 ∧ WOk g ∧ row.s = ns) S1 (sd_setV (ev_callM (k := 1) (m := 0) (t := .mu (rowD ⟨ns, 0, 15565, 0⟩)) (⟨ns, 0, 15565, 0⟩ : Row) rfl rfl (egm_pm rfl (egm_fz ef_int egm_nil)) rfl (fun i hi => one_pm (fun t ht => by simp at ht; rw [ht]; rfl) i hi) ⟨rfl, l100 rfl⟩ fun d es ⟨g, y, e1, e2, e3, e4⟩ => ?_)) fun r2 s2 F2 H2 e2 S2 => ?_
  · subst e1 e3
    exact ⟨g, y, rfl, e2, e4⟩
  obtain ⟨g, row, rfl, ok, er⟩ := e2
  refine run_nx (N := fun r' => ∃ st row, r' = .fz (.list (ns.map .int)) :: .mu (rowD row) :: .fz (encW g) :: .fz (encS st) :: .no :: .no :: .no :: .no :: Z15 ∧ SOk g.n st ∧ row.s = ns) S2 (sd_setV (ev_callM (k := 1) (m := 0) (t := .mu (rowD row)) ((row, g) : Row × Web) rfl rfl (egm_pm rfl (egm_fz (ef_var rfl) egm_nil)) rfl (fun i hi => one_pm (fun t ht => by simp at ht; rw [ht]; rfl) i hi) ⟨rfl, ok, l100 er⟩ fun d es ⟨st, y, e1, e2, e3, e4⟩ => ?_)) fun r3 s3 F3 H3 e3 S3 => ?_
  · subst e1 e3
    exact ⟨st, y, rfl, e2, e4.trans er⟩
  obtain ⟨st0, row, rfl, so0, er⟩ := e3
  -- the desk
  refine asg_tup ?_
  refine sta_make (i := 2) (j := 3) S3 rfl rfl ok so0 fun x dx pl F4 H4 H0' S4 hv hb h3 => ?_
  obtain ⟨v3, hv3, dv3⟩ := S4.fz (i := 3) rfl
  refine ⟨v3, hv3, by show 0 ≤ sizeLine; decide, fun p hp => ⟨by show 4 ≤ sizeLine; decide, fun tp htp => ?_⟩⟩
  have g5 : Grow F4 H4 F4 (upd H4 p (.lst [])) := Grow.newM S4.i hp
  have g6 := g5.trans (Grow.newM g5.i htp (o := .tup [.ref x, v3, .int 0, .ref p]))
  have S6 := S4.grow g6
  have S7 := S6.set (i := 4) (t := .dk C x dx pl (deskD g st0 0 [])) (hv.grow g6) (fun m => by cases m)
  have S9 := (S7.setF (i := 5) (Dp.up g6.f _ _ dv3)).setF (i := 6) (Dp.int (K := K) (H := F4) 0)
  have ptp : p ≠ tp := fun z => by rw [← z, upd_same] at htp; cases htp
  have S10 := S9.setN (i := 7) (p := p) (vs := []) (ds := []) (S4.i.free hp) (hb_of S4 p hp) (by rw [upd_ne ptp, upd_same]) .nil (fun j u _ e m => ne_set (k1 := .fz (.int 0)) (ne_set (k1 := .fz (encS st0)) (ne_set (k1 := .dk C x dx pl (deskD g st0 0 [])) (mut_ne S4 hp) S4.len (fun z => by cases z)) (by rw [List.length_set, List.length_set, S4.len]) (fun z => by cases z)) (by rw [List.length_set, List.length_set, List.length_set, List.length_set, S4.len]) (fun z => by cases z) j u e m)
  refine ⟨tp, _, rfl, SqT.of upd_same, rfl, _, _, rfl, _, _, rfl, _, _, rfl, _, _, rfl, rfl, ?_⟩
  have L0 : Lw K (TL P0) C x dx pl [] (deskD g st0 0 []) (RL ns row g st0 (.dk C x dx pl (deskD g st0 0 [])) st0 0 [] Z15) _ _ _ := ⟨⟨F0, H0', S10, fun y hy => ?_, F0p, fun b hb3 => (h3 b hb3).2, fun y hy => by cases hy⟩, rfl⟩
  case refine_1 =>
    rw [List.mem_singleton.mp hy]
    refine TabS.nil ?_
    show H0' P0 = _
    rw [hb P0 (fun z => by have := (h3 P0 z).1; rw [htb] at this; cases this)]
    exact htb
  have one : ∀ {dk : Slo} {row : Row} {st : List Int} {t : Int} {ps : Past} {z : List Slo}, z.all (fun t => !t.isDk) = true → OneDk (RL ns row g st0 dk st t ps z) 4 := fun {dk row st t ps z} hz j u ne e => by
    match j, ne with
    | 0, _ => cases e; rfl
    | 1, _ => cases e; rfl
    | 2, _ => cases e; rfl
    | 3, _ => cases e; rfl
    | 4, ne => exact absurd rfl ne
    | 5, _ => cases e; rfl
    | 6, _ => cases e; rfl
    | 7, _ => cases e; rfl
    | j + 8, _ =>
      have := List.all_eq_true.mp hz u (List.mem_of_getElem? (show z[j]? = some u from by simpa using e))
      simpa using this
  show tSeq (tIfS (tTest (tOp (rNeD K) (toldT K C CI CN P0 (tC (.str "back"))) (tTup (tCons (tC (.str "word")) (tCons (tC (.int 0)) tNil))))) (tRet (tC (.bl false))) tNext) _ _ _ _
  refine L0.skip (lgb_is (lgb_test (eg_neD (eg_bad (one rfl) ok so0 (ea_cons ef_str ea_nil) back_first WT.te) (ef_tup (ea_cons ef_str (ea_cons ef_int ea_nil)) (by simp)) (sh_told 0) (sh_told 0))) (told_ne 0)) fun F5 H5 L1 => ?_
  have n1 := ok.n1
  have n6 := ok.n6
  have small : ∀ {i : Nat}, i ≤ 6 → (nS (i : Int)).length = 1 ∧ (i : Int).natAbs.log2 < 1920 := fun h => small_len (by omega) (by omega)
  refine L1.run (N := fun r' => ∃ m, m ≤ 1000 ∧ LoopJ C x dx pl ns g st0 m r') (sd_for1V (fun n m r' => LoopJ C x dx pl ns g st0 m r') (eva_cons (P := fun d r' => ∃ n : Nat, d = iN n ∧ n ≤ 1000 ∧ LoopJ C x dx pl ns g st0 0 r') (ev_I0 (P' := fun d r' => d = .int 3 ∧ r' = RL ns row g st0 (.dk C x dx pl (deskD g st0 0 [])) st0 0 [] Z15) (ev_of ef_int ⟨rfl, rfl⟩) (fun d r' hp => ?_)) (fun d r' hp => ?_)) (fun n m r' hm hn hJ => ?_) (fun n r' hn hJ => ⟨n, hn, hJ⟩)) fun r6 s6 F6 H6 hN mk => ?_
  · obtain ⟨rfl, rfl⟩ := hp
    refine ⟨3, rfl, ev_taken (x := row) (n := 8) (k := 1) rfl rfl rfl ef_int (by decide) (by decide) (l100 er) fun v y hv ey => ⟨v, rfl, 3 + v, ?_, by omega, y, st0, 0, [], Wkn.refl _, ey.trans er, so0, Nat.zero_le _, fun p z => by cases z⟩⟩
    show PyData.int (3 + (v : Int)) = .int ((3 + v : Nat) : Int)
    congr 1
  · obtain ⟨n, e, hn, hj⟩ := hp
    exact eva_nil ⟨n, by rw [e], hn, hj⟩
  · obtain ⟨row, st, t, ps, hw, er, so, hps, hpo⟩ := hJ
    have hl : ps.length ≤ 1000 := by omega
    refine sd_wk (hw.set (k := 8)) ?_
    refine sd_seq (sd_par3V (eva_cons (P := fun d r' => ∃ (way : Nat) (y : Row), d = iN way ∧ way < 6 ∧ y.s = ns ∧ r' = RL ns y g st0 (.dk C x dx pl (deskD g st t ps)) st t ps [.fz (iN m), .no, .no, .no, .no, .no, .no, .no, .no, .no, .no, .no, .no, .no, .no]) (ev_taken (x := row) (n := 6) (k := 1) rfl rfl rfl ef_int (by decide) (by decide) (l100 er) fun v y hv ey => ⟨v, y, rfl, hv, ey.trans er, rfl⟩) fun d r' hp => ?_))
    obtain ⟨way, y1, rfl, hway, er1, rfl⟩ := hp
    refine eva_cons (P := fun d r' => ∃ (o : Nat) (y : Row), d = iN o ∧ o < g.n ∧ y.s = ns ∧ r' = RL ns y g st0 (.dk C x dx pl (deskD g st t ps)) st t ps [.fz (iN m), .no, .no, .no, .no, .no, .no, .no, .no, .no, .no, .no, .no, .no, .no]) (ev_taken (x := y1) (n := g.n) (k := 1) rfl rfl rfl (ef_ixT (ef_var rfl) ef_int (encW0 g)) (by omega) (by omega) (l100 er1) fun v y hv ey => ⟨v, y, rfl, hv, ey.trans er1, rfl⟩) fun d r' hp => ?_
    obtain ⟨o, y2, rfl, ho, er2, rfl⟩ := hp
    refine eva_cons (P := fun d r' => ∃ (mo : Nat) (y : Row), d = iN mo ∧ mo < 3 ∧ y.s = ns ∧ r' = RL ns y g st0 (.dk C x dx pl (deskD g st t ps)) st t ps [.fz (iN m), .no, .no, .no, .no, .no, .no, .no, .no, .no, .no, .no, .no, .no, .no]) (ev_taken (x := y2) (n := 3) (k := 1) rfl rfl rfl ef_int (by decide) (by decide) (l100 er2) fun v y hv ey => ⟨v, y, rfl, hv, ey.trans er2, rfl⟩) fun d r' hp => ?_
    obtain ⟨mo, y3, rfl, hmo, er3, rfl⟩ := hp
    refine eva_nil ⟨_, _, _, rfl, ?_⟩
    show Sd K _ (RL ns y3 g st0 (.dk C x dx pl (deskD g st t ps)) st t ps [.fz (iN m), .fz (iN way), .fz (iN o), .fz (iN mo), .no, .no, .no, .no, .no, .no, .no, .no, .no, .no, .no]) _
    refine sd_seq (sd_setV (ev_callM (k := 1) (m := 0) (t := .mu (rowD y3)) ((y3, manyL) : Row × List PyData) rfl rfl (egm_pm rfl (egm_fz (En.ef (en_is (en_lst (ea_cons ef_int (ea_cons ef_int (ea_cons ef_int (ea_cons (ef_is (ef_pow ef_int ef_int ⟨by decide, by decide, by decide⟩) (congrArg PyData.int (show (10 : Int) ^ (30 : Int).toNat = ((1000000000000000000000000000000 : Nat) : Int) by decide +kernel))) (ea_cons (ef_is (ef_I0 (ef_pow ef_int ef_int ⟨by decide, by decide, by decide⟩) ef_int) (congrArg PyData.int (show (10 : Int) ^ (12 : Int).toNat + 7 = ((1000000000007 : Nat) : Int) by decide +kernel))) ea_nil))))) (by simp)) rfl)) egm_nil)) rfl (fun i hi => one_pm (fun t ht => by simp at ht; rw [ht]; rfl) i hi) ⟨rfl, by show 0 < manyL.length; decide, by show manyL.length ≤ 1000; decide, l100 er3⟩ fun d es ⟨hd, y, e1, e2⟩ => ?_))
    obtain ⟨k, rfl, hk⟩ := many_is hd
    subst e1
    have er4 := e2.trans er3
    show Sd K _ (RL ns y g st0 (.dk C x dx pl (deskD g st t ps)) st t ps [.fz (iN m), .fz (iN way), .fz (iN o), .fz (iN mo), .fz (iN k), .no, .no, .no, .no, .no, .no, .no, .no, .no, .no]) _
    obtain ⟨ks, kl⟩ := many_small hk
    have o1 := small (i := o) (by omega)
    have m1 := small (i := mo) (by omega)
    have lt : ("ticks " : Str).length = 6 := by decide
    have lp : ("paint " : Str).length = 6 := by decide
    have lb : (" " : Str).length = 1 := by decide
    refine sd_seq (sd_set (d := .str (lineS way k o mo)) (ef_dget2 (end_disp (edp_cons ef_int (ef_str (x := "tick")) rfl (edp_cons ef_int (ef_addS ef_str (ef_strI (ef_var rfl) kl) ?l1) rfl (edp_cons ef_int (ef_addS (ef_addS (ef_addS ef_str (ef_strI (ef_var rfl) o1.2) ?l2) ef_str ?l3) (ef_strI (ef_var rfl) m1.2) ?l4) rfl edp_nil))) (by show 3 ≤ 15; decide)) (ef_var rfl) ef_str rfl (dict_line hway _ _) rfl) ?_)
    case l1 =>
      show _ + (nS (k : Int)).length ≤ _
      omega
    case l2 =>
      show _ + (nS (o : Int)).length ≤ _
      omega
    case l3 =>
      show (("paint " : Str) ++ nS (o : Int)).length + _ ≤ _
      rw [len_app]
      omega
    case l4 =>
      show (("paint " : Str) ++ nS (o : Int) ++ " ").length + (nS (mo : Int)).length ≤ _
      rw [len_app, len_app]
      omega
    refine sd_seq (sd_weak (B := { nx := fun r' => ∃ (L : Str) (st' : List Int) (t' : Int) (ps' : Past), (RunOk g st t ps (.str L) (.ok (.str "")) (deskD g st' t' ps') ∧ SOk g.n st' ∧ ps'.length ≤ m + 1 ∧ (∀ p, p ∈ ps' → SOk g.n p.1) ∧ ((L = "back" ∧ ps = ps' ++ [(st', t')]) ∨ (decide (L = "back") = false ∧ ps' = ps ++ [(st, t)] ∧ ((way = 2 ∧ st' = st.set o (mo : Int) ∧ t' = t + 0) ∨ (way ≠ 2 ∧ st' = itr g st (moreN way k) ∧ t' = t + ((moreN way k : Nat) : Int)))))) ∧ r' = RL ns y g st0 (.dk C x dx pl (deskD g st t ps)) st t ps [.fz (iN m), .fz (iN way), .fz (iN o), .fz (iN mo), .fz (iN k), .fz (.str L), .no, .no, .no, .no, .no, .no, .no, .no, .no] }) ?_ (fun r' hp => ?_) (fun _ _ z => z.elim) (fun _ z => z.elim) (fun _ z => z.elim))
    · have more : ∀ p, p ∈ ps ++ [(st, t)] → SOk g.n p.1 := fun p hp => by
        rcases List.mem_append.mp hp with z | z
        · exact hpo p z
        · simp at z; rw [z]; exact so
      have lm : (ps ++ [(st, t)]).length ≤ m + 1 := by rw [List.length_append, List.length_singleton]; omega
      refine sd_if (b := decide (2 < way) && ps.isEmpty) (eb_and (eb_is (eb_test (ef_B0 (ef_var rfl) ef_int)) (decide_eq_decide.mpr ⟨fun h => by omega, fun h => by omega⟩)) fun _ => eb_is (eb_test (ef_eqD (El.er (el_var (i := 7) rfl)) (El.er (En.el (en_lst ea_nil (by simp)))) ((sh_list (past_sh ps)).ok (by decide)) ((sh_nil (k := 0)).ok (by decide)))) (by rw [eqv_nil, List.isEmpty_map])) (fun h => sd_set ef_str ?_) (fun h => sd_next ?_)
      · rw [Bool.and_eq_true, decide_eq_true_iff] at h
        have e1 : moreN way k = 1 := by
          unfold moreN
          rw [if_neg (by omega), if_neg (by omega), if_neg (by omega)]
        exact ⟨"tick", itr g st 1, t + 1, ps ++ [(st, t)], ⟨run_tick hl, itr_ok so 1, lm, more, .inr ⟨by decide, rfl, .inr ⟨by omega, by rw [e1], by rw [e1]; rfl⟩⟩⟩, rfl⟩
      · by_cases w0 : way = 0
        · subst w0
          exact ⟨"tick", itr g st 1, t + 1, ps ++ [(st, t)], ⟨run_tick hl, itr_ok so 1, lm, more, .inr ⟨by decide, rfl, .inr ⟨by decide, rfl, rfl⟩⟩⟩, rfl⟩
        by_cases w1 : way = 1
        · subst w1
          refine ⟨"ticks " ++ nS (k : Int), itr g st k, t + k, ps ++ [(st, t)], ⟨run_many hl hk, itr_ok so k, lm, more, .inr ⟨?_, rfl, .inr ⟨by decide, rfl, rfl⟩⟩⟩, rfl⟩
          rcases hk with rfl | rfl | rfl | rfl | rfl <;> decide +kernel
        by_cases w2 : way = 2
        · subst w2
          refine ⟨"paint " ++ nS (o : Int) ++ " " ++ nS (mo : Int), st.set o (mo : Int), t + 0, ps ++ [(st, t)], ⟨run_paint ok hl ho hmo, ⟨by rw [List.length_set]; exact so.len, fun z hz => ?_⟩, lm, more, .inr ⟨?_, rfl, .inl ⟨rfl, rfl, rfl⟩⟩⟩, rfl⟩
          · rcases List.mem_or_eq_of_mem_set hz with h | h
            · exact so.mood z h
            · rw [h]; omega
          · exact paint_ne o (by omega) mo hmo
        · have he : ps.isEmpty = false := by
            rw [Bool.and_eq_false_iff] at h
            rcases h with h | h
            · exact absurd (of_decide_eq_false h) (by omega)
            · exact h
          obtain ⟨ps', p, rfl⟩ : ∃ ps' p, ps = ps' ++ [p] := by
            rcases List.eq_nil_or_concat ps with z | ⟨l, a, z⟩
            · rw [z] at he; cases he
            · exact ⟨l, a, by rw [z, List.concat_eq_append]⟩
          have el : lineS way k o mo = "back" := by
            unfold lineS
            rw [if_neg w0, if_neg w1, if_neg w2]
          rw [el]
          refine ⟨"back", p.1, p.2, ps', ⟨run_back rfl, hpo p (by simp), ?_, fun q hq => hpo q (List.mem_append_left _ hq), .inl ⟨rfl, rfl⟩⟩, rfl⟩
          rw [List.length_append, List.length_singleton] at hps
          omega
    obtain ⟨L, st', t', ps', ⟨hrun, so', hps', hpo', hb⟩, er'⟩ := hp
    subst er'
    refine sd_seq (sd_ifV (evb_not (evb_B (ev_call (eva_cons (P := fun d r' => d = .str "" ∧ r' = RL ns y g st0 (.dk C x dx pl (deskD g st' t' ps')) st t ps [.fz (iN m), .fz (iN way), .fz (iN o), .fz (iN mo), .fz (iN k), .fz (.str L), .no, .no, .no, .no, .no, .no, .no, .no, .no]) (ev_desk (i := 4) (⟨g, st, t, ps, .str L, .ok (.str ""), deskD g st' t' ps'⟩ : RunX) rfl (one rfl) (ea_cons (ef_var rfl) ea_nil) ⟨rfl, rfl, ok, so, hrun⟩ (fun o' D' po => ⟨.str "", po.1, rfl, by rw [po.2]; rfl⟩)) (fun d r' hp => eva_cons (P := fun d2 r2 => d2 = .str "" ∧ r2 = r') (ev_of ef_str ⟨rfl, rfl⟩) (fun d2 r2 hp2 => eva_nil ?_)))))))
    obtain ⟨rfl, rfl⟩ := hp
    obtain ⟨rfl, rfl⟩ := hp2
    refine ⟨.bool true, ⟨.str "", rfl, rfl, rfl⟩, true, rfl, ?_⟩
    show (if false = true then _ else _)
    rw [if_neg Bool.false_ne_true]
    refine sd_next ?_
    refine sd_seq (sd_weak (B := { nx := fun r' => Wkn r' (RL ns y g st0 (.dk C x dx pl (deskD g st' t' ps')) st' t' ps' Z15) }) ?_ (fun r' hw => sd_wk hw ?_) (fun _ _ z => z.elim) (fun _ z => z.elim) (fun _ z => z.elim))
    · rcases hb with ⟨rfl, rfl⟩ | ⟨hb, rfl, hb2⟩
      · refine sd_if (b := true) (eb_eq (i := 13) (x := "back") rfl (by decide)) (fun _ => sd_popTup (k := 7) (i := 5) (j := 6) (ds := ps'.map encPast) (d1 := encS st') (d2 := .int t') (by show some (Slo.mu ((ps' ++ [(st', t')]).map encPast)) = _; rw [List.map_append]; rfl) ?_) (fun z => by cases z)
        exact ⟨.inr rfl, ⟨.inr rfl, ⟨.inr rfl, ⟨.inr rfl, ⟨.inr rfl, ⟨.inr rfl, ⟨.inr rfl, ⟨.inr rfl, ⟨.inl rfl, ⟨.inl rfl, ⟨.inl rfl, ⟨.inl rfl, ⟨.inl rfl, ⟨.inl rfl, ⟨.inl rfl, ⟨.inl rfl, ⟨.inl rfl, ⟨.inl rfl, ⟨.inl rfl, ⟨.inl rfl, ⟨.inl rfl, ⟨.inl rfl, ⟨.inl rfl, trivial⟩⟩⟩⟩⟩⟩⟩⟩⟩⟩⟩⟩⟩⟩⟩⟩⟩⟩⟩⟩⟩⟩⟩
      · refine sd_if (b := false) (eb_ne (i := 13) (x := L) rfl hb) (fun z => by cases z) (fun _ => ?_)
        refine sd_seq (sd_app (k := 7) rfl (ef_tup (ea_cons (ef_var (i := 5) rfl) (ea_cons (ef_var (i := 6) rfl) ea_nil)) (by simp)) (by rw [List.length_map]; omega) ?_)
        refine sd_seq (sd_set (d := iN (moreN way k)) (ef_dget2 (end_disp (edp_cons ef_int (ef_is ef_int rfl) rfl (edp_cons ef_int (ef_var (i := 12) rfl) rfl (edp_cons ef_int (ef_is ef_int rfl) rfl edp_nil))) (by show 3 ≤ 15; decide)) (ef_var (i := 9) rfl) ef_int rfl (dict_more hway k) rfl) ?_)
        have hst : st'  = (if way = 2 then st.set o (mo : Int) else itr g st (moreN way k)) := by
          rcases hb2 with ⟨h1, h2, _⟩ | ⟨h1, h2, _⟩
          · rw [if_pos h1]; exact h2
          · rw [if_neg h1]; exact h2
        have htt : t' = t + ((moreN way k : Nat) : Int) := by
          rcases hb2 with ⟨h1, _, h2⟩ | ⟨_, _, h2⟩
          · rw [h2, h1]; rfl
          · exact h2
        have hi2 : o < (st.map PyData.int).length := by rw [List.length_map, so.len]; exact ho
        refine sd_seq (sd_set (d := encS st') (ef_if (b := decide (way = 2)) (eb_is (eb_test (ef_eqI (ef_var (i := 9) rfl) ef_int)) (decide_eq_decide.mpr ⟨fun h => by omega, fun h => by omega⟩)) (fun h => ?_) (fun h => ?_)) ?_)
        · rw [hst, if_pos (of_decide_eq_true h)]
          refine ef_is (ef_catA (ef_catA (ef_slA (ef_var (i := 5) rfl) eo_none (eo_some (ef_var (i := 10) rfl))) (ef_tup (ea_cons (ef_var (i := 11) rfl) ea_nil) (by simp)) ?_) (ef_slA (ef_var (i := 5) rfl) (eo_some (ef_I0 (ef_var (i := 10) rfl) ef_int)) eo_none) ?_) ?_
          · unfold cutD
            rw [List.length_take, List.length_drop, List.length_map, so.len, List.length_singleton]
            omega
          · unfold cutD
            rw [List.length_append, List.length_take, List.length_drop, List.length_take, List.length_drop, List.length_map, so.len, List.length_singleton]
            omega
          · rw [cut_set hi2]
            unfold encS
            rw [List.map_set]
            rfl
        · rw [hst, if_neg (of_decide_eq_false h)]
          exact ef_call (ea_cons (ef_var (i := 2) rfl) (ea_cons (ef_var (i := 5) rfl) (ea_cons (ef_var (i := 14) rfl) ea_nil))) ⟨g, st, moreN way k, rfl, ok, so, rfl⟩
        refine sd_set (d := .int t') (ef_is (ef_I0 (ef_var (i := 6) rfl) (ef_var (i := 14) rfl)) (by rw [htt])) ?_
        show Wkn (RL ns y g st0 (.dk C x dx pl (deskD g st' t' (ps ++ [(st, t)]))) st' t' ps [.fz (iN m), .fz (iN way), .fz (iN o), .fz (iN mo), .fz (iN k), .fz (.str L), .fz (iN (moreN way k)), .no, .no, .no, .no, .no, .no, .no, .no] |>.set 7 (.mu (ps.map encPast ++ [encPast (st, t)]))) _
        rw [show ps.map encPast ++ [encPast (st, t)] = (ps ++ [(st, t)]).map encPast by rw [List.map_append]; rfl]
        exact ⟨.inr rfl, ⟨.inr rfl, ⟨.inr rfl, ⟨.inr rfl, ⟨.inr rfl, ⟨.inr rfl, ⟨.inr rfl, ⟨.inr rfl, ⟨.inl rfl, ⟨.inl rfl, ⟨.inl rfl, ⟨.inl rfl, ⟨.inl rfl, ⟨.inl rfl, ⟨.inl rfl, ⟨.inl rfl, ⟨.inl rfl, ⟨.inl rfl, ⟨.inl rfl, ⟨.inl rfl, ⟨.inl rfl, ⟨.inl rfl, ⟨.inl rfl, trivial⟩⟩⟩⟩⟩⟩⟩⟩⟩⟩⟩⟩⟩⟩⟩⟩⟩⟩⟩⟩⟩⟩⟩
    · exact sd_if (b := false) (eb_is (eb_not (eb_B (ef_call (d := .bool true) (ea_cons (En.ef (en_lst (ea_cons (ef_propS (i := 4) rfl) (ea_cons (ef_propT (i := 4) rfl) ea_nil)) (by simp))) (ea_cons (En.ef (en_lst (ea_cons (ef_var (i := 5) rfl) (ea_cons (ef_var (i := 6) rfl) ea_nil)) (by simp))) ea_nil)) ⟨.list [encS st', .int t'], rfl, okA_desk so' n6, rfl⟩))) rfl) (fun z => by cases z) (fun _ => sd_next ⟨y, st', t', ps', Wkn.refl _, er4, so', hps', hpo'⟩)
  obtain ⟨m, hm, row, st, t, ps, hw, er, so, hps, hpo⟩ := hN
  have L6 := (mk (deskD g st t ps) ((hw.get (j := 4) rfl).resolve_left (fun z => by cases z))).wkn hw rfl
  have ip := past_sh ps
  -- who changes next
  refine L6.run (N := fun r' => r' = RL ns row g st0 (.dk C x dx pl (deskD g st t ps)) st t ps [.no, .no, .no, .no, .no, .no, .no, .mu ((stirL g st).map iN), .no, .no, .no, .no, .no, .no, .no]) (sd_setN (k := 15) (en_is (en_lcR (k := 10) (n := (g.n : Int)) (fun m => !decide (ms (nxt g st) m = ms st m)) iN (ea_cons (ef_ixT (ef_var (i := 2) rfl) ef_int (encW0 g)) ea_nil) (by omega) (fun m hm => eb_test (ef_neI (ef_ixT (ef_call (d := encS (nxt g st)) (ea_cons (ef_var (i := 2) rfl) (ea_cons (ef_var (i := 5) rfl) ea_nil)) ⟨g, st, rfl, ok, so, rfl⟩) (ef_var (i := 10) rfl) (encS_at (by rw [nxt_len]; omega))) (ef_ixT (ef_var (i := 5) rfl) (ef_var (i := 10) rfl) (encS_at (by rw [so.len]; omega))))) (fun m hm _ => ef_var (i := 10) rfl)) (by rw [toNat_cast, some_is ok so])) rfl) fun r7 s7 F7 H7 e7 mk7 => ?_
  subst e7
  have L7 := mk7 _ rfl
  obtain ⟨o, ho, hrest, ho6⟩ := rest_ex ok so
  refine L7.run (N := fun r' => ∃ (i : Nat) (y : Row), i < g.n ∧ y.s = ns ∧ r' = RL ns y g st0 (.dk C x dx pl (deskD g st t ps)) st t ps [.no, .no, .fz (iN i), .no, .no, .no, .no, .mu ((stirL g st).map iN), .fz (oN o), .no, .no, .no, .no, .no, .no]) (sd_par2V (eva_cons (P := fun d r' => d = oN o ∧ r' = RL ns row g st0 (.dk C x dx pl (deskD g st t ps)) st t ps [.no, .no, .no, .no, .no, .no, .no, .mu ((stirL g st).map iN), .no, .no, .no, .no, .no, .no, .no]) (ev_of (ef_call (d := oN o) (ea_cons (ef_var (i := 2) rfl) (ea_cons (ef_var (i := 5) rfl) (ea_cons ef_int ea_nil))) ⟨g, st, 12, o, rfl, ok, so, by decide, rfl, ho⟩) ⟨rfl, rfl⟩) (fun d r' hp => ?_))) fun r8 s8 F8 H8 e8 mk8 => ?_
  · obtain ⟨rfl, rfl⟩ := hp
    refine eva_cons (P := fun d r' => ∃ (i : Nat) (y : Row), d = iN i ∧ i < g.n ∧ y.s = ns ∧ r' = RL ns y g st0 (.dk C x dx pl (deskD g st t ps)) st t ps [.no, .no, .no, .no, .no, .no, .no, .mu ((stirL g st).map iN), .no, .no, .no, .no, .no, .no, .no]) (ev_taken (x := row) (n := g.n) (k := 1) rfl rfl rfl (ef_ixT (ef_var (i := 2) rfl) ef_int (encW0 g)) (by omega) (by omega) (l100 er) fun v y hv ey => ⟨v, y, rfl, hv, ey.trans er, rfl⟩) fun d r' hp => ?_
    obtain ⟨i, y, rfl, hi, ey, rfl⟩ := hp
    exact eva_nil ⟨_, _, rfl, i, y, hi, ey, rfl⟩
  obtain ⟨i, y, hi, ey, rfl⟩ := e8
  have L8 := mk8 _ rfl
  have sl : (stirL g st).length ≤ 6 := by
    unfold stirL
    exact Nat.le_trans (List.length_filter_le _ _) (by rw [List.length_range]; exact n6)
  have s6b : ∀ i, i ∈ stirL g st → i ≤ 6 := fun i hi => by
    unfold stirL at hi
    have := List.mem_range.mp (List.mem_filter.mp hi).1
    omega
  refine L8.run (N := fun r' => r' = RL ns y g st0 (.dk C x dx pl (deskD g st t ps)) st t ps [.no, .no, .fz (iN i), .no, .no, .no, .no, .mu ((stirL g st).map iN), .fz (oN o), .mu [.str (txtS st), .str (stirS g st)], .no, .no, .no, .no, .no]) (sd_setN (k := 17) (en_lst (ea_cons (ef_join (x := "") (ys := st.map nS) ef_str (En.el (en_is (en_lcT (k := 11) st PyData.int (fun _ => true) (fun z => .str (nS z)) (ef_var (i := 5) rfl) (by rw [so.len]; omega) (fun m hm => eb_yes) (fun m hm _ => ef_strI (ef_var (i := 11) rfl) (small_len (so.mood m hm).1 (by have := (so.mood m hm).2; omega)).2)) (by rw [filt_yes, List.map_map]; rfl))) ?_) (ea_cons (ef_if (b := decide (stirL g st ≠ [])) (d := .str (stirS g st)) (eb_is (eb_test (ef_neD (El.er (el_var (i := 15) rfl)) (El.er (En.el (en_lst ea_nil (by simp)))) ((sh_list (k := 1) (sh_map fun x _ => sh_iN x)).ok (by decide)) ((sh_nil (k := 0)).ok (by decide)))) ?_) (fun h => ?_) (fun h => ?_)) ea_nil)) (by simp)) rfl) fun r9 s9 F9 H9 e9 mk9 => ?_
  · rw [sum_ones (fun x hx => ⟨(so.mood x hx).1, by have := (so.mood x hx).2; omega⟩), List.length_map, so.len]
    have : ("" : Str).length = 0 := by decide
    rw [this]
    omega
  · rw [eqv_nil]
    cases stirL g st <;> rfl
  · unfold stirS
    rw [if_neg (of_decide_eq_true h)]
    refine ef_join (ys := (stirL g st).map fun i : Nat => nS (i : Int)) ef_str (En.el (en_is (en_lcL (k := 21) (stirL g st) iN (fun _ => true) (fun i : Nat => .str (nS (i : Int))) (el_var (i := 15) rfl) (by omega) (fun x hx => eb_yes) (fun x hx _ => ef_strI (ef_var (i := 21) rfl) (small_len (by omega) (by have := s6b x hx; omega)).2)) (by rw [filt_yes, List.map_map]; rfl))) ?_
    have e0 : ((stirL g st).map fun i : Nat => nS (i : Int)) = ((stirL g st).map fun i : Nat => (i : Int)).map nS := by rw [List.map_map]; rfl
    rw [e0, sum_ones (fun x hx => by
      obtain ⟨i, hi, rfl⟩ := List.mem_map.mp hx
      have := s6b i hi
      omega)]
    simp only [List.length_map]
    have : (" " : Str).length = 1 := by decide
    rw [this]
    omega
  · unfold stirS
    rw [if_pos (by simpa using h)]
    exact ef_str
  subst e9
  have L9 := mk9 _ rfl
  refine L9.run (N := fun r' => r' = RL ns y g st0 (.dk C x dx pl (deskD g st t ps)) st t ps [.no, .no, .fz (iN i), .no, .no, .no, .no, .mu ((stirL g st).map iN), .fz (oN o), .mu [.str (txtS st), .str (stirS g st), .str (restY o)], .no, .no, .no, .no, .no]) (sd_app (k := 17) rfl (d := .str (restY o)) (ef_if (b := o.isNone) (eb_is (eb_test (ef_isN (Ef.er (ef_var (i := 16) rfl)))) (isN_oN o)) (fun h => ?_) (fun h => ?_)) (by show 2 < 100000; decide) rfl) fun r10 s10 F10 H10 e10 mk10 => ?_
  · cases o with
    | none => exact ef_str
    | some k => cases h
  · cases o with
    | none => cases h
    | some k => exact ef_strI (ef_var (i := 16) rfl) (small_len (by omega) (by have := ho6 k rfl; omega)).2
  subst e10
  obtain ⟨F11, L11⟩ := (mk10 _ rfl).freeze (k := 17) rfl (by decide)
  have L11 := (show Lw K (TL P0) C x dx pl [] (deskD g st t ps) (RL ns y g st0 (.dk C x dx pl (deskD g st t ps)) st t ps [.no, .no, .fz (iN i), .no, .no, .no, .no, .mu ((stirL g st).map iN), .fz (oN o), .fz (.list [.str (txtS st), .str (stirS g st), .str (restY o)]), .no, .no, .no, .no, .no]) s10 F11 H10 from L11)
  -- what is asked
  refine L11.skip (lgb_is (lgb_not (lgb_B (eg_call2 (d := .list [.str (txtS st), .str (stirS g st), .str (restY o)]) (e := .list [.str (txtS st), .str (stirS g st), .str (restY o)]) (c := .bool true) (eg_lc (α := Str × Str) [("state", txtS st), ("stirred", stirS g st), ("rest", restY o)] (fun p => .str p.1) (fun p => (RL ns y g st0 (.dk C x dx pl (deskD g st t ps)) st t ps [.no, .no, .fz (iN i), .no, .no, .no, .no, .mu ((stirL g st).map iN), .fz (oN o), .fz (.list [.str (txtS st), .str (stirS g st), .str (restY o)]), .no, .no, .no, .no, .no]).set 13 (.fz (.str p.1))) (fun _ => true) (fun p => .str p.2) (En.ef (en_lst (ea_cons ef_str (ea_cons ef_str (ea_cons ef_str ea_nil))) (by simp))) (by show 3 ≤ 90000; decide) (fun p hp => hR_set rfl) (fun p hp => hg_name (by decide)) (fun p hp => lgb_of eb_yes) (fun p hp _ => ?_)) (ef_var (i := 17) rfl) ⟨_, rfl, rfl, rfl⟩))) rfl) fun F12 H12 L12 => ?_
  · simp only [List.mem_cons, List.not_mem_nil, or_false] at hp
    rcases hp with rfl | rfl | rfl
    · exact eg_run (one rfl) ok so (ea_cons (ef_var (i := 13) rfl) ea_nil) run_state
    · exact eg_run (one rfl) ok so (ea_cons (ef_var (i := 13) rfl) ea_nil) run_stirred
    · exact eg_run (one rfl) ok so (ea_cons (ef_var (i := 13) rfl) ea_nil) (run_rest hrest)
  refine L12.run (N := fun r' => r' = RL ns y g st0 (.dk C x dx pl (deskD g st t ps)) st t ps [.no, .no, .fz (iN i), .no, .no, .no, .no, .mu ((stirL g st).map iN), .fz (oN o), .fz (.list [.str (txtS st), .str (stirS g st), .str (restY o)]), .fz (iN (spd g st i).1), .fz (iN (spd g st i).2), .no, .no, .no]) (sd_unp2 (i := 18) (j := 19) (d1 := iN (spd g st i).1) (d2 := iN (spd g st i).2) (ef_ixT (d := fracD (spd g st i).1 (spd g st i).2) (ef_call (d := encSpdT g st (spd g st)) (ea_cons (ef_var (i := 2) rfl) (ea_cons (ef_var (i := 5) rfl) ea_nil)) ⟨g, st, rfl, ok, so, rfl⟩) (ef_var (i := 10) rfl) (atN (by rw [List.getElem?_map, List.getElem?_range hi]; rfl))) rfl) fun r13 s13 F13 H13 e13 mk13 => ?_
  subst e13
  have L13 := mk13 _ rfl
  obtain ⟨sp1, sp2⟩ := best_lim ok so i
  have z1 := small sp1
  have z2 := small sp2
  have zi := small (i := i) (by omega)
  have ls : ("speed " : Str).length = 6 := by decide
  have lsl : ("/" : Str).length = 1 := by decide
  refine L13.skip (lgb_is (lgb_not (lgb_B (eg_call2 (d := .str (spdS g st i)) (e := .str (spdS g st i)) (c := .bool true) (eg_run (one rfl) ok so (ea_cons (ef_addS ef_str (ef_strI (ef_var (i := 10) rfl) zi.2) ?_) ea_nil) (run_speed ok hi)) (ef_addS (ef_addS (ef_strI (ef_var (i := 18) rfl) z1.2) ef_str ?_) (ef_strI (ef_var (i := 19) rfl) z2.2) ?_) ⟨_, rfl, rfl, rfl⟩))) rfl) fun F14 H14 L14 => ?_
  · show _ + (nS (i : Int)).length ≤ _
    omega
  · show (nS ((spd g st i).1 : Int)).length + _ ≤ _
    omega
  · show (nS ((spd g st i).1 : Int) ++ "/").length + (nS ((spd g st i).2 : Int)).length ≤ _
    rw [len_app]
    omega
  -- lines that cannot stand
  refine L14.run (N := fun r' => r' = RL ns y g st0 (.dk C x dx pl (deskD g st t ps)) st t ps [.no, .no, .fz (iN i), .no, .no, .no, .no, .mu ((stirL g st).map iN), .fz (oN o), .fz (.list [.str (txtS st), .str (stirS g st), .str (restY o)]), .fz (iN (spd g st i).1), .fz (iN (spd g st i).2), .mu (badA.map badE), .no, .no]) (sd_setN (k := 20) (en_is (en_lst (ea_cons (ef_tup (ea_cons ef_str (ea_cons ef_int ea_nil)) (by simp)) (ea_cons (ef_tup (ea_cons ef_str (ea_cons ef_int ea_nil)) (by simp)) (ea_cons (ef_tup (ea_cons ef_str (ea_cons ef_int ea_nil)) (by simp)) (ea_cons (ef_tup (ea_cons ef_str (ea_cons ef_int ea_nil)) (by simp)) (ea_cons (ef_tup (ea_cons ef_str (ea_cons ef_int ea_nil)) (by simp)) (ea_cons (ef_tup (ea_cons ef_str (ea_cons ef_int ea_nil)) (by simp)) (ea_cons (ef_tup (ea_cons ef_str (ea_cons ef_int ea_nil)) (by simp)) (ea_cons (ef_tup (ea_cons ef_str (ea_cons ef_int ea_nil)) (by simp)) ea_nil)))))))) (by simp)) rfl) rfl) fun r15 s15 F15 H15 e15 mk15 => ?_
  subst e15
  have L15 := mk15 _ rfl
  have lpt : ("paint " : Str).length = 6 := by decide
  have zn := small (i := g.n) n6
  refine L15.run (N := fun r' => r' = RL ns y g st0 (.dk C x dx pl (deskD g st t ps)) st t ps [.no, .no, .fz (iN i), .no, .no, .no, .no, .mu ((stirL g st).map iN), .fz (oN o), .fz (.list [.str (txtS st), .str (stirS g st), .str (restY o)]), .fz (iN (spd g st i).1), .fz (iN (spd g st i).2), .mu ((badA ++ badB g.n).map badE), .no, .no]) (sd_setN (k := 20) (en_is (en_cat (k := 20) rfl (en_lst (ea_cons (ef_tup (ea_cons ef_str (ea_cons ef_int ea_nil)) (by simp)) (ea_cons (ef_tup (ea_cons ef_str (ea_cons ef_int ea_nil)) (by simp)) (ea_cons (ef_tup (ea_cons ef_str (ea_cons ef_int ea_nil)) (by simp)) (ea_cons (ef_tup (ea_cons (ef_addS (ef_addS ef_str (ef_strI (ef_ixT (ef_var (i := 2) rfl) ef_int (encW0 g)) zn.2) ?_) ef_str ?_) (ea_cons ef_int ea_nil)) (by simp)) (ea_cons (ef_tup (ea_cons ef_str (ea_cons ef_int ea_nil)) (by simp)) ea_nil))))) (by simp)) (by show badA.length + 5 ≤ 100000; decide)) ?_) rfl) fun r16 s16 F16 H16 e16 mk16 => ?_
  · show _ + (nS (g.n : Int)).length ≤ _
    omega
  · show (("paint " : Str) ++ nS (g.n : Int)).length + _ ≤ _
    rw [len_app]
    have : (" 0" : Str).length = 2 := by decide
    omega
  · rw [List.map_append]
    rfl
  subst e16
  have L16 := mk16 _ rfl
  refine L16.run (N := fun r' => r' = RL ns y g st0 (.dk C x dx pl (deskD g st t ps)) st t ps [.no, .no, .fz (iN i), .no, .no, .no, .no, .mu ((stirL g st).map iN), .fz (oN o), .fz (.list [.str (txtS st), .str (stirS g st), .str (restY o)]), .fz (iN (spd g st i).1), .fz (iN (spd g st i).2), .mu ((badA ++ badB g.n ++ badC).map badE), .no, .no]) (sd_setN (k := 20) (en_is (en_cat (k := 20) rfl (en_lst (ea_cons (ef_tup (ea_cons ef_str (ea_cons ef_int ea_nil)) (by simp)) (ea_cons (ef_tup (ea_cons ef_str (ea_cons ef_int ea_nil)) (by simp)) (ea_cons (ef_tup (ea_cons ef_str (ea_cons ef_int ea_nil)) (by simp)) (ea_cons (ef_tup (ea_cons ef_str (ea_cons ef_int ea_nil)) (by simp)) (ea_cons (ef_tup (ea_cons ef_str (ea_cons ef_int ea_nil)) (by simp)) (ea_cons (ef_tup (ea_cons (ef_addS (ef_addS ef_str (ef_repS (k := 30) ef_str (ef_is ef_int rfl) (by decide +kernel)) (by decide +kernel)) ef_str (by decide +kernel)) (ea_cons ef_int ea_nil)) (by simp)) ea_nil)))))) (by simp)) ?_) ?_) rfl) fun r17 s17 F17 H17 e17 mk17 => ?_
  · rw [List.length_map, List.length_append]
    show badA.length + 5 + 6 ≤ 100000
    decide
  · rw [List.map_append (l₁ := badA ++ badB g.n)]
    rfl
  subst e17
  have L17 := mk17 _ rfl
  refine L17.run (N := fun r' => r' = RL ns y g st0 (.dk C x dx pl (deskD g st t ps)) st t ps [.no, .no, .fz (iN i), .no, .no, .no, .no, .mu ((stirL g st).map iN), .fz (oN o), .fz (.list [.str (txtS st), .str (stirS g st), .str (restY o)]), .fz (iN (spd g st i).1), .fz (iN (spd g st i).2), .mu ((badA ++ badB g.n ++ badC ++ badD ps.isEmpty).map badE), .no, .no]) (sd_setN (k := 20) (en_is (en_cat (k := 20) rfl (en_lst (ea_cons (ef_tup (ea_cons (ef_addS ef_str (ef_repS (k := 99) ef_str (ef_is ef_int rfl) (by decide +kernel)) (by decide +kernel)) (ea_cons ef_int ea_nil)) (by simp)) (ea_cons (ef_tup (ea_cons ef_str (ea_cons ef_int ea_nil)) (by simp)) (ea_cons (ef_tup (ea_cons ef_str (ea_cons (ef_if (b := ps.isEmpty) (d := .int (if ps.isEmpty then 0 else 1)) (eb_is (eb_test (ef_eqD (El.er (el_var (i := 7) rfl)) (El.er (En.el (en_lst ea_nil (by simp)))) ((sh_list ip).ok (by decide)) ((sh_nil (k := 0)).ok (by decide)))) ?_) (fun h => ?_) (fun h => ?_)) ea_nil)) (by simp)) (ea_cons (ef_tup (ea_cons ef_str (ea_cons ef_int ea_nil)) (by simp)) (ea_cons (ef_tup (ea_cons ef_str (ea_cons ef_int ea_nil)) (by simp)) ea_nil))))) (by simp)) ?_) ?_) rfl) fun r18 s18 F18 H18 e18 mk18 => ?_
  · rw [eqv_nil, List.isEmpty_map]
  · rw [if_pos h]
    exact ef_int
  · rw [if_neg (by rw [h]; exact Bool.false_ne_true)]
    exact ef_int
  · rw [List.length_map, List.length_append, List.length_append]
    show badA.length + 5 + badC.length + 5 ≤ 100000
    decide
  · rw [List.map_append (l₁ := badA ++ badB g.n ++ badC)]
    rfl
  subst e18
  obtain ⟨F19, L19⟩ := (mk18 _ rfl).freeze (k := 20) rfl (by decide)
  have L19 := (show Lw K (TL P0) C x dx pl [] (deskD g st t ps) (RL ns y g st0 (.dk C x dx pl (deskD g st t ps)) st t ps [.no, .no, .fz (iN i), .no, .no, .no, .no, .mu ((stirL g st).map iN), .fz (oN o), .fz (.list [.str (txtS st), .str (stirS g st), .str (restY o)]), .fz (iN (spd g st i).1), .fz (iN (spd g st i).2), .fz (.list ((badA ++ badB g.n ++ badC ++ badD ps.isEmpty).map badE)), .no, .no]) s18 F19 H18 from L19)
  have bad : ∀ p, p ∈ badA ++ badB g.n ++ badC ++ badD ps.isEmpty → RunOk g st t ps (.str p.1) (.word p.2) (deskD g st t ps) := fun p hp => by
    rcases List.mem_append.mp hp with hp | hp
    · rcases List.mem_append.mp hp with hp | hp
      · rcases List.mem_append.mp hp with hp | hp
        · exact bad_A p hp
        · exact bad_B ok p hp
      · exact bad_C ok p hp
    · exact bad_D p hp
  have lbad : (badA ++ badB g.n ++ badC ++ badD ps.isEmpty).length ≤ 90000 := by
    rw [List.length_append, List.length_append, List.length_append]
    show badA.length + 5 + badC.length + 5 ≤ 90000
    decide
  show tSeq (tIfS (tTest (tOp (rNeD K) (badT K C CI CN P0) (tLst tNil))) (tRet (tC (.bl false))) tNext) _ _ _ _
  refine L19.skip (lgb_is (lgb_test (eg_neD (d := .list []) (e := .list []) (eg_is (eg_lc (α := Str × Int) (badA ++ badB g.n ++ badC ++ badD ps.isEmpty) badE (fun p => ((RL ns y g st0 (.dk C x dx pl (deskD g st t ps)) st t ps [.no, .no, .fz (iN i), .no, .no, .no, .no, .mu ((stirL g st).map iN), .fz (oN o), .fz (.list [.str (txtS st), .str (stirS g st), .str (restY o)]), .fz (iN (spd g st i).1), .fz (iN (spd g st i).2), .fz (.list ((badA ++ badB g.n ++ badC ++ badD ps.isEmpty).map badE)), .no, .no]).set 13 (.fz (.str p.1))).set 22 (.fz (.int p.2))) (fun _ => false) (fun p => .str p.1) (ef_var (i := 20) rfl) lbad (fun p hp => hR_set2 (by decide) rfl rfl) (fun p hp => hg_pair (by decide) (by decide) (by decide)) (fun p hp => ?_) (fun p hp z => by cases z)) ?_) (En.ef (en_lst ea_nil (by simp))) ((sh_nil (k := 0)).ok (by decide)) ((sh_nil (k := 0)).ok (by decide)))) (by rw [eqv_nil]; rfl)) fun F20 H20 L20 => ?_
  · exact lgb_is (lgb_test (eg_neD (eg_bad (one rfl) ok so (ea_cons (ef_var (i := 13) rfl) ea_nil) (bad p hp) WT.te) (ef_tup (ea_cons ef_str (ea_cons (ef_var (i := 22) rfl) ea_nil)) (by simp)) (sh_told p.2) (sh_told p.2))) (told_ne p.2)
  · rw [List.filter_eq_nil_iff.mpr (fun a _ => Bool.false_ne_true)]
    rfl
  -- no lines at all
  show tSeq (tIfS (tTest (tOp (rNeD K) (textT K C CI CN P0) (tOp rRep (tLst (tCons (tC (.str "text")) tNil)) (tC (.int 4))))) (tRet (tC (.bl false))) tNext) _ _ _ _
  refine L20.skip (lgb_is (lgb_test (eg_neD (d := .list [.str "text", .str "text", .str "text", .str "text"]) (e := .list [.str "text", .str "text", .str "text", .str "text"]) (eg_lc (α := PyData) [.none, .int 3, .list [.str "tick"], .bool true] id (fun d => (RL ns y g st0 (.dk C x dx pl (deskD g st t ps)) st t ps [.no, .no, .fz (iN i), .no, .no, .no, .no, .mu ((stirL g st).map iN), .fz (oN o), .fz (.list [.str (txtS st), .str (stirS g st), .str (restY o)]), .fz (iN (spd g st i).1), .fz (iN (spd g st i).2), .fz (.list ((badA ++ badB g.n ++ badC ++ badD ps.isEmpty).map badE)), .no, .no]).set 13 (.fz d)) (fun _ => true) (fun _ => .str "text") (En.ef (en_lst (ea_cons ef_non (ea_cons ef_int (ea_cons (En.ef (en_lst (ea_cons ef_str ea_nil) (by simp))) (ea_cons ef_bl ea_nil)))) (by simp))) (by show 4 ≤ 90000; decide) (fun p hp => hR_set rfl) (fun p hp => hg_name (by decide)) (fun p hp => lgb_of eb_yes) (fun p hp _ => ?_)) (En.ef (en_is (en_rep (i := 4) (ea_cons ef_str ea_nil) ef_int (by simp) (by decide)) rfl)) (by decide +kernel) (by decide +kernel))) (by simp [PyData.eqv, PyData.eqvAll])) fun F21 H21 L21 => ?_
  · refine eg_text (one rfl) ok so (ea_cons (ef_var (i := 13) rfl) ea_nil) ?_ tf tn
    simp only [List.mem_cons, List.not_mem_nil, or_false] at hp
    rcases hp with rfl | rfl | rfl | rfl <;> rfl
  -- the end
  obtain ⟨F0', H0'', S21, _⟩ := L21.ex
  exact (ef_call (d := .bool true) (ea_cons (En.ef (en_lst (ea_cons (ef_propS (i := 4) rfl) (ea_cons (ef_propT (i := 4) rfl) ea_nil)) (by simp))) (ea_cons (En.ef (en_lst (ea_cons (ef_var (i := 5) rfl) (ea_cons (ef_var (i := 6) rfl) ea_nil)) (by simp))) ea_nil)) ⟨.list [encS st, .int t], rfl, okA_desk so n6, rfl⟩ : Ef K _ _ (.bool true)) _ _ _ _ _ _ S21 _ fun v F22 H22 g22 dv => by cases dv; exact q H22
end
end Tm
set_option maxRecDepth 100000
set_option maxHeartbeats 4000000
/-! The end: what the top has left, each a fact of its own. -/
namespace Tm
open PySem PySem.Spec PyProof.Rows L2 LamX
section
variable {K : PySem.W.Frag} {h : Heap} {mg : Str → Option Value} {w : World} {P : Program}
theorem ft_mk {x : Str} {st : Stmt} {f : Addr} {oc kV doc pm cdv ct : Value} {od an : Option Addr} {osl : Array (Option Value)} (X : K.In h) (G : h.Ns mainGlobals mg) (a : PySem.W.nsIn K mainGlobals x = some (some (.ref f)))
    (l : K.lookup f = some ⟨oc, od, .func (PySem.W.fnOf x x (defArgs st) (defBody st) (defScope st) .none kV doc pm an cdv ct), osl⟩) (c : PySem.W.codeIn K cdv x = true) (k : PySem.W.keepIn K (.ref f) = true) : Ft K mg x st := ⟨f, _, fun_mk l c k, PySem.W.mg_of X G a⟩
theorem con_mk {x : Str} {v : V} {u : Value} (X : K.In h) (G : h.Ns mainGlobals mg) (r : RelV v u) (a : PySem.W.nsIn K mainGlobals x = some (some u)) : ∃ u, mg x = some u ∧ RelV v u := ⟨u, PySem.W.mg_of X G a, r⟩
theorem coni_mk {x : Str} {i : Int} {t : Tok} (X : K.In h) (G : h.Ns mainGlobals mg) (a : PySem.W.nsIn K mainGlobals x = some (some (.int i t))) : ∃ u, mg x = some u ∧ RelV (.int i) u := ⟨_, PySem.W.mg_of X G a, t, rfl⟩
theorem cons_mk {x z : Str} {t : Tok} (X : K.In h) (G : h.Ns mainGlobals mg) (a : PySem.W.nsIn K mainGlobals x = some (some (.str z t))) : ∃ u, mg x = some u ∧ RelV (.str z) u := ⟨_, PySem.W.mg_of X G a, t, rfl⟩
theorem fmt_mk {m qual : Str} {st : Stmt} {C f : Addr} {oc kV doc pm cdv ct : Value} {od an : Option Addr} {osl : Array (Option Value)} (a : PySem.W.findIn K (.ref C) m = some (some (.ref f))) (i : PySem.W.isFn K (.ref f) = true)
    (l : K.lookup f = some ⟨oc, od, .func (PySem.W.fnOf m qual (defArgs st) (defBody st) (defScope st) .none kV doc pm an cdv ct), osl⟩) (c : PySem.W.codeIn K cdv qual = true) (k : PySem.W.keepIn K (.ref f) = true) : Fmt K C m qual st := ⟨f, _, fun_mk l c k, a, i, k⟩
theorem mkt_mk {C f : Addr} {oc kV doc pm cdv ct : Value} {od an : Option Addr} {osl : Array (Option Value)} (m : PySem.W.makesIn K C = true) (a : PySem.W.findIn K (.ref C) "__init__" = some (some (.ref f))) (i : PySem.W.isFn K (.ref f) = true) (kc : PySem.W.keepIn K (.ref C) = true)
    (l : K.lookup f = some ⟨oc, od, .func (PySem.W.fnOf "__init__" "Desk.__init__" (defArgs (inClass (top 48) 0)) (defBody (inClass (top 48) 0)) (defScope (inClass (top 48) 0)) .none kV doc pm an cdv ct), osl⟩) (c : PySem.W.codeIn K cdv "Desk.__init__" = true) (k : PySem.W.keepIn K (.ref f) = true) : MkTxt K C := ⟨f, _, fun_mk l c k, m, a, i, kc⟩
theorem get_mk {m qual : Str} {st : Stmt} {C p g : Addr} {rest : List Value} {oc kV doc pm cdv ct : Value} {od an : Option Addr} {osl : Array (Option Value)} (a : PySem.W.findIn K (.ref C) m = some (some (.ref p))) (gt : PySem.W.specialIn K (.ref p) "__get__" = some (some (.builtin "property.__get__"))) (tk : PySem.W.takesIn K (.ref p) = some true) (rc : PySem.W.recIn K p "property" = some (.ref g :: rest))
    (l : K.lookup g = some ⟨oc, od, .func (PySem.W.fnOf m qual (defArgs st) (defBody st) (defScope st) .none kV doc pm an cdv ct), osl⟩) (c : PySem.W.codeIn K cdv qual = true) (k : PySem.W.keepIn K (.ref g) = true) : GetTxt K C m qual st := ⟨p, g, _, ⟨a, gt, tk, rest, rc⟩, fun_mk l c k⟩
theorem desk_mk {C : Addr} (pg : PySem.W.plainGet K C Str.empty = true) (hd : PySem.W.hasDictIn K C = true) (po : PySem.W.plainOver K C = true) (sa : PySem.W.findIn K (.ref C) "__setattr__" = some (some (.builtin "object.__setattr__")))
    (nW : PySem.W.findIn K (.ref C) "_web" = some none) (nS : PySem.W.findIn K (.ref C) "_state" = some none) (nT : PySem.W.findIn K (.ref C) "_ticks" = some none) (nP : PySem.W.findIn K (.ref C) "_past" = some none) : DeskC K C := ⟨⟨pg, hd, po, sa⟩, nW, nS, nT, nP⟩
/-- except S, an error of class A -/
theorem exm_mk {A S : Addr} {b : Bool} (h1 : PySem.W.subIn K (.ref S) (.type "BaseException") = some true) (h2 : PySem.W.isClsIn K S = true) (h3 : PySem.W.typeIn K (.ref S) = some (.type "type")) (h4 : PySem.W.subIn K (.ref A) (.ref S) = some b) :
    PySem.W.exmOne K (.ref A) (.ref S) = some b := by
  have e1 : (PySem.W.subIn K (.ref S) (.type "BaseException") == some true) = true := by rw [h1] <;> rfl
  have e2 : ((PySem.W.clsIn K S).isSome && PySem.W.typeIn K (.ref S) == some (.type "type")) = true := by
    have h2' : (PySem.W.clsIn K S).isSome = true := h2
    rw [h2', h3] <;> rfl
  unfold PySem.W.exmOne
  rw [if_pos e1]
  exact (if_pos e2).trans h4
theorem note_mk {CN : Addr} (X : K.In h) (G : h.Ns mainGlobals mg) (a : PySem.W.nsIn K mainGlobals "NotText" = some (some (.ref CN))) (x : PySem.W.excIn K CN veBases "ValueError.__new__" = true) (k : PySem.W.keepIn K (.ref CN) = true) (b : PySem.W.subIn K (.ref CN) (.type "BaseException") = some true) (t : PySem.W.typeIn K (.ref CN) = some (.type "type")) : NoteTxt K mg CN :=
  ⟨PySem.W.mg_of X G a, ⟨_, x, rfl⟩, k, b, t⟩
theorem words_mk {d : Addr} {es : Array DictEntry} {n : Nat} {t1 t2 t3 t4 t5 t6 t7 t8 : Tok} (X : K.In h) (G : h.Ns mainGlobals mg) (a : PySem.W.nsIn K mainGlobals "WORDS" = some (some (.ref d))) (at_ : K.lookup d = some ⟨.type "dict", none, .dict es n, #[]⟩) (lit : PySem.W.KeysLit w.params es.toList) (low : (d == sysModules) = false)
    (w1 : PySem.W.nsIn K d "tick" = some (some (.int 1 t1))) (w2 : PySem.W.nsIn K d "ticks" = some (some (.int 2 t2))) (w3 : PySem.W.nsIn K d "paint" = some (some (.int 3 t3))) (w4 : PySem.W.nsIn K d "back" = some (some (.int 1 t4)))
    (w5 : PySem.W.nsIn K d "state" = some (some (.int 1 t5))) (w6 : PySem.W.nsIn K d "stirred" = some (some (.int 1 t6))) (w7 : PySem.W.nsIn K d "rest" = some (some (.int 1 t7))) (w8 : PySem.W.nsIn K d "speed" = some (some (.int 2 t8)))
    (w9 : PySem.W.nsIn K d "" = some none) (w0 : PySem.W.nsIn K d "Tick" = some none) : WordsTxt K mg w d := by
  refine ⟨PySem.W.mg_of X G a, ⟨es, n, at_, lit, low⟩, fun z hz => ?_, fun z i hz => ?_⟩
  · unfold wordTab at hz
    simp only [List.mem_cons, List.not_mem_nil, or_false, Prod.mk.injEq, reduceCtorEq, and_false, false_or, and_true] at hz
    rcases hz with rfl | rfl
    · exact w9
    · exact w0
  · unfold wordTab at hz
    simp only [List.mem_cons, List.not_mem_nil, or_false, Prod.mk.injEq, Option.some.injEq, reduceCtorEq, and_false] at hz
    rcases hz with ⟨rfl, rfl⟩ | ⟨rfl, rfl⟩ | ⟨rfl, rfl⟩ | ⟨rfl, rfl⟩ | ⟨rfl, rfl⟩ | ⟨rfl, rfl⟩ | ⟨rfl, rfl⟩ | ⟨rfl, rfl⟩
    · exact ⟨_, w1, t1, rfl⟩
    · exact ⟨_, w2, t2, rfl⟩
    · exact ⟨_, w3, t3, rfl⟩
    · exact ⟨_, w4, t4, rfl⟩
    · exact ⟨_, w5, t5, rfl⟩
    · exact ⟨_, w6, t6, rfl⟩
    · exact ⟨_, w7, t7, rfl⟩
    · exact ⟨_, w8, t8, rfl⟩
end
theorem law_at {l : PySem.W.OpenLaw} {w : World} {K : PySem.W.Frag} {h : Heap} {mg : Str → Option Value} {fa f C CI CN fI dW c P0 : Addr} {oc kV doc pm ct cc : Value} {od an cd : Option Addr} {osl csl : Array (Option Value)} {vs : Array Value} (X : K.In h) (G : h.Ns mainGlobals mg) (hmg : mg "law" = some (.ref fa)) (own : OwnTab K fa h)
    (T : Txt K mg) (DT : DTxt K mg C CI CN) (WT : WordTxt l.prog K mg CI fI) (WD : WordsTxt K mg w dW) (NT : NoteTxt K mg CN) (MT : MkTxt K C) (FT : Ft K mg "_law_told" (top 67))
    (GS : GetTxt K C "state" "Desk.state" (inClass (top 48) 1)) (GT : GetTxt K C "ticks" "Desk.ticks" (inClass (top 48) 2)) (tf : PySem.W.exmOne K (.ref CN) (.ref CI) = some false) (tn : PySem.W.exmOne K (.ref CN) (.ref CN) = some true)
    (a : PySem.W.nsIn K mainGlobals "law" = some (some (.ref f))) (lk : K.lookup f = some ⟨oc, od, .func (PySem.W.fnOf "law" "law" (defArgs (top 70)) (defBody (top 70)) (defScope (top 70)) .none kV doc pm an (.ref c) ct), osl⟩) (hcd : PySem.W.codeIn K (.ref c) "law" = true)
    (lc : K.lookup c = some ⟨cc, cd, .fields vs, csl⟩) (l11 : vs[11]? = some (.ref P0)) (ch : PySem.W.codeHdIn K c P0 = true) (nP : K.lookup P0 = none) : LawAtS l w K L2.CX0 9 63 "_law_script" mg fa h := by
  have e := hmg.symm.trans (PySem.W.mg_of X G a)
  cases e
  have tab := own c P0 _ _ _ _ _ _ lk rfl rfl lc l11
  refine ⟨_, [(c, P0)], spLaw K P0, fun p hp => ?_, fun p hp => ?_, fun p hp => ?_, fun s u => .of_eq rfl, fun H a ns hl _ hT hS => ⟨a, ns, rfl, hS, hl, hT (c, P0) (List.mem_singleton.mpr rfl), fun _ => rfl⟩, fun base Kb Gb TB => law_ok T DT WT WD NT MT FT (TB (c, P0) (List.mem_singleton.mpr rfl)) GS GT tf tn lk hcd⟩
  · rw [List.mem_singleton.mp hp]; exact tab
  · rw [List.mem_singleton.mp hp]; exact nP
  · rw [List.mem_singleton.mp hp]; exact PySem.W.codeHd_of_K X ch
end Tm
set_option maxRecDepth 100000
set_option maxHeartbeats 4000000
/-! The own error's facts, made of what the top has left. -/
namespace Tm
open PySem PySem.W PySem.Calls PyProof.Rows PySem.HandSPX
theorem word_mk {K : Frag} {h : Heap} {mg : Str → Option Value} {prog : Program} {C fI cda cc : Addr} {nm q N sn sub ab col dd k0 k1 k2 k3 k5} {bs bm : List Value} {oc doc pm ct ccl cl : Value} {od an cdd cld : Option Addr} {osl ccs csl : Array (Option Value)} {vs : Array Value} {file : Str} {tf : Tok} (X : K.In h) (G : h.Ns mainGlobals mg) (aC : nsIn K mainGlobals "InvalidText" = some (some (.ref C)))
    (xL : K.lookup C = some (excClassObj nm q C N bs bm true sn sub ab col dd k0 k1 k2 k3 k5 "ValueError.__new__")) (rv : refsVE bm = true) (al : alongIn K "__init__" bm = some (some (.builtin "ValueError.__init__")))
    (sa : findIn K (.ref C) "__setattr__" = some (some (.builtin "object.__setattr__"))) (ga : findIn K (.ref C) "__getattribute__" = some (some (.builtin "BaseException.__getattribute__"))) (gg : findIn K (.ref C) "__getattr__" = some none) (nb : findIn K (.ref C) "word" = some none)
    (iC : findIn K (.ref C) "__init__" = some (some (.ref fI))) (tC : typeIn K (.ref fI) = some (.type "function")) (kC : keepIn K (.ref C) = true) (eC : subIn K (.ref C) (.type "BaseException") = some true) (vC : subIn K (.ref C) (.type "ValueError") = some true) (tyC : typeIn K (.ref C) = some (.type "type")) (hC : hasDictIn K C = true)
    (i1 : isClsIn K C = true) (sC : subIn K (.ref C) (.ref C) = some true) (ns : nsIn K mainGlobals "super" = some none) (nT : (prog.main.scope.names.lookup ("super" : Str)).isSome = false) (th : nsIn K cStatics "thirdparty.any" = some none)
    (l1 : K.lookup fI = some ⟨oc, od, .func (fnX "__init__" "InvalidText.__init__" iA iB iS [("__class__", cc)] .none .none doc pm an (.ref cda) ct), osl⟩) (c1 : codeIn K (.ref cda) "InvalidText.__init__" = true) (l2 : K.lookup cda = some ⟨ccl, cdd, .fields vs, ccs⟩) (l2v : vs[2]? = some (.str file tf)) (nf : ((prog.main.file : Str) == file) = true) (l3 : K.lookup cc = some ⟨cl, cld, .cell (some (.ref C)), csl⟩) : WordTxt prog K mg C fI :=
  ⟨mg_of X G aC, ⟨nm, q, N, bs, bm, sn, sub, ab, col, dd, k0, k1, k2, k3, k5, xL, rv, al⟩, sa, ga, gg, nb, iC, tC, kC, eC, vC, tyC, hC, exm_mk eC i1 tyC sC, mg_none_of X G ns, nT, th, ⟨oc, od, doc, pm, an, cda, cc, ct, osl, ccl, cl, cdd, cld, ccs, csl, vs, file, tf, l1, c1, l2, l2v, nf, l3⟩⟩
end Tm
open PySem PySem.W PyProof.Rows
set_option maxRecDepth 100000 in
set_option maxHeartbeats 0 in
open_top hd for PySem.Challenge.rw_threemoods_k19_whole_desks
set_option maxRecDepth 100000 in
set_option maxHeartbeats 0 in
theorem PySem.Challenge.cw_threemoods_k19_whole_desks_holds : PySem.Challenge.rw_threemoods_k19_whole_desks.Holds := by
  exact hd (by
    refine LamX.walk_ofOwn (l := PySem.Challenge.rw_threemoods_k19_whole_desks) (n := 63) (k := 9) (CX := fun _ => L2.CX0) (x := "_law_script") rfl (by decide) rfl ⟨rfl, by decide, by decide⟩ ?hrec (fun w h Y => PySem.W.km_in_of Y) ?F (fun _ _ _ _ _ z => z)
    case hrec => decide +kernel
    case F =>
      intro w mg fa h Y KX G hmg own
      have n_isinstance : mg "isinstance" = none := PySem.W.mg_none_of KX G (by k_is)
      have n_int : mg "int" = none := PySem.W.mg_none_of KX G (by k_is)
      have n_bool : mg "bool" = none := PySem.W.mg_none_of KX G (by k_is)
      have n_tuple : mg "tuple" = none := PySem.W.mg_none_of KX G (by k_is)
      have n_len : mg "len" = none := PySem.W.mg_none_of KX G (by k_is)
      have n_range : mg "range" = none := PySem.W.mg_none_of KX G (by k_is)
      have n_all : mg "all" = none := PySem.W.mg_none_of KX G (by k_is)
      have n_any : mg "any" = none := PySem.W.mg_none_of KX G (by k_is)
      have n_sum : mg "sum" = none := PySem.W.mg_none_of KX G (by k_is)
      have n_max : mg "max" = none := PySem.W.mg_none_of KX G (by k_is)
      have n_min : mg "min" = none := PySem.W.mg_none_of KX G (by k_is)
      have n_abs : mg "abs" = none := PySem.W.mg_none_of KX G (by k_is)
      have n_str : mg "str" = none := PySem.W.mg_none_of KX G (by k_is)
      have n_list : mg "list" = none := PySem.W.mg_none_of KX G (by k_is)
      have n_sorted : mg "sorted" = none := PySem.W.mg_none_of KX G (by k_is)
      have k_MOST_FOLK : ∃ u, mg "MOST_FOLK" = some u ∧ L2.RelV (.int 10) u := Tm.coni_mk KX G (by k_is)
      have k_MOODS : ∃ u, mg "MOODS" = some u ∧ L2.RelV (.int 3) u := Tm.coni_mk KX G (by k_is)
      have k_MOST_FIGURES : ∃ u, mg "MOST_FIGURES" = some u ∧ L2.RelV (.int 31) u := Tm.coni_mk KX G (by k_is)
      have k_FIGURES : ∃ u, mg "FIGURES" = some u ∧ L2.RelV (.str "0123456789") u := Tm.cons_mk KX G (by k_is)
      have MTk : ∃ u, mg "MOST_TICK" = some u ∧ L2.RelV (.int 1000000000000000000000000000000) u := Tm.coni_mk KX G (by k_is)
      refine' (Tm.law_at KX G hmg own ?T ⟨(Tm.desk_mk  ?pg_49 ?hd_49 ?po_49 ?sa_49 ?nW_49 ?nS_49 ?nT_49 ?nP_49), PySem.W.mg_of KX G ?g, MTk, (Tm.fmt_mk  ?a_50 ?i_50 ?l_50 ?c_50 ?k_50), (Tm.fmt_mk  ?a_51 ?i_51 ?l_51 ?c_51 ?k_51), (Tm.fmt_mk  ?a_52 ?i_52 ?l_52 ?c_52 ?k_52), (Tm.fmt_mk  ?a_53 ?i_53 ?l_53 ?c_53 ?k_53), (Tm.fmt_mk  ?a_54 ?i_54 ?l_54 ?c_54 ?k_54)⟩ (Tm.word_mk KX G ?aC_55 ?xL_55 ?rv_55 ?al_55 ?sa_55 ?ga_55 ?gg_55 ?nb_55 ?iC_55 ?tC_55 ?kC_55 ?eC_55 ?vC_55 ?tyC_55 ?hC_55 ?i1_55 ?sC_55 ?ns_55 ?nT_55 ?th_55 ?l1_55 ?c1_55 ?l2_55 ?l2v_55 ?nf_55 ?l3_55) (Tm.words_mk KX G ?a_56 ?at__56 ?lit_56 ?low_56 ?w1_56 ?w2_56 ?w3_56 ?w4_56 ?w5_56 ?w6_56 ?w7_56 ?w8_56 ?w9_56 ?w0_56) (Tm.note_mk KX G ?a_57 ?x_57 ?k_57 ?b_57 ?t_57) (Tm.mkt_mk  ?m_58 ?a_58 ?i_58 ?kc_58 ?l_58 ?c_58 ?k_58) (Tm.ft_mk KX G ?a_59 ?l_59 ?c_59 ?k_59) (Tm.get_mk  ?a_60 ?gt_60 ?tk_60 ?rc_60 ?l_60 ?c_60 ?k_60) (Tm.get_mk  ?a_61 ?gt_61 ?tk_61 ?rc_61 ?l_61 ?c_61 ?k_61) (Tm.exm_mk  ?h1_62 ?h2_62 ?h3_62 ?h4_62) (Tm.exm_mk  ?h1_63 ?h2_63 ?h3_63 ?h4_63) ?a_64 ?lk_64 ?hcd_64 ?lc_64 ?l11_64 ?ch_64 ?nP_64)
      case T =>
        refine' Tm.Txt.mk n_isinstance n_int n_bool n_tuple n_len n_range n_all n_any n_sum n_max n_min n_abs n_str n_list n_sorted k_MOST_FOLK k_MOODS k_MOST_FIGURES k_FIGURES ?f_is_number ?f_is_street ?f_need_web ?f_near_lists ?f_ways_from ?f_parts_of ?f_are_moods ?f_need_both ?f_step ?f_stirred_in ?f_number_in ?f_need_text ?f_moods_text ?f_heights_from ?f_heights_in ?f_tick_by ?f_tick_in ?f_table_of ?f_row_behind ?f_twice ?f_first_row ?f_most_of ?f_changes_in ?f_state_in ?f_common ?f_share ?f_is_less ?f_speed_in ?f_speeds_in ?f_law_taken ?f_law_pick ?f_law_alike ?f_law_web ?f_law_state ?f_law_near ?f_law_step ?f_law_next ?f_law_ways ?f_law_parts ?f_law_rings ?f_law_round ?f_law_share ?f_law_speeds ?f_law_still ?f_law_round_trip ?f_law_late ?f_law_speeds_by ?f_law_spot
        case f_is_number =>
          refine' Tm.ft_mk KX G ?a_1 ?l_1 ?c_1 ?k_1
          (case a_1 => k_is)
          (case l_1 => k_is)
          (case c_1 => k_is)
          (case k_1 => k_is)
        case f_is_street =>
          refine' Tm.ft_mk KX G ?a_2 ?l_2 ?c_2 ?k_2
          (case a_2 => k_is)
          (case l_2 => k_is)
          (case c_2 => k_is)
          (case k_2 => k_is)
        case f_need_web =>
          refine' Tm.ft_mk KX G ?a_3 ?l_3 ?c_3 ?k_3
          (case a_3 => k_is)
          (case l_3 => k_is)
          (case c_3 => k_is)
          (case k_3 => k_is)
        case f_near_lists =>
          refine' Tm.ft_mk KX G ?a_4 ?l_4 ?c_4 ?k_4
          (case a_4 => k_is)
          (case l_4 => k_is)
          (case c_4 => k_is)
          (case k_4 => k_is)
        case f_ways_from =>
          refine' Tm.ft_mk KX G ?a_5 ?l_5 ?c_5 ?k_5
          (case a_5 => k_is)
          (case l_5 => k_is)
          (case c_5 => k_is)
          (case k_5 => k_is)
        case f_parts_of =>
          refine' Tm.ft_mk KX G ?a_6 ?l_6 ?c_6 ?k_6
          (case a_6 => k_is)
          (case l_6 => k_is)
          (case c_6 => k_is)
          (case k_6 => k_is)
        case f_are_moods =>
          refine' Tm.ft_mk KX G ?a_7 ?l_7 ?c_7 ?k_7
          (case a_7 => k_is)
          (case l_7 => k_is)
          (case c_7 => k_is)
          (case k_7 => k_is)
        case f_need_both =>
          refine' Tm.ft_mk KX G ?a_8 ?l_8 ?c_8 ?k_8
          (case a_8 => k_is)
          (case l_8 => k_is)
          (case c_8 => k_is)
          (case k_8 => k_is)
        case f_step =>
          refine' Tm.ft_mk KX G ?a_9 ?l_9 ?c_9 ?k_9
          (case a_9 => k_is)
          (case l_9 => k_is)
          (case c_9 => k_is)
          (case k_9 => k_is)
        case f_stirred_in =>
          refine' Tm.ft_mk KX G ?a_10 ?l_10 ?c_10 ?k_10
          (case a_10 => k_is)
          (case l_10 => k_is)
          (case c_10 => k_is)
          (case k_10 => k_is)
        case f_number_in =>
          refine' Tm.ft_mk KX G ?a_11 ?l_11 ?c_11 ?k_11
          (case a_11 => k_is)
          (case l_11 => k_is)
          (case c_11 => k_is)
          (case k_11 => k_is)
        case f_need_text =>
          refine' Tm.ft_mk KX G ?a_12 ?l_12 ?c_12 ?k_12
          (case a_12 => k_is)
          (case l_12 => k_is)
          (case c_12 => k_is)
          (case k_12 => k_is)
        case f_moods_text =>
          refine' Tm.ft_mk KX G ?a_13 ?l_13 ?c_13 ?k_13
          (case a_13 => k_is)
          (case l_13 => k_is)
          (case c_13 => k_is)
          (case k_13 => k_is)
        case f_heights_from =>
          refine' Tm.ft_mk KX G ?a_14 ?l_14 ?c_14 ?k_14
          (case a_14 => k_is)
          (case l_14 => k_is)
          (case c_14 => k_is)
          (case k_14 => k_is)
        case f_heights_in =>
          refine' Tm.ft_mk KX G ?a_15 ?l_15 ?c_15 ?k_15
          (case a_15 => k_is)
          (case l_15 => k_is)
          (case c_15 => k_is)
          (case k_15 => k_is)
        case f_tick_by =>
          refine' Tm.ft_mk KX G ?a_16 ?l_16 ?c_16 ?k_16
          (case a_16 => k_is)
          (case l_16 => k_is)
          (case c_16 => k_is)
          (case k_16 => k_is)
        case f_tick_in =>
          refine' Tm.ft_mk KX G ?a_17 ?l_17 ?c_17 ?k_17
          (case a_17 => k_is)
          (case l_17 => k_is)
          (case c_17 => k_is)
          (case k_17 => k_is)
        case f_table_of =>
          refine' Tm.ft_mk KX G ?a_18 ?l_18 ?c_18 ?k_18
          (case a_18 => k_is)
          (case l_18 => k_is)
          (case c_18 => k_is)
          (case k_18 => k_is)
        case f_row_behind =>
          refine' Tm.ft_mk KX G ?a_19 ?l_19 ?c_19 ?k_19
          (case a_19 => k_is)
          (case l_19 => k_is)
          (case c_19 => k_is)
          (case k_19 => k_is)
        case f_twice =>
          refine' Tm.ft_mk KX G ?a_20 ?l_20 ?c_20 ?k_20
          (case a_20 => k_is)
          (case l_20 => k_is)
          (case c_20 => k_is)
          (case k_20 => k_is)
        case f_first_row =>
          refine' Tm.ft_mk KX G ?a_21 ?l_21 ?c_21 ?k_21
          (case a_21 => k_is)
          (case l_21 => k_is)
          (case c_21 => k_is)
          (case k_21 => k_is)
        case f_most_of =>
          refine' Tm.ft_mk KX G ?a_22 ?l_22 ?c_22 ?k_22
          (case a_22 => k_is)
          (case l_22 => k_is)
          (case c_22 => k_is)
          (case k_22 => k_is)
        case f_changes_in =>
          refine' Tm.ft_mk KX G ?a_23 ?l_23 ?c_23 ?k_23
          (case a_23 => k_is)
          (case l_23 => k_is)
          (case c_23 => k_is)
          (case k_23 => k_is)
        case f_state_in =>
          refine' Tm.ft_mk KX G ?a_24 ?l_24 ?c_24 ?k_24
          (case a_24 => k_is)
          (case l_24 => k_is)
          (case c_24 => k_is)
          (case k_24 => k_is)
        case f_common =>
          refine' Tm.ft_mk KX G ?a_25 ?l_25 ?c_25 ?k_25
          (case a_25 => k_is)
          (case l_25 => k_is)
          (case c_25 => k_is)
          (case k_25 => k_is)
        case f_share =>
          refine' Tm.ft_mk KX G ?a_26 ?l_26 ?c_26 ?k_26
          (case a_26 => k_is)
          (case l_26 => k_is)
          (case c_26 => k_is)
          (case k_26 => k_is)
        case f_is_less =>
          refine' Tm.ft_mk KX G ?a_27 ?l_27 ?c_27 ?k_27
          (case a_27 => k_is)
          (case l_27 => k_is)
          (case c_27 => k_is)
          (case k_27 => k_is)
        case f_speed_in =>
          refine' Tm.ft_mk KX G ?a_28 ?l_28 ?c_28 ?k_28
          (case a_28 => k_is)
          (case l_28 => k_is)
          (case c_28 => k_is)
          (case k_28 => k_is)
        case f_speeds_in =>
          refine' Tm.ft_mk KX G ?a_29 ?l_29 ?c_29 ?k_29
          (case a_29 => k_is)
          (case l_29 => k_is)
          (case c_29 => k_is)
          (case k_29 => k_is)
        case f_law_taken =>
          refine' Tm.ft_mk KX G ?a_30 ?l_30 ?c_30 ?k_30
          (case a_30 => k_is)
          (case l_30 => k_is)
          (case c_30 => k_is)
          (case k_30 => k_is)
        case f_law_pick =>
          refine' Tm.ft_mk KX G ?a_31 ?l_31 ?c_31 ?k_31
          (case a_31 => k_is)
          (case l_31 => k_is)
          (case c_31 => k_is)
          (case k_31 => k_is)
        case f_law_alike =>
          refine' Tm.ft_mk KX G ?a_32 ?l_32 ?c_32 ?k_32
          (case a_32 => k_is)
          (case l_32 => k_is)
          (case c_32 => k_is)
          (case k_32 => k_is)
        case f_law_web =>
          refine' Tm.ft_mk KX G ?a_33 ?l_33 ?c_33 ?k_33
          (case a_33 => k_is)
          (case l_33 => k_is)
          (case c_33 => k_is)
          (case k_33 => k_is)
        case f_law_state =>
          refine' Tm.ft_mk KX G ?a_34 ?l_34 ?c_34 ?k_34
          (case a_34 => k_is)
          (case l_34 => k_is)
          (case c_34 => k_is)
          (case k_34 => k_is)
        case f_law_near =>
          refine' Tm.ft_mk KX G ?a_35 ?l_35 ?c_35 ?k_35
          (case a_35 => k_is)
          (case l_35 => k_is)
          (case c_35 => k_is)
          (case k_35 => k_is)
        case f_law_step =>
          refine' Tm.ft_mk KX G ?a_36 ?l_36 ?c_36 ?k_36
          (case a_36 => k_is)
          (case l_36 => k_is)
          (case c_36 => k_is)
          (case k_36 => k_is)
        case f_law_next =>
          refine' Tm.ft_mk KX G ?a_37 ?l_37 ?c_37 ?k_37
          (case a_37 => k_is)
          (case l_37 => k_is)
          (case c_37 => k_is)
          (case k_37 => k_is)
        case f_law_ways =>
          refine' Tm.ft_mk KX G ?a_38 ?l_38 ?c_38 ?k_38
          (case a_38 => k_is)
          (case l_38 => k_is)
          (case c_38 => k_is)
          (case k_38 => k_is)
        case f_law_parts =>
          refine' Tm.ft_mk KX G ?a_39 ?l_39 ?c_39 ?k_39
          (case a_39 => k_is)
          (case l_39 => k_is)
          (case c_39 => k_is)
          (case k_39 => k_is)
        case f_law_rings =>
          refine' Tm.ft_mk KX G ?a_40 ?l_40 ?c_40 ?k_40
          (case a_40 => k_is)
          (case l_40 => k_is)
          (case c_40 => k_is)
          (case k_40 => k_is)
        case f_law_round =>
          refine' Tm.ft_mk KX G ?a_41 ?l_41 ?c_41 ?k_41
          (case a_41 => k_is)
          (case l_41 => k_is)
          (case c_41 => k_is)
          (case k_41 => k_is)
        case f_law_share =>
          refine' Tm.ft_mk KX G ?a_42 ?l_42 ?c_42 ?k_42
          (case a_42 => k_is)
          (case l_42 => k_is)
          (case c_42 => k_is)
          (case k_42 => k_is)
        case f_law_speeds =>
          refine' Tm.ft_mk KX G ?a_43 ?l_43 ?c_43 ?k_43
          (case a_43 => k_is)
          (case l_43 => k_is)
          (case c_43 => k_is)
          (case k_43 => k_is)
        case f_law_still =>
          refine' Tm.ft_mk KX G ?a_44 ?l_44 ?c_44 ?k_44
          (case a_44 => k_is)
          (case l_44 => k_is)
          (case c_44 => k_is)
          (case k_44 => k_is)
        case f_law_round_trip =>
          refine' Tm.ft_mk KX G ?a_45 ?l_45 ?c_45 ?k_45
          (case a_45 => k_is)
          (case l_45 => k_is)
          (case c_45 => k_is)
          (case k_45 => k_is)
        case f_law_late =>
          refine' Tm.ft_mk KX G ?a_46 ?l_46 ?c_46 ?k_46
          (case a_46 => k_is)
          (case l_46 => k_is)
          (case c_46 => k_is)
          (case k_46 => k_is)
        case f_law_speeds_by =>
          refine' Tm.ft_mk KX G ?a_47 ?l_47 ?c_47 ?k_47
          (case a_47 => k_is)
          (case l_47 => k_is)
          (case c_47 => k_is)
          (case k_47 => k_is)
        case f_law_spot =>
          refine' Tm.ft_mk KX G ?a_48 ?l_48 ?c_48 ?k_48
          (case a_48 => k_is)
          (case l_48 => k_is)
          (case c_48 => k_is)
          (case k_48 => k_is)
      (case g => k_is)
      (case pg_49 => k_is)
      (case hd_49 => k_is)
      (case po_49 => k_is)
      (case sa_49 => k_is)
      (case nW_49 => k_is)
      (case nS_49 => k_is)
      (case nT_49 => k_is)
      (case nP_49 => k_is)
      (case a_50 => k_is)
      (case i_50 => k_is)
      (case l_50 => k_is)
      (case c_50 => k_is)
      (case k_50 => k_is)
      (case a_51 => k_is)
      (case i_51 => k_is)
      (case l_51 => k_is)
      (case c_51 => k_is)
      (case k_51 => k_is)
      (case a_52 => k_is)
      (case i_52 => k_is)
      (case l_52 => k_is)
      (case c_52 => k_is)
      (case k_52 => k_is)
      (case a_53 => k_is)
      (case i_53 => k_is)
      (case l_53 => k_is)
      (case c_53 => k_is)
      (case k_53 => k_is)
      (case a_54 => k_is)
      (case i_54 => k_is)
      (case l_54 => k_is)
      (case c_54 => k_is)
      (case k_54 => k_is)
      (case aC_55 => k_is)
      (case xL_55 => k_is)
      (case rv_55 => first | rfl | decide +kernel)
      (case al_55 => first | rfl | decide +kernel)
      (case sa_55 => k_is)
      (case ga_55 => k_is)
      (case gg_55 => k_is)
      (case nb_55 => k_is)
      (case iC_55 => k_is)
      (case tC_55 => k_is)
      (case kC_55 => k_is)
      (case eC_55 => k_is)
      (case vC_55 => k_is)
      (case tyC_55 => k_is)
      (case hC_55 => k_is)
      (case i1_55 => k_is)
      (case sC_55 => k_is)
      (case ns_55 => k_is)
      (case nT_55 => first | rfl | decide +kernel)
      (case th_55 => k_is)
      (case l1_55 => k_is)
      (case c1_55 => k_is)
      (case l2_55 => k_is)
      (case l2v_55 => rfl)
      (case nf_55 => first | rfl | decide +kernel)
      (case l3_55 => k_is)
      (case a_56 => k_is)
      (case at__56 => k_is)
      (case lit_56 => repeat' (first | exact trivial | refine ⟨⟨_, _, rfl, rfl⟩, ?_⟩))
      (case low_56 => first | rfl | decide +kernel)
      (case w1_56 => k_is)
      (case w2_56 => k_is)
      (case w3_56 => k_is)
      (case w4_56 => k_is)
      (case w5_56 => k_is)
      (case w6_56 => k_is)
      (case w7_56 => k_is)
      (case w8_56 => k_is)
      (case w9_56 => k_is)
      (case w0_56 => k_is)
      (case a_57 => k_is)
      (case x_57 => k_exc)
      (case k_57 => k_is)
      (case b_57 => k_is)
      (case t_57 => k_is)
      (case m_58 => k_is)
      (case a_58 => k_is)
      (case i_58 => k_is)
      (case kc_58 => k_is)
      (case l_58 => k_is)
      (case c_58 => k_is)
      (case k_58 => k_is)
      (case a_59 => k_is)
      (case l_59 => k_is)
      (case c_59 => k_is)
      (case k_59 => k_is)
      (case a_60 => k_is)
      (case gt_60 => k_is)
      (case tk_60 => k_is)
      (case rc_60 => k_is)
      (case l_60 => k_is)
      (case c_60 => k_is)
      (case k_60 => k_is)
      (case a_61 => k_is)
      (case gt_61 => k_is)
      (case tk_61 => k_is)
      (case rc_61 => k_is)
      (case l_61 => k_is)
      (case c_61 => k_is)
      (case k_61 => k_is)
      (case h1_62 => k_is)
      (case h2_62 => k_is)
      (case h3_62 => k_is)
      (case h4_62 => k_is)
      (case h1_63 => k_is)
      (case h2_63 => k_is)
      (case h3_63 => k_is)
      (case h4_63 => k_is)
      (case a_64 => k_is)
      (case lk_64 => k_is)
      (case hcd_64 => k_is)
      (case lc_64 => k_is)
      (case l11_64 => rfl)
      (case ch_64 => first | rfl | decide +kernel)
      (case nP_64 => first | rfl | decide +kernel))
