import PyProof.Rows.All
import Wide.All
import OpenK.AllK
import Wide.FinOn
import HandS.Base
import HandS.Call
import HandS.List
import HandS.Comp
import HandS.Dict
import HandS.Iter
import HandS.Text
import HandS.Words
import HandS.WordsList
import HandS.Wide
import HandS.TupAny
import HandS.Zip
import HandS.Style
import HandS.IsInst
import PyProof.SumWalkG
import PyProof.WalksMore
import PySem.Challenge.RW_tablestones_k54_whole_sent_in_any_order
set_option Elab.async false
set_option linter.all false
section
set_option maxRecDepth 100000
set_option maxHeartbeats 4000000
/-! data over the abstract heap: what stands for ever (F), what is owned, and expressions by the data they give -/
namespace DL
open PySem PySem.Spec PyProof.Rows L2

def kD : Key → PyData
  | .inl i => .int i
  | .inr x => .str x
mutual
inductive Rp (K : PySem.W.Frag) (F : Hp) : V → PyData → Prop
  | non : Rp K F .non .none
  | bl (b : Bool) : Rp K F (.bl b) (.bool b)
  | int (i : Int) : Rp K F (.int i) (.int i)
  | str (x : Str) : Rp K F (.str x) (.str x)
  | lst {a : Addr} {xs : List V} {ds : List PyData} : F a = some (.lst xs) → RpAll K F xs ds → Rp K F (.ref a) (.list ds)
  | tup {a : Addr} {xs : List V} {ds : List PyData} : F a = some (.tup xs) → RpAll K F xs ds → Rp K F (.ref a) (.tuple ds)
  | dct {a : Addr} {kvs : List (Key × V)} {ds : List (PyData × PyData)} : F a = some (.dK kvs) → RpKV K F kvs ds → Rp K F (.ref a) (.dict ds)
inductive RpAll (K : PySem.W.Frag) (F : Hp) : List V → List PyData → Prop
  | nil : RpAll K F [] []
  | cons {v : V} {vs : List V} {d : PyData} {ds : List PyData} : Rp K F v d → RpAll K F vs ds → RpAll K F (v :: vs) (d :: ds)
inductive RpKV (K : PySem.W.Frag) (F : Hp) : List (Key × V) → List (PyData × PyData) → Prop
  | nil : RpKV K F [] []
  | cons {k : Key} {v : V} {vs : List (Key × V)} {d : PyData} {ds : List (PyData × PyData)} : Rp K F v d → RpKV K F vs ds → RpKV K F ((k, v) :: vs) ((kD k, d) :: ds)
end
theorem seqT {K : PySem.W.Frag} {H H' : Hp} {a : Addr} {xs : List V} (e : Same H H') (h : SqT K H a xs) : SqT K H' a xs := by
  rcases h with (h | ⟨o, h⟩) | h
  · exact .inl (.inl (e _ _ h))
  · exact .inl (.inr ⟨o, e _ _ h⟩)
  · exact .inr h
mutual
theorem Rp.up {K : PySem.W.Frag} {F F' : Hp} (e : Same F F') : ∀ {v : V} {d : PyData}, Rp K F v d → Rp K F' v d
  | _, _, .non => .non
  | _, _, .bl b => .bl b
  | _, _, .int i => .int i
  | _, _, .str x => .str x
  | _, _, .lst h a => .lst (e _ _ h) (RpAll.up e a)
  | _, _, .tup h a => .tup (e _ _ h) (RpAll.up e a)
  | _, _, .dct h a => .dct (e _ _ h) (RpKV.up e a)
theorem RpAll.up {K : PySem.W.Frag} {F F' : Hp} (e : Same F F') : ∀ {vs : List V} {ds : List PyData}, RpAll K F vs ds → RpAll K F' vs ds
  | _, _, .nil => .nil
  | _, _, .cons h a => .cons (Rp.up e h) (RpAll.up e a)
theorem RpKV.up {K : PySem.W.Frag} {F F' : Hp} (e : Same F F') : ∀ {vs : List (Key × V)} {ds : List (PyData × PyData)}, RpKV K F vs ds → RpKV K F' vs ds
  | _, _, .nil => .nil
  | _, _, .cons h a => .cons (Rp.up e h) (RpKV.up e a)
end
/-- without dicts: what == is told of -/
def noD : PyData → Bool
  | .none => true
  | .bool _ => true
  | .int _ => true
  | .str _ => true
  | .list ds => noDs ds
  | .tuple ds => noDs ds
  | .dict _ => false
where noDs : List PyData → Bool
  | [] => true
  | d :: ds => noD d && noDs ds
mutual
theorem Rp.dp {K : PySem.W.Frag} {F : Hp} : ∀ {v : V} {d : PyData}, Rp K F v d → noD d = true → Dp K F v d
  | _, _, .non, _ => .non
  | _, _, .bl b, _ => .bl b
  | _, _, .int i, _ => .int i
  | _, _, .str x, _ => .str x
  | _, _, .lst h a, n => .lst (.inl (.inl h)) (RpAll.dp a (by simpa only [noD] using n))
  | _, _, .tup h a, n => .tup (.inl (.inl h)) (RpAll.dp a (by simpa only [noD] using n))
  | _, _, .dct _ _, n => by simp [noD] at n
theorem RpAll.dp {K : PySem.W.Frag} {F : Hp} : ∀ {vs : List V} {ds : List PyData}, RpAll K F vs ds → noD.noDs ds = true → DpAll K F vs ds
  | _, _, .nil, _ => .nil
  | _, _, .cons h a, n => .cons (Rp.dp h (by simp only [noD.noDs, Bool.and_eq_true] at n; exact n.1)) (RpAll.dp a (by simp only [noD.noDs, Bool.and_eq_true] at n; exact n.2))
end
/-! inversions -/
section
variable {K : PySem.W.Frag} {F H : Hp} {v : V}
theorem Rp.of_int {i : Int} (h : Rp K F v (.int i)) : v = .int i := by cases h; rfl
theorem Rp.of_bl {b : Bool} (h : Rp K F v (.bool b)) : v = .bl b := by cases h; rfl
theorem Rp.of_str {x : Str} (h : Rp K F v (.str x)) : v = .str x := by cases h; rfl
theorem Rp.of_non (h : Rp K F v .none) : v = .non := by cases h; rfl
theorem Rp.of_lst {ds : List PyData} (h : Rp K F v (.list ds)) : ∃ a xs, v = .ref a ∧ F a = some (.lst xs) ∧ RpAll K F xs ds := by cases h with | lst h a => exact ⟨_, _, rfl, h, a⟩
theorem Rp.of_tup {ds : List PyData} (h : Rp K F v (.tuple ds)) : ∃ a xs, v = .ref a ∧ SqT K F a xs ∧ RpAll K F xs ds := by cases h with | tup h a => exact ⟨_, _, rfl, .inl (.inl h), a⟩
theorem Rp.of_tupX {ds : List PyData} (h : Rp K F v (.tuple ds)) : ∃ a xs, v = .ref a ∧ F a = some (.tup xs) ∧ RpAll K F xs ds := by cases h with | tup h a => exact ⟨_, _, rfl, h, a⟩
theorem Rp.of_dct {ds : List (PyData × PyData)} (h : Rp K F v (.dict ds)) : ∃ a kvs, v = .ref a ∧ F a = some (.dK kvs) ∧ RpKV K F kvs ds := by cases h with | dct h a => exact ⟨_, _, rfl, h, a⟩
theorem RpAll.len : ∀ {vs : List V} {ds : List PyData}, RpAll K F vs ds → vs.length = ds.length
  | _, _, .nil => rfl
  | _, _, .cons _ a => by rw [List.length_cons, List.length_cons, RpAll.len a]
theorem RpAll.at : ∀ {vs : List V} {ds : List PyData} {i : Nat} {v : V}, RpAll K F vs ds → vs[i]? = some v → ∃ d, ds[i]? = some d ∧ Rp K F v d
  | _, _, _, _, .nil, e => by simp at e
  | _, _, 0, _, .cons h _, e => by simp at e; subst e; exact ⟨_, rfl, h⟩
  | _, _, i + 1, v, .cons _ a, e => by
    obtain ⟨d, h1, h2⟩ := RpAll.at (i := i) (v := v) a (by simpa using e)
    exact ⟨d, by simpa using h1, h2⟩
theorem RpAll.at' : ∀ {vs : List V} {ds : List PyData} {i : Nat} {d : PyData}, RpAll K F vs ds → ds[i]? = some d → ∃ v, vs[i]? = some v ∧ Rp K F v d
  | _, _, _, _, .nil, e => by simp at e
  | _, _, 0, _, .cons h _, e => by simp at e; subst e; exact ⟨_, rfl, h⟩
  | _, _, i + 1, v, .cons _ a, e => by
    obtain ⟨d, h1, h2⟩ := RpAll.at' (i := i) a (by simpa using e)
    exact ⟨d, by simpa using h1, h2⟩
theorem RpAll.app : ∀ {vs ws : List V} {ds es : List PyData}, RpAll K F vs ds → RpAll K F ws es → RpAll K F (vs ++ ws) (ds ++ es)
  | _, _, _, _, .nil, b => b
  | _, _, _, _, .cons h a, b => .cons h (RpAll.app a b)
theorem RpAll.take : ∀ {vs : List V} {ds : List PyData} (n : Nat), RpAll K F vs ds → RpAll K F (vs.take n) (ds.take n)
  | _, _, 0, _ => .nil
  | _, _, _ + 1, .nil => .nil
  | _, _, n + 1, .cons h a => .cons h (RpAll.take n a)
theorem RpAll.drop : ∀ {vs : List V} {ds : List PyData} (n : Nat), RpAll K F vs ds → RpAll K F (vs.drop n) (ds.drop n)
  | _, _, 0, a => a
  | _, _, _ + 1, .nil => .nil
  | _, _, n + 1, .cons _ a => RpAll.drop n a
theorem RpAll.rev : ∀ {vs : List V} {ds : List PyData}, RpAll K F vs ds → RpAll K F vs.reverse ds.reverse
  | _, _, .nil => .nil
  | _, _, .cons h a => by
    rw [List.reverse_cons, List.reverse_cons]
    exact RpAll.app (RpAll.rev a) (.cons h .nil)
theorem RpAll.set : ∀ {vs : List V} {ds : List PyData} (i : Nat) {v : V} {d : PyData}, RpAll K F vs ds → Rp K F v d → RpAll K F (vs.set i v) (ds.set i d)
  | _, _, _, _, _, .nil, _ => .nil
  | _, _, 0, _, _, .cons _ a, h => .cons h a
  | _, _, i + 1, _, _, .cons g a, h => .cons g (RpAll.set i a h)
theorem RpAll.ints : ∀ {vs : List V} {ns : List Int}, RpAll K F vs (ns.map PyData.int) → vs = ns.map V.int
  | _, [], h => by cases h; rfl
  | _, n :: ns, h => by
    cases h with
    | cons g a => rw [Rp.of_int g, RpAll.ints a, List.map_cons]
theorem RpAll.bls : ∀ {vs : List V} {ns : List Bool}, RpAll K F vs (ns.map PyData.bool) → vs = ns.map V.bl
  | _, [], h => by cases h; rfl
  | _, n :: ns, h => by
    cases h with
    | cons g a => rw [Rp.of_bl g, RpAll.bls a, List.map_cons]
theorem RpAll.strs : ∀ {vs : List V} {ns : List Str}, RpAll K F vs (ns.map PyData.str) → vs = ns.map V.str
  | _, [], h => by cases h; rfl
  | _, n :: ns, h => by
    cases h with
    | cons g a => rw [Rp.of_str g, RpAll.strs a, List.map_cons]
theorem RpAll.of_ints : ∀ (ns : List Int), RpAll K F (ns.map V.int) (ns.map PyData.int)
  | [] => .nil
  | n :: ns => .cons (.int n) (RpAll.of_ints ns)
end

/-! ### steps -/
structure Step (M : List Addr) (F H F' H' : Hp) : Prop where
  ff : Same F F'
  fh : Same F' H'
  own : ∀ a o, F a = none → H a = some o → F' a = none ∧ ∃ o', H' a = some o' ∧ (a ∉ M → o' = o)
abbrev St0 := Step []
def Own (F H : Hp) (a : Addr) (o : HO) : Prop := F a = none ∧ H a = some o
section
variable {M : List Addr} {F H F1 H1 F2 H2 : Hp} {a p : Addr} {o o' : HO}
theorem Step.refl (w : Same F H) : Step M F H F H := ⟨Same.refl F, w, fun _ o h1 h2 => ⟨h1, o, h2, fun _ => rfl⟩⟩
theorem Step.trans (s : Step M F H F1 H1) (t : Step M F1 H1 F2 H2) : Step M F H F2 H2 := ⟨s.ff.trans t.ff, t.fh, fun a o h1 h2 => by
  obtain ⟨g1, o1, g2, g3⟩ := s.own a o h1 h2
  obtain ⟨k1, o2, k2, k3⟩ := t.own a o1 g1 g2
  exact ⟨k1, o2, k2, fun n => (k3 n).trans (g3 n)⟩⟩
theorem Step.wide {N : List Addr} (s : Step M F H F1 H1) (h : ∀ a ∈ M, a ∈ N) : Step N F H F1 H1 := ⟨s.ff, s.fh, fun a o h1 h2 => by
  obtain ⟨g1, o1, g2, g3⟩ := s.own a o h1 h2
  exact ⟨g1, o1, g2, fun n => g3 fun z => n (h a z)⟩⟩
theorem Step.w (s : St0 F H F1 H1) : Step M F H F1 H1 := Step.wide s fun _ z => absurd z (by simp)
/-- what was not there ahead need not be named -/
theorem Step.drop {l : Addr} (s : Step (l :: M) F H F1 H1) (n : H l = none) : Step M F H F1 H1 := ⟨s.ff, s.fh, fun a o h1 h2 => by
  obtain ⟨g1, o1, g2, g3⟩ := s.own a o h1 h2
  exact ⟨g1, o1, g2, fun z => g3 fun q => (List.mem_cons.mp q).elim (fun e => by rw [e, n] at h2; cases h2) z⟩⟩
theorem Step.add {l : Addr} (s : Step M F H F1 H1) : Step (l :: M) F H F1 H1 := s.wide fun _ z => List.mem_cons_of_mem _ z
theorem Own.st (s : Step M F H F1 H1) (h : a ∉ M) (q : Own F H a o) : Own F1 H1 a o := by
  obtain ⟨g1, o1, g2, g3⟩ := s.own a o q.1 q.2
  exact ⟨g1, by rw [g2, g3 h]⟩
theorem Own.up (s : St0 F H F1 H1) (q : Own F H a o) : Own F1 H1 a o := q.st s (by simp)
theorem free_of (w : Same F H) (h : H p = none) : F p = none := by
  cases q : F p with
  | none => rfl
  | some o => rw [w p o q] at h; cases h
/-- what is fresh behind a step was fresh ahead of it -/
theorem Step.back (w : Same F H) (s : Step M F H F1 H1) (h : H1 p = none) : H p = none := by
  cases q : H p with
  | none => rfl
  | some o =>
    cases r : F p with
    | none =>
      obtain ⟨_, o1, g2, _⟩ := s.own p o r q
      rw [g2] at h; cases h
    | some u =>
      have := s.fh _ _ (s.ff _ _ r)
      rw [this] at h; cases h
theorem Step.new (w : Same F H) (h : H p = none) : Step M F H (upd F p o) (upd H p o) := by
  have fp := free_of w h
  refine ⟨fun b u e => by rw [upd_ne (ne_of_none e fp)]; exact e, fun b u e => ?_, fun b u h1 h2 => ?_⟩
  · by_cases hb : b = p
    · subst hb; rw [upd_same] at e ⊢; exact e
    · rw [upd_ne hb] at e ⊢; exact w b u e
  · have hb : b ≠ p := ne_of_none h2 h
    exact ⟨by rw [upd_ne hb]; exact h1, u, by rw [upd_ne hb]; exact h2, fun _ => rfl⟩
theorem Step.own_new (w : Same F H) (h : H p = none) : Step M F H F (upd H p o) := by
  refine ⟨Same.refl F, fun b u e => ?_, fun b u h1 h2 => ?_⟩
  · rw [upd_ne (ne_of_none (w b u e) h)]; exact w b u e
  · have hb : b ≠ p := ne_of_none h2 h
    exact ⟨h1, u, by rw [upd_ne hb]; exact h2, fun _ => rfl⟩
theorem Own.new (w : Same F H) (h : H p = none) : Own F (upd H p o) p o := ⟨free_of w h, upd_same⟩
theorem Step.put (w : Same F H) (q : Own F H a o) (m : a ∈ M) : Step M F H F (upd H a o') := by
  refine ⟨Same.refl F, fun b u e => ?_, fun b u h1 h2 => ?_⟩
  · rw [upd_ne (ne_of_none e q.1)]; exact w b u e
  · by_cases hb : b = a
    · subst hb; exact ⟨h1, o', upd_same, fun n => absurd m n⟩
    · exact ⟨h1, u, by rw [upd_ne hb]; exact h2, fun _ => rfl⟩
theorem Own.put (q : Own F H a o) : Own F (upd H a o') a o' := ⟨q.1, upd_same⟩
theorem Own.put_ne {b : Addr} {u : HO} (q : Own F H b u) (n : b ≠ a) : Own F (upd H a o') b u := ⟨q.1, by rw [upd_ne n]; exact q.2⟩
/-- what was made since (F, H) is changed: no step's M need name it -/
theorem Step.put_own (s : Step M F H F1 H1) (n : H a = none) (q : Own F1 H1 a o) : Step M F H F1 (upd H1 a o') := by
  refine ⟨s.ff, fun b u e => ?_, fun b u h1 h2 => ?_⟩
  · rw [upd_ne (ne_of_none e q.1)]; exact s.fh b u e
  · obtain ⟨g1, o1, g2, g3⟩ := s.own b u h1 h2
    have hb : b ≠ a := ne_of_none h2 n
    exact ⟨g1, o1, by rw [upd_ne hb]; exact g2, g3⟩
/-- what was made since (F, H) is changed no more -/
theorem Step.frz (s : Step M F H F1 H1) (n : H a = none) (q : Own F1 H1 a o) : Step M F H (upd F1 a o) H1 := by
  refine ⟨fun b u e => ?_, fun b u e => ?_, fun b u h1 h2 => ?_⟩
  · have e1 := s.ff b u e
    rw [upd_ne (ne_of_none e1 q.1)]; exact e1
  · by_cases hb : b = a
    · subst hb; rw [upd_same] at e; rw [← e]; exact q.2
    · rw [upd_ne hb] at e; exact s.fh b u e
  · obtain ⟨g1, o1, g2, g3⟩ := s.own b u h1 h2
    have hb : b ≠ a := ne_of_none h2 n
    exact ⟨by rw [upd_ne hb]; exact g1, o1, g2, g3⟩
theorem frz_ff (q : Own F H a o) : Same F (upd F a o) := fun b u e => by rw [upd_ne (ne_of_none e q.1)]; exact e
theorem Own.frz {b : Addr} {u : HO} (q : Own F H b u) (n : b ≠ a) : Own (upd F a o) H b u := ⟨by rw [upd_ne n]; exact q.1, q.2⟩
theorem own_ne {b : Addr} {u : HO} (q : Own F H a o) (r : Own F H b u) (d : o ≠ u) : a ≠ b := ne_of q.2 r.2 d
end
end DL
end

section
set_option maxRecDepth 100000
set_option maxHeartbeats 4000000
namespace DL
open PySem PySem.Spec PyProof.Rows L2

/-! ### what an expression gives, from any (F, H) on -/
def DE (K : PySem.W.Frag) (te : TE) (σ : L2.St) (F H : Hp) (d : PyData) : Prop := ∀ F1 H1, St0 F H F1 H1 → ∀ Q : VK, (∀ v F2 H2, St0 F1 H1 F2 H2 → Rp K F2 v d → Q v H2) → te σ H1 Q
def DT (K : PySem.W.Frag) (tt : TT) (σ : L2.St) (F H : Hp) (b : Bool) : Prop := ∀ F1 H1, St0 F H F1 H1 → ∀ Q : Bool → Hp → Prop, (∀ F2 H2, St0 F1 H1 F2 H2 → Q b H2) → tt σ H1 Q
def DA (K : PySem.W.Frag) (ta : TA) (σ : L2.St) (F H : Hp) (ds : List PyData) : Prop := ∀ F1 H1, St0 F H F1 H1 → ∀ Q : List V → Hp → Prop, (∀ vs F2 H2, St0 F1 H1 F2 H2 → RpAll K F2 vs ds → Q vs H2) → ta σ H1 Q
def DO (K : PySem.W.Frag) (to : TO) (σ : L2.St) (F H : Hp) (o : Option Int) : Prop := ∀ F1 H1, St0 F H F1 H1 → ∀ Q : Option Int → Hp → Prop, (∀ F2 H2, St0 F1 H1 F2 H2 → Q o H2) → to σ H1 Q
/-- a list that is read: it stays for ever, or it is owned -/
def Ls (F H : Hp) (a : Addr) (xs : List V) : Prop := F a = some (.lst xs) ∨ Own F H a (.lst xs)
def DL (K : PySem.W.Frag) (te : TE) (σ : L2.St) (F H : Hp) (ds : List PyData) : Prop := ∀ F1 H1, St0 F H F1 H1 → ∀ Q : VK, (∀ a xs F2 H2, St0 F1 H1 F2 H2 → Ls F2 H2 a xs → RpAll K F2 xs ds → Q (.ref a) H2) → te σ H1 Q
def DU (K : PySem.W.Frag) (te : TE) (σ : L2.St) (F H : Hp) (ds : List PyData) : Prop := ∀ F1 H1, St0 F H F1 H1 → ∀ Q : VK, (∀ a xs F2 H2, St0 F1 H1 F2 H2 → F2 a = some (.tup xs) → RpAll K F2 xs ds → Q (.ref a) H2) → te σ H1 Q
/-- a list or a tuple -/
def Sq (K : PySem.W.Frag) (F H : Hp) (a : Addr) (xs : List V) : Prop := Ls F H a xs ∨ F a = some (.tup xs)
def DS (K : PySem.W.Frag) (te : TE) (σ : L2.St) (F H : Hp) (ds : List PyData) : Prop := ∀ F1 H1, St0 F H F1 H1 → ∀ Q : VK, (∀ a xs F2 H2, St0 F1 H1 F2 H2 → Sq K F2 H2 a xs → RpAll K F2 xs ds → Q (.ref a) H2) → te σ H1 Q

section
variable {K : PySem.W.Frag} {σ : L2.St} {F H F1 H1 : Hp} {ta tb te tc : TE} {t u : TT} {d d1 d2 : PyData} {ds es : List PyData} {a : Addr} {xs : List V} {v : V}
theorem Ls.up (s : St0 F H F1 H1) (h : Ls F H a xs) : Ls F1 H1 a xs := h.elim (fun z => .inl (s.ff _ _ z)) fun z => .inr (z.up s)
theorem Ls.at (w : Same F H) (h : Ls F H a xs) : H a = some (.lst xs) := h.elim (fun z => w _ _ z) fun z => z.2
theorem Ls.sq (w : Same F H) (h : Ls F H a xs) : SqL K H a xs := .inl (.inl (h.at w))
theorem Sq.up (s : St0 F H F1 H1) (h : Sq K F H a xs) : Sq K F1 H1 a xs := h.elim (fun z => .inl (z.up s)) fun z => .inr (s.ff _ _ z)
theorem Sq.or (w : Same F H) (h : Sq K F H a xs) : SqL K H a xs ∨ SqT K H a xs := h.elim (fun z => .inl (z.sq w)) fun z => .inr (.inl (.inl (w _ _ z)))

theorem DE.up (s : St0 F H F1 H1) (h : DE K te σ F H d) : DE K te σ F1 H1 d := fun F2 H2 t => h F2 H2 (s.trans t)
theorem DT.up {b : Bool} (s : St0 F H F1 H1) (h : DT K t σ F H b) : DT K t σ F1 H1 b := fun F2 H2 z => h F2 H2 (s.trans z)
theorem DA.up {ta : TA} (s : St0 F H F1 H1) (h : DA K ta σ F H ds) : DA K ta σ F1 H1 ds := fun F2 H2 t => h F2 H2 (s.trans t)
theorem DE.is (h : DE K te σ F H d1) (e : d1 = d) : DE K te σ F H d := e ▸ h
theorem DT.is {b c : Bool} (h : DT K t σ F H b) (e : b = c) : DT K t σ F H c := e ▸ h

/-! leaves -/
theorem de_var {i : Nat} (h : σ[i]? = some (some v)) (r : Rp K F v d) : DE K (tVar i) σ F H d := fun F1 H1 s Q q => ⟨v, h, q v F1 H1 (.refl s.fh) (r.up s.ff)⟩
theorem de_c (h : ∀ F, Rp K F v d) : DE K (tC v) σ F H d := fun F1 H1 s Q q => q v F1 H1 (.refl s.fh) (h F1)
theorem de_int {i : Int} : DE K (tC (.int i)) σ F H (.int i) := de_c fun _ => .int i
theorem de_bl {b : Bool} : DE K (tC (.bl b)) σ F H (.bool b) := de_c fun _ => .bl b
theorem de_str {x : Str} : DE K (tC (.str x)) σ F H (.str x) := de_c fun _ => .str x
theorem de_non : DE K (tC .non) σ F H .none := de_c fun _ => .non
/-- a slot that holds a scalar -/
theorem de_vi {i : Nat} {n : Int} (h : σ[i]? = some (some (.int n))) : DE K (tVar i) σ F H (.int n) := de_var h (.int n)
theorem dl_own {i : Nat} (h : σ[i]? = some (some (.ref a))) (o : Own F H a (.lst xs)) (r : RpAll K F xs ds) : DL K (tVar i) σ F H ds := fun F1 H1 s Q q =>
  ⟨.ref a, h, q a xs F1 H1 (.refl s.fh) (.inr (o.up s)) (r.up s.ff)⟩
theorem dl_of (h : DE K te σ F H (.list ds)) : DL K te σ F H ds := fun F1 H1 s Q q => h F1 H1 s Q fun v F2 H2 s2 r => by
  obtain ⟨a, xs, rfl, h1, h2⟩ := r.of_lst
  exact q a xs F2 H2 s2 (.inl h1) h2
theorem du_of (h : DE K te σ F H (.tuple ds)) : DU K te σ F H ds := fun F1 H1 s Q q => h F1 H1 s Q fun v F2 H2 s2 r => by
  obtain ⟨a, xs, rfl, h1, h2⟩ := r.of_tupX
  exact q a xs F2 H2 s2 h1 h2
theorem ds_l (h : DL K te σ F H ds) : DS K te σ F H ds := fun F1 H1 s Q q => h F1 H1 s Q fun a xs F2 H2 s2 l r => q a xs F2 H2 s2 (.inl l) r
theorem ds_u (h : DU K te σ F H ds) : DS K te σ F H ds := fun F1 H1 s Q q => h F1 H1 s Q fun a xs F2 H2 s2 l r => q a xs F2 H2 s2 (.inr l) r

/-! arithmetic, comparisons -/
theorem de_2 {r : R2} (ha : DE K ta σ F H d1) (hb : DE K tb σ F H d2) (hr : ∀ F1 H1 x y, Same F1 H1 → Rp K F1 x d1 → Rp K F1 y d2 → ∀ Q : VK, (∀ v F2 H2, St0 F1 H1 F2 H2 → Rp K F2 v d → Q v H2) → r x y H1 Q) : DE K (tOp r ta tb) σ F H d := fun F1 H1 s Q q =>
  ha F1 H1 s _ fun x F2 H2 s2 rx => hb F2 H2 (s.trans s2) _ fun y F3 H3 s3 ry => hr F3 H3 x y s3.fh (rx.up s3.ff) ry Q fun v F4 H4 s4 rv => q v F4 H4 ((s2.trans s3).trans s4) rv
theorem de_I0 {g : Int → Int → V} {i j : Int} (ha : DE K ta σ F H (.int i)) (hb : DE K tb σ F H (.int j)) (hg : ∀ F, Rp K F (g i j) d) : DE K (tOp (rI0 g) ta tb) σ F H d :=
  de_2 ha hb fun F1 H1 x y w rx ry Q q => ⟨i, j, rx.of_int, ry.of_int, q _ F1 H1 (.refl w) (hg F1)⟩
theorem de_I {C : Int → Int → Prop} {g : Int → Int → V} {i j : Int} (ha : DE K ta σ F H (.int i)) (hb : DE K tb σ F H (.int j)) (hc : C i j) (hg : ∀ F, Rp K F (g i j) d) : DE K (tOp (rI C g) ta tb) σ F H d :=
  de_2 ha hb fun F1 H1 x y w rx ry Q q => ⟨i, j, rx.of_int, ry.of_int, hc, q _ F1 H1 (.refl w) (hg F1)⟩
/-- + - -/
theorem de_ar {g : Int → Int → Int} {i j : Int} (ha : DE K ta σ F H (.int i)) (hb : DE K tb σ F H (.int j)) : DE K (tOp (rI0 fun i j => .int (g i j)) ta tb) σ F H (.int (g i j)) := de_I0 ha hb fun _ => .int _
/-- * // % ** -/
theorem de_arC {C : Int → Int → Prop} {g : Int → Int → Int} {i j : Int} (ha : DE K ta σ F H (.int i)) (hb : DE K tb σ F H (.int j)) (hc : C i j) : DE K (tOp (rI C fun i j => .int (g i j)) ta tb) σ F H (.int (g i j)) := de_I ha hb hc fun _ => .int _
theorem de_cm {g : Int → Int → Bool} {i j : Int} (ha : DE K ta σ F H (.int i)) (hb : DE K tb σ F H (.int j)) : DE K (tOp (rI0 fun i j => .bl (g i j)) ta tb) σ F H (.bool (g i j)) := de_I0 ha hb fun _ => .bl _
theorem de_neg {g : Int → Int} {i : Int} (ha : DE K ta σ F H (.int i)) : DE K (tUn (rU fun i => .int (g i)) ta) σ F H (.int (g i)) := fun F1 H1 s Q q =>
  ha F1 H1 s _ fun x F2 H2 s2 rx => ⟨i, rx.of_int, q _ F2 H2 s2 (.int _)⟩
theorem de_eqI {i j : Int} (ha : DE K ta σ F H (.int i)) (hb : DE K tb σ F H (.int j)) : DE K (tOp rEq ta tb) σ F H (.bool (decide (i = j))) :=
  de_2 ha hb fun F1 H1 x y w rx ry Q q => by
    cases rx.of_int; cases ry.of_int
    refine ⟨rfl, q _ F1 H1 (.refl w) ?_⟩
    have e : decide (V.int i = V.int j) = decide (i = j) := decide_eq_decide.mpr ⟨V.int.inj, congrArg _⟩
    rw [e]; exact .bl _
theorem de_neI {i j : Int} (ha : DE K ta σ F H (.int i)) (hb : DE K tb σ F H (.int j)) : DE K (tOp rNe ta tb) σ F H (.bool (!decide (i = j))) :=
  de_2 ha hb fun F1 H1 x y w rx ry Q q => by
    cases rx.of_int; cases ry.of_int
    refine ⟨rfl, q _ F1 H1 (.refl w) ?_⟩
    have e : decide (V.int i = V.int j) = decide (i = j) := decide_eq_decide.mpr ⟨V.int.inj, congrArg _⟩
    rw [e]; exact .bl _
theorem de_eqS {i j : Str} (ha : DE K ta σ F H (.str i)) (hb : DE K tb σ F H (.str j)) : DE K (tOp rEq ta tb) σ F H (.bool (decide (i = j))) :=
  de_2 ha hb fun F1 H1 x y w rx ry Q q => by
    cases rx.of_str; cases ry.of_str
    refine ⟨rfl, q _ F1 H1 (.refl w) ?_⟩
    have e : decide (V.str i = V.str j) = decide (i = j) := decide_eq_decide.mpr ⟨V.str.inj, congrArg _⟩
    rw [e]; exact .bl _
theorem de_neS {i j : Str} (ha : DE K ta σ F H (.str i)) (hb : DE K tb σ F H (.str j)) : DE K (tOp rNe ta tb) σ F H (.bool (!decide (i = j))) :=
  de_2 ha hb fun F1 H1 x y w rx ry Q q => by
    cases rx.of_str; cases ry.of_str
    refine ⟨rfl, q _ F1 H1 (.refl w) ?_⟩
    have e : decide (V.str i = V.str j) = decide (i = j) := decide_eq_decide.mpr ⟨V.str.inj, congrArg _⟩
    rw [e]; exact .bl _
theorem de_eqB {i j : Bool} (ha : DE K ta σ F H (.bool i)) (hb : DE K tb σ F H (.bool j)) : DE K (tOp rEq ta tb) σ F H (.bool (decide (i = j))) :=
  de_2 ha hb fun F1 H1 x y w rx ry Q q => by
    cases rx.of_bl; cases ry.of_bl
    refine ⟨rfl, q _ F1 H1 (.refl w) ?_⟩
    have e : decide (V.bl i = V.bl j) = decide (i = j) := decide_eq_decide.mpr ⟨V.bl.inj, congrArg _⟩
    rw [e]; exact .bl _
theorem de_neB {i j : Bool} (ha : DE K ta σ F H (.bool i)) (hb : DE K tb σ F H (.bool j)) : DE K (tOp rNe ta tb) σ F H (.bool (!decide (i = j))) :=
  de_2 ha hb fun F1 H1 x y w rx ry Q q => by
    cases rx.of_bl; cases ry.of_bl
    refine ⟨rfl, q _ F1 H1 (.refl w) ?_⟩
    have e : decide (V.bl i = V.bl j) = decide (i = j) := decide_eq_decide.mpr ⟨V.bl.inj, congrArg _⟩
    rw [e]; exact .bl _
def isNone : PyData → Bool
  | .none => true
  | _ => false
theorem rp_none (r : Rp K F v d) : decide (v = V.non) = isNone d := by
  cases r <;> first | rfl | exact decide_eq_false (fun z => nomatch z)
theorem de_isN (ha : DE K ta σ F H d) : DE K (tOp (fun x y H Q => y = .non ∧ Q (.bl (decide (x = .non))) H) ta (tC .non)) σ F H (.bool (isNone d)) :=
  de_2 ha de_non fun F1 H1 x y w rx ry Q q => ⟨ry.of_non, q _ F1 H1 (.refl w) (by rw [rp_none rx]; exact .bl _)⟩
theorem de_notN (ha : DE K ta σ F H d) : DE K (tOp (fun x y H Q => y = .non ∧ Q (.bl (!decide (x = .non))) H) ta (tC .non)) σ F H (.bool (!isNone d)) :=
  de_2 ha de_non fun F1 H1 x y w rx ry Q q => ⟨ry.of_non, q _ F1 H1 (.refl w) (by rw [rp_none rx]; exact .bl _)⟩
theorem de_eqD (ha : DE K ta σ F H d1) (hb : DE K tb σ F H d2) (n1 : noD d1 = true) (n2 : noD d2 = true) (s1 : SeqAt.shaped d1 = true) (s2 : SeqAt.shaped d2 = true) : DE K (tOp (rEqD K) ta tb) σ F H (.bool (PyData.eqv d1 d2)) :=
  de_2 ha hb fun F1 H1 x y w rx ry Q q => ⟨d1, d2, (rx.up w).dp n1, (ry.up w).dp n2, s1, s2, q _ F1 H1 (.refl w) (.bl _)⟩
theorem de_neD (ha : DE K ta σ F H d1) (hb : DE K tb σ F H d2) (n1 : noD d1 = true) (n2 : noD d2 = true) (s1 : SeqAt.shaped d1 = true) (s2 : SeqAt.shaped d2 = true) : DE K (tOp (rNeD K) ta tb) σ F H (.bool (!PyData.eqv d1 d2)) :=
  de_2 ha hb fun F1 H1 x y w rx ry Q q => ⟨d1, d2, (rx.up w).dp n1, (ry.up w).dp n2, s1, s2, q _ F1 H1 (.refl w) (.bl _)⟩

/-! tests -/
theorem dt_b {b : Bool} (h : DE K te σ F H (.bool b)) : DT K (tB te) σ F H b := fun F1 H1 s Q q => h F1 H1 s _ fun v F2 H2 s2 r => ⟨b, r.of_bl, q F2 H2 s2⟩
theorem dt_t {b : Bool} (h : DE K te σ F H (.bool b)) : DT K (tTest te) σ F H b := fun F1 H1 s Q q => h F1 H1 s _ fun v F2 H2 s2 r => ⟨b, r.of_bl, q F2 H2 s2⟩
theorem dt_and {a b : Bool} (h1 : DT K t σ F H a) (h2 : a = true → DT K u σ F H b) : DT K (tAnd t u) σ F H (a && b) := fun F1 H1 s Q q => h1 F1 H1 s _ fun F2 H2 s2 => by
  cases a with
  | true => exact h2 rfl F2 H2 (s.trans s2) Q fun F3 H3 s3 => q F3 H3 (s2.trans s3)
  | false => exact q F2 H2 s2
theorem dt_or {a b : Bool} (h1 : DT K t σ F H a) (h2 : a = false → DT K u σ F H b) : DT K (tOr t u) σ F H (a || b) := fun F1 H1 s Q q => h1 F1 H1 s _ fun F2 H2 s2 => by
  cases a with
  | true => exact q F2 H2 s2
  | false => exact h2 rfl F2 H2 (s.trans s2) Q fun F3 H3 s3 => q F3 H3 (s2.trans s3)
theorem dt_not {a : Bool} (h1 : DT K t σ F H a) : DT K (tNot t) σ F H (!a) := fun F1 H1 s _ q => h1 F1 H1 s _ fun F2 H2 s2 => q F2 H2 s2
theorem de_and {a b : Bool} (h1 : DE K ta σ F H (.bool a)) (h2 : a = true → DE K tb σ F H (.bool b)) : DE K (tAndV ta tb) σ F H (.bool (a && b)) := fun F1 H1 s Q q => h1 F1 H1 s _ fun v F2 H2 s2 r => ⟨a, r.of_bl, by
  cases a with
  | true => exact h2 rfl F2 H2 (s.trans s2) Q fun v F3 H3 s3 => q v F3 H3 (s2.trans s3)
  | false => exact q _ F2 H2 s2 (.bl _)⟩
theorem de_or {a b : Bool} (h1 : DE K ta σ F H (.bool a)) (h2 : a = false → DE K tb σ F H (.bool b)) : DE K (tOrV ta tb) σ F H (.bool (a || b)) := fun F1 H1 s Q q => h1 F1 H1 s _ fun v F2 H2 s2 r => ⟨a, r.of_bl, by
  cases a with
  | true => exact q _ F2 H2 s2 (.bl _)
  | false => exact h2 rfl F2 H2 (s.trans s2) Q fun v F3 H3 s3 => q v F3 H3 (s2.trans s3)⟩
theorem de_not {a : Bool} (h1 : DE K ta σ F H (.bool a)) : DE K (tNotV ta) σ F H (.bool (!a)) := fun F1 H1 s _ q => h1 F1 H1 s _ fun v F2 H2 s2 r => ⟨a, r.of_bl, q _ F2 H2 s2 (.bl _)⟩
theorem de_if {b : Bool} (h : DT K t σ F H b) (h1 : b = true → DE K ta σ F H d1) (h2 : b = false → DE K tb σ F H d2) : DE K (tIf t ta tb) σ F H (if b = true then d1 else d2) := fun F1 H1 s Q q => h F1 H1 s _ fun F2 H2 s2 => by
  cases b with
  | true => exact h1 rfl F2 H2 (s.trans s2) Q fun v F3 H3 s3 => q v F3 H3 (s2.trans s3)
  | false => exact h2 rfl F2 H2 (s.trans s2) Q fun v F3 H3 s3 => q v F3 H3 (s2.trans s3)
/-- both ways give one and the same -/
theorem de_ifS {b : Bool} (h : DT K t σ F H b) (h1 : b = true → DE K ta σ F H d) (h2 : b = false → DE K tb σ F H d) : DE K (tIf t ta tb) σ F H d := fun F1 H1 s Q q => h F1 H1 s _ fun F2 H2 s2 => by
  cases b with
  | true => exact h1 rfl F2 H2 (s.trans s2) Q fun v F3 H3 s3 => q v F3 H3 (s2.trans s3)
  | false => exact h2 rfl F2 H2 (s.trans s2) Q fun v F3 H3 s3 => q v F3 H3 (s2.trans s3)

/-! tuples, lists, items -/
theorem da_nil : DA K tNil σ F H [] := fun F1 H1 s _ q => q [] F1 H1 (.refl s.fh) .nil
theorem da_cons {tr : TA} (h : DE K te σ F H d) (hr : DA K tr σ F H ds) : DA K (tCons te tr) σ F H (d :: ds) := fun F1 H1 s _ q =>
  h F1 H1 s _ fun x F2 H2 s2 r => hr F2 H2 (s.trans s2) _ fun xs F3 H3 s3 rs => q _ F3 H3 (s2.trans s3) (.cons (r.up s3.ff) rs)
theorem big_of {n : Nat} (h : n ≤ 100000) : n ≤ sizeLine := Nat.le_trans h (by decide)
theorem big_lt {n : Nat} (h : n < 100000) : n < sizeLine := Nat.lt_of_lt_of_le h (by decide)
theorem rp_newL {p : Addr} (w : Same F H) (hp : H p = none) (r : RpAll K F xs ds) : Rp K (upd F p (.lst xs)) (.ref p) (.list ds) :=
  .lst upd_same (r.up (Step.new (M := []) (o := .lst xs) w hp).ff)
theorem xT (s : St0 F H F1 H1) (l : F a = some (.tup xs)) : SqT K H1 a xs := .inl (.inl (s.fh _ _ (s.ff _ _ l)))
theorem rp_newT {p : Addr} (w : Same F H) (hp : H p = none) (r : RpAll K F xs ds) : Rp K (upd F p (.tup xs)) (.ref p) (.tuple ds) :=
  .tup upd_same (r.up (Step.new (M := []) (o := .tup xs) w hp).ff)
theorem de_tup {ta : TA} (h : DA K ta σ F H ds) (hl : ds.length ≤ 100000) : DE K (tTup ta) σ F H (.tuple ds) := fun F1 H1 s _ q =>
  h F1 H1 s _ fun xs F2 H2 s2 rs => ⟨big_of (by rw [rs.len]; exact hl), fun p hp => q _ _ _ (s2.trans (Step.new s2.fh hp)) (rp_newT s2.fh hp rs)⟩
theorem de_lst {ta : TA} (h : DA K ta σ F H ds) (hl : ds.length ≤ 100000) : DE K (tLst ta) σ F H (.list ds) := fun F1 H1 s _ q =>
  h F1 H1 s _ fun xs F2 H2 s2 rs => ⟨big_of (by rw [rs.len]; exact hl), fun p hp => q _ _ _ (s2.trans (Step.new s2.fh hp)) (rp_newL s2.fh hp rs)⟩
theorem atI_rp {i : Int} (r : RpAll K F xs ds) (h : atI ds i = some d) : ∃ v, atI xs i = some v ∧ Rp K F v d := by
  unfold atI at h ⊢
  rw [r.len]
  cases e : ixN ds.length i with
  | none => rw [e] at h; cases h
  | some j =>
    rw [e] at h
    obtain ⟨v, h1, h2⟩ := r.at' (i := j) h
    exact ⟨v, h1, h2⟩
theorem de_ixL {i : Int} (h : DL K ta σ F H ds) (hi : DE K tb σ F H (.int i)) (e : atI ds i = some d) : DE K (tOp (rIxL K) ta tb) σ F H d := fun F1 H1 s Q q =>
  h F1 H1 s _ fun a xs F2 H2 s2 l r => hi F2 H2 (s.trans s2) _ fun y F3 H3 s3 ry => by
    obtain ⟨v, h1, h2⟩ := atI_rp (r.up s3.ff) e
    exact ⟨a, xs, i, v, rfl, ry.of_int, (l.up s3).sq s3.fh, h1, q v F3 H3 (s2.trans s3) h2⟩
theorem de_ixT {i : Int} (h : DU K ta σ F H ds) (hi : DE K tb σ F H (.int i)) (e : atI ds i = some d) : DE K (tOp (rIxT K) ta tb) σ F H d := fun F1 H1 s Q q =>
  h F1 H1 s _ fun a xs F2 H2 s2 l r => hi F2 H2 (s.trans s2) _ fun y F3 H3 s3 ry => by
    obtain ⟨v, h1, h2⟩ := atI_rp (r.up s3.ff) e
    exact ⟨a, xs, i, v, rfl, ry.of_int, xT s3 l, h1, q v F3 H3 (s2.trans s3) h2⟩
theorem do_none : DO K tNoPart σ F H none := fun F1 H1 s _ q => q F1 H1 (.refl s.fh)
theorem do_some {i : Int} (h : DE K te σ F H (.int i)) : DO K (tPart te) σ F H (some i) := fun F1 H1 s _ q => h F1 H1 s _ fun v F2 H2 s2 r => ⟨i, r.of_int, q F2 H2 s2⟩
/-- the part of a sequence between two places -/
def cutQ {α : Type} (xs : List α) (lo hi : Option Int) : List α := (xs.drop (HT.sIx xs.length 0 lo)).take (HT.sIx xs.length xs.length hi - HT.sIx xs.length 0 lo)
theorem cut_rp {lo hi : Option Int} (r : RpAll K F xs ds) : RpAll K F (cutV xs lo hi) (cutQ ds lo hi) := by
  unfold cutV cutQ
  rw [r.len]
  exact (r.drop _).take _
theorem de_slL {tl th : TO} {lo hi : Option Int} (h : DL K te σ F H ds) (h1 : DO K tl σ F H lo) (h2 : DO K th σ F H hi) : DE K (tSl (rSlL K) te tl th) σ F H (.list (cutQ ds lo hi)) := fun F1 H1 s _ q =>
  h F1 H1 s _ fun a xs F2 H2 s2 l r => h1 F2 H2 (s.trans s2) _ fun F3 H3 s3 => h2 F3 H3 ((s.trans s2).trans s3) _ fun F4 H4 s4 =>
    ⟨a, xs, rfl, (l.up (s3.trans s4)).sq s4.fh, fun p hp => q _ _ _ ((s2.trans (s3.trans s4)).trans (Step.new s4.fh hp)) (rp_newL s4.fh hp (cut_rp (r.up (s3.trans s4).ff)))⟩
theorem cutQ_all {α : Type} {xs : List α} {lo hi : Option Int} (h : HT.sIx xs.length 0 lo = 0 ∧ HT.sIx xs.length xs.length hi = xs.length) : cutQ xs lo hi = xs := by
  unfold cutQ
  rw [h.1, h.2, Nat.sub_zero, List.drop_zero, List.take_length]
theorem de_slT {tl th : TO} {lo hi : Option Int} (h : DU K te σ F H ds) (h1 : DO K tl σ F H lo) (h2 : DO K th σ F H hi) : DE K (tSl (rSlA K) te tl th) σ F H (.tuple (cutQ ds lo hi)) := fun F1 H1 s _ q =>
  h F1 H1 s _ fun a xs F2 H2 s2 l r => h1 F2 H2 (s.trans s2) _ fun F3 H3 s3 => h2 F3 H3 ((s.trans s2).trans s3) _ fun F4 H4 s4 => by
    have l4 : F4 a = some (.tup xs) := (s3.trans s4).ff _ _ l
    have r4 := r.up (s3.trans s4).ff
    refine ⟨a, xs, rfl, .inl (.inl (s4.fh _ _ l4)), fun e => ?_, fun _ p hp => ?_⟩
    · rw [r4.len] at e
      rw [cutQ_all e] at q
      exact q _ _ _ (s2.trans (s3.trans s4)) (.tup l4 r4)
    · exact q _ _ _ ((s2.trans (s3.trans s4)).trans (Step.new s4.fh hp)) (rp_newT s4.fh hp (cut_rp r4))
theorem de_catL (ha : DL K ta σ F H ds) (hb : DL K tb σ F H es) (hl : ds.length + es.length ≤ 100000) : DE K (tOp rCat ta tb) σ F H (.list (ds ++ es)) := fun F1 H1 s _ q =>
  ha F1 H1 s _ fun a xs F2 H2 s2 l r => hb F2 H2 (s.trans s2) _ fun b ys F3 H3 s3 m r' =>
    ⟨a, b, xs, ys, rfl, rfl, (l.up s3).at s3.fh, m.at s3.fh, big_of (by rw [r.len, r'.len]; exact hl), fun p hp => q _ _ _ ((s2.trans s3).trans (Step.new s3.fh hp)) (rp_newL s3.fh hp ((r.up s3.ff).app r'))⟩
theorem de_catT (ha : DU K ta σ F H ds) (hb : DU K tb σ F H es) (hl : ds.length + es.length ≤ 100000) : DE K (tOp (rCatA K) ta tb) σ F H (.tuple (ds ++ es)) := fun F1 H1 s _ q =>
  ha F1 H1 s _ fun a xs F2 H2 s2 l r => hb F2 H2 (s.trans s2) _ fun b ys F3 H3 s3 m r' => by
    have r3 := r.up s3.ff
    refine ⟨a, b, xs, ys, rfl, rfl, xT s3 l, .inl (.inl (s3.fh _ _ m)), big_of (by rw [r.len, r'.len]; exact hl), fun e => ?_, fun _ e => ?_, fun _ _ p hp => ?_⟩
    · subst e
      cases r3
      exact q _ _ _ (s2.trans s3) (.tup m r')
    · subst e
      cases r'
      rw [List.append_nil] at q
      exact q _ _ _ (s2.trans s3) (.tup (s3.ff _ _ l) r3)
    · exact q _ _ _ ((s2.trans s3).trans (Step.new s3.fh hp)) (rp_newT s3.fh hp (r3.app r'))

/-! built-ins by name -/
theorem de_cb {r : List V → Hp → VK → Prop} {ta : TA} (h : DA K ta σ F H ds) (hr : ∀ F1 H1 vs, Same F1 H1 → RpAll K F1 vs ds → ∀ Q : VK, (∀ v F2 H2, St0 F1 H1 F2 H2 → Rp K F2 v d → Q v H2) → r vs H1 Q) : DE K (tCB r ta) σ F H d := fun F1 H1 s Q q =>
  h F1 H1 s _ fun vs F2 H2 s2 rs => hr F2 H2 vs s2.fh rs Q fun v F3 H3 s3 rv => q v F3 H3 (s2.trans s3) rv
/-- one argument, a list or a tuple that is read -/
theorem de_cbS {r : List V → Hp → VK → Prop} (h : DS K te σ F H ds) (hr : ∀ F1 H1 a xs, Same F1 H1 → Sq K F1 H1 a xs → RpAll K F1 xs ds → ∀ Q : VK, (∀ v F2 H2, St0 F1 H1 F2 H2 → Rp K F2 v d → Q v H2) → r [.ref a] H1 Q) : DE K (tCB r (tCons te tNil)) σ F H d := fun F1 H1 s Q q =>
  h F1 H1 s _ fun a xs F2 H2 s2 l rs => hr F2 H2 a xs s2.fh l rs Q fun v F3 H3 s3 rv => q v F3 H3 (s2.trans s3) rv
theorem de_abs {i : Int} (h : DE K te σ F H (.int i)) : DE K (tCB (fun xs H Q => ∃ i, xs = [.int i] ∧ Q (.int (if i < 0 then -i else i)) H) (tCons te tNil)) σ F H (.int (if i < 0 then -i else i)) :=
  de_cb (da_cons h da_nil) fun F1 H1 vs w r Q q => by
    cases r with
    | cons a b =>
      cases b
      exact ⟨i, by rw [a.of_int], q _ F1 H1 (.refl w) (.int _)⟩
theorem de_max2 {i j : Int} (h : DE K ta σ F H (.int i)) (h' : DE K tb σ F H (.int j)) : DE K (tCB (fun xs H Q => ∃ i j, xs = [.int i, .int j] ∧ Q (.int (if j > i then j else i)) H) (tCons ta (tCons tb tNil))) σ F H (.int (max i j)) :=
  de_cb (da_cons h (da_cons h' da_nil)) fun F1 H1 vs w r Q q => by
    cases r with
    | cons a b =>
      cases b with
      | cons b c =>
        cases c
        have e : (if j > i then j else i) = max i j := by omega
        exact ⟨i, j, by rw [a.of_int, b.of_int], by rw [e]; exact q _ F1 H1 (.refl w) (.int _)⟩
theorem de_min2 {i j : Int} (h : DE K ta σ F H (.int i)) (h' : DE K tb σ F H (.int j)) : DE K (tCB (fun xs H Q => ∃ i j, xs = [.int i, .int j] ∧ Q (.int (if j < i then j else i)) H) (tCons ta (tCons tb tNil))) σ F H (.int (min i j)) :=
  de_cb (da_cons h (da_cons h' da_nil)) fun F1 H1 vs w r Q q => by
    cases r with
    | cons a b =>
      cases b with
      | cons b c =>
        cases c
        have e : (if j < i then j else i) = min i j := by omega
        exact ⟨i, j, by rw [a.of_int, b.of_int], by rw [e]; exact q _ F1 H1 (.refl w) (.int _)⟩
/-- int(a truth) -/
theorem de_intB {b : Bool} (h : DE K te σ F H (.bool b)) : DE K (tCB (fun xs H Q => (∃ i, xs = [.int i] ∧ Q (.int i) H) ∨ ∃ k, xs = [.bl k] ∧ Q (.int (if k then 1 else 0)) H) (tCons te tNil)) σ F H (.int (if b = true then 1 else 0)) :=
  de_cb (da_cons h da_nil) fun F1 H1 vs w r Q q => by
    cases r with
    | cons a c =>
      cases c
      exact .inr ⟨b, by rw [a.of_bl], q _ F1 H1 (.refl w) (.int _)⟩
/-- len(a list, a tuple) -/
theorem de_len (h : DS K te σ F H ds) : DE K (tCB (fun xs H Q => ∃ p ys, xs = [.ref p] ∧ (SqL K H p ys ∨ SqT K H p ys) ∧ Q (.int ys.length) H) (tCons te tNil)) σ F H (.int ds.length) :=
  de_cbS h fun F1 H1 a xs w l r Q q => ⟨a, xs, rfl, l.or w, by rw [r.len]; exact q _ F1 H1 (.refl w) (.int _)⟩
/-- list(..), tuple(..) of a list, a tuple -/
theorem de_list (h : DS K te σ F H ds) : DE K (tCB (fun xs H Q => ∃ p ys, xs = [.ref p] ∧ (SqL K H p ys ∨ SqT K H p ys) ∧ ∀ l, H l = none → Q (.ref l) (upd H l (.lst ys))) (tCons te tNil)) σ F H (.list ds) :=
  de_cbS h fun F1 H1 a xs w l r Q q => ⟨a, xs, rfl, l.or w, fun p hp => q _ _ _ (Step.new w hp) (rp_newL w hp r)⟩
theorem de_tuple (h : DS K te σ F H ds) : DE K (tCB (fun xs H Q => ∃ p ys, xs = [.ref p] ∧ ((SqL K H p ys ∧ ∀ l, H l = none → Q (.ref l) (upd H l (.tup ys))) ∨ (SqT K H p ys ∧ Q (.ref p) H))) (tCons te tNil)) σ F H (.tuple ds) :=
  de_cbS h fun F1 H1 a xs w l r Q q => ⟨a, xs, rfl, l.elim (fun z => .inl ⟨z.sq w, fun p hp => q _ _ _ (Step.new w hp) (rp_newT w hp r)⟩) fun z => .inr ⟨.inl (.inl (w _ _ z)), q _ F1 H1 (.refl w) (.tup z r)⟩⟩
theorem de_sumL {ns : List Int} (h : DL K te σ F H (ns.map .int)) : DE K (tCB (rSum K) (tCons te tNil)) σ F H (.int ns.sum) := fun F1 H1 s Q q =>
  h F1 H1 s _ fun a xs F2 H2 s2 l r => by
    cases r.ints
    exact ⟨a, ns, rfl, l.sq s2.fh, q _ F2 H2 s2 (.int _)⟩
theorem de_maxL {ns : List Int} {m : Int} (h : DL K te σ F H (ns.map .int)) (hm : m ∈ ns) (hx : ∀ y ∈ ns, y ≤ m) : DE K (tCB (rMax K) (tCons te tNil)) σ F H (.int m) := fun F1 H1 s Q q =>
  h F1 H1 s _ fun a xs F2 H2 s2 l r => by
    cases r.ints
    refine ⟨a, ns, rfl, l.sq s2.fh, List.length_pos_of_mem hm, fun z hz hy => ?_⟩
    have e : z = m := Int.le_antisymm (hx z hz) (hy m hm)
    rw [e]
    exact q _ F2 H2 s2 (.int _)
theorem de_minL {ns : List Int} {m : Int} (h : DL K te σ F H (ns.map .int)) (hm : m ∈ ns) (hx : ∀ y ∈ ns, m ≤ y) : DE K (tCB (rMin K) (tCons te tNil)) σ F H (.int m) := fun F1 H1 s Q q =>
  h F1 H1 s _ fun a xs F2 H2 s2 l r => by
    cases r.ints
    refine ⟨a, ns, rfl, l.sq s2.fh, List.length_pos_of_mem hm, fun z hz hy => ?_⟩
    have e : z = m := Int.le_antisymm (hy m hm) (hx z hz)
    rw [e]
    exact q _ F2 H2 s2 (.int _)
theorem de_allL {bs : List Bool} (h : DL K te σ F H (bs.map .bool)) : DE K (tCB (rAll K) (tCons te tNil)) σ F H (.bool (bs.all id)) := fun F1 H1 s Q q =>
  h F1 H1 s _ fun a xs F2 H2 s2 l r => by
    cases r.bls
    exact ⟨a, bs, rfl, l.sq s2.fh, q _ F2 H2 s2 (.bl _)⟩
theorem de_anyL {bs : List Bool} (h : DL K te σ F H (bs.map .bool)) : DE K (tCB (rAny K) (tCons te tNil)) σ F H (.bool (bs.any id)) := fun F1 H1 s Q q =>
  h F1 H1 s _ fun a xs F2 H2 s2 l r => by
    cases r.bls
    exact ⟨a, bs, rfl, l.sq s2.fh, q _ F2 H2 s2 (.bl _)⟩
/-- the one rising list of the same numbers -/
def up (ns : List Int) : List Int := ns.mergeSort fun a b => decide (a ≤ b)
theorem up_is {ns ms : List Int} (p : ms.Perm ns) (s : ms.Pairwise (· ≤ ·)) : ms = up ns := by
  have h1 : (up ns).Perm ns := List.mergeSort_perm _ _
  have h2 : (up ns).Pairwise (· ≤ ·) := (List.pairwise_mergeSort (le := fun a b => decide (a ≤ b)) (fun a b c h1 h2 => by simp at *; omega) (fun a b => by simp; omega) ns).imp fun h => by simpa using h
  exact (p.trans h1.symm).eq_of_pairwise (fun a b _ _ h1 h2 => Int.le_antisymm h1 h2) s h2
theorem de_sorted {ns : List Int} (h : DL K te σ F H (ns.map .int)) (hl : ns.length < 64) : DE K (tCB (rSorted K) (tCons te tNil)) σ F H (.list ((up ns).map .int)) := fun F1 H1 s Q q =>
  h F1 H1 s _ fun a xs F2 H2 s2 l r => by
    cases r.ints
    refine ⟨a, ns, rfl, l.sq s2.fh, hl, fun ns' p h1 h2 hp => ?_⟩
    rw [← up_is h1 h2] at q
    exact q _ _ _ (s2.trans (Step.new s2.fh hp)) (rp_newL s2.fh hp (.of_ints ns'))

/-! calls of defs that only make new things -/
/-- from such data the def hands back that datum; what stands, stays -/
def SpD (K : PySem.W.Frag) (pre : List PyData → Prop) (f : List PyData → PyData) : Sp := fun vs H Q _ => ∃ (F : Hp) (ds : List PyData), Same F H ∧ RpAll K F vs ds ∧ pre ds ∧ ∀ v F' H', St0 F H F' H' → Rp K F' v (f ds) → Q v H'
theorem de_call {pre : List PyData → Prop} {f : List PyData → PyData} {E : XK} {ta : TA} (h : DA K ta σ F H ds) (hp : pre ds) : DE K (tCall (SpD K pre f) [] E ta) σ F H (f ds) := fun F1 H1 s Q q =>
  h F1 H1 s _ fun vs F2 H2 s2 rs => ⟨F2, ds, s2.fh, by rw [List.append_nil]; exact rs, hp, fun v F3 H3 s3 rv => q v F3 H3 (s2.trans s3) rv⟩

/-! ### statements -/
variable {D : Ends} {tu tw : TS} {g : TG}
theorem s_asg {i : Nat} (w : Same F H) (h : DE K te σ F H d) (k : ∀ v F1 H1, St0 F H F1 H1 → Rp K F1 v d → D.nx (σ.set i (some v)) H1) : tAsg te (gName i) D σ H := h F H (.refl w) _ fun v F1 H1 s r => k v F1 H1 s r
theorem s_asgI {i : Nat} {n : Int} (w : Same F H) (h : DE K te σ F H (.int n)) (k : ∀ F1 H1, St0 F H F1 H1 → D.nx (σ.set i (some (.int n))) H1) : tAsg te (gName i) D σ H := h F H (.refl w) _ fun v F1 H1 s r => by
  cases r.of_int
  exact k F1 H1 s
theorem s_asgB {i : Nat} {b : Bool} (w : Same F H) (h : DE K te σ F H (.bool b)) (k : ∀ F1 H1, St0 F H F1 H1 → D.nx (σ.set i (some (.bl b))) H1) : tAsg te (gName i) D σ H := h F H (.refl w) _ fun v F1 H1 s r => by
  cases r.of_bl
  exact k F1 H1 s
theorem s_asgS {i : Nat} {x : Str} (w : Same F H) (h : DE K te σ F H (.str x)) (k : ∀ F1 H1, St0 F H F1 H1 → D.nx (σ.set i (some (.str x))) H1) : tAsg te (gName i) D σ H := h F H (.refl w) _ fun v F1 H1 s r => by
  cases r.of_str
  exact k F1 H1 s
theorem s_ret (w : Same F H) (h : DE K te σ F H d) (k : ∀ v F1 H1, St0 F H F1 H1 → Rp K F1 v d → D.rt v H1) : tRet te D σ H := h F H (.refl w) _ k
theorem s_if {b : Bool} (w : Same F H) (h : DT K t σ F H b) (h1 : b = true → ∀ F1 H1, St0 F H F1 H1 → tu D σ H1) (h2 : b = false → ∀ F1 H1, St0 F H F1 H1 → tw D σ H1) : tIfS t tu tw D σ H := h F H (.refl w) _ fun F1 H1 s => by
  cases b with
  | true => exact h1 rfl F1 H1 s
  | false => exact h2 rfl F1 H1 s
/-- a new list that a name will own: [] -/
theorem s_newL {i : Nat} {ta : TA} (w : Same F H) (h : DA K ta σ F H ds) (hl : ds.length ≤ 100000) (k : ∀ l xs F1 H1, H l = none → St0 F H F1 H1 → Own F1 H1 l (.lst xs) → RpAll K F1 xs ds → D.nx (σ.set i (some (.ref l))) H1) : tAsg (tLst ta) (gName i) D σ H :=
  h F H (.refl w) _ fun xs F1 H1 s rs => ⟨big_of (by rw [rs.len]; exact hl), fun p hp => k p xs F1 _ (s.back w hp) (s.trans (Step.own_new s.fh hp)) (Own.new s.fh hp) rs⟩
/-- a new list that a name will own: list(..) -/
theorem s_ownL {i : Nat} (w : Same F H) (h : DS K te σ F H ds) (k : ∀ l xs F1 H1, H l = none → St0 F H F1 H1 → Own F1 H1 l (.lst xs) → RpAll K F1 xs ds → D.nx (σ.set i (some (.ref l))) H1) : tAsg (tCB (fun xs H Q => ∃ p ys, xs = [.ref p] ∧ (SqL K H p ys ∨ SqT K H p ys) ∧ ∀ l, H l = none → Q (.ref l) (upd H l (.lst ys))) (tCons te tNil)) (gName i) D σ H :=
  h F H (.refl w) _ fun a xs F1 H1 s l rs => ⟨a, xs, rfl, l.or s.fh, fun p hp => k p xs F1 _ (s.back w hp) (s.trans (Step.own_new s.fh hp)) (Own.new s.fh hp) rs⟩
/-- l.append(e), l owned -/
theorem s_app {l : Addr} (w : Same F H) (o : Own F H l (.lst xs)) {i : Nat} (hv : σ[i]? = some (some (.ref l))) (hz : xs.length < 100000) (h : DE K te σ F H d) (k : ∀ v F1 H2, Step [l] F H F1 H2 → Rp K F1 v d → Own F1 H2 l (.lst (xs ++ [v])) → D.nx σ H2) :
    tDrop (tBM K "list" rAppend (tVar i) (tCons te tNil)) D σ H :=
  ⟨.ref l, hv, .inl ⟨rfl, xs, .inl (.inl o.2)⟩, h F H (.refl w) _ fun v F1 H1 s r => ⟨l, xs, v, rfl, rfl, (o.up s).2, big_lt hz, k v F1 _ (s.w.trans (Step.put s.fh (o.up s) List.mem_cons_self)) r (o.up s).put⟩⟩
end
end DL
end

section
set_option maxRecDepth 100000
set_option maxHeartbeats 4000000
namespace DL
open PySem PySem.Spec PyProof.Rows L2

/-! ### what is walked -/
structure Gives (K : PySem.W.Frag) (J : It) (M : List Addr) (F H : Hp) (ds : List PyData) : Prop where
  go : ∀ F1 H1 i, Step M F H F1 H1 → i < ds.length → J.go i H1
  stop : ∀ F1 H1, Step M F H F1 H1 → J.stop ds.length H1
  yld : ∀ F1 H1 i x H2 d, Step M F H F1 H1 → ds[i]? = some d → J.yld i H1 x H2 → ∃ F2, St0 F1 H1 F2 H2 ∧ Rp K F2 x d
def DI (K : PySem.W.Frag) (wi : TI) (σ : L2.St) (M : List Addr) (F H : Hp) (ds : List PyData) : Prop := ∀ F1 H1, St0 F H F1 H1 → ∀ R : It → Hp → Prop, (∀ J F2 H2, St0 F1 H1 F2 H2 → Gives K J M F2 H2 ds → R J H2) → wi σ H1 R

section
variable {K : PySem.W.Frag} {σ : L2.St} {F H F1 H1 : Hp} {ta tb te tc : TE} {t u : TT} {d d1 d2 : PyData} {ds es : List PyData} {a b : Addr} {xs ys : List V} {v : V} {M : List Addr}
theorem some_lt {α : Type} {l : List α} {i : Nat} (h : i < l.length) : ∃ x, l[i]? = some x := ⟨l[i], List.getElem?_eq_getElem h⟩
/-- it stays where it is through our steps -/
def Stay (M : List Addr) (F H : Hp) (a : Addr) (xs : List V) : Prop := F a = some (.lst xs) ∨ (Own F H a (.lst xs) ∧ a ∉ M)
theorem Stay.at (h : Stay M F H a xs) (s : Step M F H F1 H1) : H1 a = some (.lst xs) := h.elim (fun z => s.fh _ _ (s.ff _ _ z)) fun z => (z.1.st s z.2).2
theorem gives_l (h : Stay M F H a xs) (r : RpAll K F xs ds) : Gives K (Itl K a) M F H ds where
  go := fun F1 H1 i s hi => by
    obtain ⟨x, hx⟩ := some_lt (l := xs) (by rw [r.len]; exact hi)
    exact ⟨xs, x, .inl (.inl (h.at s)), hx⟩
  stop := fun F1 H1 s => ⟨xs, .inl (.inl (h.at s)), by rw [r.len]; exact Nat.le_refl _⟩
  yld := fun F1 H1 i x H2 d s hd y => by
    obtain ⟨e, y⟩ := y
    subst e
    obtain ⟨v, hv, rv⟩ := r.at' hd
    have := y xs (.inl (.inl (h.at s)))
    rw [hv] at this; cases this
    exact ⟨F1, .refl s.fh, rv.up s.ff⟩
theorem gives_t (h : SqT K F a xs) (r : RpAll K F xs ds) : Gives K (Itt K a) M F H ds where
  go := fun F1 H1 i s hi => by
    obtain ⟨x, hx⟩ := some_lt (l := xs) (by rw [r.len]; exact hi)
    exact ⟨xs, x, seqT s.fh (seqT s.ff h), hx⟩
  stop := fun F1 H1 s => ⟨xs, seqT s.fh (seqT s.ff h), by rw [r.len]; exact Nat.le_refl _⟩
  yld := fun F1 H1 i x H2 d s hd y => by
    obtain ⟨e, y⟩ := y
    subst e
    obtain ⟨v, hv, rv⟩ := r.at' hd
    have := y xs (seqT s.fh (seqT s.ff h))
    rw [hv] at this; cases this
    exact ⟨F1, .refl s.fh, rv.up s.ff⟩
theorem di_L (h : DE K te σ F H (.list ds)) : DI K (iList K te) σ M F H ds := fun F1 H1 s R q => h F1 H1 s _ fun v F2 H2 s2 r => by
  obtain ⟨a, xs, rfl, h1, h2⟩ := r.of_lst
  exact ⟨a, rfl, ⟨xs, .inl (.inl (s2.fh _ _ h1))⟩, q _ F2 H2 s2 (gives_l (.inl h1) h2)⟩
theorem di_ownL {i : Nat} (h : σ[i]? = some (some (.ref a))) (o : Own F H a (.lst xs)) (n : a ∉ M) (r : RpAll K F xs ds) : DI K (iList K (tVar i)) σ M F H ds := fun F1 H1 s R q =>
  ⟨.ref a, h, a, rfl, ⟨xs, .inl (.inl (o.up s).2)⟩, q _ F1 H1 (.refl s.fh) (gives_l (.inr ⟨o.up s, n⟩) (r.up s.ff))⟩
theorem di_T (h : DE K te σ F H (.tuple ds)) : DI K (iTup K te) σ M F H ds := fun F1 H1 s R q => h F1 H1 s _ fun v F2 H2 s2 r => by
  obtain ⟨a, xs, rfl, h1, h2⟩ := r.of_tup
  exact ⟨a, rfl, ⟨xs, seqT s2.fh h1⟩, q _ F2 H2 s2 (gives_t h1 h2)⟩
/-- a list or a tuple -/
def iSeq (K : PySem.W.Frag) (tl : TE) : TI := fun σ H R => tl σ H fun x H1 => ∃ a, x = .ref a ∧ (((∃ xs, SqL K H1 a xs) ∧ R (Itl K a) H1) ∨ ((∃ xs, SqT K H1 a xs) ∧ R (Itt K a) H1))
theorem pi_seq {X : Cx} {tg l : Expr} {tl : TE} (hl : PE X l tl) : PI X tg l (iSeq X.K tl) := by
  refine ⟨fun pins s σ H R I h => ?_⟩
  refine thn (hl.run pins s σ H _ I h) fun v s1 ⟨x, H1, I1, r1, q1⟩ => ?_
  obtain ⟨a, e, q⟩ := q1
  subst e
  cases r1
  rcases q with ⟨⟨xs, hq⟩, q⟩ | ⟨⟨xs, hq⟩, q⟩
  · obtain ⟨its, rv, p, hz⟩ := I1.list hq
    refine wpAny_pyIter_list p.isList ?_
    refine ⟨s1.heap.objs.size, [s1.heap.objs.size], _, _, H1, rfl, I1.kept (t' := s1.toks) fun b o e => Heap.get?_push_of_some _ e, turn_list a _, ⟨_, Heap.get?_push_size _ rfl, rfl, rfl⟩, fun b hb => ?_, q⟩
    have e : b = s1.heap.objs.size := by simpa using hb
    subst e
    exact I1.fpOk (Nat.le_refl _) (I1.hok.fresh (Nat.le_refl _))
  · obtain ⟨its, rv, p, hz⟩ := I1.tuple hq
    refine wpAny_pyIter_tuple (show s1.heap.IsTuple a its.toArray from p) ?_
    refine ⟨s1.heap.objs.size, [s1.heap.objs.size], _, _, H1, rfl, I1.kept (t' := s1.toks) fun b o e => Heap.get?_push_of_some _ e, turn_tuple a _, ⟨_, Heap.get?_push_size _ rfl, rfl, rfl⟩, fun b hb => ?_, q⟩
    have e : b = s1.heap.objs.size := by simpa using hb
    subst e
    exact I1.fpOk (Nat.le_refl _) (I1.hok.fresh (Nat.le_refl _))
theorem di_SL (h : DE K te σ F H (.list ds)) : DI K (iSeq K te) σ M F H ds := fun F1 H1 s R q => h F1 H1 s _ fun v F2 H2 s2 r => by
  obtain ⟨a, xs, rfl, h1, h2⟩ := r.of_lst
  exact ⟨a, rfl, .inl ⟨⟨xs, .inl (.inl (s2.fh _ _ h1))⟩, q _ F2 H2 s2 (gives_l (.inl h1) h2)⟩⟩
theorem di_ST (h : DE K te σ F H (.tuple ds)) : DI K (iSeq K te) σ M F H ds := fun F1 H1 s R q => h F1 H1 s _ fun v F2 H2 s2 r => by
  obtain ⟨a, xs, rfl, h1, h2⟩ := r.of_tup
  exact ⟨a, rfl, .inr ⟨⟨xs, seqT s2.fh h1⟩, q _ F2 H2 s2 (gives_t h1 h2)⟩⟩
/-- a list or a tuple, as a datum -/
inductive SeqD : PyData → List PyData → Prop
  | l (ds : List PyData) : SeqD (.list ds) ds
  | t (ds : List PyData) : SeqD (.tuple ds) ds
theorem di_S (h : DE K te σ F H d) (q : SeqD d ds) : DI K (iSeq K te) σ M F H ds := by
  cases q with
  | l => exact di_SL h
  | t => exact di_ST h
theorem ds_S (h : DE K te σ F H d) (q : SeqD d ds) : DS K te σ F H ds := by
  cases q with
  | l => exact ds_l (dl_of h)
  | t => exact ds_u (du_of h)

/-! ranges -/
def rgD (lo : Int) (n : Nat) : List PyData := (List.range n).map fun i => .int (lo + ((i : Nat) : Int))
theorem gives_r {lo : Int} {n : Nat} : Gives K (Itr lo n) M F H (rgD lo n) where
  go := fun F1 H1 i s hi => by
    have hi : i < (rgD lo n).length := hi
    unfold rgD at hi; rw [List.length_map, List.length_range] at hi; exact hi
  stop := fun F1 H1 s => by
    show n ≤ (rgD lo n).length
    unfold rgD; rw [List.length_map, List.length_range]; exact Nat.le_refl _
  yld := fun F1 H1 i x H2 d s hd y => by
    obtain ⟨e, y⟩ := y
    subst e y
    unfold rgD at hd
    rw [List.getElem?_map] at hd
    obtain ⟨j, hj, e⟩ := Option.map_eq_some_iff.mp hd
    obtain ⟨_, e2⟩ := List.getElem?_eq_some_iff.mp hj
    rw [List.getElem_range] at e2
    subst e2
    rw [← e]
    exact ⟨F1, .refl s.fh, .int _⟩
theorem di_r1 {n : Int} (h : DE K te σ F H (.int n)) (h1 : -(2 ^ 62) ≤ n) (h2 : n < 2 ^ 62) : DI K (iRng1 (tCons te tNil)) σ M F H (rgD 0 n.toNat) := fun F1 H1 s R q => h F1 H1 s _ fun v F2 H2 s2 r =>
  ⟨n, by rw [r.of_int], h1, h2, q _ F2 H2 s2 gives_r⟩
theorem di_r2 {lo n : Int} (ha : DE K ta σ F H (.int lo)) (hb : DE K tb σ F H (.int n)) (h1 : -(2 ^ 62) ≤ lo) (h2 : lo < 2 ^ 62) (h3 : -(2 ^ 62) ≤ n) (h4 : n < 2 ^ 62) : DI K (iRng2 (tCons ta (tCons tb tNil))) σ M F H (rgD lo (n - lo).toNat) := fun F1 H1 s R q =>
  ha F1 H1 s _ fun v F2 H2 s2 r => hb F2 H2 (s.trans s2) _ fun v' F3 H3 s3 r' => ⟨lo, n, by rw [r.of_int, r'.of_int], ⟨h1, h2, h3, h4⟩, q _ F3 H3 (s2.trans s3) gives_r⟩

/-! enumerate, zip -/
def enD (i : Nat) : List PyData → List PyData
  | [] => []
  | d :: ds => .tuple [.int (i : Nat), d] :: enD (i + 1) ds
theorem enD_len : ∀ (ds : List PyData) (i : Nat), (enD i ds).length = ds.length
  | [], _ => rfl
  | _ :: ds, i => by rw [enD, List.length_cons, List.length_cons, enD_len ds]
theorem enD_at : ∀ (ds : List PyData) (i j : Nat) {d : PyData}, (enD i ds)[j]? = some d → ∃ e, ds[j]? = some e ∧ d = .tuple [.int ((i + j : Nat) : Int), e]
  | [], _, _, _, h => by simp [enD] at h
  | x :: ds, i, 0, d, h => by simp [enD] at h; exact ⟨x, rfl, h.symm⟩
  | x :: ds, i, j + 1, d, h => by
    obtain ⟨e, h1, h2⟩ := enD_at ds (i + 1) j (d := d) (by simpa [enD] using h)
    refine ⟨e, by simpa using h1, ?_⟩
    rw [h2, show i + 1 + j = i + (j + 1) by omega]
theorem rp_pair {x y : V} (hx : Rp K F x d1) (hy : Rp K F y d2) (w : Same F H) {T : Addr} (hT : H T = none) : Rp K (upd F T (.tup [x, y])) (.ref T) (.tuple [d1, d2]) := rp_newT w hT (.cons hx (.cons hy .nil))
theorem gives_e (h : Stay M F H a xs) (r : RpAll K F xs ds) : Gives K (Ite K a) M F H (enD 0 ds) where
  go := fun F1 H1 i s hi => by
    rw [enD_len] at hi
    obtain ⟨x, hx⟩ := some_lt (l := xs) (by rw [r.len]; exact hi)
    exact ⟨xs, x, .inl (.inl (h.at s)), hx⟩
  stop := fun F1 H1 s => ⟨xs, .inl (.inl (h.at s)), by rw [r.len, enD_len]; exact Nat.le_refl _⟩
  yld := fun F1 H1 i x H2 d s hd y => by
    obtain ⟨T, z, rfl, hT, rfl, y⟩ := y
    obtain ⟨e, he, rfl⟩ := enD_at ds 0 i hd
    obtain ⟨v, hv, rv⟩ := r.at' he
    have := y xs (.inl (.inl (h.at s)))
    rw [hv] at this; cases this
    rw [Nat.zero_add]
    exact ⟨_, Step.new s.fh hT, rp_pair (.int _) (rv.up s.ff) s.fh hT⟩
theorem di_en (h : DE K te σ F H (.list ds)) : DI K (iEnum K (tCons te tNil)) σ M F H (enD 0 ds) := fun F1 H1 s R q => h F1 H1 s _ fun v F2 H2 s2 r => by
  obtain ⟨a, xs, rfl, h1, h2⟩ := r.of_lst
  exact ⟨a, xs, rfl, .inl (.inl (s2.fh _ _ h1)), q _ F2 H2 s2 (gives_e (.inl h1) h2)⟩
def zpD : List PyData → List PyData → List PyData
  | d :: ds, e :: es => .tuple [d, e] :: zpD ds es
  | _, _ => []
theorem zpD_len : ∀ (ds es : List PyData), (zpD ds es).length = min ds.length es.length
  | [], _ => by simp [zpD]
  | _ :: _, [] => by simp [zpD]
  | _ :: ds, _ :: es => by rw [zpD, List.length_cons, List.length_cons, List.length_cons, zpD_len ds es]; omega
theorem zpD_at : ∀ (ds es : List PyData) (j : Nat) {d : PyData}, (zpD ds es)[j]? = some d → ∃ x y, ds[j]? = some x ∧ es[j]? = some y ∧ d = .tuple [x, y]
  | [], _, _, _, h => by simp [zpD] at h
  | _ :: _, [], _, _, h => by simp [zpD] at h
  | x :: ds, y :: es, 0, d, h => by simp [zpD] at h; exact ⟨x, y, rfl, rfl, h.symm⟩
  | x :: ds, y :: es, j + 1, d, h => by
    obtain ⟨x', y', h1, h2, h3⟩ := zpD_at ds es j (d := d) (by simpa [zpD] using h)
    exact ⟨x', y', by simpa using h1, by simpa using h2, h3⟩
theorem gives_z (h : F a = some (.lst xs)) (r : RpAll K F xs ds) (h' : F b = some (.lst ys)) (r' : RpAll K F ys es) : Gives K (Itz K a b) M F H (zpD ds es) where
  go := fun F1 H1 i s hi => by
    rw [zpD_len] at hi
    obtain ⟨x, hx⟩ := some_lt (l := xs) (i := i) (by rw [r.len]; omega)
    obtain ⟨y, hy⟩ := some_lt (l := ys) (i := i) (by rw [r'.len]; omega)
    exact ⟨xs, ys, x, y, .inl (.inl (s.fh _ _ (s.ff _ _ h))), .inl (.inl (s.fh _ _ (s.ff _ _ h'))), hx, hy⟩
  stop := fun F1 H1 s => ⟨xs, ys, .inl (.inl (s.fh _ _ (s.ff _ _ h))), .inl (.inl (s.fh _ _ (s.ff _ _ h'))), by rw [r.len, r'.len, zpD_len]; omega⟩
  yld := fun F1 H1 i x H2 d s hd y => by
    obtain ⟨T, x1, y1, rfl, hT, rfl, q1, q2⟩ := y
    obtain ⟨e1, e2, he1, he2, rfl⟩ := zpD_at ds es i hd
    obtain ⟨v, hv, rv⟩ := r.at' he1
    obtain ⟨v', hv', rv'⟩ := r'.at' he2
    have z1 := q1 xs (.inl (.inl (s.fh _ _ (s.ff _ _ h))))
    have z2 := q2 ys (.inl (.inl (s.fh _ _ (s.ff _ _ h'))))
    rw [hv] at z1; cases z1
    rw [hv'] at z2; cases z2
    exact ⟨_, Step.new s.fh hT, rp_pair (rv.up s.ff) (rv'.up s.ff) s.fh hT⟩
theorem gives_zT (h : SqT K F a xs) (r : RpAll K F xs ds) (h' : SqT K F b ys) (r' : RpAll K F ys es) : Gives K (RZ.ItzT K a b) M F H (zpD ds es) where
  go := fun F1 H1 i s hi => by
    rw [zpD_len] at hi
    obtain ⟨x, hx⟩ := some_lt (l := xs) (i := i) (by rw [r.len]; omega)
    obtain ⟨y, hy⟩ := some_lt (l := ys) (i := i) (by rw [r'.len]; omega)
    exact ⟨xs, ys, x, y, seqT s.fh (seqT s.ff h), seqT s.fh (seqT s.ff h'), hx, hy⟩
  stop := fun F1 H1 s => ⟨xs, ys, seqT s.fh (seqT s.ff h), seqT s.fh (seqT s.ff h'), by rw [r.len, r'.len, zpD_len]; omega⟩
  yld := fun F1 H1 i x H2 d s hd y => by
    obtain ⟨T, x1, y1, rfl, hT, rfl, q1, q2⟩ := y
    obtain ⟨e1, e2, he1, he2, rfl⟩ := zpD_at ds es i hd
    obtain ⟨v, hv, rv⟩ := r.at' he1
    obtain ⟨v', hv', rv'⟩ := r'.at' he2
    have z1 := q1 xs (seqT s.fh (seqT s.ff h))
    have z2 := q2 ys (seqT s.fh (seqT s.ff h'))
    rw [hv] at z1; cases z1
    rw [hv'] at z2; cases z2
    exact ⟨_, Step.new s.fh hT, rp_pair (rv.up s.ff) (rv'.up s.ff) s.fh hT⟩
theorem di_zp (h : DE K ta σ F H (.list ds)) (h' : DE K tb σ F H (.list es)) : DI K (iZip K (tCons ta (tCons tb tNil))) σ M F H (zpD ds es) := fun F1 H1 s R q => h F1 H1 s _ fun v F2 H2 s2 r => h' F2 H2 (s.trans s2) _ fun v' F3 H3 s3 r' => by
  obtain ⟨a, xs, rfl, h1, h2⟩ := (r.up s3.ff).of_lst
  obtain ⟨b, ys, rfl, h3, h4⟩ := r'.of_lst
  exact ⟨a, b, xs, ys, rfl, .inl (.inl (s3.fh _ _ h1)), .inl (.inl (s3.fh _ _ h3)), q _ F3 H3 (s2.trans s3) (gives_z h1 h2 h3 h4)⟩
theorem di_zpL (h : DE K ta σ F H (.list ds)) (h' : DE K tb σ F H (.list es)) : DI K (RZ.iZipA K (tCons ta (tCons tb tNil))) σ M F H (zpD ds es) := fun F1 H1 s R q => h F1 H1 s _ fun v F2 H2 s2 r => h' F2 H2 (s.trans s2) _ fun v' F3 H3 s3 r' => by
  obtain ⟨a, xs, rfl, h1, h2⟩ := (r.up s3.ff).of_lst
  obtain ⟨b, ys, rfl, h3, h4⟩ := r'.of_lst
  exact ⟨a, b, xs, ys, rfl, .inl ⟨.inl (.inl (s3.fh _ _ h1)), .inl (.inl (s3.fh _ _ h3)), q _ F3 H3 (s2.trans s3) (gives_z h1 h2 h3 h4)⟩⟩
theorem di_zpT (h : DE K ta σ F H (.tuple ds)) (h' : DE K tb σ F H (.tuple es)) : DI K (RZ.iZipA K (tCons ta (tCons tb tNil))) σ M F H (zpD ds es) := fun F1 H1 s R q => h F1 H1 s _ fun v F2 H2 s2 r => h' F2 H2 (s.trans s2) _ fun v' F3 H3 s3 r' => by
  obtain ⟨a, xs, rfl, h1, h2⟩ := (r.up s3.ff).of_tup
  obtain ⟨b, ys, rfl, h3, h4⟩ := r'.of_tup
  exact ⟨a, b, xs, ys, rfl, .inr ⟨seqT s3.fh h1, seqT s3.fh h3, q _ F3 H3 (s2.trans s3) (gives_zT h1 h2 h3 h4)⟩⟩

/-! targets -/
theorem g_tup2 {i j : Nat} {x : V} {Q : L2.St → Hp → Prop} (w : Same F H) (r : Rp K F x (.tuple [d1, d2])) (k : ∀ v1 v2, Rp K F v1 d1 → Rp K F v2 d2 → Q ((σ.set i (some v1)).set j (some v2)) H) : gTup K 2 (gCons (gName i) (gCons (gName j) gNil)) x σ H Q := by
  obtain ⟨a, xs, rfl, h1, h2⟩ := r.of_tup
  cases h2 with
  | cons r1 h2 =>
    cases h2 with
    | cons r2 h2 =>
      cases h2
      exact ⟨a, _, rfl, seqT w h1, rfl, _, _, rfl, _, _, rfl, rfl, k _ _ r1 r2⟩
theorem g_tup3 {i j l : Nat} {x : V} {d3 : PyData} {Q : L2.St → Hp → Prop} (w : Same F H) (r : Rp K F x (.tuple [d1, d2, d3])) (k : ∀ v1 v2 v3, Rp K F v1 d1 → Rp K F v2 d2 → Rp K F v3 d3 → Q (((σ.set i (some v1)).set j (some v2)).set l (some v3)) H) :
    gTup K 3 (gCons (gName i) (gCons (gName j) (gCons (gName l) gNil))) x σ H Q := by
  obtain ⟨a, xs, rfl, h1, h2⟩ := r.of_tup
  cases h2 with
  | cons r1 h2 =>
    cases h2 with
    | cons r2 h2 =>
      cases h2 with
      | cons r3 h2 =>
        cases h2
        exact ⟨a, _, rfl, seqT w h1, rfl, _, _, rfl, _, _, rfl, _, _, rfl, rfl, k _ _ _ r1 r2 r3⟩
theorem g_tup4 {i j l m : Nat} {x : V} {d3 d4 : PyData} {Q : L2.St → Hp → Prop} (w : Same F H) (r : Rp K F x (.tuple [d1, d2, d3, d4])) (k : ∀ v1 v2 v3 v4, Rp K F v1 d1 → Rp K F v2 d2 → Rp K F v3 d3 → Rp K F v4 d4 → Q ((((σ.set i (some v1)).set j (some v2)).set l (some v3)).set m (some v4)) H) :
    gTup K 4 (gCons (gName i) (gCons (gName j) (gCons (gName l) (gCons (gName m) gNil)))) x σ H Q := by
  obtain ⟨a, xs, rfl, h1, h2⟩ := r.of_tup
  cases h2 with
  | cons r1 h2 =>
    cases h2 with
    | cons r2 h2 =>
      cases h2 with
      | cons r3 h2 =>
        cases h2 with
        | cons r4 h2 =>
          cases h2
          exact ⟨a, _, rfl, seqT w h1, rfl, _, _, rfl, _, _, rfl, _, _, rfl, _, _, rfl, rfl, k _ _ _ _ r1 r2 r3 r4⟩

/-! ### loops -/
variable {D : Ends} {tu tw : TS} {g : TG} {wi : TI}
/-- for: P i σ F H behind i turns; what P does not speak of stays (but for what M names) -/
theorem s_for (w : Same F H) (hi : DI K wi σ M F H ds) (P : Nat → L2.St → Hp → Hp → Prop) (h0 : ∀ F1 H1, St0 F H F1 H1 → P 0 σ F1 H1)
    (hs : ∀ F1 H1, St0 F H F1 H1 → ∀ i d x σ' Fa Ha F' H', ds[i]? = some d → Step M F1 H1 F' H' → P i σ' Fa Ha → St0 Fa Ha F' H' → Rp K F' x d →
      g x σ' H' fun σ2 H2 => tu { D with nx := fun σ3 H3 => ∃ F3, Step M F1 H1 F3 H3 ∧ P (i + 1) σ3 F3 H3, ct := fun σ3 H3 => ∃ F3, Step M F1 H1 F3 H3 ∧ P (i + 1) σ3 F3 H3, bk := D.nx } σ2 H2)
    (hd : ∀ σ' F' H', Step M F H F' H' → P ds.length σ' F' H' → D.nx σ' H') : tFor wi g tu D σ H :=
  hi F H (.refl w) _ fun J F1 H1 s1 G => by
    refine ⟨fun i m σ' H' => m = ds.length - i ∧ i ≤ ds.length ∧ ∃ F', Step M F1 H1 F' H' ∧ P i σ' F' H', ⟨ds.length, by simp, Nat.zero_le _, F1, .refl s1.fh, h0 F1 H1 s1⟩, ?_⟩
    rintro i m σ' H' ⟨rfl, hle, F', s2, p⟩
    by_cases hlt : i < ds.length
    · refine .inr ⟨G.go F' H' i s2 hlt, fun σ3 H3 => ∃ F3, Step M F1 H1 F3 H3 ∧ P (i + 1) σ3 F3 H3, fun σ3 H3 ⟨F3, a, b⟩ => ⟨ds.length - (i + 1), by omega, rfl, hlt, F3, a, b⟩, fun x H'' y => ?_⟩
      obtain ⟨d, hd⟩ := some_lt hlt
      obtain ⟨F'', s3, r⟩ := G.yld F' H' i x H'' d s2 hd y
      exact hs F1 H1 s1 i d x σ' F' H' F'' H'' hd (s2.trans s3.w) p s3 r
    · have e : i = ds.length := by omega
      subst e
      exact .inl ⟨G.stop F' H' s2, hd σ' F' H' (s1.w.trans s2) p⟩
/-- while: m falls -/
theorem s_while (w : Same F H) (P : Nat → L2.St → Hp → Hp → Prop) (m0 : Nat) (h0 : P m0 σ F H)
    (hs : ∀ m σ' F' H', Step M F H F' H' → P m σ' F' H' → ∃ b, DT K t σ' F' H' b ∧
      (b = true → ∀ F1 H1, St0 F' H' F1 H1 → tu { D with nx := fun σ3 H3 => ∃ m', m' < m ∧ ∃ F3, Step M F H F3 H3 ∧ P m' σ3 F3 H3, ct := fun σ3 H3 => ∃ m', m' < m ∧ ∃ F3, Step M F H F3 H3 ∧ P m' σ3 F3 H3, bk := D.nx } σ' H1) ∧
      (b = false → ∀ F1 H1, St0 F' H' F1 H1 → D.nx σ' H1)) : tWhile t tu D σ H := by
  refine ⟨fun m σ' H' => ∃ F', Step M F H F' H' ∧ P m σ' F' H', ⟨m0, F, .refl w, h0⟩, ?_⟩
  rintro m σ' H' ⟨F', s1, p⟩
  obtain ⟨b, hb, h1, h2⟩ := hs m σ' F' H' s1 p
  refine hb F' H' (.refl s1.fh) _ fun F1 H1 s2 => ?_
  cases b with
  | true => exact ⟨_, fun σ3 H3 z => z, h1 rfl F1 H1 s2⟩
  | false => exact h2 rfl F1 H1 s2

/-! ### comprehensions -/
/-- [e for target in ..], each item's datum by its own -/
theorem de_lcM {α : Type} {as : List α} {enc f : α → PyData} {vs : List Nat} (hi : DI K wi σ [] F H (as.map enc)) (hz : as.length < 100000)
    (hs : ∀ a, a ∈ as → ∀ x F' H', St0 F H F' H' → Rp K F' x (enc a) → ∃ σ2, (∀ Q : L2.St → Hp → Prop, Q σ2 H' → g x (wipe σ vs) H' Q) ∧ wipe σ2 vs = wipe σ vs ∧ DE K te σ2 F' H' (f a)) :
    DE K (tLc wi g tYes te vs) σ F H (.list (as.map f)) := fun F0 H0 s0 Q q => hi F0 H0 s0 _ fun J F1 H1 s1 G D hD => by
  refine ⟨fun i m H' => m = as.length - i ∧ i ≤ as.length ∧ ∃ F' acc, Step [] F1 H1 F' H' ∧ Own F' H' D (.lst acc) ∧ RpAll K F' acc ((as.map f).take i), ⟨as.length, by simp, Nat.zero_le _, F1, [], Step.own_new s1.fh hD, Own.new s1.fh hD, ?_⟩, ?_⟩
  · rw [List.take_zero]; exact .nil
  rintro i m H' ⟨rfl, hle, F', acc, s2, oD, rA⟩
  by_cases hlt : i < as.length
  · refine .inr ⟨G.go F' H' i s2 (by rw [List.length_map]; exact hlt), fun H3 => ∃ F3 acc, Step [] F1 H1 F3 H3 ∧ Own F3 H3 D (.lst acc) ∧ RpAll K F3 acc ((as.map f).take (i + 1)),
      fun H3 ⟨F3, acc3, a, b, c⟩ => ⟨as.length - (i + 1), by omega, rfl, hlt, F3, acc3, a, b, c⟩, fun x H'' y => ?_⟩
    have ha : (as.map enc)[i]? = some (enc as[i]) := by rw [List.getElem?_map, List.getElem?_eq_getElem hlt]; rfl
    obtain ⟨F'', s3, r⟩ := G.yld F' H' i x H'' _ s2 ha y
    obtain ⟨σ2, hg, hw, he⟩ := hs as[i] (List.getElem_mem hlt) x F'' H'' (s0.trans (s1.trans (s2.trans s3))) r
    refine hg _ ⟨hw, ?_⟩
    refine he F'' H'' (.refl s3.fh) _ fun v F3 H3 s4 rv => ?_
    have o3 := (oD.up s3).up s4
    refine ⟨acc, o3.2, big_lt (by rw [rA.len, List.length_take]; omega), F3, acc ++ [v], Step.put_own (s2.trans (s3.trans s4)) hD o3, o3.put, ?_⟩
    rw [List.take_add_one, List.getElem?_map, List.getElem?_eq_getElem hlt]
    exact (rA.up (s3.trans s4).ff).app (.cons rv .nil)
  · have e : i = as.length := by omega
    subst e
    rw [List.take_of_length_le (by rw [List.length_map]; exact Nat.le_refl _)] at rA
    refine .inl ⟨?_, q _ (upd F' D (.lst acc)) H' (s1.trans (Step.frz s2 hD oD)) (.lst upd_same (rA.up (frz_ff oD)))⟩
    have := G.stop F' H' s2
    rw [List.length_map] at this
    exact this
/-- .. if test -/
theorem de_lcF {α : Type} {as : List α} {enc f : α → PyData} {keep : α → Bool} {vs : List Nat} (hi : DI K wi σ [] F H (as.map enc)) (hz : as.length < 100000)
    (hs : ∀ a, a ∈ as → ∀ x F' H', St0 F H F' H' → Rp K F' x (enc a) → ∃ σ2, (∀ Q : L2.St → Hp → Prop, Q σ2 H' → g x (wipe σ vs) H' Q) ∧ wipe σ2 vs = wipe σ vs ∧ DT K t σ2 F' H' (keep a) ∧ (keep a = true → DE K te σ2 F' H' (f a))) :
    DE K (tLc wi g t te vs) σ F H (.list ((as.filter keep).map f)) := fun F0 H0 s0 Q q => hi F0 H0 s0 _ fun J F1 H1 s1 G D hD => by
  refine ⟨fun i m H' => m = as.length - i ∧ i ≤ as.length ∧ ∃ F' acc, Step [] F1 H1 F' H' ∧ Own F' H' D (.lst acc) ∧ RpAll K F' acc (((as.take i).filter keep).map f), ⟨as.length, by simp, Nat.zero_le _, F1, [], Step.own_new s1.fh hD, Own.new s1.fh hD, ?_⟩, ?_⟩
  · rw [List.take_zero]; exact .nil
  rintro i m H' ⟨rfl, hle, F', acc, s2, oD, rA⟩
  by_cases hlt : i < as.length
  · refine .inr ⟨G.go F' H' i s2 (by rw [List.length_map]; exact hlt), fun H3 => ∃ F3 acc, Step [] F1 H1 F3 H3 ∧ Own F3 H3 D (.lst acc) ∧ RpAll K F3 acc (((as.take (i + 1)).filter keep).map f),
      fun H3 ⟨F3, acc3, a, b, c⟩ => ⟨as.length - (i + 1), by omega, rfl, hlt, F3, acc3, a, b, c⟩, fun x H'' y => ?_⟩
    have ha : (as.map enc)[i]? = some (enc as[i]) := by rw [List.getElem?_map, List.getElem?_eq_getElem hlt]; rfl
    obtain ⟨F'', s3, r⟩ := G.yld F' H' i x H'' _ s2 ha y
    obtain ⟨σ2, hg, hw, ht, he⟩ := hs as[i] (List.getElem_mem hlt) x F'' H'' (s0.trans (s1.trans (s2.trans s3))) r
    refine hg _ ⟨hw, ?_⟩
    refine ht F'' H'' (.refl s3.fh) _ fun F3 H3 s4 => ?_
    have o3 := (oD.up s3).up s4
    have et : as.take (i + 1) = as.take i ++ [as[i]] := by rw [List.take_add_one, List.getElem?_eq_getElem hlt]; rfl
    cases hk : keep as[i] with
    | true =>
      refine iteT (he hk F3 H3 s4 _ fun v F4 H4 s5 rv => ?_)
      have o4 := o3.up s5
      have hlen : acc.length ≤ i := by
        rw [rA.len, List.length_map]
        exact Nat.le_trans (List.length_filter_le _ _) (by rw [List.length_take]; omega)
      refine ⟨acc, o4.2, big_lt (by omega), F4, acc ++ [v], Step.put_own (s2.trans (s3.trans (s4.trans s5))) hD o4, o4.put, ?_⟩
      rw [et, List.filter_append, List.map_append, List.filter_cons, if_pos hk]
      exact (rA.up (s3.trans (s4.trans s5)).ff).app (.cons rv .nil)
    | false =>
      refine iteF ⟨F3, acc, s2.trans (s3.trans s4), o3, ?_⟩
      rw [et, List.filter_append, List.map_append, List.filter_cons, if_neg (by rw [hk]; decide)]
      show RpAll K F3 acc (_ ++ [])
      rw [List.append_nil]
      exact rA.up (s3.trans s4).ff
  · have e : i = as.length := by omega
    subst e
    rw [List.take_of_length_le (Nat.le_refl _)] at rA
    refine .inl ⟨?_, q _ (upd F' D (.lst acc)) H' (s1.trans (Step.frz s2 hD oD)) (.lst upd_same (rA.up (frz_ff oD)))⟩
    have := G.stop F' H' s2
    rw [List.length_map] at this
    exact this
/-! by the target's form -/
theorem de_lc1 {α : Type} {as : List α} {enc f : α → PyData} {vs : List Nat} {j : Nat} (hi : DI K wi σ [] F H (as.map enc)) (hz : as.length < 100000) (hw : ∀ x, wipe ((wipe σ vs).set j (some x)) vs = wipe σ vs)
    (hs : ∀ a, a ∈ as → ∀ x F' H', St0 F H F' H' → Rp K F' x (enc a) → DE K te ((wipe σ vs).set j (some x)) F' H' (f a)) : DE K (tLc wi (gName j) tYes te vs) σ F H (.list (as.map f)) :=
  de_lcM hi hz fun a ha x F' H' s r => ⟨_, fun Q q => q, hw x, hs a ha x F' H' s r⟩
theorem de_lcI {ns : List Int} {f : Int → PyData} {vs : List Nat} {j : Nat} (hi : DI K wi σ [] F H (ns.map .int)) (hz : ns.length < 100000) (hw : ∀ x, wipe ((wipe σ vs).set j (some x)) vs = wipe σ vs)
    (hs : ∀ n, n ∈ ns → ∀ F' H', St0 F H F' H' → DE K te ((wipe σ vs).set j (some (.int n))) F' H' (f n)) : DE K (tLc wi (gName j) tYes te vs) σ F H (.list (ns.map f)) :=
  de_lc1 hi hz hw fun n hn x F' H' s r => by
    cases r.of_int
    exact hs n hn F' H' s
theorem de_lc2 {α : Type} {as : List α} {e1 e2 f : α → PyData} {vs : List Nat} {i j : Nat} (hi : DI K wi σ [] F H (as.map fun a => .tuple [e1 a, e2 a])) (hz : as.length < 100000) (hw : ∀ x y, wipe (((wipe σ vs).set i (some x)).set j (some y)) vs = wipe σ vs)
    (hs : ∀ a, a ∈ as → ∀ x y F' H', St0 F H F' H' → Rp K F' x (e1 a) → Rp K F' y (e2 a) → DE K te (((wipe σ vs).set i (some x)).set j (some y)) F' H' (f a)) : DE K (tLc wi (gTup K 2 (gCons (gName i) (gCons (gName j) gNil))) tYes te vs) σ F H (.list (as.map f)) :=
  fun F1 H1 s1 Q q => by
    refine de_lcM (g := gTup K 2 (gCons (gName i) (gCons (gName j) gNil))) hi hz (fun a ha x F' H' s r => ?_) F1 H1 s1 Q q
    obtain ⟨p, xs, rfl, h1, h2⟩ := r.of_tup
    obtain ⟨v1, rr, r1, h3⟩ : ∃ v1 rr, Rp K F' v1 (e1 a) ∧ xs = v1 :: rr ∧ RpAll K F' rr [e2 a] := by
      cases h2 with
      | cons r1 h2 => exact ⟨_, _, r1, rfl, h2⟩
    obtain ⟨rfl, h3⟩ := h3
    obtain ⟨v2, rfl, r2⟩ : ∃ v2, rr = [v2] ∧ Rp K F' v2 (e2 a) := by
      cases h3 with
      | cons r2 h3 => cases h3; exact ⟨_, rfl, r2⟩
    exact ⟨_, fun Q q => ⟨p, _, rfl, seqT s.fh h1, rfl, _, _, rfl, _, _, rfl, rfl, q⟩, hw v1 v2, hs a ha v1 v2 F' H' s r1 r2⟩
theorem de_lc3 {α : Type} {as : List α} {e1 e2 e3 f : α → PyData} {vs : List Nat} {i j l : Nat} (hi : DI K wi σ [] F H (as.map fun a => .tuple [e1 a, e2 a, e3 a])) (hz : as.length < 100000) (hw : ∀ x y z, wipe ((((wipe σ vs).set i (some x)).set j (some y)).set l (some z)) vs = wipe σ vs)
    (hs : ∀ a, a ∈ as → ∀ x y z F' H', St0 F H F' H' → Rp K F' x (e1 a) → Rp K F' y (e2 a) → Rp K F' z (e3 a) → DE K te ((((wipe σ vs).set i (some x)).set j (some y)).set l (some z)) F' H' (f a)) : DE K (tLc wi (gTup K 3 (gCons (gName i) (gCons (gName j) (gCons (gName l) gNil)))) tYes te vs) σ F H (.list (as.map f)) :=
  fun F1 H1 s1 Q q => by
    refine de_lcM (g := gTup K 3 (gCons (gName i) (gCons (gName j) (gCons (gName l) gNil)))) hi hz (fun a ha x F' H' s r => ?_) F1 H1 s1 Q q
    obtain ⟨p, xs, rfl, h1, h2⟩ := r.of_tup
    obtain ⟨v1, v2, v3, rfl, r1, r2, r3⟩ : ∃ v1 v2 v3, xs = [v1, v2, v3] ∧ Rp K F' v1 (e1 a) ∧ Rp K F' v2 (e2 a) ∧ Rp K F' v3 (e3 a) := by
      cases h2 with
      | cons r1 h2 => cases h2 with
        | cons r2 h2 => cases h2 with
          | cons r3 h2 => cases h2; exact ⟨_, _, _, rfl, r1, r2, r3⟩
    exact ⟨_, fun Q q => ⟨p, _, rfl, seqT s.fh h1, rfl, _, _, rfl, _, _, rfl, _, _, rfl, rfl, q⟩, hw v1 v2 v3, hs a ha v1 v2 v3 F' H' s r1 r2 r3⟩
theorem de_lcF1 {α : Type} {as : List α} {enc f : α → PyData} {keep : α → Bool} {vs : List Nat} {j : Nat} (hi : DI K wi σ [] F H (as.map enc)) (hz : as.length < 100000) (hw : ∀ x, wipe ((wipe σ vs).set j (some x)) vs = wipe σ vs)
    (hs : ∀ a, a ∈ as → ∀ x F' H', St0 F H F' H' → Rp K F' x (enc a) → DT K t ((wipe σ vs).set j (some x)) F' H' (keep a) ∧ (keep a = true → DE K te ((wipe σ vs).set j (some x)) F' H' (f a))) : DE K (tLc wi (gName j) t te vs) σ F H (.list ((as.filter keep).map f)) :=
  de_lcF hi hz fun a ha x F' H' s r => ⟨_, fun Q q => q, hw x, hs a ha x F' H' s r⟩
theorem de_lcF3 {α : Type} {as : List α} {e1 e2 e3 f : α → PyData} {keep : α → Bool} {vs : List Nat} {i j l : Nat} (hi : DI K wi σ [] F H (as.map fun a => .tuple [e1 a, e2 a, e3 a])) (hz : as.length < 100000) (hw : ∀ x y z, wipe ((((wipe σ vs).set i (some x)).set j (some y)).set l (some z)) vs = wipe σ vs)
    (hs : ∀ a, a ∈ as → ∀ x y z F' H', St0 F H F' H' → Rp K F' x (e1 a) → Rp K F' y (e2 a) → Rp K F' z (e3 a) → DT K t ((((wipe σ vs).set i (some x)).set j (some y)).set l (some z)) F' H' (keep a) ∧ (keep a = true → DE K te ((((wipe σ vs).set i (some x)).set j (some y)).set l (some z)) F' H' (f a))) :
    DE K (tLc wi (gTup K 3 (gCons (gName i) (gCons (gName j) (gCons (gName l) gNil)))) t te vs) σ F H (.list ((as.filter keep).map f)) :=
  fun F1 H1 s1 Q q => by
    refine de_lcF (g := gTup K 3 (gCons (gName i) (gCons (gName j) (gCons (gName l) gNil)))) hi hz (fun a ha x F' H' s r => ?_) F1 H1 s1 Q q
    obtain ⟨p, xs, rfl, h1, h2⟩ := r.of_tup
    obtain ⟨v1, v2, v3, rfl, r1, r2, r3⟩ : ∃ v1 v2 v3, xs = [v1, v2, v3] ∧ Rp K F' v1 (e1 a) ∧ Rp K F' v2 (e2 a) ∧ Rp K F' v3 (e3 a) := by
      cases h2 with
      | cons r1 h2 => cases h2 with
        | cons r2 h2 => cases h2 with
          | cons r3 h2 => cases h2; exact ⟨_, _, _, rfl, r1, r2, r3⟩
    exact ⟨_, fun Q q => ⟨p, _, rfl, seqT s.fh h1, rfl, _, _, rfl, _, _, rfl, _, _, rfl, rfl, q⟩, hw v1 v2 v3, hs a ha v1 v2 v3 F' H' s r1 r2 r3⟩
/-- a comprehension whose items change what M names: P speaks of these alone -/
theorem r_lc {vs : List Nat} {Q : VK} (w : Same F H) (hi : DI K wi σ M F H ds) (hz : ds.length < 100000) (hM : ∀ a ∈ M, H a ≠ none) (P : Nat → List PyData → Hp → Hp → Prop)
    (hP : ∀ i es F1 H1 F2 H2, (∀ a ∈ M, F2 a = F1 a ∧ H2 a = H1 a) → P i es F1 H1 → P i es F2 H2)
    (h0 : ∀ F1 H1, St0 F H F1 H1 → P 0 [] F1 H1)
    (hs : ∀ F1 H1, St0 F H F1 H1 → ∀ i d x es Fa Ha F' H', ds[i]? = some d → es.length = i → Step M F1 H1 F' H' → P i es Fa Ha → St0 Fa Ha F' H' → Rp K F' x d →
      ∀ Nx : VK, (∀ y e F3 H3, Step M F' H' F3 H3 → Rp K F3 y e → P (i + 1) (es ++ [e]) F3 H3 → Nx y H3) → g x (wipe σ vs) H' fun σ2 H2 => wipe σ2 vs = wipe σ vs ∧ te σ2 H2 Nx)
    (hd : ∀ es p F' H', es.length = ds.length → Step M F H F' H' → P ds.length es F' H' → Rp K F' (.ref p) (.list es) → Q (.ref p) H') : tLc wi g tYes te vs σ H Q :=
  hi F H (.refl w) _ fun J F1 H1 s1 G D hD => by
    have nD : D ∉ M := fun hm => by
      have z := s1.back w hD
      exact hM D hm z
    have keepU : ∀ {X : Hp} {o : HO} a, a ∈ M → upd X D o a = X a := fun a ha => upd_ne (fun e => nD (e ▸ ha))
    refine ⟨fun i m H' => m = ds.length - i ∧ i ≤ ds.length ∧ ∃ F' acc es, es.length = i ∧ Step M F1 H1 F' H' ∧ Own F' H' D (.lst acc) ∧ RpAll K F' acc es ∧ P i es F' H', ⟨ds.length, by simp, Nat.zero_le _, F1, [], [], rfl, Step.own_new s1.fh hD, Own.new s1.fh hD, .nil, ?_⟩, ?_⟩
    · exact hP _ _ F1 H1 _ _ (fun a ha => ⟨rfl, keepU a ha⟩) (h0 F1 H1 s1)
    rintro i m H' ⟨rfl, hle, F', acc, es, hes, s2, oD, rA, p⟩
    by_cases hlt : i < ds.length
    · refine .inr ⟨G.go F' H' i s2 hlt, fun H3 => ∃ F3 acc es, es.length = i + 1 ∧ Step M F1 H1 F3 H3 ∧ Own F3 H3 D (.lst acc) ∧ RpAll K F3 acc es ∧ P (i + 1) es F3 H3,
        fun H3 ⟨F3, acc3, es3, l3, a, b, c, e⟩ => ⟨ds.length - (i + 1), by omega, rfl, hlt, F3, acc3, es3, l3, a, b, c, e⟩, fun x H'' y => ?_⟩
      obtain ⟨d, hd'⟩ := some_lt hlt
      obtain ⟨F'', s3, r⟩ := G.yld F' H' i x H'' d s2 hd' y
      refine hs F1 H1 s1 i d x es F' H' F'' H'' hd' hes (s2.trans s3.w) p s3 r (fun y H4 => ∃ acc, H4 D = some (.lst acc) ∧ acc.length < sizeLine ∧ ∃ F3 acc3 es, es.length = i + 1 ∧ Step M F1 H1 F3 (upd H4 D (.lst (acc ++ [y]))) ∧ Own F3 (upd H4 D (.lst (acc ++ [y]))) D (.lst acc3) ∧ RpAll K F3 acc3 es ∧ P (i + 1) es F3 (upd H4 D (.lst (acc ++ [y])))) fun v e F3 H3 s4 rv p3 => ?_
      have o3 := (oD.up s3).st s4 nD
      refine ⟨acc, o3.2, big_lt (by rw [rA.len, hes]; omega), F3, acc ++ [v], es ++ [e], by rw [List.length_append, hes]; rfl, Step.put_own ((s2.trans s3.w).trans s4) hD o3, o3.put, (rA.up (s3.ff.trans s4.ff)).app (.cons rv .nil), ?_⟩
      exact hP _ _ F3 H3 _ _ (fun a ha => ⟨rfl, keepU a ha⟩) p3
    · have e : i = ds.length := by omega
      subst e
      refine .inl ⟨G.stop F' H' s2, hd es D (upd F' D (.lst acc)) H' hes (s1.w.trans (Step.frz s2 hD oD)) ?_ (.lst upd_same (rA.up (frz_ff oD)))⟩
      exact hP _ _ F' H' _ _ (fun a ha => ⟨keepU a ha, rfl⟩) p
end
end DL
end

section
set_option maxRecDepth 100000
set_option maxHeartbeats 4000000
namespace DL
open PySem PySem.Spec PyProof.Rows L2

/-! ### a def of the text -/
structure DefAt (K : PySem.W.Frag) (mg : Str → Option Value) (x : Str) (st : Stmt) (ps : List Str) where
  f : Addr
  fd : FuncData
  F : Fun K x x st f fd
  g : mg x = some (.ref f)
  b : Binds K fd ps []

section
variable {K : PySem.W.Frag} {F : Hp} {vs : List V} {d1 d2 d3 d4 d5 : PyData}
theorem RpAll.nil_ (r : RpAll K F vs []) : vs = [] := by cases r; rfl
theorem RpAll.one (r : RpAll K F vs [d1]) : ∃ x1, vs = [x1] ∧ Rp K F x1 d1 := by
  cases r with
  | cons h1 r => cases r; exact ⟨_, rfl, h1⟩
theorem RpAll.two (r : RpAll K F vs [d1, d2]) : ∃ x1 x2, vs = [x1, x2] ∧ Rp K F x1 d1 ∧ Rp K F x2 d2 := by
  cases r with
  | cons h1 r => obtain ⟨x2, rfl, h2⟩ := r.one; exact ⟨_, x2, rfl, h1, h2⟩
theorem RpAll.three (r : RpAll K F vs [d1, d2, d3]) : ∃ x1 x2 x3, vs = [x1, x2, x3] ∧ Rp K F x1 d1 ∧ Rp K F x2 d2 ∧ Rp K F x3 d3 := by
  cases r with
  | cons h1 r => obtain ⟨x2, x3, rfl, h2, h3⟩ := r.two; exact ⟨_, x2, x3, rfl, h1, h2, h3⟩
theorem RpAll.four (r : RpAll K F vs [d1, d2, d3, d4]) : ∃ x1 x2 x3 x4, vs = [x1, x2, x3, x4] ∧ Rp K F x1 d1 ∧ Rp K F x2 d2 ∧ Rp K F x3 d3 ∧ Rp K F x4 d4 := by
  cases r with
  | cons h1 r => obtain ⟨x2, x3, x4, rfl, h2, h3, h4⟩ := r.three; exact ⟨_, x2, x3, x4, rfl, h1, h2, h3, h4⟩
theorem RpAll.five (r : RpAll K F vs [d1, d2, d3, d4, d5]) : ∃ x1 x2 x3 x4 x5, vs = [x1, x2, x3, x4, x5] ∧ Rp K F x1 d1 ∧ Rp K F x2 d2 ∧ Rp K F x3 d3 ∧ Rp K F x4 d4 ∧ Rp K F x5 d5 := by
  cases r with
  | cons h1 r => obtain ⟨x2, x3, x4, x5, rfl, h2, h3, h4, h5⟩ := r.four; exact ⟨_, x2, x3, x4, x5, rfl, h1, h2, h3, h4, h5⟩
end
/-! ### promises -/
/-- a def that only makes new things: from data to a datum -/
def SpP (K : PySem.W.Frag) {α : Type} (enc : α → List PyData) (pre : α → Prop) (f : α → PyData) : Sp := fun vs H Q _ => ∃ (F : Hp) (a : α), Same F H ∧ RpAll K F vs (enc a) ∧ pre a ∧ ∀ v F' H', St0 F H F' H' → Rp K F' v (f a) → Q v H'
section
variable {K : PySem.W.Frag} {σ : L2.St} {F H F1 H1 : Hp} {ta tb te tc : TE} {t u : TT} {d d1 d2 : PyData} {ds es : List PyData} {a b : Addr} {xs ys : List V} {v : V} {M : List Addr}
theorem de_callP {α : Type} {enc : α → List PyData} {pre : α → Prop} {f : α → PyData} {E : XK} {ta : TA} (a : α) (h : DA K ta σ F H (enc a)) (hp : pre a) : DE K (tCall (SpP K enc pre f) [] E ta) σ F H (f a) := fun F1 H1 s Q q =>
  h F1 H1 s _ fun vs F2 H2 s2 rs => ⟨F2, a, s2.fh, by rw [List.append_nil]; exact rs, hp, fun v F3 H3 s3 rv => q v F3 H3 (s2.trans s3) rv⟩
/-- the tape: three numbers in a list; it has been asked at most so often -/
def Tp (F H : Hp) (t : Addr) (B : Int) : Prop := ∃ g m c : Int, Own F H t (.lst [.int g, .int m, .int c]) ∧ 0 ≤ m ∧ m < 4611686018427387904 ∧ 0 ≤ c ∧ c ≤ B
theorem Tp.up {B : Int} (s : St0 F H F1 H1) (h : Tp F H a B) : Tp F1 H1 a B := let ⟨g, m, c, o, r⟩ := h; ⟨g, m, c, o.up s, r⟩
theorem Tp.st {B : Int} (s : Step M F H F1 H1) (n : a ∉ M) (h : Tp F H a B) : Tp F1 H1 a B := let ⟨g, m, c, o, r⟩ := h; ⟨g, m, c, o.st s n, r⟩
theorem Tp.le {B C : Int} (h : Tp F H a B) (e : B ≤ C) : Tp F H a C := let ⟨g, m, c, o, r1, r2, r3, r4⟩ := h; ⟨g, m, c, o, r1, r2, r3, by omega⟩
theorem Tp.own {B : Int} (h : Tp F H a B) : ∃ o, Own F H a o := let ⟨g, m, c, o, _⟩ := h; ⟨_, o⟩
theorem Tp.ne {B : Int} (h : Tp F H a B) (hb : H b = none) : a ≠ b := fun e => by
  obtain ⟨g, m, c, o, _⟩ := h
  rw [e, ] at o
  have := o.2
  rw [hb] at this; cases this
theorem Tp.there {B : Int} (h : Tp F H a B) : H a ≠ none := fun e => h.ne e rfl
theorem Tp.of {F2 H2 : Hp} {B : Int} (h : Tp F H a B) (e1 : F2 a = F a) (e2 : H2 a = H a) : Tp F2 H2 a B := let ⟨g, m, c, o, r⟩ := h; ⟨g, m, c, ⟨e1.trans o.1, e2.trans o.2⟩, r⟩
/-- a def whose first argument is the tape: it asks it at most N times; post says what comes back -/
def SpT (K : PySem.W.Frag) {α : Type} (enc : α → List PyData) (pre : α → Prop) (N : Int) (post : α → PyData → Prop) : Sp := fun vs H Q _ => ∃ (F : Hp) (t : Addr) (us : List V) (a : α) (B : Int), Same F H ∧ vs = .ref t :: us ∧ RpAll K F us (enc a) ∧ pre a ∧ Tp F H t B ∧ B + N ≤ 1000000000000 ∧
  ∀ v d F' H', Step [t] F H F' H' → Tp F' H' t (B + N) → Rp K F' v d → post a d → Q v H'

/-! ### bounds of the operators -/
theorem cdw {i j : Int} (h : 0 < j) (h2 : j < 1152921504606846976) : CDivW i j := wide_div (b := 60) h (by omega) (by decide) (by decide)
theorem cpw {i j : Int} (h : 0 ≤ j ∧ j ≤ 1000000) (h2 : -18446744073709551616 < i ∧ i < 18446744073709551616) : CPow i j := ⟨h.1, h.2, by omega⟩

/-! ### xs[::-1], sum of a tuple -/
theorem de_revL (h : DL K te σ F H ds) : DE K (tRevL K te) σ F H (.list ds.reverse) := fun F1 H1 s _ q =>
  h F1 H1 s _ fun a xs F2 H2 s2 l r => ⟨a, xs, rfl, l.sq s2.fh, fun p hp => q _ _ _ (s2.trans (Step.new s2.fh hp)) (rp_newL s2.fh hp r.rev)⟩
/-- sum of a list or a tuple of ints -/
def rSumS (K : PySem.W.Frag) : List V → Hp → VK → Prop := fun vs H Q => ∃ (a : Addr) (ns : List Int), vs = [V.ref a] ∧ SqT K H a (ns.map V.int) ∧ Q (.int ns.sum) H
theorem preSum_getD (ns : List Int) : ∀ j, j ≤ ns.length → preSum (fun i => ns.getD i 0) j = (ns.take j).sum
  | 0, _ => by simp [preSum]
  | j + 1, h => by
    have hj : ns[j]? = some (ns.getD j 0) := by
      rw [List.getD_eq_getElem?_getD, List.getElem?_eq_getElem (by omega)]; rfl
    rw [preSum, preSum_getD ns j (by omega), L2.sum_take hj]
theorem cr_sumT {X : Cx} (hc : X.calm = true) : CallR X (.builtin "sum") (rSumS X.K) := by
  intro pins s σ H vs us Q I r h
  obtain ⟨a, ns, rfl, hs, q⟩ := h
  obtain ⟨its, rv, ht, _⟩ := I.tuple hs
  rw [Vals.ref1 r]
  have ht' : s.heap.IsTuple a its.toArray := ht
  have hlen : its.toArray.size = ns.length := by rw [List.size_toArray, ← rv.length, List.length_map]
  refine call_sum_walkG (wpAny_pyIter_tuple ht' ?_)
  have hlt : a < s.heap.objs.size := ht.lt
  refine ⟨_, _, _, its.toArray.size, _, _, fun i => ns.getD i 0, rfl, Walks.tuple (A := X.A.in1) (I.ok.hd hc) _ a (Nat.ne_of_lt hlt) its.toArray, ⟨⟨_, Heap.get?_push_size _ rfl, rfl, rfl⟩, ?_⟩, fun b hb => ?_, fun i v hv => ?_, fun h' tk t' hk => ?_⟩
  · obtain ⟨o, e, c⟩ := ht'
    exact ⟨o, Heap.get?_push_of_some _ e, c⟩
  · show b < (s.heap.push _).objs.size
    rw [Heap.size_push]
    rcases List.mem_cons.mp hb with e | hb
    · rw [e]; exact Nat.lt_succ_self _
    · rcases List.mem_cons.mp hb with e | hb
      · rw [e]; exact Nat.lt_succ_of_lt hlt
      · cases hb
  · have hv' : its[i]? = some v := by simpa using hv
    have hl2 : i < ns.length := by
      have := (List.getElem?_eq_some_iff.mp hv').1
      rw [← rv.length, List.length_map] at this
      exact this
    obtain ⟨u, hu, ru⟩ := rv.get (i := i) (x := .int (ns.getD i 0)) (by rw [List.getElem?_map, List.getD_eq_getElem?_getD, List.getElem?_eq_getElem hl2]; rfl)
    rw [hv'] at hu; cases hu
    obtain ⟨t, e⟩ := ru
    exact ⟨t, e⟩
  · refine ⟨.int _, H, I.kept fun b o eo => hk b o (fun hmem => ?_) (Heap.get?_push_of_some _ eo), ⟨_, rfl⟩, ?_⟩
    · rcases List.mem_cons.mp hmem with e1 | hmem
      · exact absurd (e1 ▸ Heap.lt_size eo) (Nat.lt_irrefl _)
      · cases hmem
    · show Q (.int (preSum (fun i => ns.getD i 0) its.toArray.size)) H
      rw [hlen, preSum_getD ns _ (Nat.le_refl _), List.take_length]
      exact q
theorem de_sumT {ns : List Int} (h : DU K te σ F H (ns.map .int)) : DE K (tCB (rSumS K) (tCons te tNil)) σ F H (.int ns.sum) := fun F1 H1 s Q q =>
  h F1 H1 s _ fun a xs F2 H2 s2 l r => by
    cases r.ints
    exact ⟨a, ns, rfl, .inl (.inl (s2.fh _ _ l)), q _ F2 H2 s2 (.int _)⟩
/-- an item of a typed list, tuple -/
theorem at_map {α : Type} {as : List α} {f : α → PyData} {i : Int} {j : Nat} {x : α} (e : i = (j : Int)) (h : as[j]? = some x) : atI (as.map f) i = some (f x) := by
  rw [e]
  exact atI_nat (by rw [List.getElem?_map, h]; rfl)
theorem at_last {ds : List PyData} {d : PyData} : atI (ds ++ [d]) (-1) = some d := by
  unfold atI ixN
  rw [if_neg (by decide), if_pos (by simp; omega)]
  show (ds ++ [d])[((-1 : Int) + ((ds ++ [d]).length : Nat)).toNat]? = some d
  have e : ((-1 : Int) + ((ds ++ [d]).length : Nat)).toNat = ds.length := by rw [List.length_append, List.length_singleton]; omega
  rw [e, List.getElem?_append_right (Nat.le_refl _), Nat.sub_self]
  rfl
theorem cutQ_map {α β : Type} (f : α → β) (as : List α) (lo hi : Option Int) : cutQ (as.map f) lo hi = (cutQ as lo hi).map f := by
  unfold cutQ
  rw [List.length_map, List.map_take, List.map_drop]
end
end DL
end

section
set_option maxRecDepth 100000
set_option maxHeartbeats 4000000
namespace DL
open PySem PySem.Spec PyProof.Rows L2

/-! ### isinstance -/
def tyN : PyData → String
  | .none => "NoneType"
  | .bool _ => "bool"
  | .int _ => "int"
  | .str _ => "str"
  | .list _ => "list"
  | .tuple _ => "tuple"
  | .dict _ => "dict"
section
variable {K : PySem.W.Frag} {σ : L2.St} {F H F1 H1 : Hp} {ta tb te tc : TE} {t u : TT} {d d1 d2 : PyData} {ds es : List PyData} {a b : Addr} {xs ys : List V} {v : V} {M : List Addr}
theorem rp_ty (w : Same F H) (r : Rp K F v d) : TyX K H v (.type (tyN d)) := by
  cases r with
  | non => exact .base .non
  | bl b => exact .base (.bl b)
  | int i => exact .base (.int i)
  | str x => exact .base (.str x)
  | lst h _ => exact .base (.lst (w _ _ h))
  | tup h _ => exact .base (.tup (w _ _ h))
  | dct h _ => exact .base (.dK (w _ _ h))
/-- isinstance(x, T), T a built-in type -/
theorem de_isi {T : String} {k : Bool} (h : DE K te σ F H d) (e : kitB (tyN d) T = some k) : DE K (tCB (rIsi K) (tCons te (tCons (tC (.ty T)) tNil))) σ F H (.bool k) := fun F1 H1 s Q q =>
  h F1 H1 s _ fun v F2 H2 s2 r => ⟨v, .ty T, _, .type T, k, rfl, .ty T, rp_ty s2.fh r, kit_ty e, q _ F2 H2 s2 (.bl k)⟩
/-- isinstance(x, (S, T)) -/
theorem de_isi2 {S T : String} {k l : Bool} (h : DE K te σ F H d) (e : kitB (tyN d) S = some k) (e' : kitB (tyN d) T = some l) :
    DE K (tCB (rIsiT K) (tCons te (tCons (tTup (tCons (tC (.ty S)) (tCons (tC (.ty T)) tNil))) tNil))) σ F H (.bool (k || l)) := fun F1 H1 s Q q =>
  h F1 H1 s _ fun v F2 H2 s2 r => ⟨by show 2 ≤ sizeLine; decide, fun p hp => by
    have s3 : St0 F2 H2 (upd F2 p (.tup [.ty S, .ty T])) (upd H2 p (.tup [.ty S, .ty T])) := Step.new s2.fh hp
    refine ⟨v, p, [.ty S, .ty T], _, [.type S, .type T], k || l, rfl, upd_same, .cons (.ty S) (.cons (.ty T) .nil), rp_ty s3.fh (r.up s3.ff), kitAny_cons (kit_ty e) (fun hk => ?_) (fun hk => by rw [hk]; rfl), q _ _ _ (s2.trans s3) (.bl _)⟩
    rw [hk, Bool.false_or]
    exact kitAny_cons (kit_ty e') (fun hl => by rw [hl]; exact kitAny_nil) (fun hl => hl)⟩
/-- == of a scalar with itself -/
def isSc : PyData → Bool
  | .none => true
  | .bool _ => true
  | .int _ => true
  | .str _ => true
  | _ => false
theorem de_eqSelf (ha : DE K ta σ F H d) (hb : DE K tb σ F H d) (n : isSc d = true) : DE K (tOp rEq ta tb) σ F H (.bool true) :=
  de_2 ha hb fun F1 H1 x y w rx ry Q q => by
    cases rx with
    | non => cases ry.of_non; exact ⟨rfl, q _ F1 H1 (.refl w) (.bl _)⟩
    | bl b => cases ry.of_bl; exact ⟨rfl, by rw [decide_eq_true rfl]; exact q _ F1 H1 (.refl w) (.bl _)⟩
    | int i => cases ry.of_int; exact ⟨rfl, by rw [decide_eq_true rfl]; exact q _ F1 H1 (.refl w) (.bl _)⟩
    | str i => cases ry.of_str; exact ⟨rfl, by rw [decide_eq_true rfl]; exact q _ F1 H1 (.refl w) (.bl _)⟩
    | lst _ _ => cases n
    | tup _ _ => cases n
    | dct _ _ => cases n
theorem isi_list : kitB (tyN (.list ds)) "list" = some true := by show kitB "list" "list" = _; decide +kernel
theorem kb_list_tuple : kitB "list" "tuple" = some false := by decide +kernel
theorem kb_list_list : kitB "list" "list" = some true := by decide +kernel
theorem kb_tuple_list : kitB "tuple" "list" = some false := by decide +kernel
theorem kb_tuple_tuple : kitB "tuple" "tuple" = some true := by decide +kernel
theorem kb_int_list : kitB "int" "list" = some false := by decide +kernel
theorem kb_int_tuple : kitB "int" "tuple" = some false := by decide +kernel
theorem kb_int_str : kitB "int" "str" = some false := by decide +kernel
theorem kb_int_bool : kitB "int" "bool" = some false := by decide +kernel
theorem kb_int_int : kitB "int" "int" = some true := by decide +kernel
theorem kb_bool_list : kitB "bool" "list" = some false := by decide +kernel
theorem kb_bool_tuple : kitB "bool" "tuple" = some false := by decide +kernel
theorem kb_bool_str : kitB "bool" "str" = some false := by decide +kernel
theorem kb_bool_bool : kitB "bool" "bool" = some true := by decide +kernel
theorem kb_bool_int : kitB "bool" "int" = some true := by decide +kernel
theorem kb_str_list : kitB "str" "list" = some false := by decide +kernel
theorem kb_str_tuple : kitB "str" "tuple" = some false := by decide +kernel
theorem kb_str_str : kitB "str" "str" = some true := by decide +kernel
theorem kb_str_bool : kitB "str" "bool" = some false := by decide +kernel
theorem kb_str_int : kitB "str" "int" = some false := by decide +kernel
theorem kb_none_list : kitB "NoneType" "list" = some false := by decide +kernel
theorem kb_none_tuple : kitB "NoneType" "tuple" = some false := by decide +kernel
theorem kb_none_str : kitB "NoneType" "str" = some false := by decide +kernel
theorem kb_none_bool : kitB "NoneType" "bool" = some false := by decide +kernel
theorem kb_none_int : kitB "NoneType" "int" = some false := by decide +kernel

/-! ### how deep -/
def dep : PyData → Nat
  | .list ds => deps ds + 1
  | .tuple ds => deps ds + 1
  | _ => 0
where deps : List PyData → Nat
  | [] => 0
  | d :: ds => max (dep d) (deps ds)
theorem deps_mem : ∀ {ds : List PyData} {d : PyData}, d ∈ ds → dep d ≤ dep.deps ds
  | x :: xs, d, h => by
    rw [dep.deps]
    rcases List.mem_cons.mp h with rfl | h
    · exact Nat.le_max_left _ _
    · exact Nat.le_trans (deps_mem h) (Nat.le_max_right _ _)
theorem noDs_mem : ∀ {ds : List PyData} {d : PyData}, noD.noDs ds = true → d ∈ ds → noD d = true
  | x :: xs, d, n, h => by
    rw [noD.noDs, Bool.and_eq_true] at n
    rcases List.mem_cons.mp h with rfl | h
    · exact n.1
    · exact noDs_mem n.2 h
theorem zpD_self (ds : List PyData) : zpD ds ds = ds.map fun d => .tuple [d, d] := by
  induction ds with
  | nil => rfl
  | cons d ds ih => rw [zpD, ih, List.map_cons]
theorem deps_le : ∀ {ds : List PyData} {n : Nat}, (∀ d ∈ ds, dep d ≤ n) → dep.deps ds ≤ n
  | [], _, _ => Nat.zero_le _
  | x :: xs, n, h => by
    rw [dep.deps]
    exact Nat.max_le.mpr ⟨h x List.mem_cons_self, deps_le fun d hd => h d (List.mem_cons_of_mem _ hd)⟩
theorem noDs_of : ∀ {ds : List PyData}, (∀ d ∈ ds, noD d = true) → noD.noDs ds = true
  | [], _ => rfl
  | x :: xs, h => by rw [noD.noDs, h x List.mem_cons_self, noDs_of fun d hd => h d (List.mem_cons_of_mem _ hd)]; rfl
def sml : PyData → Bool
  | .list ds => decide (ds.length < 100000) && smls ds
  | .tuple ds => decide (ds.length < 100000) && smls ds
  | _ => true
where smls : List PyData → Bool
  | [] => true
  | d :: ds => sml d && smls ds
/-- what _law_same is asked of: alike data, so deep at most -/
def Plain (n : Nat) (d : PyData) : Prop := noD d = true ∧ dep d ≤ n ∧ sml d = true
theorem smalls_mem : ∀ {ds : List PyData} {d : PyData}, sml.smls ds = true → d ∈ ds → sml d = true
  | x :: xs, d, n, h => by
    rw [sml.smls, Bool.and_eq_true] at n
    rcases List.mem_cons.mp h with rfl | h
    · exact n.1
    · exact smalls_mem n.2 h
theorem smalls_of : ∀ {ds : List PyData}, (∀ d ∈ ds, sml d = true) → sml.smls ds = true
  | [], _ => rfl
  | x :: xs, h => by rw [sml.smls, h x List.mem_cons_self, smalls_of fun d hd => h d (List.mem_cons_of_mem _ hd)]; rfl
theorem Plain.list {n : Nat} {ds : List PyData} (hl : ds.length < 100000) (h : ∀ d ∈ ds, Plain n d) : Plain (n + 1) (.list ds) :=
  ⟨by rw [noD]; exact noDs_of fun d hd => (h d hd).1, by rw [dep]; exact Nat.succ_le_succ (deps_le fun d hd => (h d hd).2.1), by rw [sml, decide_eq_true hl, smalls_of fun d hd => (h d hd).2.2]; rfl⟩
theorem Plain.tuple {n : Nat} {ds : List PyData} (hl : ds.length < 100000) (h : ∀ d ∈ ds, Plain n d) : Plain (n + 1) (.tuple ds) :=
  ⟨by rw [noD]; exact noDs_of fun d hd => (h d hd).1, by rw [dep]; exact Nat.succ_le_succ (deps_le fun d hd => (h d hd).2.1), by rw [sml, decide_eq_true hl, smalls_of fun d hd => (h d hd).2.2]; rfl⟩
theorem Plain.up {n m : Nat} {d : PyData} (h : Plain n d) (e : n ≤ m) : Plain m d := ⟨h.1, Nat.le_trans h.2.1 e, h.2.2⟩
theorem Plain.int {n : Nat} {i : Int} : Plain n (.int i) := ⟨rfl, Nat.zero_le _, rfl⟩
theorem Plain.bl {n : Nat} {b : Bool} : Plain n (.bool b) := ⟨rfl, Nat.zero_le _, rfl⟩
theorem Plain.str {n : Nat} {x : Str} : Plain n (.str x) := ⟨rfl, Nat.zero_le _, rfl⟩
theorem Plain.non {n : Nat} : Plain n .none := ⟨rfl, Nat.zero_le _, rfl⟩
theorem Plain.ints {n : Nat} (ns : List Int) : ∀ d ∈ ns.map PyData.int, Plain n d := fun d hd => by
  obtain ⟨i, _, rfl⟩ := List.mem_map.mp hd
  exact .int
theorem Plain.of_list {n : Nat} {ds : List PyData} (h : Plain (n + 1) (.list ds)) : ds.length < 100000 ∧ ∀ d ∈ ds, Plain n d := by
  obtain ⟨h1, h2, h3⟩ := h
  rw [noD] at h1
  rw [dep] at h2
  rw [sml, Bool.and_eq_true] at h3
  exact ⟨of_decide_eq_true h3.1, fun d hd => ⟨noDs_mem h1 hd, Nat.le_trans (deps_mem hd) (Nat.le_of_succ_le_succ h2), smalls_mem h3.2 hd⟩⟩
theorem Plain.of_tuple {n : Nat} {ds : List PyData} (h : Plain (n + 1) (.tuple ds)) : ds.length < 100000 ∧ ∀ d ∈ ds, Plain n d := by
  obtain ⟨h1, h2, h3⟩ := h
  rw [noD] at h1
  rw [dep] at h2
  rw [sml, Bool.and_eq_true] at h3
  exact ⟨of_decide_eq_true h3.1, fun d hd => ⟨noDs_mem h1 hd, Nat.le_trans (deps_mem hd) (Nat.le_of_succ_le_succ h2), smalls_mem h3.2 hd⟩⟩
/-- the promise of such a def: of alike things True -/
abbrev SpSame (K : PySem.W.Frag) (n : Nat) : Sp := SpP K (α := PyData) (fun d => [d, d]) (Plain n) fun _ => .bool true
end
end DL
end

section
set_option maxRecDepth 100000
set_option maxHeartbeats 4000000
namespace DL
open PySem PySem.Spec PyProof.Rows L2
section
variable {K : PySem.W.Frag} {σ : L2.St} {F H F1 H1 : Hp} {ta tb te tc : TE} {t u : TT} {d d1 d2 : PyData} {ds es : List PyData} {a b l : Addr} {xs ys : List V} {v : V} {M : List Addr} {D : Ends}
/-- l[z] = e, l owned -/
theorem s_set {i j : Nat} {ti : TE} {z : Int} (w : Same F H) (o : Own F H l (.lst xs)) (hv : σ[i]? = some (some (.ref l))) (h : DE K te σ F H d) (hi : DE K ti σ F H (.int z)) (hj : ixN xs.length z = some j)
    (k : ∀ v F1 H2, Step [l] F H F1 H2 → Rp K F1 v d → Own F1 H2 l (.lst (xs.set j v)) → D.nx σ H2) :
    tAsg te (gSub (tVar i) ti rSetL) D σ H := h F H (.refl w) _ fun v F1 H1 s r => ⟨.ref l, hv, hi F1 H1 s _ fun y F2 H2 s2 ry =>
    ⟨l, xs, z, j, rfl, ry.of_int, ((o.up s).up s2).2, hj, k v F2 _ ((s.trans s2).w.trans (Step.put s2.fh ((o.up s).up s2) List.mem_cons_self)) (r.up s2.ff) ((o.up s).up s2).put⟩⟩
/-- a, b = x, y (both local names) -/
theorem s_par {i j : Nat} (w : Same F H) (ha : DE K ta σ F H d1) (hb : DE K tb σ F H d2) (k : ∀ v1 v2 F1 H1, St0 F H F1 H1 → Rp K F1 v1 d1 → Rp K F1 v2 d2 → D.nx ((σ.set i (some v1)).set j (some v2)) H1) : tPar i j (tCons ta (tCons tb tNil)) D σ H :=
  ha F H (.refl w) _ fun x F1 H1 s r => hb F1 H1 s _ fun y F2 H2 s2 r2 => ⟨x, y, rfl, k x y F2 H2 (s.trans s2) (r.up s2.ff) r2⟩
/-- a, b = x, [..]: the second one is a list of its own -/
theorem s_parL {i j : Nat} {tr : TA} (w : Same F H) (ha : DE K ta σ F H d1) (hb : DA K tr σ F H ds) (hl : ds.length ≤ 100000) (k : ∀ v1 l xs F1 H1, H l = none → St0 F H F1 H1 → Rp K F1 v1 d1 → Own F1 H1 l (.lst xs) → RpAll K F1 xs ds → D.nx ((σ.set i (some v1)).set j (some (.ref l))) H1) : tPar i j (tCons ta (tCons (tLst tr) tNil)) D σ H :=
  ha F H (.refl w) _ fun x F1 H1 s r => hb F1 H1 s _ fun xs F2 H2 s2 rs => ⟨big_of (by rw [rs.len]; exact hl), fun p hp =>
    ⟨x, .ref p, rfl, k x p xs F2 _ ((s.trans s2).back w hp) ((s.trans s2).trans (Step.own_new s2.fh hp)) (r.up s2.ff) (Own.new s2.fh hp) rs⟩⟩
theorem s_drop (w : Same F H) (h : DE K te σ F H d) (k : ∀ F1 H1, St0 F H F1 H1 → D.nx σ H1) : tDrop te D σ H := h F H (.refl w) _ fun _ F1 H1 s _ => k F1 H1 s
/-- the return of a list of its own -/
theorem ret_own {F0 H0 : Hp} {M : List Addr} (s : Step M F0 H0 F H) (n : H0 l = none) (o : Own F H l (.lst xs)) (r : RpAll K F xs ds) : Step M F0 H0 (upd F l (.lst xs)) H ∧ Rp K (upd F l (.lst xs)) (.ref l) (.list ds) :=
  ⟨s.frz n o, .lst upd_same (r.up (frz_ff o))⟩
theorem s_retO {F0 H0 : Hp} {M : List Addr} {i : Nat} (s : Step M F0 H0 F H) (n : H0 l = none) (hv : σ[i]? = some (some (.ref l))) (o : Own F H l (.lst xs)) (r : RpAll K F xs ds)
    (k : ∀ F', Step M F0 H0 F' H → Rp K F' (.ref l) (.list ds) → (∀ b, b ≠ l → F' b = F b) → D.rt (.ref l) H) : tRet (tVar i) D σ H :=
  ⟨.ref l, hv, k _ (s.frz n o) (.lst upd_same (r.up (frz_ff o))) fun b hb => upd_ne hb⟩
theorem Tp.frzd {B : Int} (h : Tp F H a B) {F' : Hp} (e : ∀ b, b ≠ l → F' b = F b) (n : a ≠ l) : Tp F' H a B := h.of (e a n) rfl
theorem de_ifI {b : Bool} {i j : Int} (h : DT K t σ F H b) (h1 : b = true → DE K ta σ F H (.int i)) (h2 : b = false → DE K tb σ F H (.int j)) : DE K (tIf t ta tb) σ F H (.int (if b = true then i else j)) :=
  (de_if h h1 h2).is (by cases b <;> rfl)
theorem at_ints {ns : List Int} {i : Int} (h0 : 0 ≤ i) (h1 : i < (ns.length : Int)) : atI (ns.map PyData.int) i = some (.int (ns.getD i.toNat 0)) :=
  at_map (j := i.toNat) (by omega) (by rw [List.getD_eq_getElem?_getD, List.getElem?_eq_getElem (by omega)]; rfl)
/-- return [..]: a new list of its own -/
theorem s_retNew {tr : TA} (w : Same F H) (h : DA K tr σ F H ds) (hl : ds.length ≤ 100000) (k : ∀ l xs F1 H1, H l = none → St0 F H F1 H1 → Own F1 H1 l (.lst xs) → RpAll K F1 xs ds → D.rt (.ref l) H1) : tRet (tLst tr) D σ H :=
  h F H (.refl w) _ fun xs F1 H1 s rs => ⟨big_of (by rw [rs.len]; exact hl), fun p hp => k p xs F1 _ (s.back w hp) (s.trans (Step.own_new s.fh hp)) (Own.new s.fh hp) rs⟩
/-- a part of the script -/
theorem de_slScr {i : Nat} {ns : List Int} {tl th : TO} {lo hi : Option Int} (hv : σ[i]? = some (some (.ref a))) (hs : SqL K F a (ns.map V.int)) (h1 : DO K tl σ F H lo) (h2 : DO K th σ F H hi) : DE K (tSl (rSlL K) (tVar i) tl th) σ F H (.list ((cutQ ns lo hi).map .int)) := fun F1 H1 s Q q =>
  ⟨.ref a, hv, h1 F1 H1 s _ fun F2 H2 s2 => h2 F2 H2 (s.trans s2) _ fun F3 H3 s3 => ⟨a, ns.map V.int, rfl, s3.fh.seq (((s.ff.trans s2.ff).trans s3.ff).seq hs), fun p hp => by
    have e : cutV (ns.map V.int) lo hi = (cutQ ns lo hi).map V.int := cutQ_map V.int ns lo hi
    rw [e]
    exact q _ _ _ ((s2.trans s3).trans (Step.new s3.fh hp)) (rp_newL s3.fh hp (.of_ints _))⟩⟩
theorem cutQ_len_le {α : Type} (xs : List α) (lo hi : Option Int) : (cutQ xs lo hi).length ≤ xs.length := by
  unfold cutQ
  rw [List.length_take, List.length_drop]
  omega
theorem cutQ_to {α : Type} (xs : List α) (n : Nat) : cutQ xs none (some (n : Int)) = xs.take n := by
  unfold cutQ
  rw [HT.sIx_none, show HT.sIx xs.length xs.length (some (n : Int)) = min n xs.length from HT.sIx_nat xs.length _ n, List.drop_zero, Nat.sub_zero]
  by_cases h : n ≤ xs.length
  · rw [Nat.min_eq_left h]
  · rw [Nat.min_eq_right (by omega), List.take_length, List.take_of_length_le (by omega)]
theorem cutQ_from {α : Type} (xs : List α) (n m : Nat) : cutQ xs (some (n : Int)) (some (m : Int)) = (xs.take m).drop n := by
  unfold cutQ
  rw [show HT.sIx xs.length 0 (some (n : Int)) = min n xs.length from HT.sIx_nat xs.length 0 n, show HT.sIx xs.length xs.length (some (m : Int)) = min m xs.length from HT.sIx_nat xs.length _ m]
  rw [List.drop_take]
  by_cases h : n ≤ xs.length
  · rw [Nat.min_eq_left h]
    by_cases h2 : m ≤ xs.length
    · rw [Nat.min_eq_left h2]
    · rw [Nat.min_eq_right (by omega), List.take_of_length_le (by rw [List.length_drop]; omega), List.take_of_length_le (by rw [List.length_drop]; omega)]
  · rw [Nat.min_eq_right (by omega : xs.length ≤ n), List.drop_of_length_le (Nat.le_refl _), List.drop_of_length_le (by omega : xs.length ≤ n)]
    simp
theorem ix_ok {n : Nat} {z : Int} (h0 : 0 ≤ z) (h1 : z < (n : Int)) : ixN n z = some z.toNat := by
  unfold ixN
  rw [if_pos h0, if_pos h1]
theorem enD_ints {ns : List Int} {i : Nat} {d : PyData} (h : (enD 0 (ns.map PyData.int))[i]? = some d) : ∃ n, ns[i]? = some n ∧ d = .tuple [.int (i : Nat), .int n] := by
  obtain ⟨e, h1, h2⟩ := enD_at _ 0 i h
  rw [List.getElem?_map] at h1
  obtain ⟨n, hn, rfl⟩ := Option.map_eq_some_iff.mp h1
  exact ⟨n, hn, by rw [h2, Nat.zero_add]⟩
theorem sIx_int {n d : Nat} {z : Int} : ∀ m : Nat, z = (m : Int) → HT.sIx n d (some z) = min m n := fun m e => by
  rw [e]; exact HT.sIx_nat n d m
/-- a call of a def that asks the tape -/
theorem run_T {α : Type} {enc : α → List PyData} {pre : α → Prop} {N B : Int} {post : α → PyData → Prop} {i : Nat} {tr : TA} {E : XK} {Q : VK} {t : Addr} (w : Same F H) (a : α) (hv : σ[i]? = some (some (.ref t))) (h : DA K tr σ F H (enc a)) (hp : pre a) (hT : Tp F H t B) (hB : B + N ≤ 1000000000000)
    (k : ∀ v d F' H', Step [t] F H F' H' → Tp F' H' t (B + N) → Rp K F' v d → post a d → Q v H') : tCall (SpT K enc pre N post) [] E (tCons (tVar i) tr) σ H Q :=
  ⟨.ref t, hv, h F H (.refl w) _ fun vs F1 H1 s rs => ⟨F1, t, vs, a, B, s.fh, by rw [List.append_nil], rs, hp, hT.up s, hB, fun v d F2 H2 s2 hT2 r p => k v d F2 H2 (s.w.trans s2) hT2 r p⟩⟩
/-- the end of l.append(e) -/
theorem app_tail {Q : VK} (w : Same F H) (o : Own F H l (.lst xs)) (hz : xs.length < 100000) (h : DE K te σ F H d) (k : ∀ v F1 H2, Step [l] F H F1 H2 → Rp K F1 v d → Own F1 H2 l (.lst (xs ++ [v])) → Q .non H2) :
    tCons te tNil σ H (fun vs H2 => rAppend (.ref l) vs H2 Q) :=
  h F H (.refl w) _ fun v F1 H1 s r => ⟨l, xs, v, rfl, rfl, (o.up s).2, big_lt hz, k v F1 _ (s.w.trans (Step.put s.fh (o.up s) List.mem_cons_self)) r (o.up s).put⟩
theorem at_neg1 {ns : List Int} (h : 0 < ns.length) : atI (ns.map PyData.int) (-1) = some (.int (ns.getD (ns.length - 1) 0)) := by
  unfold atI ixN
  rw [if_neg (by decide), if_pos (by rw [List.length_map]; omega)]
  show (ns.map PyData.int)[((-1 : Int) + ((ns.map PyData.int).length : Nat)).toNat]? = _
  have e : ((-1 : Int) + ((ns.map PyData.int).length : Nat)).toNat = ns.length - 1 := by rw [List.length_map]; omega
  rw [e, List.getElem?_map, List.getD_eq_getElem?_getD, List.getElem?_eq_getElem (by omega)]
  rfl
theorem rgD_at {lo : Int} {n i : Nat} {d : PyData} (h : (rgD lo n)[i]? = some d) : i < n ∧ d = .int (lo + (i : Int)) := by
  unfold rgD at h
  rw [List.getElem?_map] at h
  obtain ⟨j, hj, e⟩ := Option.map_eq_some_iff.mp h
  obtain ⟨h1, e2⟩ := List.getElem?_eq_some_iff.mp hj
  rw [List.getElem_range] at e2
  rw [List.length_range] at h1
  subst e2
  exact ⟨h1, e.symm⟩
theorem rgD_len (lo : Int) (n : Nat) : (rgD lo n).length = n := by unfold rgD; rw [List.length_map, List.length_range]
theorem DA.is {ta : TA} (h : DA K ta σ F H es) (e : es = ds) : DA K ta σ F H ds := e ▸ h
end
end DL
end

section
set_option maxRecDepth 100000
set_option maxHeartbeats 4000000
namespace DL
open PySem PySem.Spec PyProof.Rows L2
/-! the readings of built-ins, by name -/
abbrev rbLen (K : PySem.W.Frag) : List V → Hp → VK → Prop := fun xs H Q => ∃ p ys, xs = [.ref p] ∧ (SqL K H p ys ∨ SqT K H p ys) ∧ Q (.int ys.length) H
abbrev rbLenS : List V → Hp → VK → Prop := fun xs H Q => ∃ z, xs = [.str z] ∧ z.length ≤ sizeLine ∧ Q (.int z.length) H
abbrev rbAbs : List V → Hp → VK → Prop := fun xs H Q => ∃ i, xs = [.int i] ∧ Q (.int (if i < 0 then -i else i)) H
abbrev rbMax2 : List V → Hp → VK → Prop := fun xs H Q => ∃ i j, xs = [.int i, .int j] ∧ Q (.int (if j > i then j else i)) H
abbrev rbMin2 : List V → Hp → VK → Prop := fun xs H Q => ∃ i j, xs = [.int i, .int j] ∧ Q (.int (if j < i then j else i)) H
abbrev rbInt1 : List V → Hp → VK → Prop := fun xs H Q => (∃ i, xs = [.int i] ∧ Q (.int i) H) ∨ ∃ k, xs = [.bl k] ∧ Q (.int (if k then 1 else 0)) H
abbrev rbList (K : PySem.W.Frag) : List V → Hp → VK → Prop := fun xs H Q => ∃ p ys, xs = [.ref p] ∧ (SqL K H p ys ∨ SqT K H p ys) ∧ ∀ l, H l = none → Q (.ref l) (upd H l (.lst ys))
abbrev rbTuple (K : PySem.W.Frag) : List V → Hp → VK → Prop := fun xs H Q => ∃ p ys, xs = [.ref p] ∧ ((SqL K H p ys ∧ ∀ l, H l = none → Q (.ref l) (upd H l (.tup ys))) ∨ (SqT K H p ys ∧ Q (.ref p) H))
abbrev rIsN : R2 := fun x y H Q => y = .non ∧ Q (.bl (decide (x = .non))) H
abbrev rNotN : R2 := fun x y H Q => y = .non ∧ Q (.bl (!decide (x = .non))) H
abbrev rAddS : R2 := fun x y H Q => ∃ i j, x = .str i ∧ y = .str j ∧ i.length + j.length ≤ sizeLine ∧ Q (.str (i ++ j)) H
section
variable {K : PySem.W.Frag} {σ : L2.St} {F H F1 H1 : Hp} {ta tb te tc : TE} {t u : TT} {d d1 d2 : PyData} {ds es : List PyData} {a b l : Addr} {xs ys : List V} {v : V} {M : List Addr} {D : Ends}
/-- a, b = (x, [..]), through a tuple: the list is b's own -/
theorem s_tupL {i j : Nat} {tr : TA} (w : Same F H) (ha : DE K ta σ F H d1) (hb : DA K tr σ F H ds) (hl : ds.length ≤ 100000) (k : ∀ v1 l xs F1 H1, H l = none → St0 F H F1 H1 → Rp K F1 v1 d1 → Own F1 H1 l (.lst xs) → RpAll K F1 xs ds → D.nx ((σ.set i (some v1)).set j (some (.ref l))) H1) :
    tAsg (tTup (tCons ta (tCons (tLst tr) tNil))) (gTup K 2 (gCons (gName i) (gCons (gName j) gNil))) D σ H :=
  ha F H (.refl w) _ fun x F1 H1 s r => hb F1 H1 s _ fun xs F2 H2 s2 rs => ⟨big_of (by rw [rs.len]; exact hl), fun p hp => ⟨by show 2 ≤ sizeLine; decide, fun q hq => by
    have s3 := Step.own_new (M := []) (o := .lst xs) s2.fh hp
    have s4 := Step.own_new (M := []) (o := .tup [x, .ref p]) s3.fh hq
    exact ⟨q, [x, .ref p], rfl, .inl (.inl upd_same), rfl, _, _, rfl, _, _, rfl, rfl, k x p xs F2 _ ((s.trans s2).back w hp) (((s.trans s2).trans s3).trans s4) (r.up s2.ff) ((Own.new s2.fh hp).up s4) rs⟩⟩⟩
/-- a, b = (x, y), through a tuple -/
theorem s_tup2 {i j : Nat} (w : Same F H) (ha : DE K te σ F H (.tuple [d1, d2])) (k : ∀ v1 v2 F1 H1, St0 F H F1 H1 → Rp K F1 v1 d1 → Rp K F1 v2 d2 → D.nx ((σ.set i (some v1)).set j (some v2)) H1) :
    tAsg te (gTup K 2 (gCons (gName i) (gCons (gName j) gNil))) D σ H :=
  ha F H (.refl w) _ fun x F1 H1 s r => g_tup2 s.fh r fun v1 v2 r1 r2 => k v1 v2 F1 H1 s r1 r2
theorem s_tup3 {i j l : Nat} {d3 : PyData} (w : Same F H) (ha : DE K te σ F H (.tuple [d1, d2, d3])) (k : ∀ v1 v2 v3 F1 H1, St0 F H F1 H1 → Rp K F1 v1 d1 → Rp K F1 v2 d2 → Rp K F1 v3 d3 → D.nx (((σ.set i (some v1)).set j (some v2)).set l (some v3)) H1) :
    tAsg te (gTup K 3 (gCons (gName i) (gCons (gName j) (gCons (gName l) gNil)))) D σ H :=
  ha F H (.refl w) _ fun x F1 H1 s r => g_tup3 s.fh r fun v1 v2 v3 r1 r2 r3 => k v1 v2 v3 F1 H1 s r1 r2 r3
theorem s_tup4 {i j l m : Nat} {d3 d4 : PyData} (w : Same F H) (ha : DE K te σ F H (.tuple [d1, d2, d3, d4])) (k : ∀ v1 v2 v3 v4 F1 H1, St0 F H F1 H1 → Rp K F1 v1 d1 → Rp K F1 v2 d2 → Rp K F1 v3 d3 → Rp K F1 v4 d4 → D.nx ((((σ.set i (some v1)).set j (some v2)).set l (some v3)).set m (some v4)) H1) :
    tAsg te (gTup K 4 (gCons (gName i) (gCons (gName j) (gCons (gName l) (gCons (gName m) gNil))))) D σ H :=
  ha F H (.refl w) _ fun x F1 H1 s r => g_tup4 s.fh r fun v1 v2 v3 v4 r1 r2 r3 r4 => k v1 v2 v3 v4 F1 H1 s r1 r2 r3 r4
/-- the greatest, the least -/
def mx : List Int → Int
  | [] => 0
  | x :: xs => xs.foldl max x
def mn : List Int → Int
  | [] => 0
  | x :: xs => xs.foldl min x
theorem foldl_max_mem : ∀ (xs : List Int) (x : Int), xs.foldl max x ∈ x :: xs
  | [], x => by simp
  | y :: ys, x => by
    rw [List.foldl_cons]
    have := foldl_max_mem ys (max x y)
    rcases List.mem_cons.mp this with e | h
    · rw [e]
      by_cases h : x ≤ y
      · rw [Int.max_eq_right h]; simp
      · rw [Int.max_eq_left (by omega)]; simp
    · exact List.mem_cons_of_mem _ (List.mem_cons_of_mem _ h)
theorem foldl_max_ge : ∀ (xs : List Int) (x y : Int), y ∈ x :: xs → y ≤ xs.foldl max x
  | [], x, y, h => by simp at h; rw [h]; exact Int.le_refl _
  | z :: zs, x, y, h => by
    rw [List.foldl_cons]
    rcases List.mem_cons.mp h with rfl | h
    · exact Int.le_trans (Int.le_max_left _ z) (foldl_max_ge zs _ _ (List.mem_cons_self))
    · rcases List.mem_cons.mp h with rfl | h
      · exact Int.le_trans (Int.le_max_right x _) (foldl_max_ge zs _ _ (List.mem_cons_self))
      · exact foldl_max_ge zs _ _ (List.mem_cons_of_mem _ h)
theorem mx_mem {ns : List Int} (h : 0 < ns.length) : mx ns ∈ ns := by
  cases ns with
  | nil => simp at h
  | cons x xs => exact foldl_max_mem xs x
theorem mx_ge {ns : List Int} {y : Int} (h : y ∈ ns) : y ≤ mx ns := by
  cases ns with
  | nil => simp at h
  | cons x xs => exact foldl_max_ge xs x y h
theorem mx_eq {ns : List Int} {m : Int} (h : m ∈ ns) (g : ∀ y ∈ ns, y ≤ m) : mx ns = m := Int.le_antisymm (g _ (mx_mem (List.length_pos_of_mem h))) (mx_ge h)
theorem foldl_min_mem : ∀ (xs : List Int) (x : Int), xs.foldl min x ∈ x :: xs
  | [], x => by simp
  | y :: ys, x => by
    rw [List.foldl_cons]
    have := foldl_min_mem ys (min x y)
    rcases List.mem_cons.mp this with e | h
    · rw [e]
      by_cases h : x ≤ y
      · rw [Int.min_eq_left h]; simp
      · rw [Int.min_eq_right (by omega)]; simp
    · exact List.mem_cons_of_mem _ (List.mem_cons_of_mem _ h)
theorem foldl_min_le : ∀ (xs : List Int) (x y : Int), y ∈ x :: xs → xs.foldl min x ≤ y
  | [], x, y, h => by simp at h; rw [h]; exact Int.le_refl _
  | z :: zs, x, y, h => by
    rw [List.foldl_cons]
    rcases List.mem_cons.mp h with rfl | h
    · exact Int.le_trans (foldl_min_le zs _ _ (List.mem_cons_self)) (Int.min_le_left _ z)
    · rcases List.mem_cons.mp h with rfl | h
      · exact Int.le_trans (foldl_min_le zs _ _ (List.mem_cons_self)) (Int.min_le_right x _)
      · exact foldl_min_le zs _ _ (List.mem_cons_of_mem _ h)
theorem mn_mem {ns : List Int} (h : 0 < ns.length) : mn ns ∈ ns := by
  cases ns with
  | nil => simp at h
  | cons x xs => exact foldl_min_mem xs x
theorem mn_le {ns : List Int} {y : Int} (h : y ∈ ns) : mn ns ≤ y := by
  cases ns with
  | nil => simp at h
  | cons x xs => exact foldl_min_le xs x y h
theorem de_mxL {ns : List Int} (h : DL K te σ F H (ns.map .int)) (hl : 0 < ns.length) : DE K (tCB (rMax K) (tCons te tNil)) σ F H (.int (mx ns)) := de_maxL h (mx_mem hl) fun _ h => mx_ge h
theorem de_mnL {ns : List Int} (h : DL K te σ F H (ns.map .int)) (hl : 0 < ns.length) : DE K (tCB (rMin K) (tCons te tNil)) σ F H (.int (mn ns)) := de_minL h (mn_mem hl) fun _ h => mn_le h
theorem DL.is (h : DL K te σ F H es) (e : es = ds) : DL K te σ F H ds := e ▸ h
theorem DU.is (h : DU K te σ F H es) (e : es = ds) : DU K te σ F H ds := e ▸ h
theorem DI.is {wi : TI} (h : DI K wi σ M F H es) (e : es = ds) : DI K wi σ M F H ds := e ▸ h
/-- xs[:n], a number's sign first -/
theorem cutQ_pre {α : Type} (xs : List α) : cutQ xs none (some (-1)) = xs.take (xs.length - 1) := by
  unfold cutQ
  have e : HT.sIx xs.length xs.length (some (-1)) = xs.length - 1 := by
    show (if (-1 : Int) < 0 then ((-1 : Int) + (xs.length : Int)).toNat else min (-1 : Int).toNat xs.length) = _
    rw [if_pos (by decide)]
    omega
  rw [HT.sIx_none, e, List.drop_zero, Nat.sub_zero]
theorem de_k (h : Rp K F v d) : DE K (tC v) σ F H d := fun F1 H1 s Q q => q v F1 H1 (.refl s.fh) (h.up s.ff)
theorem at_ix {ns : List Int} {i : Int} (j : Nat) (e : i = (j : Int)) (h : j < ns.length) : atI (ns.map PyData.int) i = some (.int (ns.getD j 0)) :=
  at_map e (by rw [List.getD_eq_getElem?_getD, List.getElem?_eq_getElem h]; rfl)
end
end DL
end

section
set_option maxRecDepth 100000
set_option maxHeartbeats 4000000
namespace DL
open PySem PySem.Spec PyProof.Rows L2
section
variable {K : PySem.W.Frag} {σ : L2.St} {F H F1 H1 : Hp} {ta tb te tc : TE} {t u : TT} {d d1 d2 : PyData} {ds es : List PyData} {a b l : Addr} {xs ys : List V} {v : V} {M : List Addr} {D : Ends}
/-- one part of a statement is evaluated ahead of the rest -/
theorem run_de {Q : VK} (w : Same F H) (h : DE K te σ F H d) (k : ∀ v F1 H1, St0 F H F1 H1 → Rp K F1 v d → Q v H1) : te σ H Q := h F H (.refl w) Q k
/-! the first part of a term comes first -/
theorem x_seq {t u : TS} (h : t { D with nx := u D } σ H) : tSeq t u D σ H := h
theorem x_next (h : D.nx σ H) : tNext D σ H := h
theorem x_asg {g : TG} (h : te σ H fun x H1 => g x σ H1 D.nx) : tAsg te g D σ H := h
theorem x_par {i j : Nat} {tr : TA} (h : tr σ H fun vs H1 => ∃ v w, vs = [v, w] ∧ D.nx ((σ.set i (some v)).set j (some w)) H1) : tPar i j tr D σ H := h
theorem x_ret (h : te σ H D.rt) : tRet te D σ H := h
theorem x_drop (h : te σ H fun _ H1 => D.nx σ H1) : tDrop te D σ H := h
theorem x_ifs {tu tw : TS} (h : t σ H fun b H1 => if b = true then tu D σ H1 else tw D σ H1) : tIfS t tu tw D σ H := h
theorem x_op {r : R2} {Q : VK} (h : ta σ H fun x H1 => tb σ H1 fun y H2 => r x y H2 Q) : tOp r ta tb σ H Q := h
theorem x_cons {tr : TA} {Q : List V → Hp → Prop} (h : te σ H fun x H1 => tr σ H1 fun xs H2 => Q (x :: xs) H2) : tCons te tr σ H Q := h
theorem x_nil {Q : List V → Hp → Prop} (h : Q [] H) : tNil σ H Q := h
theorem x_tup {tr : TA} {Q : VK} (h : tr σ H fun xs H1 => xs.length ≤ sizeLine ∧ ∀ p, H1 p = none → Q (.ref p) (upd H1 p (.tup xs))) : tTup tr σ H Q := h
theorem x_lst {tr : TA} {Q : VK} (h : tr σ H fun xs H1 => xs.length ≤ sizeLine ∧ ∀ p, H1 p = none → Q (.ref p) (upd H1 p (.lst xs))) : tLst tr σ H Q := h
theorem x_cb {r : List V → Hp → VK → Prop} {tr : TA} {Q : VK} (h : tr σ H fun vs H1 => r vs H1 Q) : tCB r tr σ H Q := h
theorem x_call {sp : Sp} {E : XK} {tr : TA} {Q : VK} (h : tr σ H fun vs H1 => sp (vs ++ []) H1 Q E) : tCall sp [] E tr σ H Q := h
theorem x_b {Q : Bool → Hp → Prop} (h : te σ H fun x H1 => ∃ c, x = .bl c ∧ Q c H1) : tB te σ H Q := h
theorem x_test {Q : Bool → Hp → Prop} (h : te σ H fun x H1 => ∃ c, x = .bl c ∧ Q c H1) : tTest te σ H Q := h
theorem x_not {Q : Bool → Hp → Prop} (h : t σ H fun c H1 => Q (!c) H1) : tNot t σ H Q := h
theorem x_ife {Q : VK} (h : t σ H fun c H1 => if c = true then ta σ H1 Q else tb σ H1 Q) : tIf t ta tb σ H Q := h
theorem x_c {Q : VK} (h : Q v H) : tC v σ H Q := h
theorem x_var {i : Nat} {Q : VK} (e : σ[i]? = some (some v)) (h : Q v H) : tVar i σ H Q := ⟨v, e, h⟩
theorem x_I0 {g : Int → Int → V} {i j : Int} {Q : VK} (h : Q (g i j) H) : rI0 g (.int i) (.int j) H Q := ⟨i, j, rfl, rfl, h⟩
theorem x_I {C : Int → Int → Prop} {g : Int → Int → V} {i j : Int} {Q : VK} (c : C i j) (h : Q (g i j) H) : rI C g (.int i) (.int j) H Q := ⟨i, j, rfl, rfl, c, h⟩
end
end DL
end

section
set_option maxHeartbeats 4000000
/-! the plain law: what is left of a ground over which stones are sent -/
namespace Sent
def behind (ns : List Int) (d : Int) : List Int := (ns.zip ns.tail).map fun p => max p.1 (p.2 + d)
def sentF (ns : List Int) (ds : List Int) : List Int := ds.foldl behind ns
theorem behind_len (ns : List Int) (d : Int) : (behind ns d).length = ns.length - 1 := by
  unfold behind
  rw [List.length_map, List.length_zip, List.length_tail]
  omega
theorem behind_at (ns : List Int) (d : Int) (c : Nat) (h : c + 1 < ns.length) : (behind ns d).getD c 0 = max (ns.getD c 0) (ns.getD (c + 1) 0 + d) := by
  unfold behind
  rw [List.getD_eq_getElem?_getD, List.getElem?_map, (List.getElem?_zip_eq_some (z := (ns[c], ns[c + 1]))).mpr ⟨List.getElem?_eq_getElem (by omega), by rw [List.getElem?_tail]; exact List.getElem?_eq_getElem h⟩]
  rw [List.getD_eq_getElem?_getD, List.getD_eq_getElem?_getD, List.getElem?_eq_getElem (by omega : c < ns.length), List.getElem?_eq_getElem h]
  rfl
/-- the greatest sum of so many of them -/
def topS : List Int → Nat → Int
  | _, 0 => 0
  | [], _ + 1 => 0
  | d :: ds, k + 1 => if k < ds.length then max (topS ds (k + 1)) (topS ds k + d) else topS ds k + d
theorem topS_zero (ds : List Int) : topS ds 0 = 0 := by cases ds <;> rfl
/-- IsMax m n f: m is the greatest of f 0 .. f n -/
def IsMax (m : Int) (n : Nat) (f : Nat → Int) : Prop := (∃ k, k ≤ n ∧ f k = m) ∧ ∀ k, k ≤ n → f k ≤ m
theorem IsMax.uniq {m m' : Int} {n : Nat} {f : Nat → Int} (h : IsMax m n f) (h' : IsMax m' n f) : m = m' := by
  obtain ⟨⟨k, hk, e⟩, a⟩ := h
  obtain ⟨⟨k', hk', e'⟩, a'⟩ := h'
  have := a' k hk
  have := a k' hk'
  omega
theorem sent_max : ∀ (ds ns : List Int) (c : Nat), c + ds.length < ns.length → IsMax ((sentF ns ds).getD c 0) ds.length fun k => ns.getD (c + k) 0 + topS ds k
  | [], ns, c, h => by
    refine ⟨⟨0, Nat.le_refl _, ?_⟩, fun k hk => ?_⟩
    · show ns.getD (c + 0) 0 + topS [] 0 = _
      rw [topS_zero, Int.add_zero]; rfl
    · have e : k = 0 := Nat.le_zero.mp hk
      subst e
      show ns.getD (c + 0) 0 + topS [] 0 ≤ _
      rw [topS_zero, Int.add_zero]; exact Int.le_refl _
  | d :: ds, ns, c, h => by
    rw [List.length_cons] at h
    have hl : c + ds.length < (behind ns d).length := by rw [behind_len]; omega
    obtain ⟨⟨k, hk, e⟩, a⟩ := sent_max ds (behind ns d) c hl
    have es : sentF ns (d :: ds) = sentF (behind ns d) ds := rfl
    rw [es]
    have at_ : ∀ k, k ≤ ds.length → (behind ns d).getD (c + k) 0 = max (ns.getD (c + k) 0) (ns.getD (c + (k + 1)) 0 + d) := fun k hk => behind_at ns d (c + k) (by omega)
    have t1 : ∀ k, k ≤ ds.length → topS ds k + d ≤ topS (d :: ds) (k + 1) := fun k hk => by
      rw [topS]
      split
      · exact Int.le_max_right _ _
      · exact Int.le_refl _
    have t2 : ∀ k, k ≤ ds.length → topS ds k ≤ topS (d :: ds) k := fun k hk => by
      cases k with
      | zero => rw [topS_zero, topS_zero]; exact Int.le_refl _
      | succ k =>
        rw [topS, if_pos (by omega)]
        exact Int.le_max_left _ _
    have t3 : ∀ k, k ≤ ds.length + 1 → (k ≤ ds.length ∧ topS (d :: ds) k = topS ds k) ∨ (∃ j, k = j + 1 ∧ topS (d :: ds) k = topS ds j + d) := fun k hk => by
      cases k with
      | zero => left; rw [topS_zero, topS_zero]; exact ⟨Nat.zero_le _, rfl⟩
      | succ k =>
        rw [topS]
        split
        · by_cases hm : topS ds (k + 1) ≤ topS ds k + d
          · right; exact ⟨k, rfl, Int.max_eq_right hm⟩
          · left; exact ⟨by omega, Int.max_eq_left (by omega)⟩
        · right; exact ⟨k, rfl, rfl⟩
    refine ⟨?_, fun k hk => ?_⟩
    · -- reached
      have e' : (behind ns d).getD (c + k) 0 + topS ds k = (sentF (behind ns d) ds).getD c 0 := e
      rw [at_ k hk] at e'
      by_cases hm : ns.getD (c + k) 0 ≤ ns.getD (c + (k + 1)) 0 + d
      · rw [Int.max_eq_right hm] at e'
        refine ⟨k + 1, by rw [List.length_cons]; omega, ?_⟩
        show ns.getD (c + (k + 1)) 0 + topS (d :: ds) (k + 1) = _
        have h1 := t1 k hk
        -- not more, as all is below
        rcases t3 (k + 1) (by omega) with ⟨hk2, e2⟩ | ⟨j, ej, e2⟩
        · have h2 := a (k + 1) hk2
          have h2 : (behind ns d).getD (c + (k + 1)) 0 + topS ds (k + 1) ≤ (sentF (behind ns d) ds).getD c 0 := h2
          rw [at_ (k + 1) hk2] at h2
          have := Int.le_max_left (ns.getD (c + (k + 1)) 0) (ns.getD (c + (k + 1 + 1)) 0 + d)
          omega
        · have : j = k := by omega
          subst this
          omega
      · rw [Int.max_eq_left (by omega)] at e'
        refine ⟨k, by rw [List.length_cons]; omega, ?_⟩
        show ns.getD (c + k) 0 + topS (d :: ds) k = _
        have h1 := t2 k hk
        rcases t3 k (by omega) with ⟨hk2, e2⟩ | ⟨j, ej, e2⟩
        · omega
        · subst ej
          have h2 : (behind ns d).getD (c + j) 0 + topS ds j ≤ (sentF (behind ns d) ds).getD c 0 := a j (by omega)
          rw [at_ j (by omega)] at h2
          have := Int.le_max_right (ns.getD (c + j) 0) (ns.getD (c + (j + 1)) 0 + d)
          omega
    · show ns.getD (c + k) 0 + topS (d :: ds) k ≤ _
      rw [List.length_cons] at hk
      rcases t3 k hk with ⟨hk2, e2⟩ | ⟨j, rfl, e2⟩
      · have h2 : (behind ns d).getD (c + k) 0 + topS ds k ≤ (sentF (behind ns d) ds).getD c 0 := a k hk2
        rw [at_ k hk2] at h2
        have := Int.le_max_left (ns.getD (c + k) 0) (ns.getD (c + (k + 1)) 0 + d)
        omega
      · have h2 : (behind ns d).getD (c + j) 0 + topS ds j ≤ (sentF (behind ns d) ds).getD c 0 := a j (by omega)
        rw [at_ j (by omega)] at h2
        have := Int.le_max_right (ns.getD (c + j) 0) (ns.getD (c + (j + 1)) 0 + d)
        omega
theorem topS_perm {xs ys : List Int} (p : xs.Perm ys) : ∀ k, k ≤ xs.length → topS xs k = topS ys k := by
  induction p with
  | nil => intro k _; rfl
  | cons x p ih =>
    rename_i l1 l2
    intro k hk
    rw [List.length_cons] at hk
    cases k with
    | zero => rw [topS_zero, topS_zero]
    | succ k =>
      have hl := p.length_eq
      rw [topS, topS, hl, ih k (by omega)]
      split
      · rw [ih (k + 1) (by omega)]
      · rfl
  | swap x y l =>
    intro k hk
    rw [List.length_cons, List.length_cons] at hk
    cases k with
    | zero => rw [topS_zero, topS_zero]
    | succ k =>
      cases k with
      | zero =>
        simp only [topS, List.length_cons, topS_zero]
        by_cases h : 0 < l.length
        · simp only [h, if_true, show 0 < l.length + 1 by omega]; omega
        · simp only [h, if_false, show 0 < l.length + 1 by omega, if_true]; omega
      | succ k =>
        simp only [topS, List.length_cons]
        by_cases h1 : k + 1 < l.length
        · simp only [h1, show k < l.length by omega, show k + 1 < l.length + 1 by omega, if_true]; omega
        · by_cases h2 : k < l.length
          · simp only [h1, h2, show k + 1 < l.length + 1 by omega, if_true, if_false]; omega
          · simp only [h1, h2, show ¬ k + 1 < l.length + 1 by omega, if_false]; omega
  | trans p q ih1 ih2 =>
    intro k hk
    rw [ih1 k hk, ih2 k (by rw [← p.length_eq]; exact hk)]
/-- of falling ones it's the sum of the first -/
theorem topS_falling : ∀ (ds : List Int), ds.Pairwise (fun a b => b ≤ a) → ∀ k, k ≤ ds.length → topS ds k = (ds.take k).sum
  | [], _, k, hk => by
    have : k = 0 := Nat.le_zero.mp hk
    subst this
    rfl
  | d :: ds, h, k, hk => by
    rw [List.pairwise_cons] at h
    rw [List.length_cons] at hk
    cases k with
    | zero => rw [topS_zero]; rfl
    | succ k =>
      have ih := topS_falling ds h.2
      rw [List.take_succ_cons, List.sum_cons, topS, ih k (by omega)]
      split
      · rename_i hlt
        rw [ih (k + 1) (by omega), L2.sum_take (List.getElem?_eq_getElem hlt)]
        have := h.1 _ (List.getElem_mem hlt)
        omega
      · omega
/-- all higher, so many times as great -/
theorem sent_map (a b c : Int) (hc : 0 ≤ c) : ∀ (ds ns : List Int), sentF (ns.map fun x => c * (x - a) + b) (ds.map fun d => d * c) = (sentF ns ds).map fun x => c * (x - a) + b
  | [], ns => rfl
  | d :: ds, ns => by
    have e : behind (ns.map fun x => c * (x - a) + b) (d * c) = (behind ns d).map fun x => c * (x - a) + b := by
      unfold behind
      rw [← List.map_tail, List.zip_map, List.map_map, List.map_map]
      · refine List.map_congr_left fun p _ => ?_
        show max (c * (p.1 - a) + b) (c * (p.2 - a) + b + d * c) = c * (max p.1 (p.2 + d) - a) + b
        have e1 : c * (p.2 - a) + b + d * c = c * (p.2 + d - a) + b := by
          rw [Int.mul_sub, Int.mul_sub, Int.mul_add, Int.mul_comm d c]; omega
        rw [e1]
        by_cases h : p.1 ≤ p.2 + d
        · rw [Int.max_eq_right h, Int.max_eq_right]
          have := Int.mul_le_mul_of_nonneg_left (show p.1 - a ≤ p.2 + d - a by omega) hc
          omega
        · rw [Int.max_eq_left (show p.2 + d ≤ p.1 by omega), Int.max_eq_left]
          have := Int.mul_le_mul_of_nonneg_left (show p.2 + d - a ≤ p.1 - a by omega) hc
          omega
    show sentF (behind (ns.map _) (d * c)) (ds.map _) = (sentF (behind ns d) ds).map _
    rw [e]
    exact sent_map a b c hc ds (behind ns d)
end Sent
namespace Sent
open DL
theorem sent_len (ns ds : List Int) : (sentF ns ds).length = ns.length - ds.length := by
  unfold sentF
  induction ds generalizing ns with
  | nil => rfl
  | cons d ds ih => rw [List.foldl_cons, ih, behind_len, List.length_cons]; omega
/-- cell by cell, by the greatest drops -/
def dueF (ns ds : List Int) : List Int := (List.range (ns.length - ds.length)).map fun c => mx ((List.range (ds.length + 1)).map fun k => ns.getD (c + k) 0 + ((up ds).reverse.take k).sum)
theorem up_perm (ds : List Int) : (up ds).Perm ds := List.mergeSort_perm _ _
theorem up_sorted (ds : List Int) : (up ds).Pairwise (· ≤ ·) := (List.pairwise_mergeSort (le := fun a b => decide (a ≤ b)) (fun a b c h1 h2 => by simp at *; omega) (fun a b => by simp; omega) ds).imp fun h => by simpa using h
theorem due_eq {ns ds es : List Int} (p : es.Perm ds) (hl : ds.length ≤ ns.length) : dueF ns ds = sentF ns es := by
  have hle := p.length_eq
  have hp : (up ds).reverse.Perm es := (List.reverse_perm _).trans ((up_perm ds).trans p.symm)
  refine List.ext_getElem? fun c => ?_
  unfold dueF
  by_cases hc : c < ns.length - ds.length
  · have h1 : c < (sentF ns es).length := by rw [sent_len]; omega
    rw [List.getElem?_map, List.getElem?_range hc, List.getElem?_eq_getElem h1]
    show some _ = some _
    congr 1
    obtain ⟨⟨k, hk, e⟩, a⟩ := sent_max es ns c (by omega)
    have e1 : (sentF ns es).getD c 0 = (sentF ns es)[c] := by rw [List.getD_eq_getElem?_getD, List.getElem?_eq_getElem h1]; rfl
    have tk : ∀ k, k ≤ es.length → ((up ds).reverse.take k).sum = topS es k := fun k hk => by
      rw [← topS_perm hp k (by rw [hp.length_eq]; exact hk), topS_falling _ (List.pairwise_reverse.mpr (up_sorted ds)) k (by rw [hp.length_eq]; exact hk)]
    refine mx_eq (List.mem_map.mpr ⟨k, List.mem_range.mpr (by omega), ?_⟩) fun y hy => ?_
    · rw [tk k hk, ← e1]; exact e
    · obtain ⟨j, hj, rfl⟩ := List.mem_map.mp hy
      have hj' := List.mem_range.mp hj
      rw [tk j (by omega), ← e1]
      exact a j (by omega)
  · rw [List.getElem?_eq_none (by rw [List.length_map, List.length_range]; omega), List.getElem?_eq_none (by rw [sent_len]; omega)]
end Sent
end

section
set_option maxRecDepth 100000
set_option maxHeartbeats 4000000
namespace My
open PySem PySem.Spec PyProof.Rows L2 DL Sent
def top (i : Nat) : Stmt := PySem.Challenge.pw_tablestones_k54_whole_sent_in_any_order.main.body.getD i (.Pass ⟨0, 0, 0, 0⟩)
abbrev st_behind_one : Stmt := top 1
abbrev st_sent : Stmt := top 2
abbrev st_sent_years : Stmt := top 3
abbrev st_law_tape : Stmt := top 5
abbrev st_law_draw : Stmt := top 6
abbrev st_law_folded : Stmt := top 7
abbrev st_law_part : Stmt := top 8
abbrev st_law_same : Stmt := top 9
abbrev st_law_heights : Stmt := top 10
abbrev st_law_due : Stmt := top 11
abbrev st_law_years_right : Stmt := top 12
abbrev st_law_right : Stmt := top 13
abbrev st_law : Stmt := top 14
theorem sc_behind_one : FnScope ["ground", "drop", "here", "there"] ["ground", "drop"] (defScope st_behind_one) := ⟨rfl, rfl, rfl, by decide +kernel, rfl, by decide +kernel, by decide +kernel⟩
theorem sc_sent : FnScope ["ground", "drops", "left", "drop"] ["ground", "drops"] (defScope st_sent) := ⟨rfl, rfl, rfl, by decide +kernel, rfl, by decide +kernel, by decide +kernel⟩
theorem sc_sent_years : FnScope ["ground", "drops", "left", "found", "drop", "behind"] ["ground", "drops"] (defScope st_sent_years) := ⟨rfl, rfl, rfl, by decide +kernel, rfl, by decide +kernel, by decide +kernel⟩
/-! the mathematics of the defs -/
structure Txt (K : PySem.W.Frag) (mg : Str → Option Value) where
  behind_one : DefAt K mg "behind_one" st_behind_one ["ground", "drop"]
  sent : DefAt K mg "sent" st_sent ["ground", "drops"]
  sent_years : DefAt K mg "sent_years" st_sent_years ["ground", "drops"]
  law_tape : DefAt K mg "_law_tape" st_law_tape ["_law_script", "_law_k"]
  law_draw : DefAt K mg "_law_draw" st_law_draw ["_law_tape_here", "_law_many"]
  law_folded : DefAt K mg "_law_folded" st_law_folded ["_law_script", "_law_many"]
  law_part : DefAt K mg "_law_part" st_law_part ["_law_tape_here", "_law_some", "_law_many"]
  law_same : DefAt K mg "_law_same" st_law_same ["_law_found", "_law_due_here"]
  law_heights : DefAt K mg "_law_heights" st_law_heights ["_law_tape_here", "_law_many", "_law_wide"]
  law_due : DefAt K mg "_law_due" st_law_due ["_law_floor", "_law_drops"]
  law_years_right : DefAt K mg "_law_years_right" st_law_years_right ["_law_floor", "_law_drops"]
  law_right : DefAt K mg "_law_right" st_law_right ["_law_tape_here"]
  law : DefAt K mg "law" st_law ["_law_script"]
  b_max : mg "max" = none
  b_zip : mg "zip" = none
  b_list : mg "list" = none
  b_tuple : mg "tuple" = none
  b_sum : mg "sum" = none
  b_len : mg "len" = none
  b_abs : mg "abs" = none
  b_int : mg "int" = none
  b_enumerate : mg "enumerate" = none
  b_range : mg "range" = none
  b_isinstance : mg "isinstance" = none
  b_all : mg "all" = none
  b_str : mg "str" = none
  b_bool : mg "bool" = none
  b_sorted : mg "sorted" = none
  b_min : mg "min" = none
abbrev iL (ns : List Int) : PyData := .list (ns.map .int)
abbrev iT (ns : List Int) : PyData := .tuple (ns.map .int)
section
variable {P : Program} {w : World} {K : PySem.W.Frag} {mg : Str → Option Value} {base : Heap}
abbrev sp_behind_one (K : PySem.W.Frag) : Sp := SpP K (α := List Int × Int) (fun a => [iL a.1, .int a.2]) (fun a => a.1.length ≤ 1000) fun a => iL (behind a.1 a.2)
theorem zpD_map (ns ms : List Int) : zpD (ns.map .int) (ms.map .int) = (ns.zip ms).map fun p => .tuple [.int p.1, .int p.2] := by
  induction ns generalizing ms with
  | nil => simp [zpD]
  | cons n ns ih => cases ms with
    | nil => simp [zpD]
    | cons m ms => rw [List.map_cons, List.map_cons, zpD, ih, List.zip_cons_cons, List.map_cons]
theorem cut1 {α : Type} (xs : List α) : cutQ xs (some 1) none = xs.tail := by
  unfold cutQ
  rw [show HT.sIx xs.length 0 (some 1) = min 1 xs.length from HT.sIx_nat xs.length 0 1, HT.sIx_none]
  cases xs with
  | nil => rfl
  | cons x r =>
    rw [show min 1 (x :: r).length = 1 by rw [List.length_cons]; omega]
    show (List.take ((x :: r).length - 1) r) = r
    rw [List.length_cons, Nat.add_sub_cancel]
    exact List.take_length
theorem ok_behind_one (T : Txt K mg) : FnOk P w K mg base CX0 1 T.behind_one.f T.behind_one.fd ["ground", "drop"] (sp_behind_one K) := by
  have nd := sc_behind_one.nd
  refine T.behind_one.F.ok sc_behind_one (fun vs H Q E h => ?_) (fun cdv A outer s H vs Q E hr h => ?_)
  · obtain ⟨F, a, _, r, _⟩ := h
    exact r.len
  · obtain ⟨F, ⟨ns, d⟩, w, r, hl, k⟩ := h
    dsimp only at hl r k
    obtain ⟨x1, x2, rfl, h_ground, h_drop⟩ := r.two
    cases h_drop.of_int
    refine ⟨_, (pss_one (ps_ret (pe_lc (own := [("here", 2), ("there", 3)]) (g := (gTup K 2 (gCons (gName 2) (gCons (gName 3) gNil)))) (tt := tYes) (te := (tCB rbMax2 (tCons (tVar 2) (tCons (tOp (rI0 fun i j => .int (i + j)) (tVar 3) (tVar 1)) tNil)))) rfl nd (pi_zip (by rfl) T.b_zip (pa_cons (pv 0) (pa_cons (pe_slice sl_list (pv 0) (po_some pe_int) po_none) pa_nil))) (blkOk_by (N := ["ground", "drop", "here", "there"]) (sc := defScope st_behind_one) (by decide +kernel)) (fun _ _ _ _ _ => (pg_tup rfl (pgs_cons (pg_name (i := 2) nd rfl (Or.inl rfl)) (pgs_cons (pg_name (i := 3) nd rfl (Or.inl rfl)) pgs_nil)))) (fun _ _ _ _ _ => pts_nil) (fun _ _ _ _ _ => (pe_callB (call_max2 rfl) (by rfl) T.b_max (by decide +kernel) (pa_cons (pv 2) (pa_cons (pe_op op_add (pv 3) (pv 1)) pa_nil))))))), ?_⟩
    refine s_ret (K := K) w (DE.is (de_lc2 (as := ns.zip ns.tail) (e1 := fun p => .int p.1) (e2 := fun p => .int p.2) (f := fun p => .int (max p.1 (p.2 + d))) ?_ ?_ (fun _ _ => rfl) fun p hp x y F' H' s r1 r2 => ?_) ?_) fun v F' H' s r => k v F' H' s r
    · rw [← zpD_map, List.map_tail, ← cut1]
      exact (di_zp (de_var rfl h_ground) (de_slL (dl_of (de_var rfl h_ground)) (do_some de_int) do_none))
    · rw [List.length_zip, List.length_tail]; omega
    · cases r1.of_int; cases r2.of_int
      exact (de_max2 (de_vi rfl) (de_ar (de_vi rfl) (de_vi rfl)))
    · unfold behind iL; rw [List.map_map]; rfl
abbrev sp_sent (K : PySem.W.Frag) : Sp := SpP K (α := PyData × PyData × List Int × List Int) (fun a => [a.1, a.2.1]) (fun a => SeqD a.1 (a.2.2.1.map .int) ∧ SeqD a.2.1 (a.2.2.2.map .int) ∧ a.2.2.1.length ≤ 1000) fun a => iT (sentF a.2.2.1 a.2.2.2)
theorem sent_snoc (ns ds : List Int) (i : Nat) (d : Int) (h : ds[i]? = some d) : sentF ns (ds.take (i + 1)) = behind (sentF ns (ds.take i)) d := by
  unfold sentF
  rw [List.take_add_one, h, List.foldl_append]
  rfl
theorem ok_sent (T : Txt K mg) : FnOk P w K mg base CX0 2 T.sent.f T.sent.fd ["ground", "drops"] (sp_sent K) := by
  have nd := sc_sent.nd
  have G_behind_one := ok_behind_one (P := P) (w := w) (base := base) T
  refine T.sent.F.ok sc_sent (fun vs H Q E h => ?_) (fun cdv A outer s H vs Q E hr h => ?_)
  · obtain ⟨F, a, _, r, _⟩ := h
    exact r.len
  · obtain ⟨F, ⟨dg, dd, ns, ds⟩, w, r, ⟨q_ground, q_drops, hl⟩, k⟩ := h
    dsimp only at q_ground q_drops hl r k
    obtain ⟨x1, x2, rfl, h_ground, h_drops⟩ := r.two
    refine ⟨_, (pss_cons (ps_set (i := 2) nd rfl (Or.inl rfl) (pe_callTy call_list_of (by rfl) T.b_list (by decide +kernel) (pa_cons (pv 0) pa_nil)))
      (pss_cons (ps_for PassesOwn.never rfl (DL.pi_seq (pv 1)) (pg_name (i := 3) nd rfl (Or.inl rfl))
      (pss_one (ps_set (i := 2) nd rfl (Or.inl rfl) (pe_call G_behind_one hr (by rfl) T.behind_one.g T.behind_one.F.kp T.behind_one.b .nil pass0 (pa_cons (pv 2) (pa_cons (pv 3) pa_nil))))))
      (pss_one (ps_ret (pe_callTy call_tuple_of (by rfl) T.b_tuple (by decide +kernel) (pa_cons (pv 2) pa_nil)))))), ?_⟩
    refine s_asg (K := K) w (de_list (ds_S (de_var rfl h_ground) q_ground)) fun l F1 H1 s1 h_left => ?_
    replace h_drops := h_drops.up s1.ff
    refine s_for (K := K) s1.fh (M := []) (di_S (de_var rfl h_drops) q_drops) (fun i σ F H => ∃ l x, σ = [some x1, some x2, some l, x] ∧ Rp K F l (iL (sentF ns (ds.take i)))) (fun F H s => ⟨l, none, rfl, h_left.up s.ff⟩) ?_ ?_
    · rintro Fb Hb sb i d x σ Fa Ha F H hd hst ⟨l, y, rfl, h_left⟩ s r
      rw [List.getElem?_map] at hd
      obtain ⟨n, hn, rfl⟩ := Option.map_eq_some_iff.mp hd
      cases r.of_int
      replace h_left := h_left.up s.ff
      refine s_asg (K := K) s.fh (de_callP (a := (sentF ns (ds.take i), n)) (da_cons (de_var rfl h_left) (da_cons (de_vi rfl) da_nil)) ?_) fun l F1 H1 s1 h_left => ?_
      · show (sentF ns (ds.take i)).length ≤ 1000
        rw [sent_len]; omega
      · refine ⟨F1, hst.trans s1, l, _, rfl, ?_⟩
        rw [sent_snoc _ _ _ _ hn]
        exact h_left
    · rintro σ F H hst ⟨l, y, rfl, h_left⟩
      rw [List.length_map, List.take_length] at h_left
      exact s_ret (K := K) hst.fh (de_tuple (ds_l (dl_of (de_var rfl h_left)))) fun v F2 H2 s2 r => k v F2 H2 ((s1.trans hst).trans s2) r
theorem sc_law_same : FnScope ["_law_found", "_law_due_here", "_law_one", "_law_other"] ["_law_found", "_law_due_here"] (defScope st_law_same) := ⟨rfl, rfl, rfl, by decide +kernel, rfl, by decide +kernel, by decide +kernel⟩
abbrev SpPrev (K : PySem.W.Frag) : Nat → Sp
  | 0 => fun _ _ _ _ => False
  | n + 1 => SpSame K n
theorem ok_same_all (T : Txt K mg) : ∀ n, FnOk P w K mg base CX0 n T.law_same.f T.law_same.fd ["_law_found", "_law_due_here"] (SpPrev K n) := by
  have nd := sc_law_same.nd
  intro n
  induction n with
  | zero => exact ⟨fun _ _ _ _ z => z.elim, fun _ _ _ _ _ _ _ _ _ _ _ _ _ z => z.elim⟩
  | succ n IH =>
  refine T.law_same.F.ok sc_law_same (fun vs H Q E h => ?_) (fun cdv A outer s H vs Q E hr h => ?_)
  · obtain ⟨F, a, _, r, _⟩ := h
    exact r.len
  · obtain ⟨F, d, w, r, hP, k⟩ := h
    dsimp only at r k
    obtain ⟨x1, x2, rfl, h_f, h_d⟩ := r.two
    refine ⟨_, (pss_cons (ps_if (pt_val (pe_callB call_isiT (by rfl) T.b_isinstance (by decide +kernel) (pa_cons (pv 1) (pa_cons (pe_tup (pa_cons (pe_bltn (v := .ty "list") (u := .type "list") (by rfl) T.b_list (by decide +kernel) rfl) (pa_cons (pe_bltn (v := .ty "tuple") (u := .type "tuple") (by rfl) T.b_tuple (by decide +kernel) rfl) pa_nil))) pa_nil))))
      (pss_cons (ps_if (PW.pt (pw_or (pt_cmpR op_ne (pe_callB call_isi (by rfl) T.b_isinstance (by decide +kernel) (pa_cons (pv 0) (pa_cons (pe_bltn (v := .ty "list") (u := .type "list") (by rfl) T.b_list (by decide +kernel) rfl) pa_nil))) (pe_callB call_isi (by rfl) T.b_isinstance (by decide +kernel) (pa_cons (pv 1) (pa_cons (pe_bltn (v := .ty "list") (u := .type "list") (by rfl) T.b_list (by decide +kernel) rfl) pa_nil))) (nomark _)) (pw_or1 (pt_cmpR op_ne (pe_callB call_isi (by rfl) T.b_isinstance (by decide +kernel) (pa_cons (pv 0) (pa_cons (pe_bltn (v := .ty "tuple") (u := .type "tuple") (by rfl) T.b_tuple (by decide +kernel) rfl) pa_nil))) (pe_callB call_isi (by rfl) T.b_isinstance (by decide +kernel) (pa_cons (pv 1) (pa_cons (pe_bltn (v := .ty "tuple") (u := .type "tuple") (by rfl) T.b_tuple (by decide +kernel) rfl) pa_nil))) (nomark _)))))
      (pss_one (ps_ret pe_bl)) pss_nil)
      (pss_one (ps_ret (pe_and (pe_cmpR op_eq (pe_callB call_len_seq (by rfl) T.b_len (by decide +kernel) (pa_cons (pv 0) pa_nil)) (pe_callB call_len_seq (by rfl) T.b_len (by decide +kernel) (pa_cons (pv 1) pa_nil)) (nomark _)) (pe_one (pe_callB (cr_all rfl) (by rfl) T.b_all (by decide +kernel) (pa_cons (pe_lc (own := [("_law_one", 2), ("_law_other", 3)]) (g := (gTup K 2 (gCons (gName 2) (gCons (gName 3) gNil)))) (tt := tYes) (te := (tCall (SpPrev K n) [] E0 (tCons (tVar 2) (tCons (tVar 3) tNil)))) rfl nd (RZ.pi_zipA (by rfl) T.b_zip (pa_cons (pv 0) (pa_cons (pv 1) pa_nil))) (blkOk_by (N := ["_law_found", "_law_due_here", "_law_one", "_law_other"]) (sc := defScope st_law_same) (by decide +kernel)) (fun _ _ _ _ _ => (pg_tup rfl (pgs_cons (pg_name (i := 2) nd rfl (Or.inl rfl)) (pgs_cons (pg_name (i := 3) nd rfl (Or.inl rfl)) pgs_nil)))) (fun _ _ _ _ _ => pts_nil) (fun _ _ _ _ _ => (pe_call IH hr (by rfl) T.law_same.g T.law_same.F.kp T.law_same.b .nil pass0 (pa_cons (pv 2) (pa_cons (pv 3) pa_nil))))) pa_nil))))))) pss_nil)
      (pss_cons (ps_if (PW.pt (pw_or (pt_cmpR op_isN (pv 1) pe_non (nomark _)) (pw_or1 (pt_val (pe_callB call_isiT (by rfl) T.b_isinstance (by decide +kernel) (pa_cons (pv 1) (pa_cons (pe_tup (pa_cons (pe_bltn (v := .ty "str") (u := .type "str") (by rfl) T.b_str (by decide +kernel) rfl) (pa_cons (pe_bltn (v := .ty "bool") (u := .type "bool") (by rfl) T.b_bool (by decide +kernel) rfl) pa_nil))) pa_nil)))))))
      (pss_one (ps_ret (pe_and (pe_cmpR op_eq (pe_callB call_isi (by rfl) T.b_isinstance (by decide +kernel) (pa_cons (pv 0) (pa_cons (pe_bltn (v := .ty "bool") (u := .type "bool") (by rfl) T.b_bool (by decide +kernel) rfl) pa_nil))) (pe_callB call_isi (by rfl) T.b_isinstance (by decide +kernel) (pa_cons (pv 1) (pa_cons (pe_bltn (v := .ty "bool") (u := .type "bool") (by rfl) T.b_bool (by decide +kernel) rfl) pa_nil))) (nomark _)) (pe_one (pe_cmpR op_eq (pv 0) (pv 1) (nomark _)))))) pss_nil)
      (pss_one (ps_ret (pe_and (pe_callB call_isi (by rfl) T.b_isinstance (by decide +kernel) (pa_cons (pv 0) (pa_cons (pe_bltn (v := .ty "int") (u := .type "int") (by rfl) T.b_int (by decide +kernel) rfl) pa_nil))) (pe_and (pe_not (pe_callB call_isi (by rfl) T.b_isinstance (by decide +kernel) (pa_cons (pv 0) (pa_cons (pe_bltn (v := .ty "bool") (u := .type "bool") (by rfl) T.b_bool (by decide +kernel) rfl) pa_nil)))) (pe_one (pe_cmpR op_eq (pv 0) (pv 1) (nomark _))))))))), ?_⟩
    cases d with
    | dict _ => cases hP.1
    | list ds =>
      cases n with
      | zero => have := hP.2.1; rw [dep] at this; omega
      | succ m =>
        obtain ⟨hz, hall⟩ := hP.of_list
        refine s_if (K := K) w (dt_b (de_isi2 (de_var rfl h_d) kb_list_list kb_list_tuple)) (fun _ F1 H1 s1 => ?_) (fun z => nomatch z)
        replace h_f := h_f.up s1.ff
        replace h_d := h_d.up s1.ff
        refine s_if (K := K) s1.fh (b := false) (dt_or (a := false) (b := false) (dt_t (de_neB (de_isi (de_var rfl h_f) kb_list_list) (de_isi (de_var rfl h_d) kb_list_list))) fun _ => dt_t (de_neB (de_isi (de_var rfl h_f) kb_list_tuple) (de_isi (de_var rfl h_d) kb_list_tuple))) (fun z => nomatch z) fun _ F2 H2 s2 => ?_
        replace h_f := h_f.up s2.ff
        replace h_d := h_d.up s2.ff
        refine s_ret (K := K) s2.fh (DE.is (de_and (de_eqI (de_len (ds_l (dl_of (de_var rfl h_f)))) (de_len (ds_l (dl_of (de_var rfl h_d))))) fun _ => de_allL (bs := ds.map fun _ => true) (dl_of (DE.is (de_lc2 (as := ds) (e1 := fun d => d) (e2 := fun d => d) (f := fun _ => .bool true) ?_ hz (fun _ _ => rfl) fun d hd x y F' H' s r1 r2 => de_callP d (da_cons (de_var rfl r1) (da_cons (de_var rfl r2) da_nil)) (hall d hd)) ?_))) ?_) fun v F3 H3 s3 r => k v F3 H3 ((s1.trans s2).trans s3) r
        · rw [← zpD_self]; exact di_zpL (de_var rfl h_f) (de_var rfl h_d)
        · rw [List.map_map]; rfl
        · simp
    | tuple ds =>
      cases n with
      | zero => have := hP.2.1; rw [dep] at this; omega
      | succ m =>
        obtain ⟨hz, hall⟩ := hP.of_tuple
        refine s_if (K := K) w (dt_b (de_isi2 (de_var rfl h_d) kb_tuple_list kb_tuple_tuple)) (fun _ F1 H1 s1 => ?_) (fun z => nomatch z)
        replace h_f := h_f.up s1.ff
        replace h_d := h_d.up s1.ff
        refine s_if (K := K) s1.fh (b := false) (dt_or (a := false) (b := false) (dt_t (de_neB (de_isi (de_var rfl h_f) kb_tuple_list) (de_isi (de_var rfl h_d) kb_tuple_list))) fun _ => dt_t (de_neB (de_isi (de_var rfl h_f) kb_tuple_tuple) (de_isi (de_var rfl h_d) kb_tuple_tuple))) (fun z => nomatch z) fun _ F2 H2 s2 => ?_
        replace h_f := h_f.up s2.ff
        replace h_d := h_d.up s2.ff
        refine s_ret (K := K) s2.fh (DE.is (de_and (de_eqI (de_len (ds_u (du_of (de_var rfl h_f)))) (de_len (ds_u (du_of (de_var rfl h_d))))) fun _ => de_allL (bs := ds.map fun _ => true) (dl_of (DE.is (de_lc2 (as := ds) (e1 := fun d => d) (e2 := fun d => d) (f := fun _ => .bool true) ?_ hz (fun _ _ => rfl) fun d hd x y F' H' s r1 r2 => de_callP d (da_cons (de_var rfl r1) (da_cons (de_var rfl r2) da_nil)) (hall d hd)) ?_))) ?_) fun v F3 H3 s3 r => k v F3 H3 ((s1.trans s2).trans s3) r
        · rw [← zpD_self]; exact di_zpT (de_var rfl h_f) (de_var rfl h_d)
        · rw [List.map_map]; rfl
        · simp
    | int i =>
      refine s_if (K := K) w (dt_b (de_isi2 (de_var rfl h_d) kb_int_list kb_int_tuple)) (fun z => nomatch z) fun _ F1 H1 s1 => ?_
      replace h_f := h_f.up s1.ff
      replace h_d := h_d.up s1.ff
      refine s_if (K := K) s1.fh (dt_or (b := false) (dt_t (de_isN (de_var rfl h_d))) fun _ => dt_b (de_isi2 (de_var rfl h_d) kb_int_str kb_int_bool)) (fun z => nomatch z) fun _ F2 H2 s2 => ?_
      replace h_f := h_f.up s2.ff
      replace h_d := h_d.up s2.ff
      refine s_ret (K := K) s2.fh (DE.is (de_and (de_isi (de_var rfl h_f) kb_int_int) fun _ => de_and (de_not (de_isi (de_var rfl h_f) kb_int_bool)) fun _ => de_eqSelf (de_var rfl h_f) (de_var rfl h_d) rfl) ?_) fun v F3 H3 s3 r => k v F3 H3 ((s1.trans s2).trans s3) r
      rfl
    | bool b =>
      refine s_if (K := K) w (dt_b (de_isi2 (de_var rfl h_d) kb_bool_list kb_bool_tuple)) (fun z => nomatch z) fun _ F1 H1 s1 => ?_
      replace h_f := h_f.up s1.ff
      replace h_d := h_d.up s1.ff
      refine s_if (K := K) s1.fh (dt_or (b := true) (dt_t (de_isN (de_var rfl h_d))) fun _ => dt_b (de_isi2 (de_var rfl h_d) kb_bool_str kb_bool_bool)) (fun _ F2 H2 s2 => ?_) (fun z => nomatch z)
      replace h_f := h_f.up s2.ff
      replace h_d := h_d.up s2.ff
      refine s_ret (K := K) s2.fh (DE.is (de_and (de_eqB (de_isi (de_var rfl h_f) kb_bool_bool) (de_isi (de_var rfl h_d) kb_bool_bool)) fun _ => de_eqSelf (de_var rfl h_f) (de_var rfl h_d) rfl) ?_) fun v F3 H3 s3 r => k v F3 H3 ((s1.trans s2).trans s3) r
      rfl
    | str x =>
      refine s_if (K := K) w (dt_b (de_isi2 (de_var rfl h_d) kb_str_list kb_str_tuple)) (fun z => nomatch z) fun _ F1 H1 s1 => ?_
      replace h_f := h_f.up s1.ff
      replace h_d := h_d.up s1.ff
      refine s_if (K := K) s1.fh (dt_or (b := true) (dt_t (de_isN (de_var rfl h_d))) fun _ => dt_b (de_isi2 (de_var rfl h_d) kb_str_str kb_str_bool)) (fun _ F2 H2 s2 => ?_) (fun z => nomatch z)
      replace h_f := h_f.up s2.ff
      replace h_d := h_d.up s2.ff
      refine s_ret (K := K) s2.fh (DE.is (de_and (de_eqB (de_isi (de_var rfl h_f) kb_str_bool) (de_isi (de_var rfl h_d) kb_str_bool)) fun _ => de_eqSelf (de_var rfl h_f) (de_var rfl h_d) rfl) ?_) fun v F3 H3 s3 r => k v F3 H3 ((s1.trans s2).trans s3) r
      rfl
    | none =>
      refine s_if (K := K) w (dt_b (de_isi2 (de_var rfl h_d) kb_none_list kb_none_tuple)) (fun z => nomatch z) fun _ F1 H1 s1 => ?_
      replace h_f := h_f.up s1.ff
      replace h_d := h_d.up s1.ff
      refine s_if (K := K) s1.fh (dt_or (b := false) (dt_t (de_isN (de_var rfl h_d))) fun z => nomatch z) (fun _ F2 H2 s2 => ?_) (fun z => nomatch z)
      replace h_f := h_f.up s2.ff
      replace h_d := h_d.up s2.ff
      refine s_ret (K := K) s2.fh (DE.is (de_and (de_eqB (de_isi (de_var rfl h_f) kb_none_bool) (de_isi (de_var rfl h_d) kb_none_bool)) fun _ => de_eqSelf (de_var rfl h_f) (de_var rfl h_d) rfl) ?_) fun v F3 H3 s3 r => k v F3 H3 ((s1.trans s2).trans s3) r
      rfl
theorem ok_law_same (T : Txt K mg) (n : Nat) : FnOk P w K mg base CX0 (n + 1) T.law_same.f T.law_same.fd ["_law_found", "_law_due_here"] (SpSame K n) := ok_same_all T (n + 1)

theorem sc_law_tape : FnScope ["_law_script", "_law_k", "_law_cell"] ["_law_script", "_law_k"] (defScope st_law_tape) := ⟨rfl, rfl, rfl, by decide +kernel, rfl, by decide +kernel, by decide +kernel⟩
theorem sc_law_draw : FnScope ["_law_tape_here", "_law_many", "_law_found", "_law_once", "_law_twice", "_law_wide"] ["_law_tape_here", "_law_many"] (defScope st_law_draw) := ⟨rfl, rfl, rfl, by decide +kernel, rfl, by decide +kernel, by decide +kernel⟩
abbrev sp_law_draw (K : PySem.W.Frag) : Sp := SpT K (α := Int) (fun n => [.int n]) (fun n => 0 < n ∧ n < 1152921504606846976) 1 fun n d => ∃ r, d = .int r ∧ 0 ≤ r ∧ r < n
theorem rnd_pow (x : Int) (h : 0 ≤ x) : 0 ≤ x ^ 5 := by
  have : x ^ 5 = x * x * x * x * x := by simp only [Int.pow_succ, Int.pow_zero, Int.one_mul]
  rw [this]
  exact Int.mul_nonneg (Int.mul_nonneg (Int.mul_nonneg (Int.mul_nonneg h h) h) h) h
theorem ok_law_draw (T : Txt K mg) : FnOk P w K mg base CX0 1 T.law_draw.f T.law_draw.fd ["_law_tape_here", "_law_many"] (sp_law_draw K) := by
  have nd := sc_law_draw.nd
  refine T.law_draw.F.ok sc_law_draw (fun vs H Q E h => ?_) (fun cdv A outer s H vs Q E hr h => ?_)
  · obtain ⟨F, t, us, n, B, _, rfl, r, _⟩ := h
    rw [List.length_cons, r.len]; rfl
  · obtain ⟨F, t, us, n, B, w, rfl, r, ⟨n0, n1⟩, ⟨g, m, c, o_law_tape_here, m0, m1, c0, c1⟩, hB, k⟩ := h
    dsimp only at r k
    obtain ⟨x1, rfl, h1⟩ := r.one
    cases h1.of_int
    refine ⟨_, (pss_cons (ps_if (pt_cmpR op_gt (pe_ix ix_list (pv 0) pe_int (fun _ _ => rfl)) pe_int (nomark _))
      (pss_cons (ps_set (i := 2) nd rfl (Or.inl rfl) (pe_op op_mod (pe_ix ix_list (pv 0) pe_int (fun _ _ => rfl)) (pv 1)))
      (pss_cons (ps_asg (pe_op op_fdivW (pe_ix ix_list (pv 0) pe_int (fun _ _ => rfl)) (pv 1)) (pg_sub (pv 0) pe_int set_list))
      (pss_one (ps_ret (pv 2))))) pss_nil)
      (pss_cons (ps_asg (pe_op op_add (pe_ix ix_list (pv 0) pe_int (fun _ _ => rfl)) pe_int) (pg_sub (pv 0) pe_int set_list))
      (pss_cons (ps_set (i := 3) nd rfl (Or.inl rfl) (pe_op op_mod (pe_op op_pow (pe_op op_add (pe_ix ix_list (pv 0) pe_int (fun _ _ => rfl)) (pe_op op_mul pe_int (pe_ix ix_list (pv 0) pe_int (fun _ _ => rfl)))) pe_int) pe_int))
      (pss_cons (ps_set (i := 4) nd rfl (Or.inl rfl) (pe_op op_mod (pe_op op_mul (pe_op op_add (pv 3) (pe_ix ix_list (pv 0) pe_int (fun _ _ => rfl))) (pe_op op_add (pe_op op_add (pe_op op_mod (pv 3) pe_int) pe_int) (pe_ix ix_list (pv 0) pe_int (fun _ _ => rfl)))) pe_int))
      (pss_cons (ps_set (i := 5) nd rfl (Or.inl rfl) (pe_op op_mod (pe_op op_add (pe_op op_add (pe_op op_fdivW (pe_ix ix_list (pv 0) pe_int (fun _ _ => rfl)) pe_int) (pe_op op_mul (pv 4) pe_int)) (pe_ix ix_list (pv 0) pe_int (fun _ _ => rfl))) pe_int))
      (pss_one (ps_ret (pe_op op_mod (pe_op op_fdivW (pe_op op_mod (pe_op op_add (pe_op op_add (pe_op op_mul (pv 4) pe_int) (pe_op op_mul (pv 5) pe_int)) (pv 3)) pe_int) pe_int) (pv 1))))))))), ?_⟩
    have r_law_tape_here : RpAll K F [.int g, .int m, .int c] [.int g, .int m, .int c] := .cons (.int _) (.cons (.int _) (.cons (.int _) .nil))
    refine s_if (K := K) w (dt_t (de_cm (de_ixL (dl_own rfl o_law_tape_here r_law_tape_here) de_int rfl) de_int)) (fun hb F1 H1 s1 => ?_) (fun hb F1 H1 s1 => ?_)
    · replace o_law_tape_here := o_law_tape_here.up s1
      replace r_law_tape_here := r_law_tape_here.up s1.ff
      refine s_asgI (K := K) s1.fh (de_arC (de_ixL (dl_own rfl o_law_tape_here r_law_tape_here) de_int rfl) (de_vi rfl) (by first | decide | omega)) fun F2 H2 s2 => ?_
      replace o_law_tape_here := o_law_tape_here.up s2
      replace r_law_tape_here := r_law_tape_here.up s2.ff
      refine s_set (K := K) s2.fh o_law_tape_here rfl (de_arC (de_ixL (dl_own rfl o_law_tape_here r_law_tape_here) de_int rfl) (de_vi rfl) (cdw (by first | decide | omega) (by first | decide | omega))) de_int rfl fun v F3 H3 s3 r o2 => ?_
      cases r.of_int
      have hst : DL.Step [t] F H F3 H3 := (s1.trans s2).w.trans s3
      refine s_ret (K := K) hst.fh (de_vi rfl) fun v F4 H4 s4 r => ?_
      exact k v _ F4 H4 (hst.trans s4.w) ⟨_, m, c, o2.up s4, m0, m1, c0, by omega⟩ r ⟨_, rfl, Int.emod_nonneg _ (by omega), Int.emod_lt_of_pos _ n0⟩
    · replace o_law_tape_here := o_law_tape_here.up s1
      replace r_law_tape_here := r_law_tape_here.up s1.ff
      refine s_set (K := K) s1.fh o_law_tape_here rfl (de_ar (de_ixL (dl_own rfl o_law_tape_here r_law_tape_here) de_int rfl) de_int) de_int rfl fun v F2 H2 s2 r o2 => ?_
      cases r.of_int
      have hst : DL.Step [t] F H F2 H2 := s1.w.trans s2
      replace o_law_tape_here : Own F2 _ t (.lst [.int g, .int m, .int (c + 1)]) := o2
      replace r_law_tape_here : RpAll K F2 [.int g, .int m, .int (c + 1)] [.int g, .int m, .int (c + 1)] := .cons (.int _) (.cons (.int _) (.cons (.int _) .nil))
      refine s_asgI (K := K) hst.fh (de_arC (de_arC (de_ar (de_ixL (dl_own rfl o_law_tape_here r_law_tape_here) de_int rfl) (de_arC de_int (de_ixL (dl_own rfl o_law_tape_here r_law_tape_here) de_int rfl) (by first | exact .inl ⟨by omega, by omega⟩ | exact .inr ⟨by omega, by omega⟩))) de_int (cpw (by first | decide | omega) (by first | decide | omega))) de_int (by first | decide | omega)) fun F3 H3 s3 => ?_
      replace o_law_tape_here := o_law_tape_here.up s3
      replace r_law_tape_here := r_law_tape_here.up s3.ff
      have q1 : 0 ≤ (m + 39373 * (c + 1)) ^ (5 : Int).toNat % 2147483647 := Int.emod_nonneg _ (by decide)
      have q2 : (m + 39373 * (c + 1)) ^ (5 : Int).toNat % 2147483647 < 2147483647 := Int.emod_lt_of_pos _ (by decide)
      generalize hq : (m + 39373 * (c + 1)) ^ (5 : Int).toNat % 2147483647 = q at q1 q2 ⊢
      refine s_asgI (K := K) s3.fh (de_arC (de_arC (de_ar (de_vi rfl) (de_ixL (dl_own rfl o_law_tape_here r_law_tape_here) de_int rfl)) (de_ar (de_ar (de_arC (de_vi rfl) de_int (by first | decide | omega)) de_int) (de_ixL (dl_own rfl o_law_tape_here r_law_tape_here) de_int rfl)) (by first | exact .inl ⟨by omega, by omega⟩ | exact .inr ⟨by omega, by omega⟩)) de_int (by first | decide | omega)) fun F4 H4 s4 => ?_
      replace o_law_tape_here := o_law_tape_here.up s4
      replace r_law_tape_here := r_law_tape_here.up s4.ff
      have p1 : 0 ≤ (q + (c + 1)) * (q % 40009 + 7 + (c + 1)) % 2147483629 := Int.emod_nonneg _ (by decide)
      have p2 : (q + (c + 1)) * (q % 40009 + 7 + (c + 1)) % 2147483629 < 2147483629 := Int.emod_lt_of_pos _ (by decide)
      generalize hp : (q + (c + 1)) * (q % 40009 + 7 + (c + 1)) % 2147483629 = p at p1 p2 ⊢
      refine s_asgI (K := K) s4.fh (de_arC (de_ar (de_ar (de_arC (de_ixL (dl_own rfl o_law_tape_here r_law_tape_here) de_int rfl) de_int (cdw (by first | decide | omega) (by first | decide | omega))) (de_arC (de_vi rfl) de_int (by first | exact .inl ⟨by omega, by omega⟩ | exact .inr ⟨by omega, by omega⟩))) (de_ixL (dl_own rfl o_law_tape_here r_law_tape_here) de_int rfl)) de_int (by first | decide | omega)) fun F5 H5 s5 => ?_
      replace o_law_tape_here := o_law_tape_here.up s5
      have u1 : 0 ≤ (m / 2147483647 + p * 40009 + (c + 1)) % 2305843009213693951 := Int.emod_nonneg _ (by decide)
      have u2 : (m / 2147483647 + p * 40009 + (c + 1)) % 2305843009213693951 < 2305843009213693951 := Int.emod_lt_of_pos _ (by decide)
      generalize hu : (m / 2147483647 + p * 40009 + (c + 1)) % 2305843009213693951 = u at u1 u2 ⊢
      refine s_ret (K := K) s5.fh (de_arC (de_arC (de_arC (de_ar (de_ar (de_arC (de_vi rfl) de_int (by first | exact .inl ⟨by omega, by omega⟩ | exact .inr ⟨by omega, by omega⟩)) (de_arC (de_vi rfl) de_int (by first | exact .inl ⟨by omega, by omega⟩ | exact .inr ⟨by omega, by omega⟩))) (de_vi rfl)) de_int (by first | decide | omega)) de_int (cdw (by first | decide | omega) (by first | decide | omega))) (de_vi rfl) (by first | decide | omega)) fun v F6 H6 s6 r => ?_
      exact k v _ F6 H6 (hst.trans (((s3.trans s4).trans s5).trans s6).w) ⟨g, m, c + 1, o_law_tape_here.up s6, m0, m1, by omega, by omega⟩ r ⟨_, rfl, Int.emod_nonneg _ (by omega), Int.emod_lt_of_pos _ n0⟩

abbrev sp_law_tape (K : PySem.W.Frag) : Sp := fun vs H Q _ => ∃ (F : Hp) (x : V) (ns : List Int) (k : Int), Same F H ∧ vs = [x, .int k] ∧ Rp K F x (iL ns) ∧ 0 ≤ k ∧ k ≤ 1000 ∧ ∀ t F' H', H t = none → St0 F H F' H' → Tp F' H' t 0 → Q (.ref t) H'
theorem ok_law_tape (T : Txt K mg) : FnOk P w K mg base CX0 1 T.law_tape.f T.law_tape.fd ["_law_script", "_law_k"] (sp_law_tape K) := by
  have nd := sc_law_tape.nd
  refine T.law_tape.F.ok sc_law_tape (fun vs H Q E h => ?_) (fun cdv A outer s H vs Q E hr h => ?_)
  · obtain ⟨F, x, ns, k, _, rfl, _⟩ := h
    rfl
  · obtain ⟨F, x, ns, k, w, rfl, h_law_script, k0, k1, kk⟩ := h
    refine ⟨_, (pss_cons (ps_set (i := 2) nd rfl (Or.inl rfl) (pe_ifExp (pt_cmpR op_lt (pv 1) (pe_callB call_len_seq (by rfl) T.b_len (by decide +kernel) (pa_cons (pv 0) pa_nil)) (nomark _)) (pe_ix ix_list (pv 0) (pv 1) (fun _ _ => rfl)) pe_int))
      (pss_one (ps_ret (pe_lst (pa_cons (pe_op op_mul (pe_callB call_abs (by rfl) T.b_abs (by decide +kernel) (pa_cons (pv 2) pa_nil)) (pe_callTy call_int1 (by rfl) T.b_int (by decide +kernel) (pa_cons (pe_cmpR op_ge (pe_callB call_abs (by rfl) T.b_abs (by decide +kernel) (pa_cons (pv 2) pa_nil)) (pe_op op_pow pe_int pe_int) (nomark _)) pa_nil))) (pa_cons (pe_op op_add (pe_op op_add (pe_op op_mod (pv 2) pe_int) (pe_op op_mul pe_int (pv 1))) pe_int) (pa_cons pe_int pa_nil))))))), ?_⟩
    refine s_asgI (K := K) w (de_ifI (dt_t (de_cm (de_vi rfl) (de_len (ds_l (dl_of (de_var rfl h_law_script)))))) (fun hb => de_ixL (dl_of (de_var rfl h_law_script)) (de_vi rfl) (at_ints k0 (by have := of_decide_eq_true hb; rw [List.length_map] at this; exact this))) fun hb => de_int) fun F1 H1 s1 => ?_
    generalize (if decide (k < ((ns.map PyData.int).length : Int)) = true then ns.getD k.toNat 0 else 0) = c
    refine s_retNew (K := K) s1.fh (da_cons (de_arC (de_abs (de_vi rfl)) (de_intB (de_cm (de_abs (de_vi rfl)) (de_arC de_int de_int (cpw (by decide) (by decide))))) (.inr ⟨by split <;> omega, by split <;> omega⟩)) (da_cons (de_ar (de_ar (de_arC (de_vi rfl) de_int (by decide)) (de_arC de_int (de_vi rfl) (.inl ⟨by omega, by omega⟩))) de_int) (da_cons de_int da_nil))) (by show 3 ≤ 100000; decide) fun l xs F2 H2 hl s2 o r => ?_
    have e := RpAll.ints (ns := [_, _, _]) r
    subst e
    have m1 : 0 ≤ c % 2305843009213693951 := Int.emod_nonneg _ (by decide)
    have m2 : c % 2305843009213693951 < 2305843009213693951 := Int.emod_lt_of_pos _ (by decide)
    exact kk l F2 H2 (s1.back w hl) (s1.trans s2) ⟨_, _, 0, o, by omega, by omega, by omega, by omega⟩
theorem sc_law_folded : FnScope ["_law_script", "_law_many", "_law_cells", "_law_k", "_law_cell"] ["_law_script", "_law_many"] (defScope st_law_folded) := ⟨rfl, rfl, rfl, by decide +kernel, rfl, by decide +kernel, by decide +kernel⟩
abbrev sp_law_folded (K : PySem.W.Frag) : Sp := fun vs H Q _ => ∃ (F : Hp) (a : Addr) (ns : List Int) (m : Nat), Same F H ∧ vs = [.ref a, .int m] ∧ SqL K F a (ns.map V.int) ∧ 0 < m ∧ m ≤ 60 ∧ ns.length ≤ 63 ∧ ∀ v ms F' H', St0 F H F' H' → Rp K F' v (iL ms) → ms.length = min m ns.length → Q v H'
theorem ok_law_folded (T : Txt K mg) : FnOk P w K mg base CX0 1 T.law_folded.f T.law_folded.fd ["_law_script", "_law_many"] (sp_law_folded K) := by
  have nd := sc_law_folded.nd
  refine T.law_folded.F.ok sc_law_folded (fun vs H Q E h => ?_) (fun cdv A outer s H vs Q E hr h => ?_)
  · obtain ⟨F, a, ns, m, _, rfl, _⟩ := h
    rfl
  · obtain ⟨F, a, ns, m, w, rfl, hS, m0, m1, hl, k⟩ := h
    refine ⟨_, (pss_cons (ps_set (i := 2) nd rfl (Or.inl rfl) (pe_callTy call_list_of (by rfl) T.b_list (by decide +kernel) (pa_cons (pe_slice sl_list (pv 0) po_none (po_some (pv 1))) pa_nil)))
      (pss_cons (ps_for PassesOwn.never rfl (pi_enum (by rfl) T.b_enumerate (pa_cons (pe_slice sl_list (pv 0) (po_some (pv 1)) (po_some pe_int)) pa_nil)) (pg_tup rfl (pgs_cons (pg_name (i := 3) nd rfl (Or.inl rfl)) (pgs_cons (pg_name (i := 4) nd rfl (Or.inl rfl)) pgs_nil)))
      (pss_one (ps_asg (pe_op op_add (pe_ix ix_list (pv 2) (pe_op op_mod (pv 3) (pv 1)) (fun _ _ => rfl)) (pe_op op_mul (pv 4) (pe_op op_add (pv 3) pe_int))) (pg_sub (pv 2) (pe_op op_mod (pv 3) (pv 1)) set_list))))
      (pss_one (ps_ret (pv 2))))), ?_⟩
    refine s_ownL (K := K) w (ds_l (dl_of (de_slScr rfl hS do_none (do_some (de_vi rfl))))) fun l xs F1 H1 hl0 s1 o_c r_c => ?_
    rw [cutQ_to] at r_c
    cases r_c.ints
    have hS1 := s1.ff.seq hS
    refine s_for (K := K) (M := [l]) s1.fh (di_en (de_slScr (lo := some (m : Int)) (hi := some ((63 : Nat) : Int)) rfl hS1 (do_some (de_vi rfl)) (do_some de_int))) (fun i σ F H => ∃ (ms : List Int) (x y : Option V), σ = [some (.ref a), some (.int m), some (.ref l), x, y] ∧ Own F H l (.lst (ms.map V.int)) ∧ ms.length = min m ns.length) (fun F H s => ⟨_, none, none, rfl, o_c.up s, List.length_take⟩) ?_ ?_
    · rintro Fb Hb sb i d x σ Fa Ha F H hd hst ⟨ms, y, z, rfl, o_c, hms⟩ s r
      rw [cutQ_from] at hd
      obtain ⟨c, hc, rfl⟩ := enD_ints hd
      have hi := (List.getElem?_eq_some_iff.mp hc).1
      rw [List.length_drop, List.length_take] at hi
      replace o_c := o_c.up s
      refine g_tup2 s.fh r fun v1 v2 r1 r2 => ?_
      cases r1.of_int; cases r2.of_int
      have hm : (m : Int) ≤ (ns.length : Int) := by omega
      have i1 : 0 ≤ ((i : Nat) : Int) % (m : Int) := Int.emod_nonneg _ (by omega)
      have i2 : ((i : Nat) : Int) % (m : Int) < (ms.length : Int) := by
        have := Int.emod_lt_of_pos ((i : Nat) : Int) (show (0 : Int) < (m : Int) by omega)
        rw [hms]; omega
      have r_c := RpAll.of_ints (K := K) (F := F) ms
      refine s_set (K := K) s.fh o_c rfl (de_ar (de_ixL (dl_own rfl o_c r_c) (de_arC (de_vi rfl) (de_vi rfl) (by omega)) (at_ints i1 i2)) (de_arC (de_vi rfl) (de_ar (de_vi rfl) de_int) (.inr ⟨by omega, by omega⟩))) (de_arC (de_vi rfl) (de_vi rfl) (by omega)) (ix_ok i1 (by rw [List.length_map]; exact i2)) fun v F3 H3 s3 r o3 => ?_
      cases r.of_int
      rw [← List.map_set] at o3
      exact ⟨F3, hst.trans s3, _, _, _, rfl, o3, by rw [List.length_set]; exact hms⟩
    · rintro σ F2 H2 hst ⟨ms, y, z, rfl, o_c, hms⟩
      have st : St0 F H F2 H2 := (s1.w.trans hst).drop hl0
      exact s_retO (K := K) st hl0 rfl o_c (.of_ints ms) fun F' st' r _ => k _ ms F' H2 st' r hms

end
end My
end

section
set_option maxRecDepth 100000
set_option maxHeartbeats 4000000
namespace My
open PySem PySem.Spec PyProof.Rows L2 DL Sent
section
variable {P : Program} {w : World} {K : PySem.W.Frag} {mg : Str → Option Value} {base : Heap}
theorem sc_law_heights : FnScope ["_law_tape_here", "_law_many", "_law_wide", "_law_found", "_law_k"] ["_law_tape_here", "_law_many", "_law_wide"] (defScope st_law_heights) := ⟨rfl, rfl, rfl, by decide +kernel, rfl, by decide +kernel, by decide +kernel⟩
abbrev sp_law_heights (K : PySem.W.Frag) : Sp := SpT K (α := Int × Int) (fun a => [.int a.1, .int a.2]) (fun a => 1 ≤ a.1 ∧ a.1 ≤ 60 ∧ 0 ≤ a.2 ∧ a.2 ≤ 1000000000) 60 fun a d => ∃ ns : List Int, d = iL ns ∧ (ns.length : Int) = a.1
theorem ok_law_heights (T : Txt K mg) : FnOk P w K mg base CX0 2 T.law_heights.f T.law_heights.fd ["_law_tape_here", "_law_many", "_law_wide"] (sp_law_heights K) := by
  have nd := sc_law_heights.nd
  have G_law_draw := ok_law_draw (P := P) (w := w) (base := base) T
  refine T.law_heights.F.ok sc_law_heights (fun vs H Q E h => ?_) (fun cdv A outer s H vs Q E hr h => ?_)
  · obtain ⟨F, t, us, n, B, _, rfl, r, _⟩ := h
    rw [List.length_cons, r.len]; rfl
  · obtain ⟨F, t, us, ⟨m, z⟩, B, w, rfl, r, ⟨m0, m1, z0, z1⟩, hT, hB, k⟩ := h
    dsimp only at r k m0 m1 z0 z1
    obtain ⟨x1, x2, rfl, h1, h2⟩ := r.two
    cases h1.of_int; cases h2.of_int
    refine ⟨_, (pss_cons (ps_set (i := 3) nd rfl (Or.inl rfl) (pe_lst (pa_cons (pe_op op_add (pe_op op_sub (pe_call G_law_draw hr (by rfl) T.law_draw.g T.law_draw.F.kp T.law_draw.b .nil pass0 (pa_cons (pv 0) (pa_cons (pe_op op_sub (pe_op op_mul pe_int (pe_op op_pow pe_int pe_int)) (pe_op op_pow pe_int pe_int)) pa_nil))) (pe_op op_pow pe_int pe_int)) (pe_op op_mul pe_int (pe_op op_pow pe_int pe_int))) pa_nil)))
      (pss_cons (ps_for PassesOwn.never rfl (pi_range1 rfl T.b_range (pa_cons (pe_op op_sub (pv 1) pe_int) pa_nil)) (pg_name (i := 4) nd rfl (Or.inl rfl))
      (pss_one (ps_expr (pe_bm PySem.F.plainAttrs_list PySem.F.slot_list_append PySem.F.type_list_append mt_append (pv 3) (pa_cons (pe_op op_sub (pe_op op_add (pe_ix ix_list (pv 3) (pe_un un_neg pe_int) (fun _ _ => rfl)) (pe_call G_law_draw hr (by rfl) T.law_draw.g T.law_draw.F.kp T.law_draw.b .nil pass0 (pa_cons (pv 0) (pa_cons (pe_op op_add (pe_op op_mul pe_int (pv 2)) pe_int) pa_nil)))) (pv 2)) pa_nil)))))
      (pss_one (ps_ret (pv 3))))), ?_⟩
    refine run_T (K := K) w (2 * 10 ^ 9 - 10 ^ 7 : Int) rfl (da_cons (de_ar (de_arC de_int (de_arC de_int de_int (cpw (by first | decide | omega) (by first | decide | omega))) (by first | exact .inl ⟨by omega, by omega⟩ | exact .inr ⟨by omega, by omega⟩)) (de_arC de_int de_int (cpw (by first | decide | omega) (by first | decide | omega)))) da_nil) ⟨by decide, by decide⟩ hT (by omega) fun v d F1 H1 s1 hT r hd => ?_
    obtain ⟨q, rfl, q0, q1⟩ := hd
    cases r.of_int
    change tAsg (tLst (tCons (tOp (rI0 fun i j => .int (i + j)) (tOp (rI0 fun i j => .int (i - j)) (tC (.int q)) (tOp (rI CPow fun i j => .int (i ^ j.toNat)) (tC (.int 10)) (tC (.int 9)))) (tOp (rI CMul fun i j => .int (i * j)) (tC (.int 5)) (tOp (rI CPow fun i j => .int (i ^ j.toNat)) (tC (.int 10)) (tC (.int 6))))) tNil)) (gName 3) _ _ _
    refine s_newL (K := K) s1.fh (da_cons (de_ar (de_ar (de_c fun _ => .int _) (de_arC de_int de_int (cpw (by first | decide | omega) (by first | decide | omega)))) (de_arC de_int (de_arC de_int de_int (cpw (by first | decide | omega) (by first | decide | omega))) (by first | exact .inl ⟨by omega, by omega⟩ | exact .inr ⟨by omega, by omega⟩))) da_nil) (by show 1 ≤ 100000; decide) fun l xs F2 H2 hl s2 o r => ?_
    cases RpAll.ints (ns := [_]) r
    have hl0 : H l = none := s1.back w hl
    have ht : l ≠ t := fun e => hT.there (by rw [← e]; exact hl)
    refine s_for (K := K) (M := [l, t]) s2.fh (di_r1 (de_ar (de_vi rfl) de_int) (by first | omega | (simp only [List.length_map, List.length_range]; omega)) (by first | omega | (simp only [List.length_map, List.length_range]; omega))) (fun i σ F H => ∃ (ns : List Int) (x : Option V), σ = [some (.ref t), some (.int m), some (.int z), some (.ref l), x] ∧ Own F H l (.lst (ns.map V.int)) ∧ ns.length = i + 1 ∧ Tp F H t (B + 1 + i)) (fun F H s => ⟨[_], none, rfl, o.up s, rfl, ((hT.up s2).up s).le (by omega)⟩) ?_ ?_
    · rintro Fb Hb sb i d x σ Fa Ha F H hd hst ⟨ns, y, rfl, o, hns, hT⟩ s r
      obtain ⟨hi, rfl⟩ := rgD_at hd
      cases r.of_int
      replace o := o.up s
      replace hT := hT.up s
      have r_law_found := RpAll.of_ints (K := K) (F := F) ns
      have o_law_found := o
      refine ⟨.ref l, rfl, .inl ⟨rfl, _, .inl (.inl o.2)⟩, ?_⟩
      refine (de_ixL (dl_own rfl o_law_found r_law_found) (de_neg de_int) (at_neg1 (by omega))) F H (.refl s.fh) _ fun v F1 H1 s1 r => ?_
      cases r.of_int
      refine run_T (K := K) s1.fh (2 * z + 1) rfl (da_cons (de_ar (de_arC de_int (de_vi rfl) (by first | exact .inl ⟨by omega, by omega⟩ | exact .inr ⟨by omega, by omega⟩)) de_int) da_nil) ⟨by omega, by omega⟩ (hT.up s1) (by omega) fun v d F2 H2 s2 hT r hd => ?_
      obtain ⟨q, rfl, q0, q1⟩ := hd
      cases r.of_int
      change tCons (tOp (rI0 fun i j => .int (i - j)) (tOp (rI0 fun i j => .int (i + j)) (tC (.int (ns.getD (ns.length - 1) 0))) (tC (.int q))) (tVar 2)) tNil _ _ (fun vs H2 => rAppend (.ref l) vs H2 _)
      have o2 := (o.up s1).st s2 (by simpa using ht)
      refine app_tail (K := K) s2.fh o2 (by rw [List.length_map]; omega) (de_ar (de_ar (de_c fun _ => .int _) (de_c fun _ => .int _)) (de_vi rfl)) fun v F3 H3 s3 r o3 => ?_
      cases r.of_int
      have hst2 : DL.Step [l, t] F H F3 H3 := (s1.w.trans s2.add).trans (s3.wide (by simp))
      refine ⟨F3, hst.trans hst2, ns ++ [_], _, rfl, by rw [List.map_append]; exact o3, by rw [List.length_append, hns]; rfl, (hT.st s3 (by simpa using ht.symm)).le (by omega)⟩
    · rintro σ F3 H3 hst ⟨ns, y, rfl, o, hns, hT⟩
      have st : DL.Step [t] F H F3 H3 := (((s1.add).trans s2.w).trans hst).drop hl0
      rw [rgD_len] at hns hT
      exact s_retO (K := K) st hl0 rfl o (.of_ints ns) fun F' st' r hF => k _ _ F' H3 st' ((hT.frzd hF ht.symm).le (by omega)) r ⟨ns, rfl, by omega⟩

end
end My
end

section
set_option maxRecDepth 100000
set_option maxHeartbeats 4000000
namespace My
open PySem PySem.Spec PyProof.Rows L2 DL Sent
section
variable {P : Program} {w : World} {K : PySem.W.Frag} {mg : Str → Option Value} {base : Heap}
theorem sc_law_part : FnScope ["_law_tape_here", "_law_some", "_law_many", "_law_left", "_law_k"] ["_law_tape_here", "_law_some", "_law_many"] (defScope st_law_part) := ⟨rfl, rfl, rfl, by decide +kernel, rfl, by decide +kernel, by decide +kernel⟩
abbrev sp_law_part (K : PySem.W.Frag) : Sp := SpT K (α := List Int × Int) (fun a => [iL a.1, .int a.2]) (fun a => a.2 = a.1.length ∧ a.1.length ≤ 50) 50 fun a d => ∃ ps : List Int, d = iL ps ∧ ps.Perm a.1
theorem seqIndex_ok {q : Int} {n : Nat} (h0 : 0 ≤ q) (h1 : q < (n : Int)) : seqIndex? q n = some q.toNat := by
  unfold seqIndex?
  have e : (if q < 0 then q + (n : Int) else q) = q := if_neg (by omega)
  simp only [e]
  rw [if_pos (by simp; omega)]
theorem erase_perm {xs : List Int} {k : Nat} (h : k < xs.length) : (xs[k] :: xs.eraseIdx k).Perm xs := by
  rw [List.eraseIdx_eq_take_drop_succ]
  have e : xs = xs.take k ++ (xs[k] :: xs.drop (k + 1)) := by rw [List.getElem_cons_drop h, List.take_append_drop]
  refine List.Perm.trans List.perm_middle.symm ?_
  rw [← e]
theorem ok_law_part (T : Txt K mg) : FnOk P w K mg base CX0 2 T.law_part.f T.law_part.fd ["_law_tape_here", "_law_some", "_law_many"] (sp_law_part K) := by
  have nd := sc_law_part.nd
  have G_law_draw := ok_law_draw (P := P) (w := w) (base := base) T
  refine T.law_part.F.ok sc_law_part (fun vs H Q E h => ?_) (fun cdv A outer s H vs Q E hr h => ?_)
  · obtain ⟨F, t, us, n, B, _, rfl, r, _⟩ := h
    rw [List.length_cons, r.len]; rfl
  · obtain ⟨F, t, us, ⟨ns, m⟩, B, w, rfl, r, ⟨hm, hn⟩, hT, hB, k⟩ := h
    dsimp only at r k hm hn
    obtain ⟨x1, x2, rfl, h_law_some, h2⟩ := r.two
    cases h2.of_int
    subst hm
    refine ⟨_, (pss_cons (ps_set (i := 3) nd rfl (Or.inr rfl) (pe_callTy call_list_of (by rfl) T.b_list (by decide +kernel) (pa_cons (pv 1) pa_nil)))
      (pss_one (ps_ret (pe_lc (own := [("_law_k", 4)]) (g := (gName 4)) (tt := tYes) (te := (tBM K "list" rPopAt (tVar 3) (tCons (tCall (sp_law_draw K) [] E0 (tCons (tVar 0) (tCons (tCB (rbLen K) (tCons (tVar 3) tNil)) tNil))) tNil))) rfl nd (pi_range1 rfl T.b_range (pa_cons (pv 2) pa_nil)) (blkOk_by (N := ["_law_tape_here", "_law_some", "_law_many", "_law_left", "_law_k"]) (sc := defScope st_law_part) (by decide +kernel)) (fun _ _ _ _ _ => (pg_name (i := 4) nd rfl (Or.inl rfl))) (fun _ _ _ _ _ => pts_nil) (fun _ _ _ _ _ => (pe_bm PySem.F.plainAttrs_list PySem.F.slot_list_pop PySem.F.type_list_pop mt_popAt (pv 3) (pa_cons (pe_call G_law_draw hr (by rfl) T.law_draw.g T.law_draw.F.kp T.law_draw.b .nil pass0 (pa_cons (pv 0) (pa_cons (pe_callB call_len_seq (by rfl) T.b_len (by decide +kernel) (pa_cons (pv 3) pa_nil)) pa_nil))) pa_nil))))))), ?_⟩
    refine s_ownL (K := K) w (ds_l (dl_of (de_var rfl h_law_some))) fun l xs F1 H1 hl0 s1 o r1 => ?_
    cases r1.ints
    have ht : l ≠ t := fun e => hT.there (by rw [← e]; exact hl0)
    have hT1 := hT.up s1
    refine r_lc (K := K) (M := [l, t]) s1.fh (di_r1 (de_vi rfl) (by omega) (by omega)) (by rw [rgD_len]; omega) (fun a ha => ?_) (fun i es F H => ∃ got rest : List Int, es = got.map .int ∧ Own F H l (.lst (rest.map V.int)) ∧ (got ++ rest).Perm ns ∧ got.length = i ∧ Tp F H t (B + i)) ?_ ?_ ?_ ?_
    · rcases List.mem_cons.mp ha with rfl | ha
      · rw [o.2]; exact fun z => nomatch z
      · rw [List.mem_singleton.mp ha]; exact hT1.there
    · rintro i es F1 H1 F2 H2 hE ⟨got, rest, rfl, o, hp, hg, hT⟩
      obtain ⟨e1, e2⟩ := hE l (by simp)
      obtain ⟨e3, e4⟩ := hE t (by simp)
      exact ⟨got, rest, rfl, ⟨e1.trans o.1, e2.trans o.2⟩, hp, hg, hT.of e3 e4⟩
    · exact fun F H s => ⟨[], ns, rfl, o.up s, List.Perm.refl _, rfl, (hT1.up s).le (by omega)⟩
    · rintro Fb Hb sb i d x es Fa Ha F H hd hes hst ⟨got, rest, rfl, o, hp, hg, hT⟩ s r Nx hN
      obtain ⟨hi, rfl⟩ := rgD_at hd
      cases r.of_int
      replace o := o.up s
      replace hT := hT.up s
      have hlen := hp.length_eq
      rw [List.length_append] at hlen
      refine ⟨rfl, .ref l, rfl, .inl ⟨rfl, _, .inl (.inl o.2)⟩, ?_⟩
      have r_law_left := RpAll.of_ints (K := K) (F := F) rest
      have o_law_left := o
      refine run_T (K := K) s.fh (rest.length : Int) rfl (DA.is (da_cons (de_len (ds_l (dl_own rfl o_law_left r_law_left))) da_nil) (by rw [List.length_map])) ⟨by omega, by omega⟩ hT (by omega) fun v d F2 H2 s2 hT2 r hd2 => ?_
      obtain ⟨q, rfl, q0, q1⟩ := hd2
      cases r.of_int
      have o2 := o.st s2 (by simpa using ht)
      have hq : q.toNat < rest.length := by omega
      have st := Step.put (M := [l]) (o' := .lst ((rest.map V.int).eraseIdx q.toNat)) s2.fh o2 List.mem_cons_self
      refine ⟨l, rest.map V.int, q, q.toNat, .int rest[q.toNat], rfl, rfl, o2.2, by omega, by omega, by rw [List.length_map]; exact seqIndex_ok q0 q1, by rw [List.getElem?_map, List.getElem?_eq_getElem hq]; rfl, ?_⟩
      refine hN _ (.int rest[q.toNat]) F2 _ (s2.add.trans (st.wide (by simp))) (.int _) ⟨got ++ [rest[q.toNat]], rest.eraseIdx q.toNat, by rw [List.map_append]; rfl, ?_, ?_, by rw [List.length_append, hg]; rfl, (hT2.st st (by simpa using ht.symm)).le (by omega)⟩
      · have e : (rest.eraseIdx q.toNat).map V.int = (rest.map V.int).eraseIdx q.toNat := by
          rw [List.eraseIdx_eq_take_drop_succ, List.eraseIdx_eq_take_drop_succ, List.map_append, List.map_take, List.map_drop]
        rw [e]
        exact o2.put
      · rw [List.append_assoc, List.singleton_append]
        exact (List.Perm.append_left got (erase_perm hq)).trans hp
    · rintro es p F2 H2 hes hst ⟨got, rest, rfl, o, hp, hg, hT⟩ r
      rw [rgD_len] at hg hT
      have st : DL.Step [t] F H F2 H2 := ((s1.w).trans hst).drop hl0
      have e : rest = [] := by
        have := hp.length_eq
        rw [List.length_append] at this
        exact List.eq_nil_of_length_eq_zero (by omega)
      subst e
      rw [List.append_nil] at hp
      exact k _ _ F2 H2 st (hT.le (by omega)) r ⟨got, rfl, hp⟩

end
end My
end

section
set_option maxRecDepth 100000
set_option maxHeartbeats 4000000
namespace My
open PySem PySem.Spec PyProof.Rows L2 DL Sent
section
variable {P : Program} {w : World} {K : PySem.W.Frag} {mg : Str → Option Value} {base : Heap}
/-- how long each is on its way -/
def yearsF : List Int → List Int → List Int
  | _, [] => []
  | ns, d :: ds => ((behind ns d).sum - (ns.take (ns.length - 1)).sum) :: yearsF (behind ns d) ds
theorem years_snoc : ∀ (ds : List Int) (ns : List Int) (i : Nat) (d : Int), ds[i]? = some d → yearsF ns (ds.take (i + 1)) = yearsF ns (ds.take i) ++ [(behind (sentF ns (ds.take i)) d).sum - ((sentF ns (ds.take i)).take ((sentF ns (ds.take i)).length - 1)).sum]
  | [], _, _, _, h => by simp at h
  | x :: xs, ns, 0, d, h => by
    have e : x = d := Option.some.inj h
    subst e
    rfl
  | x :: xs, ns, i + 1, d, h => by
    have ih := years_snoc xs (behind ns x) i d (by simpa using h)
    rw [List.take_succ_cons, List.take_succ_cons, yearsF, yearsF, ih]
    rfl
theorem years_len (ns ds : List Int) : (yearsF ns ds).length = ds.length := by
  induction ds generalizing ns with
  | nil => rfl
  | cons d ds ih => rw [yearsF, List.length_cons, List.length_cons, ih]
abbrev sp_sent_years (K : PySem.W.Frag) : Sp := SpP K (α := PyData × PyData × List Int × List Int) (fun a => [a.1, a.2.1]) (fun a => SeqD a.1 (a.2.2.1.map .int) ∧ SeqD a.2.1 (a.2.2.2.map .int) ∧ a.2.2.1.length ≤ 1000 ∧ a.2.2.2.length ≤ 1000) fun a => iL (yearsF a.2.2.1 a.2.2.2)
theorem ok_sent_years (T : Txt K mg) : FnOk P w K mg base CX0 2 T.sent_years.f T.sent_years.fd ["ground", "drops"] (sp_sent_years K) := by
  have nd := sc_sent_years.nd
  have G_behind_one := ok_behind_one (P := P) (w := w) (base := base) T
  refine T.sent_years.F.ok sc_sent_years (fun vs H Q E h => ?_) (fun cdv A outer s H vs Q E hr h => ?_)
  · obtain ⟨F, a, _, r, _⟩ := h
    exact r.len
  · obtain ⟨F, ⟨dg, dd, ns, ds⟩, w, r, ⟨q_ground, q_drops, hl, hl2⟩, k⟩ := h
    dsimp only at q_ground q_drops hl hl2 r k
    obtain ⟨x1, x2, rfl, h_ground, h_drops⟩ := r.two
    refine ⟨_, (pss_cons (ps_par (i := 2) (j := 3) (by rfl) nd rfl rfl (by decide) rfl rfl (pa_cons (pe_callTy call_list_of (by rfl) T.b_list (by decide +kernel) (pa_cons (pv 0) pa_nil)) (pa_cons (pe_lst pa_nil) pa_nil)) (by rfl))
      (pss_cons (ps_for PassesOwn.never rfl (DL.pi_seq (pv 1)) (pg_name (i := 4) nd rfl (Or.inl rfl))
      (pss_cons (ps_set (i := 5) nd rfl (Or.inl rfl) (pe_call G_behind_one hr (by rfl) T.behind_one.g T.behind_one.F.kp T.behind_one.b .nil pass0 (pa_cons (pv 2) (pa_cons (pv 4) pa_nil))))
      (pss_cons (ps_expr (pe_bm PySem.F.plainAttrs_list PySem.F.slot_list_append PySem.F.type_list_append mt_append (pv 3) (pa_cons (pe_op op_sub (pe_callB (cr_sum rfl) (by rfl) T.b_sum (by decide +kernel) (pa_cons (pv 5) pa_nil)) (pe_callB (cr_sum rfl) (by rfl) T.b_sum (by decide +kernel) (pa_cons (pe_slice sl_list (pv 2) po_none (po_some (pe_un un_neg pe_int))) pa_nil))) pa_nil)))
      (pss_one (ps_set (i := 2) nd rfl (Or.inl rfl) (pv 5))))))
      (pss_one (ps_ret (pv 3))))), ?_⟩
    refine s_parL (K := K) w (de_list (ds_S (de_var rfl h_ground) q_ground)) da_nil (by show 0 ≤ 100000; decide) fun v0 l xs F1 H1 hl0 s1 h_left o r1 => ?_
    cases r1
    replace h_drops := h_drops.up s1.ff
    refine s_for (K := K) s1.fh (M := [l]) (di_S (de_var rfl h_drops) q_drops) (fun i σ F H => ∃ (v : V) (x y : Option V), σ = [some x1, some x2, some v, some (.ref l), x, y] ∧ Rp K F v (iL (sentF ns (ds.take i))) ∧ Own F H l (.lst ((yearsF ns (ds.take i)).map V.int))) (fun F H s => ⟨v0, none, none, rfl, h_left.up s.ff, o.up s⟩) ?_ ?_
    · rintro Fb Hb sb i d x σ Fa Ha F H hd hst ⟨v, y, z, rfl, h_left, o⟩ s r
      rw [List.getElem?_map] at hd
      obtain ⟨n, hn, rfl⟩ := Option.map_eq_some_iff.mp hd
      have hi := (List.getElem?_eq_some_iff.mp hn).1
      cases r.of_int
      replace h_left := h_left.up s.ff
      replace o := o.up s
      refine s_asg (K := K) s.fh (de_callP (a := (sentF ns (ds.take i), n)) (da_cons (de_var rfl h_left) (da_cons (de_vi rfl) da_nil)) ?_) fun v2 F1 H1 s1 h_behind => ?_
      · show (sentF ns (ds.take i)).length ≤ 1000
        rw [sent_len]; omega
      replace h_left := h_left.up s1.ff
      replace o := o.up s1
      refine s_app (K := K) s1.fh o rfl (by rw [List.length_map, years_len, List.length_take]; omega) (de_ar (de_sumL (ns := behind (sentF ns (ds.take i)) n) (dl_of (de_var rfl h_behind))) (de_sumL (ns := (sentF ns (ds.take i)).take ((sentF ns (ds.take i)).length - 1)) (DL.is (dl_of (de_slL (dl_of (de_var rfl h_left)) do_none (do_some (de_neg de_int)))) ?_))) fun v3 F2 H2 s2 r o2 => ?_
      · show cutQ _ none (some (-1)) = _
        rw [cutQ_map, cutQ_pre]
      cases r.of_int
      refine s_asg (K := K) s2.fh (de_var rfl (h_behind.up s2.ff)) fun v4 F3 H3 s3 h4 => ?_
      refine ⟨F3, ((hst.trans s1.w).trans s2).trans s3.w, v4, _, _, rfl, ?_, ?_⟩
      · rw [sent_snoc _ _ _ _ hn]; exact h4
      · rw [years_snoc _ _ _ _ hn, List.map_append]; exact o2.up s3
    · rintro σ F2 H2 hst ⟨v, y, z, rfl, h_left, o⟩
      have st : St0 F H F2 H2 := (s1.w.trans hst).drop hl0
      rw [List.length_map, List.take_length] at o
      exact s_retO (K := K) st hl0 rfl o (.of_ints _) fun F' st' r _ => k _ F' H2 st' r
theorem sc_law_years_right : FnScope ["_law_floor", "_law_drops", "_law_left", "_law_due_here", "_law_drop", "_law_later"] ["_law_floor", "_law_drops"] (defScope st_law_years_right) := ⟨rfl, rfl, rfl, by decide +kernel, rfl, by decide +kernel, by decide +kernel⟩
abbrev sp_law_years_right (K : PySem.W.Frag) : Sp := SpP K (α := List Int × List Int) (fun a => [iL a.1, iL a.2]) (fun a => a.1.length ≤ 1000 ∧ a.2.length ≤ 1000) fun _ => .bool true
theorem ok_law_years_right (T : Txt K mg) : FnOk P w K mg base CX0 3 T.law_years_right.f T.law_years_right.fd ["_law_floor", "_law_drops"] (sp_law_years_right K) := by
  have nd := sc_law_years_right.nd
  have G_sent := ok_sent (P := P) (w := w) (base := base) T
  have G_sent_years := ok_sent_years (P := P) (w := w) (base := base) T
  have G_law_same := ok_law_same (P := P) (w := w) (base := base) T 1
  refine T.law_years_right.F.ok sc_law_years_right (fun vs H Q E h => ?_) (fun cdv A outer s H vs Q E hr h => ?_)
  · obtain ⟨F, a, _, r, _⟩ := h
    exact r.len
  · obtain ⟨F, ⟨ns, ds⟩, w, r, ⟨hl, hl2⟩, k⟩ := h
    dsimp only at hl hl2 r k
    obtain ⟨x1, x2, rfl, h_law_floor, h_law_drops⟩ := r.two
    refine ⟨_, (pss_cons (ps_par (i := 2) (j := 3) (by rfl) nd rfl rfl (by decide) rfl rfl (pa_cons (pe_callTy call_tuple_of (by rfl) T.b_tuple (by decide +kernel) (pa_cons (pv 0) pa_nil)) (pa_cons (pe_lst pa_nil) pa_nil)) (by rfl))
      (pss_cons (ps_for PassesOwn.never rfl (pi_list (pv 1)) (pg_name (i := 4) nd rfl (Or.inl rfl))
      (pss_cons (ps_set (i := 5) nd rfl (Or.inl rfl) (pe_call G_sent hr (by rfl) T.sent.g T.sent.F.kp T.sent.b .nil pass0 (pa_cons (pv 2) (pa_cons (pe_lst (pa_cons (pv 4) pa_nil)) pa_nil))))
      (pss_cons (ps_expr (pe_bm PySem.F.plainAttrs_list PySem.F.slot_list_append PySem.F.type_list_append mt_append (pv 3) (pa_cons (pe_op op_sub (pe_callB (cr_sumT rfl) (by rfl) T.b_sum (by decide +kernel) (pa_cons (pv 5) pa_nil)) (pe_callB (cr_sumT rfl) (by rfl) T.b_sum (by decide +kernel) (pa_cons (pe_slice sl_tupA (pv 2) po_none (po_some (pe_op op_sub (pe_callB call_len_seq (by rfl) T.b_len (by decide +kernel) (pa_cons (pv 2) pa_nil)) pe_int))) pa_nil))) pa_nil)))
      (pss_one (ps_set (i := 2) nd rfl (Or.inl rfl) (pv 5))))))
      (pss_one (ps_ret (pe_and (pe_call G_law_same hr (by rfl) T.law_same.g T.law_same.F.kp T.law_same.b .nil pass0 (pa_cons (pe_call G_sent_years hr (by rfl) T.sent_years.g T.sent_years.F.kp T.sent_years.b .nil pass0 (pa_cons (pv 0) (pa_cons (pv 1) pa_nil))) (pa_cons (pv 3) pa_nil))) (pe_one (pe_call G_law_same hr (by rfl) T.law_same.g T.law_same.F.kp T.law_same.b .nil pass0 (pa_cons (pe_call G_sent hr (by rfl) T.sent.g T.sent.F.kp T.sent.b .nil pass0 (pa_cons (pv 0) (pa_cons (pv 1) pa_nil))) (pa_cons (pv 2) pa_nil))))))))), ?_⟩
    refine s_parL (K := K) w (de_tuple (ds_l (dl_of (de_var rfl h_law_floor)))) da_nil (by show 0 ≤ 100000; decide) fun v0 l xs F1 H1 hl0 s1 h_left o r1 => ?_
    cases r1
    replace h_law_floor := h_law_floor.up s1.ff
    replace h_law_drops := h_law_drops.up s1.ff
    refine s_for (K := K) s1.fh (M := [l]) (di_L (de_var rfl h_law_drops)) (fun i σ F H => ∃ (v : V) (x y : Option V), σ = [some x1, some x2, some v, some (.ref l), x, y] ∧ Rp K F v (iT (sentF ns (ds.take i))) ∧ Own F H l (.lst ((yearsF ns (ds.take i)).map V.int))) (fun F H s => ⟨v0, none, none, rfl, h_left.up s.ff, o.up s⟩) ?_ ?_
    · rintro Fb Hb sb i d x σ Fa Ha F H hd hst ⟨v, y, z, rfl, h_law_left, o⟩ s r
      rw [List.getElem?_map] at hd
      obtain ⟨n, hn, rfl⟩ := Option.map_eq_some_iff.mp hd
      have hi := (List.getElem?_eq_some_iff.mp hn).1
      cases r.of_int
      replace h_law_left := h_law_left.up s.ff
      replace o := o.up s
      refine s_asg (K := K) s.fh (de_callP (a := (iT (sentF ns (ds.take i)), iL [n], sentF ns (ds.take i), [n])) (da_cons (de_var rfl h_law_left) (da_cons (de_lst (da_cons (de_vi rfl) da_nil) (by show 1 ≤ 100000; decide)) da_nil)) ⟨.t _, .l _, ?_⟩) fun v2 F1 H1 s1 h_law_later => ?_
      · show (sentF ns (ds.take i)).length ≤ 1000
        rw [sent_len]; omega
      replace h_law_left := h_law_left.up s1.ff
      replace o := o.up s1
      refine s_app (K := K) s1.fh o rfl (by rw [List.length_map, years_len, List.length_take]; omega) (de_ar (de_sumT (ns := behind (sentF ns (ds.take i)) n) (du_of (de_var rfl h_law_later))) (de_sumT (ns := (sentF ns (ds.take i)).take ((sentF ns (ds.take i)).length - 1)) (DU.is (du_of (de_slT (du_of (de_var rfl h_law_left)) do_none (do_some (de_ar (de_len (ds_u (du_of (de_var rfl h_law_left)))) de_int)))) ?_))) fun v3 F2 H2 s2 r o2 => ?_
      · rw [List.length_map, cutQ_map]
        congr 1
        by_cases h0 : (sentF ns (ds.take i)).length = 0
        · rw [List.eq_nil_of_length_eq_zero h0]; rfl
        · have e : (((sentF ns (ds.take i)).length : Nat) : Int) - 1 = (((sentF ns (ds.take i)).length - 1 : Nat) : Int) := by omega
          rw [e, cutQ_to]
      cases r.of_int
      refine s_asg (K := K) s2.fh (de_var rfl (h_law_later.up s2.ff)) fun v4 F3 H3 s3 h4 => ?_
      refine ⟨F3, ((hst.trans s1.w).trans s2).trans s3.w, v4, _, _, rfl, ?_, ?_⟩
      · rw [sent_snoc _ _ _ _ hn]; exact h4
      · rw [years_snoc _ _ _ _ hn, List.map_append]; exact o2.up s3
    · rintro σ F2 H2 hst ⟨v, y, z, rfl, h_law_left, o⟩
      have st : St0 F H F2 H2 := (s1.w.trans hst).drop hl0
      rw [List.length_map, List.take_length] at o h_law_left
      have st2 := st.frz hl0 o
      have h_law_due_here : Rp K (upd F2 l _) (.ref l) (iL (yearsF ns ds)) := .lst upd_same ((RpAll.of_ints _).up (frz_ff o))
      replace h_law_floor := (h_law_floor.up hst.ff).up (frz_ff o)
      replace h_law_drops := (h_law_drops.up hst.ff).up (frz_ff o)
      replace h_law_left := h_law_left.up (frz_ff o)
      dsimp only
      refine s_ret (K := K) st2.fh (de_and (a := true) (b := true) (de_callP (iL (yearsF ns ds)) (da_cons (de_callP (iL ns, iL ds, ns, ds) (da_cons (de_var rfl h_law_floor) (da_cons (de_var rfl h_law_drops) da_nil)) (by exact ⟨.l _, .l _, hl, hl2⟩)) (da_cons (de_var rfl h_law_due_here) da_nil)) (by exact .list (by rw [List.length_map, years_len]; omega) (.ints _))) fun _ => de_callP (iT (sentF ns ds)) (da_cons (de_callP (iL ns, iL ds, ns, ds) (da_cons (de_var rfl h_law_floor) (da_cons (de_var rfl h_law_drops) da_nil)) (by exact ⟨.l _, .l _, hl⟩)) (da_cons (de_var rfl h_law_left) da_nil)) (by exact .tuple (by rw [List.length_map, sent_len]; omega) (.ints _))) fun v F3 H3 s3 r => k v F3 H3 (st2.trans s3) r
end
end My
end

section
set_option maxRecDepth 100000
set_option maxHeartbeats 4000000
namespace My
open PySem PySem.Spec PyProof.Rows L2 DL Sent
section
variable {P : Program} {w : World} {K : PySem.W.Frag} {mg : Str → Option Value} {base : Heap}
theorem sc_law_due : FnScope ["_law_floor", "_law_drops", "_law_great", "_law_found", "_law_cell", "_law_k"] ["_law_floor", "_law_drops"] (defScope st_law_due) := ⟨rfl, rfl, rfl, by decide +kernel, rfl, by decide +kernel, by decide +kernel⟩
abbrev sp_law_due (K : PySem.W.Frag) : Sp := SpP K (α := List Int × List Int) (fun a => [iL a.1, iL a.2]) (fun a => a.1.length ≤ 1000 ∧ a.2.length ≤ a.1.length ∧ a.2.length < 64) fun a => iT (dueF a.1 a.2)
theorem ok_law_due (T : Txt K mg) : FnOk P w K mg base CX0 1 T.law_due.f T.law_due.fd ["_law_floor", "_law_drops"] (sp_law_due K) := by
  have nd := sc_law_due.nd
  refine T.law_due.F.ok sc_law_due (fun vs H Q E h => ?_) (fun cdv A outer s H vs Q E hr h => ?_)
  · obtain ⟨F, a, _, r, _⟩ := h
    exact r.len
  · obtain ⟨F, ⟨ns, ds⟩, w, r, ⟨hl, hd, h64⟩, k⟩ := h
    dsimp only at hl hd h64 r k
    obtain ⟨x1, x2, rfl, h_law_floor, h_law_drops⟩ := r.two
    refine ⟨_, (pss_cons (ps_asg (pe_tup (pa_cons (pe_revL (pe_callB cr_sorted (by rfl) T.b_sorted (by decide +kernel) (pa_cons (pv 1) pa_nil))) (pa_cons (pe_lst pa_nil) pa_nil))) (pg_tup rfl (pgs_cons (pg_name (i := 2) nd rfl (Or.inr rfl)) (pgs_cons (pg_name (i := 3) nd rfl (Or.inl rfl)) pgs_nil))))
      (pss_cons (ps_for PassesOwn.never rfl (pi_range1 rfl T.b_range (pa_cons (pe_op op_sub (pe_callB call_len_seq (by rfl) T.b_len (by decide +kernel) (pa_cons (pv 0) pa_nil)) (pe_callB call_len_seq (by rfl) T.b_len (by decide +kernel) (pa_cons (pv 1) pa_nil))) pa_nil)) (pg_name (i := 4) nd rfl (Or.inr rfl))
      (pss_one (ps_expr (pe_bm PySem.F.plainAttrs_list PySem.F.slot_list_append PySem.F.type_list_append mt_append (pv 3) (pa_cons (pe_callB (cr_max rfl) (by rfl) T.b_max (by decide +kernel) (pa_cons (pe_lc (own := [("_law_k", 5)]) (g := (gName 5)) (tt := tYes) (te := (tOp (rI0 fun i j => .int (i + j)) (tOp (rIxL K) (tVar 0) (tOp (rI0 fun i j => .int (i + j)) (tVar 4) (tVar 5))) (tCB (rSum K) (tCons (tSl (rSlL K) (tVar 2) tNoPart (tPart (tVar 5))) tNil)))) rfl nd (pi_range1 rfl T.b_range (pa_cons (pe_op op_add (pe_callB call_len_seq (by rfl) T.b_len (by decide +kernel) (pa_cons (pv 1) pa_nil)) pe_int) pa_nil)) (blkOk_by (N := ["_law_floor", "_law_drops", "_law_great", "_law_found", "_law_cell", "_law_k"]) (sc := defScope st_law_due) (by decide +kernel)) (fun _ _ _ _ _ => (pg_name (i := 5) nd rfl (Or.inl rfl))) (fun _ _ _ _ _ => pts_nil) (fun _ _ _ _ _ => (pe_op op_add (pe_ix ix_list (pv 0) (pe_op op_add (pv 4) (pv 5)) (fun _ _ => rfl)) (pe_callB (cr_sum rfl) (by rfl) T.b_sum (by decide +kernel) (pa_cons (pe_slice sl_list (pv 2) po_none (po_some (pv 5))) pa_nil))))) pa_nil)) pa_nil)))))
      (pss_one (ps_ret (pe_callTy call_tuple_of (by rfl) T.b_tuple (by decide +kernel) (pa_cons (pv 3) pa_nil)))))), ?_⟩
    refine s_tupL (K := K) w (DE.is (de_revL (dl_of (de_sorted (ns := ds) (dl_of (de_var rfl h_law_drops)) h64))) (d := iL (up ds).reverse) (by rw [← List.map_reverse])) da_nil (by show 0 ≤ 100000; decide) fun v0 l xs F1 H1 hl0 s1 h_law_great o r1 => ?_
    cases r1
    replace h_law_floor := h_law_floor.up s1.ff
    replace h_law_drops := h_law_drops.up s1.ff
    refine s_for (K := K) s1.fh (M := [l]) (di_r1 (de_ar (de_len (ds_l (dl_of (de_var rfl h_law_floor)))) (de_len (ds_l (dl_of (de_var rfl h_law_drops))))) (by first | omega | (simp only [List.length_map, List.length_range]; omega)) (by first | omega | (simp only [List.length_map, List.length_range]; omega))) (fun i σ F H => ∃ (x : Option V), σ = [some x1, some x2, some v0, some (.ref l), x, none] ∧ Own F H l (.lst (((dueF ns ds).take i).map V.int))) (fun F H s => ⟨none, rfl, o.up s⟩) ?_ ?_
    · rintro Fb Hb sb i d x σ Fa Ha F H hdd hst ⟨y, rfl, o⟩ s r
      obtain ⟨hi, rfl⟩ := rgD_at hdd
      rw [List.length_map, List.length_map] at hi
      cases r.of_int
      replace o := o.up s
      replace h_law_floor := h_law_floor.up (sb.ff.trans hst.ff)
      replace h_law_drops := h_law_drops.up (sb.ff.trans hst.ff)
      replace h_law_great := h_law_great.up (sb.ff.trans hst.ff)
      refine s_app (K := K) s.fh o rfl (by rw [List.length_map, List.length_take]; omega) (de_mxL (ns := (List.range (ds.length + 1)).map fun k => ns.getD (i + k) 0 + ((up ds).reverse.take k).sum) (dl_of (DE.is (de_lc1 (as := List.range (ds.length + 1)) (enc := fun k => .int (0 + ((k : Nat) : Int))) (f := fun k => .int (ns.getD (i + k) 0 + ((up ds).reverse.take k).sum)) ?_ ?_ (fun _ => rfl) fun k hk x F' H' s r => ?_) ?_)) ?_) fun v F2 H2 s2 r o2 => ?_
      · refine DI.is (di_r1 (de_ar (de_len (ds_l (dl_of (de_var rfl h_law_drops)))) de_int) (by first | omega | (simp only [List.length_map, List.length_range]; omega)) (by first | omega | (simp only [List.length_map, List.length_range]; omega))) ?_
        rw [List.length_map, show ((ds.length : Int) + 1).toNat = ds.length + 1 by omega]; rfl
      · rw [List.length_range]; omega
      · cases r.of_int
        have hk' := List.mem_range.mp hk
        refine de_ar (de_ixL (dl_of (de_var rfl (h_law_floor.up s.ff))) (de_ar (de_vi rfl) (de_vi rfl)) (at_ix (i + k) (by omega) (by omega))) (de_sumL (DL.is (dl_of (de_slL (dl_of (de_var rfl (h_law_great.up s.ff))) do_none (do_some (de_vi rfl)))) ?_))
        rw [cutQ_map, Int.zero_add, cutQ_to]
      · rw [List.map_map]; rfl
      · rw [List.length_map, List.length_range]; omega
      · cases r.of_int
        refine ⟨F2, hst.trans s2, _, rfl, ?_⟩
        have hdue : (dueF ns ds)[i]? = some (mx ((List.range (ds.length + 1)).map fun k => ns.getD (i + k) 0 + ((up ds).reverse.take k).sum)) := by
          unfold dueF
          rw [List.getElem?_map, List.getElem?_range (by omega)]
          rfl
        rw [List.take_add_one, hdue, List.map_append]
        exact o2
    · rintro σ F2 H2 hst ⟨y, rfl, o⟩
      have hlen : (rgD 0 (((ns.map PyData.int).length : Int) - ((ds.map PyData.int).length : Int)).toNat).length = (dueF ns ds).length := by
        unfold dueF
        rw [rgD_len, List.length_map, List.length_map, List.length_map, List.length_range]; omega
      rw [hlen, List.take_length] at o
      have st : St0 F H F2 H2 := (s1.w.trans hst).drop hl0
      refine s_ret (K := K) st.fh (de_tuple (ds_l (dl_own rfl o (RpAll.of_ints _)))) fun v F3 H3 s3 r => k v F3 H3 (st.trans s3) r
end
end My
end

section
set_option maxRecDepth 100000
set_option maxHeartbeats 8000000
namespace My
open PySem PySem.Spec PyProof.Rows L2 DL Sent
section
variable {P : Program} {w : World} {K : PySem.W.Frag} {mg : Str → Option Value} {base : Heap}
theorem sc_law_right : FnScope ["_law_tape_here", "_law_many", "_law_wide", "_law_top", "_law_floor", "_law_drops", "_law_due_here", "_law_orders", "_law_times", "_law_more", "_law_great", "_law_told", "_law_k", "_law_again", "_law_order", "_law_height", "_law_drop"] ["_law_tape_here"] (defScope st_law_right) := ⟨rfl, rfl, rfl, by decide +kernel, rfl, by decide +kernel, by decide +kernel⟩
theorem menu4 {q : Int} (h0 : 0 ≤ q) (h1 : q < 4) : 0 ≤ [2, 9, 1000, (10 : Int) ^ (5 : Int).toNat].getD q.toNat 0 ∧ [2, 9, 1000, (10 : Int) ^ (5 : Int).toNat].getD q.toNat 0 ≤ 1000000000 := by
  have : q = 0 ∨ q = 1 ∨ q = 2 ∨ q = 3 := by omega
  rcases this with rfl | rfl | rfl | rfl <;> decide
theorem menu5 {q : Int} (h0 : 0 ≤ q) (h1 : q < 5) : 1 ≤ [1, 3, 12, 1000, (10 : Int) ^ (6 : Int).toNat].getD q.toNat 0 ∧ [1, 3, 12, 1000, (10 : Int) ^ (6 : Int).toNat].getD q.toNat 0 ≤ 1000000 := by
  have : q = 0 ∨ q = 1 ∨ q = 2 ∨ q = 3 ∨ q = 4 := by omega
  rcases this with rfl | rfl | rfl | rfl | rfl <;> decide
abbrev sp_law_right (K : PySem.W.Frag) : Sp := SpT K (α := Unit) (fun _ => []) (fun _ => True) 1000 fun _ d => d = .bool true
theorem ok_law_right (T : Txt K mg) : FnOk P w K mg base CX0 4 T.law_right.f T.law_right.fd ["_law_tape_here"] (sp_law_right K) := by
  have nd := sc_law_right.nd
  have G_law_draw := ok_law_draw (P := P) (w := w) (base := base) T
  have G_law_heights := ok_law_heights (P := P) (w := w) (base := base) T
  have G_law_due := ok_law_due (P := P) (w := w) (base := base) T
  have G_law_part := ok_law_part (P := P) (w := w) (base := base) T
  have G_law_same := ok_law_same (P := P) (w := w) (base := base) T 1
  have G_sent := ok_sent (P := P) (w := w) (base := base) T
  have G_law_years_right := ok_law_years_right (P := P) (w := w) (base := base) T
  refine T.law_right.F.ok sc_law_right (fun vs H Q E h => ?_) (fun cdv A outer s H vs Q E hr h => ?_)
  · obtain ⟨F, t, us, n, B, _, rfl, r, _⟩ := h
    rw [List.length_cons, r.len]; rfl
  · obtain ⟨F, t, us, n, B, w, rfl, r, _, hT, hB, k⟩ := h
    dsimp only at r k
    cases r.nil_
    refine ⟨_, (pss_cons (ps_par (i := 1) (j := 2) (by rfl) nd rfl rfl (by decide) rfl rfl (pa_cons (pe_op op_add pe_int (pe_call G_law_draw (hr.mono (by decide)) (by rfl) T.law_draw.g T.law_draw.F.kp T.law_draw.b .nil pass0 (pa_cons (pv 0) (pa_cons pe_int pa_nil)))) (pa_cons (pe_ix ix_list (pe_lst (pa_cons pe_int (pa_cons pe_int (pa_cons pe_int (pa_cons (pe_op op_pow pe_int pe_int) pa_nil))))) (pe_call G_law_draw (hr.mono (by decide)) (by rfl) T.law_draw.g T.law_draw.F.kp T.law_draw.b .nil pass0 (pa_cons (pv 0) (pa_cons pe_int pa_nil))) (fun _ _ => rfl)) pa_nil)) (by rfl))
      (pss_cons (ps_set (i := 3) nd rfl (Or.inr rfl) (pe_ix ix_list (pe_lst (pa_cons pe_int (pa_cons pe_int (pa_cons pe_int (pa_cons pe_int (pa_cons (pe_op op_pow pe_int pe_int) pa_nil)))))) (pe_call G_law_draw (hr.mono (by decide)) (by rfl) T.law_draw.g T.law_draw.F.kp T.law_draw.b .nil pass0 (pa_cons (pv 0) (pa_cons pe_int pa_nil))) (fun _ _ => rfl)))
      (pss_cons (ps_set (i := 4) nd rfl (Or.inr rfl) (pe_call G_law_heights (hr.mono (by decide)) (by rfl) T.law_heights.g T.law_heights.F.kp T.law_heights.b .nil pass0 (pa_cons (pv 0) (pa_cons (pv 1) (pa_cons (pv 2) pa_nil)))))
      (pss_cons (ps_set (i := 5) nd rfl (Or.inr rfl) (pe_lc (own := [("_law_k", 12)]) (g := (gName 12)) (tt := tYes) (te := (tOp (rI0 fun i j => .int (i + j)) (tC (.int 1)) (tCall (sp_law_draw K) [] E0 (tCons (tVar 0) (tCons (tVar 3) tNil))))) rfl nd (pi_range1 rfl T.b_range (pa_cons (pe_call G_law_draw (hr.mono (by decide)) (by rfl) T.law_draw.g T.law_draw.F.kp T.law_draw.b .nil pass0 (pa_cons (pv 0) (pa_cons (pe_callB (call_min2 rfl) (by rfl) T.b_min (by decide +kernel) (pa_cons pe_int (pa_cons (pe_op op_add (pv 1) pe_int) pa_nil))) pa_nil))) pa_nil)) (blkOk_by (N := ["_law_tape_here", "_law_many", "_law_wide", "_law_top", "_law_floor", "_law_drops", "_law_due_here", "_law_orders", "_law_times", "_law_more", "_law_great", "_law_told", "_law_k", "_law_again", "_law_order", "_law_height", "_law_drop"]) (sc := defScope st_law_right) (by decide +kernel)) (fun _ _ _ _ _ => (pg_name (i := 12) nd rfl (Or.inl rfl))) (fun _ _ _ _ _ => pts_nil) (fun _ _ _ _ _ => (pe_op op_add pe_int (pe_call G_law_draw (hr.mono (by decide)) (by rfl) T.law_draw.g T.law_draw.F.kp T.law_draw.b .nil pass0 (pa_cons (pv 0) (pa_cons (pv 3) pa_nil)))))))
      (pss_cons (ps_asg (pe_tup (pa_cons (pe_call G_law_due (hr.mono (by decide)) (by rfl) T.law_due.g T.law_due.F.kp T.law_due.b .nil pass0 (pa_cons (pv 4) (pa_cons (pv 5) pa_nil))) (pa_cons (pe_lst (pa_cons (pe_callB cr_sorted (by rfl) T.b_sorted (by decide +kernel) (pa_cons (pv 5) pa_nil)) (pa_cons (pe_revL (pe_callB cr_sorted (by rfl) T.b_sorted (by decide +kernel) (pa_cons (pv 5) pa_nil))) (pa_cons (pv 5) pa_nil)))) pa_nil))) (pg_tup rfl (pgs_cons (pg_name (i := 6) nd rfl (Or.inr rfl)) (pgs_cons (pg_name (i := 7) nd rfl (Or.inl rfl)) pgs_nil))))
      (pss_cons (ps_set (i := 7) nd rfl (Or.inl rfl) (pe_op op_cat (pv 7) (pe_lc (own := [("_law_again", 13)]) (g := (gName 13)) (tt := tYes) (te := (tCall (sp_law_part K) [] E0 (tCons (tVar 0) (tCons (tVar 5) (tCons (tCB (rbLen K) (tCons (tVar 5) tNil)) tNil))))) rfl nd (pi_range1 rfl T.b_range (pa_cons pe_int pa_nil)) (blkOk_by (N := ["_law_tape_here", "_law_many", "_law_wide", "_law_top", "_law_floor", "_law_drops", "_law_due_here", "_law_orders", "_law_times", "_law_more", "_law_great", "_law_told", "_law_k", "_law_again", "_law_order", "_law_height", "_law_drop"]) (sc := defScope st_law_right) (by decide +kernel)) (fun _ _ _ _ _ => (pg_name (i := 13) nd rfl (Or.inl rfl))) (fun _ _ _ _ _ => pts_nil) (fun _ _ _ _ _ => (pe_call G_law_part (hr.mono (by decide)) (by rfl) T.law_part.g T.law_part.F.kp T.law_part.b .nil pass0 (pa_cons (pv 0) (pa_cons (pv 5) (pa_cons (pe_callB call_len_seq (by rfl) T.b_len (by decide +kernel) (pa_cons (pv 5) pa_nil)) pa_nil))))))))
      (pss_cons (ps_if (pt_not (pt_val (pe_callB (cr_all rfl) (by rfl) T.b_all (by decide +kernel) (pa_cons (pe_lc (own := [("_law_order", 14)]) (g := (gName 14)) (tt := tYes) (te := (tCall (SpSame K 1) [] E0 (tCons (tCall (sp_sent K) [] E0 (tCons (tVar 4) (tCons (tVar 14) tNil))) (tCons (tVar 6) tNil)))) rfl nd (pi_list (pv 7)) (blkOk_by (N := ["_law_tape_here", "_law_many", "_law_wide", "_law_top", "_law_floor", "_law_drops", "_law_due_here", "_law_orders", "_law_times", "_law_more", "_law_great", "_law_told", "_law_k", "_law_again", "_law_order", "_law_height", "_law_drop"]) (sc := defScope st_law_right) (by decide +kernel)) (fun _ _ _ _ _ => (pg_name (i := 14) nd rfl (Or.inl rfl))) (fun _ _ _ _ _ => pts_nil) (fun _ _ _ _ _ => (pe_call G_law_same (hr.mono (by decide)) (by rfl) T.law_same.g T.law_same.F.kp T.law_same.b .nil pass0 (pa_cons (pe_call G_sent (hr.mono (by decide)) (by rfl) T.sent.g T.sent.F.kp T.sent.b .nil pass0 (pa_cons (pv 4) (pa_cons (pv 14) pa_nil))) (pa_cons (pv 6) pa_nil))))) pa_nil))))
      (pss_one (ps_ret pe_bl)) pss_nil)
      (pss_cons (ps_if (pt_not (pt_val (pe_callB (cr_all rfl) (by rfl) T.b_all (by decide +kernel) (pa_cons (pe_lc (own := [("_law_order", 14)]) (g := (gName 14)) (tt := tYes) (te := (tCall (sp_law_years_right K) [] E0 (tCons (tVar 4) (tCons (tVar 14) tNil)))) rfl nd (pi_list (pe_slice sl_list (pv 7) (po_some pe_int) (po_some pe_int))) (blkOk_by (N := ["_law_tape_here", "_law_many", "_law_wide", "_law_top", "_law_floor", "_law_drops", "_law_due_here", "_law_orders", "_law_times", "_law_more", "_law_great", "_law_told", "_law_k", "_law_again", "_law_order", "_law_height", "_law_drop"]) (sc := defScope st_law_right) (by decide +kernel)) (fun _ _ _ _ _ => (pg_name (i := 14) nd rfl (Or.inl rfl))) (fun _ _ _ _ _ => pts_nil) (fun _ _ _ _ _ => (pe_call G_law_years_right hr (by rfl) T.law_years_right.g T.law_years_right.F.kp T.law_years_right.b .nil pass0 (pa_cons (pv 4) (pa_cons (pv 14) pa_nil))))) pa_nil))))
      (pss_one (ps_ret pe_bl)) pss_nil)
      (pss_cons (ps_asg (pe_tup (pa_cons (pe_op op_add pe_int (pe_call G_law_draw (hr.mono (by decide)) (by rfl) T.law_draw.g T.law_draw.F.kp T.law_draw.b .nil pass0 (pa_cons (pv 0) (pa_cons (pe_op op_fdivW (pe_op op_pow pe_int pe_int) (pe_callB (cr_max rfl) (by rfl) T.b_max (by decide +kernel) (pa_cons (pe_op op_cat (pv 5) (pe_lst (pa_cons pe_int pa_nil))) pa_nil))) pa_nil)))) (pa_cons (pe_call G_law_draw (hr.mono (by decide)) (by rfl) T.law_draw.g T.law_draw.F.kp T.law_draw.b .nil pass0 (pa_cons (pv 0) (pa_cons (pe_op op_pow pe_int pe_int) pa_nil))) pa_nil))) (pg_tup rfl (pgs_cons (pg_name (i := 8) nd rfl (Or.inr rfl)) (pgs_cons (pg_name (i := 9) nd rfl (Or.inr rfl)) pgs_nil))))
      (pss_cons (ps_setLc (i := 10) (own := [("_law_height", 15)]) (g := (gName 15)) (tt := tYes) (te := (tOp (rI0 fun i j => .int (i + j)) (tOp (rI CMul fun i j => .int (i * j)) (tCB rbMin2 (tCons (tC (.int 100)) (tCons (tVar 8) tNil))) (tOp (rI0 fun i j => .int (i - j)) (tVar 15) (tOp (rIxL K) (tVar 4) (tC (.int 0))))) (tVar 9))) rfl nd rfl rfl (sw_true rfl rfl rfl (by decide +kernel)) (pi_list (pv 4)) (blkOk_by (N := ["_law_tape_here", "_law_many", "_law_wide", "_law_top", "_law_floor", "_law_drops", "_law_due_here", "_law_orders", "_law_times", "_law_more", "_law_great", "_law_told", "_law_k", "_law_again", "_law_order", "_law_height", "_law_drop"]) (sc := defScope st_law_right) (by decide +kernel)) (fun _ _ _ _ _ => (pg_name (i := 15) nd rfl (Or.inl rfl))) (fun _ _ _ _ _ => pts_nil) (fun _ _ _ _ _ => (pe_op op_add (pe_op op_mul (pe_callB (call_min2 rfl) (by rfl) T.b_min (by decide +kernel) (pa_cons pe_int (pa_cons (pv 8) pa_nil))) (pe_op op_sub (pv 15) (pe_ix ix_list (pv 4) pe_int (fun _ _ => rfl)))) (pv 9))))
      (pss_cons (ps_set (i := 11) nd rfl (Or.inl rfl) (pe_call G_sent (hr.mono (by decide)) (by rfl) T.sent.g T.sent.F.kp T.sent.b .nil pass0 (pa_cons (pv 10) (pa_cons (pe_lc (own := [("_law_drop", 16)]) (g := (gName 16)) (tt := tYes) (te := (tOp (rI CMul fun i j => .int (i * j)) (tVar 16) (tCB rbMin2 (tCons (tC (.int 100)) (tCons (tVar 8) tNil))))) rfl nd (pi_list (pv 5)) (blkOk_by (N := ["_law_tape_here", "_law_many", "_law_wide", "_law_top", "_law_floor", "_law_drops", "_law_due_here", "_law_orders", "_law_times", "_law_more", "_law_great", "_law_told", "_law_k", "_law_again", "_law_order", "_law_height", "_law_drop"]) (sc := defScope st_law_right) (by decide +kernel)) (fun _ _ _ _ _ => (pg_name (i := 16) nd rfl (Or.inl rfl))) (fun _ _ _ _ _ => pts_nil) (fun _ _ _ _ _ => (pe_op op_mul (pv 16) (pe_callB (call_min2 rfl) (by rfl) T.b_min (by decide +kernel) (pa_cons pe_int (pa_cons (pv 8) pa_nil)))))) pa_nil))))
      (pss_one (ps_ret (pe_call G_law_same (hr.mono (by decide)) (by rfl) T.law_same.g T.law_same.F.kp T.law_same.b .nil pass0 (pa_cons (pv 11) (pa_cons (pe_callTy call_tuple_of (by rfl) T.b_tuple (by decide +kernel) (pa_cons (pe_lc (own := [("_law_height", 15)]) (g := (gName 15)) (tt := tYes) (te := (tOp (rI0 fun i j => .int (i + j)) (tOp (rI CMul fun i j => .int (i * j)) (tCB rbMin2 (tCons (tC (.int 100)) (tCons (tVar 8) tNil))) (tOp (rI0 fun i j => .int (i - j)) (tVar 15) (tOp (rIxL K) (tVar 4) (tC (.int 0))))) (tVar 9))) rfl nd (pi_tup (pv 6)) (blkOk_by (N := ["_law_tape_here", "_law_many", "_law_wide", "_law_top", "_law_floor", "_law_drops", "_law_due_here", "_law_orders", "_law_times", "_law_more", "_law_great", "_law_told", "_law_k", "_law_again", "_law_order", "_law_height", "_law_drop"]) (sc := defScope st_law_right) (by decide +kernel)) (fun _ _ _ _ _ => (pg_name (i := 15) nd rfl (Or.inl rfl))) (fun _ _ _ _ _ => pts_nil) (fun _ _ _ _ _ => (pe_op op_add (pe_op op_mul (pe_callB (call_min2 rfl) (by rfl) T.b_min (by decide +kernel) (pa_cons pe_int (pa_cons (pv 8) pa_nil))) (pe_op op_sub (pv 15) (pe_ix ix_list (pv 4) pe_int (fun _ _ => rfl)))) (pv 9)))) pa_nil)) pa_nil)))))))))))))))), ?_⟩
    -- many, wide
    refine x_par (x_cons (x_op (x_c ?_)))
    refine run_T (K := K) w (40 : Int) rfl (da_cons de_int da_nil) ⟨by decide, by decide⟩ hT (by omega) fun v d F H st hT r hd => ?_
    obtain ⟨q1, rfl, a0, a1⟩ := hd
    cases r.of_int
    refine x_I0 (x_cons (x_op ?_))
    refine run_de (K := K) (te := (tLst (tCons (tC (.int 2)) (tCons (tC (.int 9)) (tCons (tC (.int 1000)) (tCons (tOp (rI CPow fun i j => .int (i ^ j.toNat)) (tC (.int 10)) (tC (.int 5))) tNil)))))) (d := .list ([2, 9, 1000, (10 : Int) ^ (5 : Int).toNat].map PyData.int)) st.fh (de_lst (da_cons de_int (da_cons de_int (da_cons de_int (da_cons (de_arC de_int de_int (cpw (by decide) (by decide))) da_nil)))) (by show 4 ≤ 100000; decide)) fun v F H s h_menu => ?_
    replace st := st.trans s.w
    refine run_T (K := K) st.fh (4 : Int) rfl (da_cons de_int da_nil) ⟨by decide, by decide⟩ (hT.up s) (by omega) fun v2 d F H s hT r hd => ?_
    obtain ⟨q2, rfl, b0, b1⟩ := hd
    cases r.of_int
    replace st := st.trans s
    replace h_menu := h_menu.up s.ff
    change tPar 1 2 (tCons (tC (.int (1 + q1))) (tCons (tOp (rIxL K) (tC v) (tC (.int q2))) tNil)) _ _ _
    have hw := menu4 b0 b1
    refine s_par (K := K) st.fh (de_k (.int (1 + q1))) (de_ixL (ds := [2, 9, 1000, (10 : Int) ^ (5 : Int).toNat].map PyData.int) (dl_of (de_k h_menu)) (de_k (.int q2)) (at_ints b0 b1)) fun v1 v2 F H s r1 r2 => ?_
    generalize [2, 9, 1000, (10 : Int) ^ (5 : Int).toNat].getD q2.toNat 0 = wide at hw r2
    cases r1.of_int; cases r2.of_int
    replace st := st.trans s.w
    replace hT := hT.up s
    -- top
    dsimp only
    refine x_seq (x_asg (x_op ?_))
    refine run_de (K := K) (te := (tLst (tCons (tC (.int 1)) (tCons (tC (.int 3)) (tCons (tC (.int 12)) (tCons (tC (.int 1000)) (tCons (tOp (rI CPow fun i j => .int (i ^ j.toNat)) (tC (.int 10)) (tC (.int 6))) tNil))))))) (d := .list ([1, 3, 12, 1000, (10 : Int) ^ (6 : Int).toNat].map PyData.int)) st.fh (de_lst (da_cons de_int (da_cons de_int (da_cons de_int (da_cons de_int (da_cons (de_arC de_int de_int (cpw (by decide) (by decide))) da_nil))))) (by show 5 ≤ 100000; decide)) fun v F H s h_menu => ?_
    replace st := st.trans s.w
    refine run_T (K := K) st.fh (5 : Int) rfl (da_cons de_int da_nil) ⟨by decide, by decide⟩ (hT.up s) (by omega) fun v2 d F H s hT r hd => ?_
    obtain ⟨q3, rfl, b0, b1⟩ := hd
    cases r.of_int
    replace st := st.trans s
    replace h_menu := h_menu.up s.ff
    change tAsg (tOp (rIxL K) (tC v) (tC (.int q3))) (gName 3) _ _ _
    have htop := menu5 b0 b1
    refine s_asgI (K := K) st.fh (de_ixL (ds := [1, 3, 12, 1000, (10 : Int) ^ (6 : Int).toNat].map PyData.int) (dl_of (de_k h_menu)) (de_k (.int q3)) (at_ints b0 b1)) fun F H s => ?_
    generalize [1, 3, 12, 1000, (10 : Int) ^ (6 : Int).toNat].getD q3.toNat 0 = tp at htop ⊢
    replace st := st.trans s.w
    replace hT := hT.up s
    -- floor
    refine run_T (K := K) st.fh (1 + q1, wide) rfl (da_cons (de_vi rfl) (da_cons (de_vi rfl) da_nil)) ⟨by dsimp only; omega, by dsimp only; omega, by dsimp only; omega, by dsimp only; omega⟩ hT (by omega) fun vf d F H s hT h_law_floor hd => ?_
    obtain ⟨ns, rfl, hns⟩ := hd
    dsimp only at hns
    replace st := st.trans s
    -- drops
    refine run_T (K := K) st.fh (min 9 (1 + q1 + 1)) rfl (da_cons (de_min2 de_int (de_ar (de_vi rfl) de_int)) da_nil) ⟨by omega, by omega⟩ hT (by omega) fun v2 d F H s hT r hd => ?_
    obtain ⟨q4, rfl, c0, c1⟩ := hd
    cases r.of_int
    replace st := st.trans s
    replace h_law_floor := h_law_floor.up s.ff
    have hq4 : q4 ≤ 8 ∧ q4 ≤ 1 + q1 := by omega
    change tAsg (tLc (iRng1 (tCons (tC (.int q4)) tNil)) (gName 12) tYes (tOp (rI0 fun i j => .int (i + j)) (tC (.int 1)) (tCall (sp_law_draw K) [] E0 (tCons (tVar 0) (tCons (tVar 3) tNil)))) [12]) (gName 5) _ _ _
    refine r_lc (K := K) (M := [t]) st.fh (di_r1 (de_k (.int q4)) (by omega) (by omega)) (by rw [rgD_len]; omega) (fun a ha => ?_) (fun i es F H => ∃ ds : List Int, es = ds.map .int ∧ (∀ d ∈ ds, 1 ≤ d ∧ d ≤ 1000000) ∧ Tp F H t (B + 1 + 1 + 1 + 60 + 1 + i)) ?_ ?_ ?_ ?_
    · rw [List.mem_singleton.mp ha]; exact hT.there
    · rintro i es F1 H1 F2 H2 hE ⟨ds, rfl, hds, hT⟩
      obtain ⟨e3, e4⟩ := hE t (by simp)
      exact ⟨ds, rfl, hds, hT.of e3 e4⟩
    · exact fun F H s => ⟨[], rfl, by simp, (hT.up s).le (by omega)⟩
    · rintro Fb Hb sb i d x es Fa Ha F H hd hes hst ⟨ds, rfl, hds, hT⟩ s r Nx hN
      obtain ⟨hi, rfl⟩ := rgD_at hd
      refine ⟨rfl, ?_⟩
      refine run_T (K := K) s.fh tp rfl (da_cons (de_vi rfl) da_nil) ⟨by omega, by omega⟩ (hT.up s) (by omega) fun v2 d F2 H2 s2 hT2 r hd => ?_
      obtain ⟨q, rfl, d0, d1⟩ := hd
      cases r.of_int
      refine ⟨1, q, rfl, rfl, hN _ (.int (1 + q)) F2 H2 s2 (.int _) ⟨ds ++ [1 + q], by rw [List.map_append]; rfl, fun d hd => ?_, hT2.le (by omega)⟩⟩
      rcases List.mem_append.mp hd with h | h
      · exact hds d h
      · rw [List.mem_singleton.mp h]; omega
    rintro es pd F H hes s ⟨ds, rfl, hds, hT⟩ h_law_drops
    rw [rgD_len] at hes hT
    rw [List.length_map] at hes
    replace st := st.trans s
    replace h_law_floor := h_law_floor.up s.ff
    have hl1 : ns.length ≤ 1000 := by omega
    have hl2 : ds.length ≤ ns.length := by omega
    have hl3 : ds.length ≤ 8 := by omega
    -- due, orders
    dsimp only [gName]
    refine s_tup2 (K := K) st.fh (d1 := iT (dueF ns ds)) (d2 := .list [iL (up ds), iL (up ds).reverse, iL ds]) (de_tup (da_cons (de_callP (ns, ds) (da_cons (de_var rfl h_law_floor) (da_cons (de_var rfl h_law_drops) da_nil)) ⟨hl1, hl2, by dsimp only; omega⟩) (da_cons (de_lst (da_cons (de_sorted (ns := ds) (dl_of (de_var rfl h_law_drops)) (by omega)) (da_cons (DE.is (de_revL (dl_of (de_sorted (ns := ds) (dl_of (de_var rfl h_law_drops)) (by omega)))) (by rw [← List.map_reverse])) (da_cons (de_var rfl h_law_drops) da_nil))) (by show 3 ≤ 100000; decide)) da_nil)) (by show 2 ≤ 100000; decide)) fun vd vo F H s h_law_due_here h_law_orders => ?_
    replace st := st.trans s.w
    replace hT := hT.up s
    replace h_law_floor := h_law_floor.up s.ff
    replace h_law_drops := h_law_drops.up s.ff
    replace hT := hT.le (C := B + 100) (by omega)
    -- two more orders
    refine ⟨_, rfl, ?_⟩
    refine r_lc (K := K) (M := [t]) (te := (tCall (sp_law_part K) [] E0 (tCons (tVar 0) (tCons (tVar 5) (tCons (tCB (rbLen K) (tCons (tVar 5) tNil)) tNil))))) st.fh (di_r1 de_int (by decide) (by decide)) (by rw [rgD_len]; decide) (fun a ha => ?_) (fun i es F H => ∃ ps : List (List Int), es = ps.map iL ∧ (∀ p ∈ ps, p.Perm ds) ∧ Tp F H t (B + 100 + 50 * i)) ?_ ?_ ?_ ?_
    · rw [List.mem_singleton.mp ha]; exact hT.there
    · rintro i es F1 H1 F2 H2 hE ⟨ps, rfl, hps, hT⟩
      obtain ⟨e3, e4⟩ := hE t (by simp)
      exact ⟨ps, rfl, hps, hT.of e3 e4⟩
    · exact fun F H s => ⟨[], rfl, by simp, (hT.up s).le (by omega)⟩
    · rintro Fb Hb sb i d x es Fa Ha F H hd hes hst ⟨ps, rfl, hps, hT⟩ s r Nx hN
      obtain ⟨hi, rfl⟩ := rgD_at hd
      refine ⟨rfl, ?_⟩
      have hi2 : i < 2 := hi
      have h_law_drops := h_law_drops.up (sb.ff.trans hst.ff)
      refine run_T (K := K) s.fh (ds, ((ds.map PyData.int).length : Int)) rfl (da_cons (de_var rfl h_law_drops) (da_cons (de_len (ds_l (dl_of (de_var rfl h_law_drops)))) da_nil)) ⟨by rw [List.length_map], by dsimp only; omega⟩ (hT.up s) (by omega) fun v2 d F2 H2 s2 hT2 r hd => ?_
      obtain ⟨p, rfl, hp⟩ := hd
      refine hN _ (iL p) F2 H2 s2 r ⟨ps ++ [p], by rw [List.map_append]; rfl, fun q hq => ?_, hT2.le (by omega)⟩
      rcases List.mem_append.mp hq with h | h
      · exact hps q h
      · rw [List.mem_singleton.mp h]; exact hp
    rintro es pd F H hes s ⟨ps, rfl, hps, hT⟩ h_new
    rw [rgD_len] at hes hT
    rw [List.length_map] at hes
    have hes : ps.length = 2 := hes
    replace st := st.trans s
    replace h_law_floor := h_law_floor.up s.ff
    replace h_law_drops := h_law_drops.up s.ff
    replace h_law_due_here := h_law_due_here.up s.ff
    replace h_law_orders := h_law_orders.up s.ff
    replace hT := hT.le (C := B + 200) (by show B + 100 + 50 * 2 ≤ B + 200; omega)
    change tAsg (tOp rCat (tC vo) (tC (.ref pd))) (gName 7) _ _ _
    refine s_asg (K := K) st.fh (de_catL (dl_of (de_k h_law_orders)) (dl_of (de_k h_new)) (by show 3 + _ ≤ _; rw [List.length_map]; omega)) fun v F H s h_law_orders => ?_
    replace st := st.trans s.w
    replace hT := hT.up s
    replace h_law_floor := h_law_floor.up s.ff
    replace h_law_drops := h_law_drops.up s.ff
    replace h_law_due_here := h_law_due_here.up s.ff
    obtain ⟨os, hos, hop, hol⟩ : ∃ os : List (List Int), [iL (up ds), iL (up ds).reverse, iL ds] ++ ps.map iL = os.map iL ∧ (∀ o ∈ os, o.Perm ds) ∧ os.length = 5 := by
      refine ⟨[up ds, (up ds).reverse, ds] ++ ps, rfl, fun o ho => ?_, by rw [List.length_append, hes]; rfl⟩
      rcases List.mem_append.mp ho with h | h
      · simp only [List.mem_cons, List.not_mem_nil, or_false] at h
        rcases h with rfl | rfl | rfl
        · exact up_perm ds
        · exact (List.reverse_perm _).trans (up_perm ds)
        · exact List.Perm.refl _
      · exact hps o h
    rw [hos] at h_law_orders
    -- every order leaves the same
    refine s_if (K := K) st.fh (b := false) (DT.is (dt_not (dt_b (de_allL (bs := os.map fun _ => true) (dl_of (DE.is (de_lc1 (as := os) (enc := iL) (f := fun _ => .bool true) (di_L (de_var rfl h_law_orders)) (by omega) (fun _ => rfl) fun o ho x F' H' s r => ?_) (by rw [List.map_map]; rfl)))))) (by simp)) (fun z => nomatch z) fun _ F H s => ?_
    · refine de_callP (iT (sentF ns o)) (da_cons (de_callP (iL ns, iL o, ns, o) (da_cons (de_var rfl (h_law_floor.up s.ff)) (da_cons (de_var rfl r) da_nil)) ⟨.l _, .l _, hl1⟩) (da_cons (DE.is (de_var rfl (h_law_due_here.up s.ff)) ?_) da_nil)) ?_
      · rw [due_eq (hop o ho) hl2]
      · refine Plain.tuple ?_ (Plain.ints _)
        rw [List.length_map, sent_len]; omega
    replace st := st.trans s.w
    replace hT := hT.up s
    replace h_law_floor := h_law_floor.up s.ff
    replace h_law_drops := h_law_drops.up s.ff
    replace h_law_due_here := h_law_due_here.up s.ff
    replace h_law_orders := h_law_orders.up s.ff
    refine s_if (K := K) st.fh (b := false) (DT.is (dt_not (dt_b (de_allL (bs := (cutQ os (some 2) (some 4)).map fun _ => true) (dl_of (DE.is (de_lc1 (as := cutQ os (some 2) (some 4)) (enc := iL) (f := fun _ => .bool true) (DI.is (di_L (de_slL (dl_of (de_var rfl h_law_orders)) (do_some de_int) (do_some de_int))) (cutQ_map _ _ _ _)) ?_ (fun _ => rfl) fun o ho x F' H' s r => ?_) (by rw [List.map_map]; rfl)))))) (by simp)) (fun z => nomatch z) fun _ F H s => ?_
    · have := cutQ_len_le os (some 2) (some 4); omega
    · have ho' : o ∈ os := List.mem_of_mem_drop (List.mem_of_mem_take ho)
      have := (hop o ho').length_eq
      exact de_callP (ns, o) (da_cons (de_var rfl (h_law_floor.up s.ff)) (da_cons (de_var rfl r) da_nil)) ⟨hl1, by dsimp only; omega⟩
    replace st := st.trans s.w
    replace hT := hT.up s
    replace h_law_floor := h_law_floor.up s.ff
    replace h_law_drops := h_law_drops.up s.ff
    replace h_law_due_here := h_law_due_here.up s.ff
    -- times, more
    have hm1 : 1 ≤ mx (ds ++ [1]) := mx_ge (by simp)
    have hm2 : mx (ds ++ [1]) ≤ 1000000 := by
      rcases List.mem_append.mp (mx_mem (ns := ds ++ [1]) (by simp)) with h | h
      · exact (hds _ h).2
      · rw [List.mem_singleton.mp h]; decide
    have hdv : 0 < (1000000 : Int) / mx (ds ++ [1]) := by
      have := Int.le_ediv_of_mul_le (c := mx (ds ++ [1])) (a := 1) (b := 1000000) (by omega) (by omega)
      omega
    have hdv2 : (1000000 : Int) / mx (ds ++ [1]) ≤ 1000000 := Int.ediv_le_self _ (by decide)
    generalize hm : mx (ds ++ [1]) = m at hm1 hm2 hdv hdv2
    refine x_next ?_
    dsimp only
    refine x_seq (x_asg (x_tup (x_cons (x_op (x_c ?_)))))
    refine run_T (K := K) st.fh (1000000 / m) rfl (da_cons (de_arC (de_arC de_int de_int (cpw (by decide) (by decide))) (DE.is (de_mxL (ns := ds ++ [1]) (DL.is (dl_of (de_catL (dl_of (de_var rfl h_law_drops)) (dl_of (de_lst (da_cons de_int da_nil) (by show 1 ≤ 100000; decide))) (by rw [List.length_map]; show _ + 1 ≤ _; omega))) (by rw [List.map_append]; rfl)) (by simp)) (by rw [hm])) (cdw (by omega) (by omega))) da_nil) ⟨by omega, by omega⟩ hT (by omega) fun v2 d F H s hT r hd => ?_
    obtain ⟨q5, rfl, d0, d1⟩ := hd
    cases r.of_int
    replace st := st.trans s
    replace h_law_floor := h_law_floor.up s.ff
    replace h_law_drops := h_law_drops.up s.ff
    replace h_law_due_here := h_law_due_here.up s.ff
    refine x_I0 (x_cons ?_)
    refine run_T (K := K) st.fh (1000000 : Int) rfl (da_cons (DE.is (de_arC de_int de_int (cpw (by decide) (by decide))) rfl) da_nil) ⟨by omega, by omega⟩ hT (by omega) fun v2 d F H s hT r hd => ?_
    obtain ⟨q6, rfl, e0, e1⟩ := hd
    cases r.of_int
    replace st := st.trans s
    replace h_law_floor := h_law_floor.up s.ff
    replace h_law_drops := h_law_drops.up s.ff
    replace h_law_due_here := h_law_due_here.up s.ff
    change tAsg (tTup (tCons (tC (.int (1 + q5))) (tCons (tC (.int q6)) tNil))) (gTup K 2 (gCons (gName 8) (gCons (gName 9) gNil))) _ _ _
    refine s_tup2 (K := K) st.fh (de_tup (da_cons (de_k (.int _)) (da_cons (de_k (.int _)) da_nil)) (by show 2 ≤ 100000; decide)) fun va vb F H s ra rb => ?_
    cases ra.of_int
    cases rb.of_int
    replace st := st.trans s.w
    replace h_law_floor := h_law_floor.up s.ff
    replace h_law_drops := h_law_drops.up s.ff
    replace h_law_due_here := h_law_due_here.up s.ff
    have hn0 : 0 < ns.length := by omega
    have hc0 : 0 ≤ min 100 (1 + q5) := by omega
    have hc1 : min 100 (1 + q5) ≤ 100 := by omega
    replace hT := hT.up s
    generalize hcc : min 100 (1 + q5) = c at hc0 hc1
    have el : ∀ (x : Int) (σ : L2.St) (F H : Hp) (v : V), σ[8]? = some (some (.int (1 + q5))) → σ[9]? = some (some (.int q6)) → σ[4]? = some (some v) → σ[15]? = some (some (.int x)) → Rp K F v (iL ns) → DE K (tOp (rI0 fun i j => .int (i + j)) (tOp (rI CMul fun i j => .int (i * j)) (tCB rbMin2 (tCons (tC (.int 100)) (tCons (tVar 8) tNil))) (tOp (rI0 fun i j => .int (i - j)) (tVar 15) (tOp (rIxL K) (tVar 4) (tC (.int 0))))) (tVar 9)) σ F H (.int (c * (x - ns.getD 0 0) + q6)) := by
      intro x σ F H v e8 e9 e4 e15 r
      exact de_ar (de_arC (DE.is (de_min2 de_int (de_vi e8)) (by rw [hcc])) (de_ar (de_vi e15) (de_ixL (dl_of (de_var e4 r)) de_int (at_ix 0 rfl hn0))) (.inl ⟨by omega, by omega⟩)) (de_vi e9)
    refine s_asg (K := K) st.fh (de_lcI (te := (tOp (rI0 fun i j => .int (i + j)) (tOp (rI CMul fun i j => .int (i * j)) (tCB rbMin2 (tCons (tC (.int 100)) (tCons (tVar 8) tNil))) (tOp (rI0 fun i j => .int (i - j)) (tVar 15) (tOp (rIxL K) (tVar 4) (tC (.int 0))))) (tVar 9))) (ns := ns) (f := fun x => .int (c * (x - ns.getD 0 0) + q6)) (di_L (de_var rfl h_law_floor)) (by omega) (fun _ => rfl) fun x hx F' H' s => ?_) fun v F H s h_law_great => ?_
    · exact el x _ F' H' _ rfl rfl rfl rfl (h_law_floor.up s.ff)
    replace hT := hT.up s
    replace st := st.trans s.w
    replace h_law_floor := h_law_floor.up s.ff
    replace h_law_drops := h_law_drops.up s.ff
    replace h_law_due_here := h_law_due_here.up s.ff
    dsimp only
    refine x_seq ?_
    refine s_asg (K := K) st.fh (de_callP (iL (ns.map fun x => c * (x - ns.getD 0 0) + q6), iL (ds.map fun d => d * c), ns.map fun x => c * (x - ns.getD 0 0) + q6, ds.map fun d => d * c) (da_cons (DE.is (de_var rfl h_law_great) (by dsimp only [iL]; rw [List.map_map]; rfl)) (da_cons (DE.is (de_lcI (te := (tOp (rI CMul fun i j => .int (i * j)) (tVar 16) (tCB rbMin2 (tCons (tC (.int 100)) (tCons (tVar 8) tNil))))) (ns := ds) (f := fun d => .int (d * c)) (di_L (de_var rfl h_law_drops)) (by omega) (fun _ => rfl) fun x hx F' H' s => ?_) (by dsimp only [iL]; rw [List.map_map]; rfl)) da_nil)) ⟨.l _, .l _, by rw [List.length_map]; exact hl1⟩) fun v F H s h_law_told => ?_
    · exact de_arC (de_vi rfl) (DE.is (de_min2 de_int (de_vi rfl)) (by rw [hcc])) (.inr ⟨by omega, by omega⟩)
    replace st := st.trans s.w
    replace hT := hT.up s
    replace h_law_floor := h_law_floor.up s.ff
    replace h_law_due_here := h_law_due_here.up s.ff
    have hE : dueF ns ds = sentF ns ds := due_eq (List.Perm.refl _) hl2
    dsimp only
    refine s_ret (K := K) st.fh (de_callP (iT ((sentF ns ds).map fun x => c * (x - ns.getD 0 0) + q6)) (da_cons (DE.is (de_var rfl h_law_told) (by dsimp only; rw [sent_map _ _ _ hc0])) (da_cons (DE.is (de_tuple (ds_l (dl_of (de_lcI (te := (tOp (rI0 fun i j => .int (i + j)) (tOp (rI CMul fun i j => .int (i * j)) (tCB rbMin2 (tCons (tC (.int 100)) (tCons (tVar 8) tNil))) (tOp (rI0 fun i j => .int (i - j)) (tVar 15) (tOp (rIxL K) (tVar 4) (tC (.int 0))))) (tVar 9))) (ns := dueF ns ds) (f := fun x => .int (c * (x - ns.getD 0 0) + q6)) (di_T (de_var rfl h_law_due_here)) ?_ (fun _ => rfl) fun x hx F' H' s => ?_)))) ?_) da_nil)) ?_) fun v F3 H3 s3 r => k v _ F3 H3 (st.trans s3.w) ?_ r rfl
    · rw [hE, sent_len]; omega
    · exact el x _ F' H' _ rfl rfl rfl rfl (h_law_floor.up s.ff)
    · dsimp only [iT]; rw [hE, List.map_map]; rfl
    · refine Plain.tuple ?_ (Plain.ints _)
      rw [List.length_map, List.length_map, sent_len]; omega
    · exact (hT.up s3).le (by omega)
end
end My
end

section
set_option maxRecDepth 100000
set_option maxHeartbeats 8000000
namespace My
open PySem PySem.Spec PyProof.Rows L2 DL Sent
section
variable {P : Program} {w : World} {K : PySem.W.Frag} {mg : Str → Option Value} {base : Heap}
theorem sc_law : FnScope ["_law_script", "_law_cells", "_law_k"] ["_law_script"] (defScope st_law) := ⟨rfl, rfl, rfl, by decide +kernel, rfl, by decide +kernel, by decide +kernel⟩
abbrev sp_law (K : PySem.W.Frag) : Sp := fun vs H Q _ => ∃ (F : Hp) (a : Addr) (ns : List Int), Same F H ∧ vs = [.ref a] ∧ SqL K F a (ns.map V.int) ∧ ns.length ≤ 63 ∧ ∀ H', Q (.bl true) H'
theorem ok_law (T : Txt K mg) : FnOk P w K mg base CX0 5 T.law.f T.law.fd ["_law_script"] (sp_law K) := by
  have nd := sc_law.nd
  have G_law_folded := ok_law_folded (P := P) (w := w) (base := base) T
  have G_law_tape := ok_law_tape (P := P) (w := w) (base := base) T
  have G_law_right := ok_law_right (P := P) (w := w) (base := base) T
  refine T.law.F.ok sc_law (fun vs H Q E h => ?_) (fun cdv A outer s H vs Q E hr h => ?_)
  · obtain ⟨F, a, ns, _, rfl, _⟩ := h
    rfl
  · obtain ⟨F, a, ns, w, rfl, hS, hl, k⟩ := h
    refine ⟨_, (pss_cons (ps_set (i := 1) nd rfl (Or.inr rfl) (pe_call G_law_folded (hr.mono (by decide)) (by rfl) T.law_folded.g T.law_folded.F.kp T.law_folded.b .nil pass0 (pa_cons (pv 0) (pa_cons pe_int pa_nil))))
      (pss_one (ps_ret (pe_callB (cr_all rfl) (by rfl) T.b_all (by decide +kernel) (pa_cons (pe_lc (own := [("_law_k", 2)]) (g := (gName 2)) (tt := tYes) (te := (tCall (sp_law_right K) [] E0 (tCons (tCall (sp_law_tape K) [] E0 (tCons (tVar 1) (tCons (tVar 2) tNil))) tNil))) rfl nd (pi_range1 rfl T.b_range (pa_cons (pe_callB (call_max2 rfl) (by rfl) T.b_max (by decide +kernel) (pa_cons pe_int (pa_cons (pe_callB call_len_seq (by rfl) T.b_len (by decide +kernel) (pa_cons (pv 1) pa_nil)) pa_nil))) pa_nil)) (blkOk_by (N := ["_law_script", "_law_cells", "_law_k"]) (sc := defScope st_law) (by decide +kernel)) (fun _ _ _ _ _ => (pg_name (i := 2) nd rfl (Or.inl rfl))) (fun _ _ _ _ _ => pts_nil) (fun _ _ _ _ _ => (pe_call G_law_right hr (by rfl) T.law_right.g T.law_right.F.kp T.law_right.b .nil pass0 (pa_cons (pe_call G_law_tape (hr.mono (by decide)) (by rfl) T.law_tape.g T.law_tape.F.kp T.law_tape.b .nil pass0 (pa_cons (pv 1) (pa_cons (pv 2) pa_nil))) pa_nil)))) pa_nil))))), ?_⟩
    refine x_asg (x_call (x_cons (x_var rfl (x_cons (x_c (x_nil ?_))))))
    refine ⟨F, a, ns, 3, w, rfl, hS, by decide, by decide, hl, fun v ms F H st h_law_cells hms => ?_⟩
    dsimp only [gName]
    have el : ∀ (j : Int) (σ : L2.St) (F H : Hp) (v : V), σ[1]? = some (some v) → σ[2]? = some (some (.int j)) → Rp K F v (iL ms) → 0 ≤ j → j ≤ 1000 → DE K (tCall (sp_law_right K) [] E0 (tCons (tCall (sp_law_tape K) [] E0 (tCons (tVar 1) (tCons (tVar 2) tNil))) tNil)) σ F H (.bool true) := by
      intro j σ F H v e1 e2 r j0 j1 F1 H1 s Q q
      refine x_call (x_cons (x_call (x_cons (x_var e1 (x_cons (x_var e2 (x_nil ?_)))))))
      refine ⟨F1, v, ms, j, s.fh, rfl, r.up s.ff, j0, j1, fun t F' H' ht st hT => x_nil ?_⟩
      refine ⟨F', t, [], (), 0, st.fh, rfl, .nil, trivial, hT, by decide, fun v d F'' H'' st2 hT2 r2 hd => ?_⟩
      cases hd
      exact q v F'' H'' ((st.w.trans st2).drop ht) r2
    refine s_ret (K := K) st.fh (de_allL (bs := (List.range (max (1 : Int) (ms.map PyData.int).length).toNat).map fun _ => true) (dl_of (DE.is (de_lc1 (as := List.range (max (1 : Int) (ms.map PyData.int).length).toNat) (enc := fun i => .int (0 + ((i : Nat) : Int))) (f := fun _ => .bool true) (di_r1 (de_max2 de_int (de_len (ds_l (dl_of (de_var rfl h_law_cells))))) (by first | omega | (simp only [List.length_map, List.length_range]; omega)) (by first | omega | (simp only [List.length_map, List.length_range]; omega))) ?_ (fun _ => rfl) fun i hi x F' H' s r => ?_) ?_))) fun v F1 H1 s1 r => ?_
    · rw [List.length_range, List.length_map]; omega
    · cases r.of_int
      have hi := List.mem_range.mp hi
      rw [List.length_map] at hi
      exact el _ _ F' H' _ rfl rfl (h_law_cells.up s.ff) (by omega) (by omega)
    · rw [List.map_map]; rfl
    · have e : ((List.range (max (1 : Int) (ms.map PyData.int).length).toNat).map fun _ => true).all id = true := by simp
      rw [e] at r
      rw [r.of_bl]
      exact k H1

end
end My
end

section
set_option maxRecDepth 100000
set_option maxHeartbeats 8000000
namespace My
open PySem PySem.Spec PyProof.Rows L2 DL Sent
theorem all_mk {l : PySem.W.OpenLaw} {w : World} {K : PySem.W.Frag} {h : Heap} {mg : Str → Option Value} {fa f1 f2 f3 f4 f5 f6 f7 f8 f9 f10 f11 f12 f13 : Addr} (X : K.In h) (G : h.Ns mainGlobals mg) (hfa : mg "law" = some (.ref fa))
    {od1 an1 od2 an2 od3 an3 od4 an4 od5 an5 od6 an6 od7 an7 od8 an8 od9 an9 od10 an10 od11 an11 od12 an12 od13 an13 : Option Addr} {sl1 sl2 sl3 sl4 sl5 sl6 sl7 sl8 sl9 sl10 sl11 sl12 sl13 : Array (Option Value)} {oc1 kV1 dc1 pm1 cd1 ct1 oc2 kV2 dc2 pm2 cd2 ct2 oc3 kV3 dc3 pm3 cd3 ct3 oc4 kV4 dc4 pm4 cd4 ct4 oc5 kV5 dc5 pm5 cd5 ct5 oc6 kV6 dc6 pm6 cd6 ct6 oc7 kV7 dc7 pm7 cd7 ct7 oc8 kV8 dc8 pm8 cd8 ct8 oc9 kV9 dc9 pm9 cd9 ct9 oc10 kV10 dc10 pm10 cd10 ct10 oc11 kV11 dc11 pm11 cd11 ct11 oc12 kV12 dc12 pm12 cd12 ct12 oc13 kV13 dc13 pm13 cd13 ct13 : Value}
    (a1 : PySem.W.nsIn K mainGlobals "behind_one" = some (some (.ref f1))) (l1 : K.lookup f1 = some ⟨oc1, od1, .func (PySem.W.fnOf "behind_one" "behind_one" (defArgs st_behind_one) (defBody st_behind_one) (defScope st_behind_one) .none kV1 dc1 pm1 an1 cd1 ct1), sl1⟩) (c1 : PySem.W.codeIn K cd1 "behind_one" = true) (k1 : PySem.W.keepIn K (.ref f1) = true)
    (a2 : PySem.W.nsIn K mainGlobals "sent" = some (some (.ref f2))) (l2 : K.lookup f2 = some ⟨oc2, od2, .func (PySem.W.fnOf "sent" "sent" (defArgs st_sent) (defBody st_sent) (defScope st_sent) .none kV2 dc2 pm2 an2 cd2 ct2), sl2⟩) (c2 : PySem.W.codeIn K cd2 "sent" = true) (k2 : PySem.W.keepIn K (.ref f2) = true)
    (a3 : PySem.W.nsIn K mainGlobals "sent_years" = some (some (.ref f3))) (l3 : K.lookup f3 = some ⟨oc3, od3, .func (PySem.W.fnOf "sent_years" "sent_years" (defArgs st_sent_years) (defBody st_sent_years) (defScope st_sent_years) .none kV3 dc3 pm3 an3 cd3 ct3), sl3⟩) (c3 : PySem.W.codeIn K cd3 "sent_years" = true) (k3 : PySem.W.keepIn K (.ref f3) = true)
    (a4 : PySem.W.nsIn K mainGlobals "_law_tape" = some (some (.ref f4))) (l4 : K.lookup f4 = some ⟨oc4, od4, .func (PySem.W.fnOf "_law_tape" "_law_tape" (defArgs st_law_tape) (defBody st_law_tape) (defScope st_law_tape) .none kV4 dc4 pm4 an4 cd4 ct4), sl4⟩) (c4 : PySem.W.codeIn K cd4 "_law_tape" = true) (k4 : PySem.W.keepIn K (.ref f4) = true)
    (a5 : PySem.W.nsIn K mainGlobals "_law_draw" = some (some (.ref f5))) (l5 : K.lookup f5 = some ⟨oc5, od5, .func (PySem.W.fnOf "_law_draw" "_law_draw" (defArgs st_law_draw) (defBody st_law_draw) (defScope st_law_draw) .none kV5 dc5 pm5 an5 cd5 ct5), sl5⟩) (c5 : PySem.W.codeIn K cd5 "_law_draw" = true) (k5 : PySem.W.keepIn K (.ref f5) = true)
    (a6 : PySem.W.nsIn K mainGlobals "_law_folded" = some (some (.ref f6))) (l6 : K.lookup f6 = some ⟨oc6, od6, .func (PySem.W.fnOf "_law_folded" "_law_folded" (defArgs st_law_folded) (defBody st_law_folded) (defScope st_law_folded) .none kV6 dc6 pm6 an6 cd6 ct6), sl6⟩) (c6 : PySem.W.codeIn K cd6 "_law_folded" = true) (k6 : PySem.W.keepIn K (.ref f6) = true)
    (a7 : PySem.W.nsIn K mainGlobals "_law_part" = some (some (.ref f7))) (l7 : K.lookup f7 = some ⟨oc7, od7, .func (PySem.W.fnOf "_law_part" "_law_part" (defArgs st_law_part) (defBody st_law_part) (defScope st_law_part) .none kV7 dc7 pm7 an7 cd7 ct7), sl7⟩) (c7 : PySem.W.codeIn K cd7 "_law_part" = true) (k7 : PySem.W.keepIn K (.ref f7) = true)
    (a8 : PySem.W.nsIn K mainGlobals "_law_same" = some (some (.ref f8))) (l8 : K.lookup f8 = some ⟨oc8, od8, .func (PySem.W.fnOf "_law_same" "_law_same" (defArgs st_law_same) (defBody st_law_same) (defScope st_law_same) .none kV8 dc8 pm8 an8 cd8 ct8), sl8⟩) (c8 : PySem.W.codeIn K cd8 "_law_same" = true) (k8 : PySem.W.keepIn K (.ref f8) = true)
    (a9 : PySem.W.nsIn K mainGlobals "_law_heights" = some (some (.ref f9))) (l9 : K.lookup f9 = some ⟨oc9, od9, .func (PySem.W.fnOf "_law_heights" "_law_heights" (defArgs st_law_heights) (defBody st_law_heights) (defScope st_law_heights) .none kV9 dc9 pm9 an9 cd9 ct9), sl9⟩) (c9 : PySem.W.codeIn K cd9 "_law_heights" = true) (k9 : PySem.W.keepIn K (.ref f9) = true)
    (a10 : PySem.W.nsIn K mainGlobals "_law_due" = some (some (.ref f10))) (l10 : K.lookup f10 = some ⟨oc10, od10, .func (PySem.W.fnOf "_law_due" "_law_due" (defArgs st_law_due) (defBody st_law_due) (defScope st_law_due) .none kV10 dc10 pm10 an10 cd10 ct10), sl10⟩) (c10 : PySem.W.codeIn K cd10 "_law_due" = true) (k10 : PySem.W.keepIn K (.ref f10) = true)
    (a11 : PySem.W.nsIn K mainGlobals "_law_years_right" = some (some (.ref f11))) (l11 : K.lookup f11 = some ⟨oc11, od11, .func (PySem.W.fnOf "_law_years_right" "_law_years_right" (defArgs st_law_years_right) (defBody st_law_years_right) (defScope st_law_years_right) .none kV11 dc11 pm11 an11 cd11 ct11), sl11⟩) (c11 : PySem.W.codeIn K cd11 "_law_years_right" = true) (k11 : PySem.W.keepIn K (.ref f11) = true)
    (a12 : PySem.W.nsIn K mainGlobals "_law_right" = some (some (.ref f12))) (l12 : K.lookup f12 = some ⟨oc12, od12, .func (PySem.W.fnOf "_law_right" "_law_right" (defArgs st_law_right) (defBody st_law_right) (defScope st_law_right) .none kV12 dc12 pm12 an12 cd12 ct12), sl12⟩) (c12 : PySem.W.codeIn K cd12 "_law_right" = true) (k12 : PySem.W.keepIn K (.ref f12) = true)
    (a13 : PySem.W.nsIn K mainGlobals "law" = some (some (.ref f13))) (l13 : K.lookup f13 = some ⟨oc13, od13, .func (PySem.W.fnOf "law" "law" (defArgs st_law) (defBody st_law) (defScope st_law) .none kV13 dc13 pm13 an13 cd13 ct13), sl13⟩) (c13 : PySem.W.codeIn K cd13 "law" = true) (k13 : PySem.W.keepIn K (.ref f13) = true)
    (z0 : PySem.W.nsIn K mainGlobals "max" = some none) (z1 : PySem.W.nsIn K mainGlobals "zip" = some none) (z2 : PySem.W.nsIn K mainGlobals "list" = some none) (z3 : PySem.W.nsIn K mainGlobals "tuple" = some none) (z4 : PySem.W.nsIn K mainGlobals "sum" = some none) (z5 : PySem.W.nsIn K mainGlobals "len" = some none) (z6 : PySem.W.nsIn K mainGlobals "abs" = some none) (z7 : PySem.W.nsIn K mainGlobals "int" = some none) (z8 : PySem.W.nsIn K mainGlobals "enumerate" = some none) (z9 : PySem.W.nsIn K mainGlobals "range" = some none) (z10 : PySem.W.nsIn K mainGlobals "isinstance" = some none) (z11 : PySem.W.nsIn K mainGlobals "all" = some none) (z12 : PySem.W.nsIn K mainGlobals "str" = some none) (z13 : PySem.W.nsIn K mainGlobals "bool" = some none) (z14 : PySem.W.nsIn K mainGlobals "sorted" = some none) (z15 : PySem.W.nsIn K mainGlobals "min" = some none) :
    ∃ fd : FuncData, (∀ (s : Shared) (v : Value), BindsTo s fd ⟨[v], []⟩ [("_law_script", v)]) ∧ ∀ base : Heap, K.In base → base.Ns mainGlobals mg → FnOk l.prog w K mg base CX0 5 fa fd ["_law_script"] (sp_law K) := by
  have e := hfa.symm.trans (PySem.W.mg_of X G a13)
  cases e
  have F1 := fun_mk (st := st_behind_one) l1 c1 k1
  have b1 := F1.binds (ps := ["ground", "drop"]) fun _ _ _ _ _ _ us hl => match us, hl with | [_, _], _ => rfl
  have F2 := fun_mk (st := st_sent) l2 c2 k2
  have b2 := F2.binds (ps := ["ground", "drops"]) fun _ _ _ _ _ _ us hl => match us, hl with | [_, _], _ => rfl
  have F3 := fun_mk (st := st_sent_years) l3 c3 k3
  have b3 := F3.binds (ps := ["ground", "drops"]) fun _ _ _ _ _ _ us hl => match us, hl with | [_, _], _ => rfl
  have F4 := fun_mk (st := st_law_tape) l4 c4 k4
  have b4 := F4.binds (ps := ["_law_script", "_law_k"]) fun _ _ _ _ _ _ us hl => match us, hl with | [_, _], _ => rfl
  have F5 := fun_mk (st := st_law_draw) l5 c5 k5
  have b5 := F5.binds (ps := ["_law_tape_here", "_law_many"]) fun _ _ _ _ _ _ us hl => match us, hl with | [_, _], _ => rfl
  have F6 := fun_mk (st := st_law_folded) l6 c6 k6
  have b6 := F6.binds (ps := ["_law_script", "_law_many"]) fun _ _ _ _ _ _ us hl => match us, hl with | [_, _], _ => rfl
  have F7 := fun_mk (st := st_law_part) l7 c7 k7
  have b7 := F7.binds (ps := ["_law_tape_here", "_law_some", "_law_many"]) fun _ _ _ _ _ _ us hl => match us, hl with | [_, _, _], _ => rfl
  have F8 := fun_mk (st := st_law_same) l8 c8 k8
  have b8 := F8.binds (ps := ["_law_found", "_law_due_here"]) fun _ _ _ _ _ _ us hl => match us, hl with | [_, _], _ => rfl
  have F9 := fun_mk (st := st_law_heights) l9 c9 k9
  have b9 := F9.binds (ps := ["_law_tape_here", "_law_many", "_law_wide"]) fun _ _ _ _ _ _ us hl => match us, hl with | [_, _, _], _ => rfl
  have F10 := fun_mk (st := st_law_due) l10 c10 k10
  have b10 := F10.binds (ps := ["_law_floor", "_law_drops"]) fun _ _ _ _ _ _ us hl => match us, hl with | [_, _], _ => rfl
  have F11 := fun_mk (st := st_law_years_right) l11 c11 k11
  have b11 := F11.binds (ps := ["_law_floor", "_law_drops"]) fun _ _ _ _ _ _ us hl => match us, hl with | [_, _], _ => rfl
  have F12 := fun_mk (st := st_law_right) l12 c12 k12
  have b12 := F12.binds (ps := ["_law_tape_here"]) fun _ _ _ _ _ _ us hl => match us, hl with | [_], _ => rfl
  have F13 := fun_mk (st := st_law) l13 c13 k13
  have b13 := F13.binds (ps := ["_law_script"]) fun _ _ _ _ _ _ us hl => match us, hl with | [_], _ => rfl
  exact ⟨PySem.W.fnOf "law" "law" (defArgs st_law) (defBody st_law) (defScope st_law) .none kV13 dc13 pm13 an13 cd13 ct13, fun s v => .of_eq rfl, fun base _ _ => ok_law ⟨⟨f1, _, F1, PySem.W.mg_of X G a1, b1⟩, ⟨f2, _, F2, PySem.W.mg_of X G a2, b2⟩, ⟨f3, _, F3, PySem.W.mg_of X G a3, b3⟩, ⟨f4, _, F4, PySem.W.mg_of X G a4, b4⟩, ⟨f5, _, F5, PySem.W.mg_of X G a5, b5⟩, ⟨f6, _, F6, PySem.W.mg_of X G a6, b6⟩, ⟨f7, _, F7, PySem.W.mg_of X G a7, b7⟩, ⟨f8, _, F8, PySem.W.mg_of X G a8, b8⟩, ⟨f9, _, F9, PySem.W.mg_of X G a9, b9⟩, ⟨f10, _, F10, PySem.W.mg_of X G a10, b10⟩, ⟨f11, _, F11, PySem.W.mg_of X G a11, b11⟩, ⟨f12, _, F12, PySem.W.mg_of X G a12, b12⟩, ⟨fa, _, F13, PySem.W.mg_of X G a13, b13⟩, PySem.W.mg_none_of X G z0, PySem.W.mg_none_of X G z1, PySem.W.mg_none_of X G z2, PySem.W.mg_none_of X G z3, PySem.W.mg_none_of X G z4, PySem.W.mg_none_of X G z5, PySem.W.mg_none_of X G z6, PySem.W.mg_none_of X G z7, PySem.W.mg_none_of X G z8, PySem.W.mg_none_of X G z9, PySem.W.mg_none_of X G z10, PySem.W.mg_none_of X G z11, PySem.W.mg_none_of X G z12, PySem.W.mg_none_of X G z13, PySem.W.mg_none_of X G z14, PySem.W.mg_none_of X G z15⟩⟩
end My
open PySem PySem.W PyProof.Rows
set_option maxHeartbeats 0 in
theorem PySem.Challenge.cw_tablestones_k54_whole_sent_in_any_order_holds : PySem.Challenge.rw_tablestones_k54_whole_sent_in_any_order.Holds := by
  w_on; o_law; k_head; (case hw => w_witness2)
  k_fill
  refine L2.walk_of (l := PySem.Challenge.rw_tablestones_k54_whole_sent_in_any_order) (n := 63) (k := 5) (x := "_law_script") (CX := fun _ => L2.CX0) (sp := fun w => My.sp_law _) rfl (by decide) rfl ⟨rfl, by decide, by decide⟩ (fun w h Y => PySem.W.kIn_of Y) ?F (fun _ H a ns hl _ hS => ⟨H, a, ns, L2.Same.refl H, rfl, hS, hl, fun _ => rfl⟩) (fun _ _ _ _ _ h => h)
  case F =>
    intro w mg fa h KX G hmg
    refine' My.all_mk KX G hmg ?a1 ?l1 ?c1 ?k1 ?a2 ?l2 ?c2 ?k2 ?a3 ?l3 ?c3 ?k3 ?a4 ?l4 ?c4 ?k4 ?a5 ?l5 ?c5 ?k5 ?a6 ?l6 ?c6 ?k6 ?a7 ?l7 ?c7 ?k7 ?a8 ?l8 ?c8 ?k8 ?a9 ?l9 ?c9 ?k9 ?a10 ?l10 ?c10 ?k10 ?a11 ?l11 ?c11 ?k11 ?a12 ?l12 ?c12 ?k12 ?a13 ?l13 ?c13 ?k13 ?z0 ?z1 ?z2 ?z3 ?z4 ?z5 ?z6 ?z7 ?z8 ?z9 ?z10 ?z11 ?z12 ?z13 ?z14 ?z15
    (case a1 => k_is); (case l1 => k_is); (case c1 => k_is); (case k1 => k_is); (case a2 => k_is); (case l2 => k_is); (case c2 => k_is); (case k2 => k_is); (case a3 => k_is); (case l3 => k_is); (case c3 => k_is); (case k3 => k_is); (case a4 => k_is); (case l4 => k_is); (case c4 => k_is); (case k4 => k_is); (case a5 => k_is); (case l5 => k_is); (case c5 => k_is); (case k5 => k_is); (case a6 => k_is); (case l6 => k_is); (case c6 => k_is); (case k6 => k_is); (case a7 => k_is); (case l7 => k_is); (case c7 => k_is); (case k7 => k_is); (case a8 => k_is); (case l8 => k_is); (case c8 => k_is); (case k8 => k_is); (case a9 => k_is); (case l9 => k_is); (case c9 => k_is); (case k9 => k_is); (case a10 => k_is); (case l10 => k_is); (case c10 => k_is); (case k10 => k_is); (case a11 => k_is); (case l11 => k_is); (case c11 => k_is); (case k11 => k_is); (case a12 => k_is); (case l12 => k_is); (case c12 => k_is); (case k12 => k_is); (case a13 => k_is); (case l13 => k_is); (case c13 => k_is); (case k13 => k_is); (case z0 => k_is); (case z1 => k_is); (case z2 => k_is); (case z3 => k_is); (case z4 => k_is); (case z5 => k_is); (case z6 => k_is); (case z7 => k_is); (case z8 => k_is); (case z9 => k_is); (case z10 => k_is); (case z11 => k_is); (case z12 => k_is); (case z13 => k_is); (case z14 => k_is); (case z15 => k_is)
end
