import PyProof.Rows.All
import Wide.All
import OpenK.AllK
import Wide.FinOn
import KE.KStateDown
import HandS.ForMost
import HandS.Exc
import HandS.TryOnly
import HandS.ExcOwn
import HandS.ExcInit
import HandS.ExcField
import HandS.More
import HandS.WordsExc
import HandS.IsInst
import HandS.Defaults
import HandS.DictComp
import HandS.Flow
import HandS.Head0
import HandS.Head1
import HandS.Head2
import HandS.HeadEnd
import HandS.HeadHook1
import HandS.HeadHook2
import HandS.Steps
import HandS.Walk
import KE.GoesMore
import KE.GoesEnum
import PySem.Challenge.RW_quietpairs_k26_whole_two_sides
import HandS.SortRule
import OpenK.KMeth
import OpenK.KOps
import HandS.OwnEq
import HandS.DeepEq
import HandS.TryMany
import KE.KEqDict
import PyProof.InstNe
import HandS.Conv
import HandS.Iter
import PyProof.EqKinds
import PyProof.FactsAll.subtypes_3
import PyProof.FactsAll.subtypes_4
import PyProof.NeKinds
import PyProof.FactsAll.dict_2
import PyProof.FactsAll.str_2
import PyProof.ExcBaseAll.ValueError
import HandS.TupLe
import HandS.Text
set_option Elab.async false
set_option linter.all false
set_option maxRecDepth 100000
set_option maxHeartbeats 4000000
namespace Q
open PySem PySem.Spec PyProof.Rows L2

/-! ### data as trees, and how a heap shows them -/
inductive D where
  | non | bl (b : Bool) | int (i : Int) | str (x : Str)
  | lst (xs : List D) | tup (xs : List D) | dct (kvs : List (Key × D)) | obj (a C : Addr)
/-- what the written part says of a class whose instances are asked by isinstance -/
structure InsK (K : PySem.W.Frag) (C : Addr) : Prop where
  cl : Cls K C
  ha : PySem.W.findIn K (.ref C) "__class__" = some (some (.builtin "object.__class__"))
  hn : PySem.W.specialIn K (.builtin "object.__class__") "__get__" = some (some (.builtin "getset_descriptor.__get__"))
  tk : PySem.W.takesIn K (.builtin "object.__class__") = some true
  mo : PySem.W.mroIn K C (.type "object") = some true
  no : ∀ T ∈ (["str", "int", "bool", "list", "tuple", "dict"] : List String), PySem.W.kitOne K (.ref C) (.type T) = some false
def insB (K : PySem.W.Frag) (C : Addr) : Bool := decide (PySem.W.findIn K (.ref C) "__class__" = some (some (.builtin "object.__class__"))) && (decide (PySem.W.specialIn K (.builtin "object.__class__") "__get__" = some (some (.builtin "getset_descriptor.__get__"))) &&
  (decide (PySem.W.takesIn K (.builtin "object.__class__") = some true) && (decide (PySem.W.mroIn K C (.type "object") = some true) && (["str", "int", "bool", "list", "tuple", "dict"] : List String).all fun T => decide (PySem.W.kitOne K (.ref C) (.type T) = some false))))
theorem insB_ok {K : PySem.W.Frag} {C : Addr} (c : Cls K C) (h : insB K C = true) : InsK K C := by
  obtain ⟨h1, h⟩ := Bool.and_eq_true_iff.mp h
  obtain ⟨h2, h⟩ := Bool.and_eq_true_iff.mp h
  obtain ⟨h3, h⟩ := Bool.and_eq_true_iff.mp h
  obtain ⟨h4, h5⟩ := Bool.and_eq_true_iff.mp h
  exact ⟨c, of_decide_eq_true h1, of_decide_eq_true h2, of_decide_eq_true h3, of_decide_eq_true h4, fun T m => of_decide_eq_true (List.all_eq_true.mp h5 T m)⟩
mutual
inductive Rep (K : PySem.W.Frag) (B : Hp) : V → D → Prop
  | non : Rep K B .non .non
  | bl (b : Bool) : Rep K B (.bl b) (.bl b)
  | int (i : Int) : Rep K B (.int i) (.int i)
  | str {x : Str} : x.length ≤ 1000000 → Rep K B (.str x) (.str x)
  | lst {a : Addr} {xs : List V} {ds : List D} : B a = some (.lst xs) → xs.length ≤ 100000 → Reps K B xs ds → Rep K B (.ref a) (.lst ds)
  | tup {a : Addr} {xs : List V} {ds : List D} : B a = some (.tup xs) → Reps K B xs ds → Rep K B (.ref a) (.tup ds)
  | dct {a : Addr} {xs : List (Key × V)} {ds : List (Key × D)} : B a = some (.dK xs) → RepK K B xs ds → Rep K B (.ref a) (.dct ds)
  | obj {a C dx : Addr} {fs : List (Str × V)} : B a = some (.ins C dx fs) → InsK K C → Rep K B (.ref a) (.obj a C)
inductive Reps (K : PySem.W.Frag) (B : Hp) : List V → List D → Prop
  | nil : Reps K B [] []
  | cons {v : V} {vs : List V} {d : D} {ds : List D} : Rep K B v d → Reps K B vs ds → Reps K B (v :: vs) (d :: ds)
inductive RepK (K : PySem.W.Frag) (B : Hp) : List (Key × V) → List (Key × D) → Prop
  | nil : RepK K B [] []
  | cons {k : Key} {v : V} {vs : List (Key × V)} {d : D} {ds : List (Key × D)} : Rep K B v d → RepK K B vs ds → RepK K B ((k, v) :: vs) ((k, d) :: ds)
end
section
variable {K : PySem.W.Frag}
mutual
theorem Rep.mono {B B' : Hp} (s : Same B B') : ∀ {v : V} {d : D}, Rep K B v d → Rep K B' v d
  | _, _, .non => .non
  | _, _, .bl b => .bl b
  | _, _, .int i => .int i
  | _, _, .str h => .str h
  | _, _, .lst h z r => .lst (s _ _ h) z (Reps.mono s r)
  | _, _, .tup h r => .tup (s _ _ h) (Reps.mono s r)
  | _, _, .dct h r => .dct (s _ _ h) (RepK.mono s r)
  | _, _, .obj h i => .obj (s _ _ h) i
theorem Reps.mono {B B' : Hp} (s : Same B B') : ∀ {v : List V} {d : List D}, Reps K B v d → Reps K B' v d
  | _, _, .nil => .nil
  | _, _, .cons h r => .cons (Rep.mono s h) (Reps.mono s r)
theorem RepK.mono {B B' : Hp} (s : Same B B') : ∀ {v : List (Key × V)} {d : List (Key × D)}, RepK K B v d → RepK K B' v d
  | _, _, .nil => .nil
  | _, _, .cons h r => .cons (Rep.mono s h) (RepK.mono s r)
end
theorem Reps.length {B : Hp} : ∀ {v : List V} {d : List D}, Reps K B v d → v.length = d.length
  | _, _, .nil => rfl
  | _, _, .cons _ r => by simp [Reps.length r]
theorem RepK.length {B : Hp} : ∀ {v : List (Key × V)} {d : List (Key × D)}, RepK K B v d → v.length = d.length
  | _, _, .nil => rfl
  | _, _, .cons _ r => by simp [RepK.length r]
theorem Reps.get {B : Hp} : ∀ {vs : List V} {ds : List D} {i : Nat} {v : V}, Reps K B vs ds → vs[i]? = some v → ∃ d, ds[i]? = some d ∧ Rep K B v d
  | _, _, _, _, .nil, e => by simp at e
  | _, _, 0, _, .cons h _, e => by simp at e; subst e; exact ⟨_, rfl, h⟩
  | _, _, i + 1, v, .cons _ r, e => by
    obtain ⟨d, h1, h2⟩ := Reps.get (i := i) (v := v) r (by simpa using e)
    exact ⟨d, by simpa using h1, h2⟩
theorem Reps.append {B : Hp} : ∀ {vs ws : List V} {ds es : List D}, Reps K B vs ds → Reps K B ws es → Reps K B (vs ++ ws) (ds ++ es)
  | _, _, _, _, .nil, s => s
  | _, _, _, _, .cons h r, s => .cons h (Reps.append r s)
theorem Reps.set {B : Hp} {v : V} {d : D} (h : Rep K B v d) : ∀ {vs : List V} {ds : List D} (i : Nat), Reps K B vs ds → Reps K B (vs.set i v) (ds.set i d)
  | _, _, _, .nil => .nil
  | _, _, 0, .cons _ r => .cons h r
  | _, _, i + 1, .cons q r => .cons q (Reps.set h i r)
theorem reps_str {B : Hp} : ∀ {xs : List Str}, (∀ x ∈ xs, x.length ≤ 1000000) → Reps K B (xs.map V.str) (xs.map D.str)
  | [], _ => .nil
  | x :: r, h => .cons (.str (h x List.mem_cons_self)) (reps_str fun y m => h y (List.mem_cons_of_mem _ m))
theorem reps_str_eq {B : Hp} : ∀ {vs : List V} {xs : List Str}, Reps K B vs (xs.map D.str) → vs = xs.map V.str
  | _, [], h => by cases h; rfl
  | _, x :: r, h => by
    cases h with
    | cons a b => cases a; rw [reps_str_eq b]; rfl
def D.strs (xs : List Str) : D := .lst (xs.map .str)
theorem rep_strs {B : Hp} {a : Addr} {xs : List Str} (hx : ∀ x ∈ xs, x.length ≤ 1000000) (hz : xs.length ≤ 100000) (h : B a = some (.lst (xs.map V.str))) : Rep K B (.ref a) (D.strs xs) := .lst h (by rw [List.length_map]; exact hz) (reps_str hx)
theorem rep_strs_inv {B : Hp} {v : V} {xs : List Str} (h : Rep K B v (D.strs xs)) : ∃ a, v = .ref a ∧ B a = some (.lst (xs.map V.str)) := by
  unfold D.strs at h
  cases h with
  | lst h _ r => exact ⟨_, rfl, by rw [h, reps_str_eq r]⟩
end

/-! ### the frame: B what stands still, H what stands, M what may still change (its own things; S: handed in) -/
structure HS (S : List Addr) (B0 H0 B H : Hp) (M : List (Addr × HO)) : Prop where
  bb : Same B0 B
  bh : Same B H
  fr : ∀ b o, b ∉ S → B0 b = none → H0 b = some o → B b = none ∧ H b = some o
  mu : ∀ p ∈ M, B p.1 = none ∧ H p.1 = some p.2 ∧ (H0 p.1 = none ∨ p.1 ∈ S)
  nd : (M.map (·.1)).Nodup
section
variable {S : List Addr} {B0 H0 B H B' H' : Hp} {M M' : List (Addr × HO)} {p : Addr} {o o' : HO}
theorem HS.start (h : Same B H) : HS [] B H B H [] := ⟨Same.refl _, h, fun _ _ _ a b => ⟨a, b⟩, fun _ z => (nomatch z), List.nodup_nil⟩
theorem HS.startS (h : Same B H) (hb : B p = none) (hp : H p = some o) : HS [p] B H B H [(p, o)] :=
  ⟨Same.refl _, h, fun _ _ _ a b => ⟨a, b⟩, fun q z => by
    have e : q = (p, o) := by simpa using z
    subst e
    exact ⟨hb, hp, .inr (by simp)⟩, by simp⟩
theorem HS.get (h : HS S B0 H0 B H M) (m : (p, o) ∈ M) : H p = some o := (h.mu _ m).2.1
theorem HS.up (h : HS S B0 H0 B H M) {a : Addr} {u : HO} (e : B a = some u) : H a = some u := h.bh _ _ e
theorem HS.len {B0' : Hp} (h : HS S B0 H0 B H M) (s : Same B0' B0) : Same B0' B := s.trans h.bb
theorem same_none {A B : Hp} (s : Same A B) {a : Addr} (h : B a = none) : A a = none := Same.free s h
/-- a new thing that may change -/
theorem HS.new (h : HS S B0 H0 B H M) (hp : H p = none) : HS S B0 H0 B (upd H p o) ((p, o) :: M) := by
  have hB : B p = none := same_none h.bh hp
  refine ⟨h.bb, fun b u e => ?_, fun b u n1 n2 e => ?_, fun q m => ?_, ?_⟩
  · rw [upd_ne (ne_of_none (h.bh _ _ e) hp)]; exact h.bh _ _ e
  · obtain ⟨x, y⟩ := h.fr b u n1 n2 e
    exact ⟨x, by rw [upd_ne (ne_of_none y hp)]; exact y⟩
  · rcases List.mem_cons.mp m with rfl | m
    · refine ⟨hB, upd_same, ?_⟩
      by_cases hs : p ∈ S
      · exact .inr hs
      · left
        cases q : H0 p with
        | none => rfl
        | some u =>
          cases qb : B0 p with
          | some w => rw [h.bh _ _ (h.bb _ _ qb)] at hp; cases hp
          | none => rw [(h.fr p u hs qb q).2] at hp; cases hp
    · obtain ⟨x, y, z⟩ := h.mu q m
      exact ⟨x, by rw [upd_ne (ne_of_none y hp)]; exact y, z⟩
  · rw [List.map_cons, List.nodup_cons]
    refine ⟨fun z => ?_, h.nd⟩
    obtain ⟨q, m, e⟩ := List.mem_map.mp z
    obtain ⟨_, y, _⟩ := h.mu q m
    rw [e, hp] at y; cases y
/-- it is changed -/
def setM (p : Addr) (o : HO) : List (Addr × HO) → List (Addr × HO)
  | [] => []
  | (q, u) :: r => if q = p then (q, o) :: r else (q, u) :: setM p o r
theorem setM_map (p : Addr) (o : HO) : ∀ M : List (Addr × HO), (setM p o M).map (·.1) = M.map (·.1)
  | [] => rfl
  | (q, u) :: r => by
    unfold setM
    by_cases e : q = p
    · rw [if_pos e]; rfl
    · rw [if_neg e, List.map_cons, List.map_cons, setM_map p o r]
theorem mem_setM {p : Addr} {o : HO} {x : Addr × HO} : ∀ {M : List (Addr × HO)}, (M.map (·.1)).Nodup → x ∈ setM p o M → (x = (p, o) ∧ ∃ u, (p, u) ∈ M) ∨ (x.1 ≠ p ∧ x ∈ M)
  | [], _, h => nomatch h
  | (q, u) :: r, nd, h => by
    unfold setM at h
    rw [List.map_cons, List.nodup_cons] at nd
    by_cases e : q = p
    · rw [if_pos e] at h
      rcases List.mem_cons.mp h with rfl | h
      · exact .inl ⟨by rw [e], u, by rw [e]; exact List.mem_cons_self⟩
      · refine .inr ⟨fun z => nd.1 (List.mem_map.mpr ⟨x, h, z.trans e.symm⟩), List.mem_cons_of_mem _ h⟩
    · rw [if_neg e] at h
      rcases List.mem_cons.mp h with rfl | h
      · exact .inr ⟨e, List.mem_cons_self⟩
      · rcases mem_setM nd.2 h with ⟨a, u', b⟩ | ⟨a, b⟩
        · exact .inl ⟨a, u', List.mem_cons_of_mem _ b⟩
        · exact .inr ⟨a, List.mem_cons_of_mem _ b⟩
theorem HS.set (h : HS S B0 H0 B H M) (m : (p, o) ∈ M) : HS S B0 H0 B (upd H p o') (setM p o' M) := by
  obtain ⟨hB, hH, hs⟩ := h.mu _ m
  dsimp only at hB hH hs
  refine ⟨h.bb, fun b u e => ?_, fun b u n1 n2 e => ?_, fun q mq => ?_, by rw [setM_map]; exact h.nd⟩
  · rw [upd_ne (ne_of_none e hB)]; exact h.bh _ _ e
  · obtain ⟨x, y⟩ := h.fr b u n1 n2 e
    refine ⟨x, ?_⟩
    have : b ≠ p := fun z => by
      subst z
      rcases hs with k | k
      · rw [k] at e; cases e
      · exact n1 k
    rw [upd_ne this]; exact y
  · rcases mem_setM h.nd mq with ⟨rfl, _⟩ | ⟨a, b⟩
    · exact ⟨hB, upd_same, hs⟩
    · obtain ⟨x, y, z⟩ := h.mu q b
      exact ⟨x, by rw [upd_ne a]; exact y, z⟩
theorem HS.set0 (h : HS S B0 H0 B H ((p, o) :: M)) : HS S B0 H0 B (upd H p o') ((p, o') :: M) := by
  have q := h.set (o' := o') (p := p) (o := o) List.mem_cons_self
  unfold setM at q
  rw [if_pos rfl] at q
  exact q
/-- it stands still from now on -/
theorem HS.freeze (h : HS S B0 H0 B H ((p, o) :: M)) (h0 : H0 p = none) : HS S B0 H0 (upd B p o) H M ∧ Same B (upd B p o) := by
  obtain ⟨hB, hH, hs⟩ := h.mu (p, o) List.mem_cons_self
  dsimp only at hB hH hs
  have nd := h.nd
  rw [List.map_cons, List.nodup_cons] at nd
  have sB : Same B (upd B p o) := fun b u e => by rw [upd_ne (ne_of_none e hB)]; exact e
  refine ⟨⟨h.bb.trans sB, fun b u e => ?_, fun b u n1 n2 e => ?_, fun q m => ?_, nd.2⟩, sB⟩
  · by_cases z : b = p
    · subst z; rw [upd_same] at e; cases e; exact hH
    · rw [upd_ne z] at e; exact h.bh _ _ e
  · obtain ⟨x, y⟩ := h.fr b u n1 n2 e
    refine ⟨?_, y⟩
    have : b ≠ p := fun z => by subst z; rw [h0] at e; cases e
    rw [upd_ne this]; exact x
  · obtain ⟨x, y, z⟩ := h.mu q (List.mem_cons_of_mem _ m)
    have : q.1 ≠ p := fun e => nd.1 (List.mem_map.mpr ⟨q, m, e⟩)
    exact ⟨by rw [upd_ne this]; exact x, y, z⟩
theorem HS.drop (h : HS S B0 H0 B H ((p, o) :: M)) : HS S B0 H0 B H M :=
  ⟨h.bb, h.bh, h.fr, fun q m => h.mu q (List.mem_cons_of_mem _ m), by have nd := h.nd; rw [List.map_cons, List.nodup_cons] at nd; exact nd.2⟩
theorem HS.swap {q : Addr} {u : HO} (h : HS S B0 H0 B H ((p, o) :: (q, u) :: M)) : HS S B0 H0 B H ((q, u) :: (p, o) :: M) :=
  ⟨h.bb, h.bh, h.fr, fun x m => h.mu x (by
    rcases List.mem_cons.mp m with rfl | m
    · exact List.mem_cons_of_mem _ List.mem_cons_self
    · rcases List.mem_cons.mp m with rfl | m
      · exact List.mem_cons_self
      · exact List.mem_cons_of_mem _ (List.mem_cons_of_mem _ m)), by
    have nd := h.nd
    simp only [List.map_cons, List.nodup_cons, List.mem_cons, not_or] at nd ⊢
    exact ⟨⟨fun e => nd.1.1 e.symm, nd.2.1⟩, nd.1.2, nd.2.2⟩⟩
theorem HS.all (h : HS S B0 H0 B H M) : HS S B0 H0 B H [] := ⟨h.bb, h.bh, h.fr, fun _ z => (nomatch z), List.nodup_nil⟩
/-- a call that changes nothing that stood -/
theorem HS.call (h : HS S B0 H0 B H M) (c : HS [] B H B' H' []) : HS S B0 H0 B' H' M := by
  refine ⟨h.bb.trans c.bb, c.bh, fun b u n1 n2 e => ?_, fun q m => ?_, h.nd⟩
  · obtain ⟨x, y⟩ := h.fr b u n1 n2 e
    exact c.fr b u (by simp) x y
  · obtain ⟨x, y, z⟩ := h.mu q m
    obtain ⟨x', y'⟩ := c.fr q.1 q.2 (by simp) x y
    exact ⟨x', y', z⟩
/-- a call that changes the first of what may change -/
theorem HS.call1 (h : HS S B0 H0 B H ((p, o) :: M)) (c : HS [p] B H B' H' [(p, o')]) : HS S B0 H0 B' H' ((p, o') :: M) := by
  have nd := h.nd
  rw [List.map_cons, List.nodup_cons] at nd
  obtain ⟨hB, hH, hs⟩ := h.mu (p, o) List.mem_cons_self
  dsimp only at hB hH hs
  obtain ⟨c1, c2, _⟩ := c.mu (p, o') List.mem_cons_self
  dsimp only at c1 c2
  refine ⟨h.bb.trans c.bb, c.bh, fun b u n1 n2 e => ?_, fun q m => ?_, by rw [List.map_cons, List.nodup_cons]; exact nd⟩
  · obtain ⟨x, y⟩ := h.fr b u n1 n2 e
    have : b ≠ p := fun z => by
      subst z
      rcases hs with k | k
      · rw [k] at e; cases e
      · exact n1 k
    exact c.fr b u (by simpa using this) x y
  · rcases List.mem_cons.mp m with rfl | m
    · exact ⟨c1, c2, hs⟩
    · obtain ⟨x, y, z⟩ := h.mu q (List.mem_cons_of_mem _ m)
      have : q.1 ≠ p := fun e => nd.1 (List.mem_map.mpr ⟨q, m, e⟩)
      obtain ⟨x', y'⟩ := c.fr q.1 q.2 (by simpa using this) x y
      exact ⟨x', y', z⟩
end
/-- what a def promises where it comes back: R of the value in what stands still; where it raises: the class's name and the error's fields -/
def Ret (B H : Hp) (Qv : VK) (R : Hp → V → Prop) : Prop := ∀ B' H' v, HS [] B H B' H' [] → R B' v → Qv v H'
def Thr (K : PySem.W.Frag) (B H : Hp) (E : XK) (c : Str) (fs : List (Str × V)) : Prop := ∀ B' H' d, HS [] B H B' H' [] → B' d = none → H' d = some (.xd fs) → E (.ref (He.ga K c)) (some d) H'
def Thr0 (K : PySem.W.Frag) (B H : Hp) (E : XK) (c : Str) : Prop := ∀ B' H', HS [] B H B' H' [] → E (.ref (He.ga K c)) none H'
end Q

set_option Elab.async false
set_option linter.all false
set_option maxRecDepth 100000
set_option maxHeartbeats 4000000
namespace Q
open PySem PySem.Spec PyProof.Rows L2
/-! ### calls whose errors are wished for at the caller's slots -/
def tCl (sp : Sp) (W : WX) (t : TA) : TE := fun σ H Q => t σ H fun vs H1 => sp vs H1 Q fun c d H' => W c d σ H'
def tMt (C : Addr) (m : Str) (sp : Sp) (W : WX) (ta : TE) (t : TA) : TE := fun σ H Q => ta σ H fun x H1 => ∃ a dx fs, x = .ref a ∧ H1 a = some (.ins C dx fs) ∧ fs.lookup m = none ∧
  t σ H1 fun vs H2 => sp (x :: vs) H2 Q fun c d H' => W c d σ H'
def tMk (C : Addr) (sp : Sp) (W : WX) (t : TA) : TE := fun σ H Q => t σ H fun vs H1 => ∀ x dx, H1 x = none → H1 dx = none → dx ≠ x →
  sp (.ref x :: vs) (upd (upd H1 dx (.own x)) x (.ins C dx [])) (fun v H2 => v = .non ∧ Q (.ref x) H2) fun c d H' => W c d σ H'
/-- a def of the module by its name -/
def Fn (P : Program) (w : World) (K : PySem.W.Frag) (mg : Str → Option Value) (base : Heap) (k : Nat) (x : Str) (ps : List Str) (sp : Sp) : Prop :=
  ∃ f fd, mg x = some (.ref f) ∧ PySem.W.keepIn K (.ref f) = true ∧ Binds K fd ps [] ∧ FnOk P w K mg base (L2.CX P w) k f fd ps sp
/-- a method of a class of the module -/
def Mt (P : Program) (w : World) (K : PySem.W.Frag) (mg : Str → Option Value) (base : Heap) (k : Nat) (c m : Str) (ps : List Str) (sp : Sp) : Prop :=
  ∃ f fd, Cls K (He.ga K c) ∧ Meth K (He.ga K c) m f ∧ Binds K fd ps [] ∧ FnOk P w K mg base (L2.CX P w) k f fd ps sp
/-- a class that is made by its __init__ -/
def Mkr (P : Program) (w : World) (K : PySem.W.Frag) (mg : Str → Option Value) (base : Heap) (k : Nat) (c : Str) (ps : List Str) (sp : Sp) : Prop :=
  ∃ f fd, mg c = some (.ref (He.ga K c)) ∧ Mk K (He.ga K c) f ∧ Binds K fd ps [] ∧ FnOk P w K mg base (L2.CX P w) k f fd ps sp
section
variable {X : Cx} {k j : Nat} {c x m : Str} {ps : List Str} {sp : Sp} {W : WX} {p pos apos : Pos} {e o : Expr} {es : List Expr} {ta : TE} {t : TA}
theorem pe_cl (F : Fn X.prog X.w X.K X.mg X.base k x ps sp) (hr : Room j X.A) (hj : k ≤ j) (tk : Takes X W) (ha : PA X (e :: es) t) (hg : Gl X x := by rfl)
    (hdb : (x == ("__debug__" : Str)) = false := by decide) (he : starEach (e :: es) X.env = (false, eval e X.env) :: starEach es X.env := by rfl) (hpl : (backTo pos (starEach es X.env)).any (·.1) = false := by rfl) :
    PE X (.Call (.Name x p) (e :: es) [] pos) (tCl sp W t) := by
  obtain ⟨f, fd, hm, hk, hb, F⟩ := F
  exact pe_callS (E := WE W) F (hr.mono hj) hg hm hk hb (passAt tk) ha hdb he hpl
theorem pe_mt {pl : Sem Bool} (F : Mt X.prog X.w X.K X.mg X.base k c m ps sp) (hr : Room j X.A) (hj : k ≤ j) (tk : Takes X W) (he : PE X o ta) (ha : PA X (e :: es) t)
    (hst : starEach (e :: es) X.env = (false, eval e X.env) :: starEach es X.env := by rfl) (hpl : (backTo pos (starEach es X.env)).any (·.1) = false := by rfl)
    (ht : eval (.Call (.Attribute o m apos) (e :: es) [] pos) X.env = (do
      let ov ← eval o X.env
      standAt apos.atName
      let (f, first) ← holding [ov] (getMethod ov m pl)
      callWith pos f first (backTo pos (starEach (e :: es) X.env)) (backToKw pos (keywordEach [] X.env))) := by rfl) :
    PE X (.Call (.Attribute o m apos) (e :: es) [] pos) (tMt (He.ga X.K c) m sp W ta t) := by
  obtain ⟨f, fd, c, hm, hb, F⟩ := F
  refine ⟨fun pins s σ H Q I h => ?_⟩
  refine PySem.W.methodCall_KW (pl := pl) (thn (he.run pins s σ H _ I h) fun u s1 ⟨x, H1, I1, rx, a, dx, fs, ex, ea, l, q⟩ => ?_) ht
  subst ex
  obtain rfl : u = Value.ref a := rx
  refine getmeth_ok I1 ea c hm l ?_
  refine PySem.W.callWith_K (first := [.ref a]) (h₀ := X.base) I.ok.mod.kin hm.kp (thn (ha.run pos pins s1 σ H1 _ I1 q) fun us s2 ⟨vs, H2, I2, r, q2⟩ => ⟨I2.kIn, ?_⟩) hst hpl
  exact run_fnS (E := WE W) (us := .ref a :: us) (vs := .ref a :: vs) F (hr.mono hj) hb (passAt tk σ) I2 (.cons rfl r) q2
theorem pe_mt0 {pl : Sem Bool} (F : Mt X.prog X.w X.K X.mg X.base k c m ps sp) (hr : Room j X.A) (hj : k ≤ j) (tk : Takes X W) (he : PE X o ta)
    (ht : eval (.Call (.Attribute o m apos) [] [] pos) X.env = (do
      let ov ← eval o X.env
      standAt apos.atName
      let (f, first) ← holding [ov] (getMethod ov m pl)
      callWith pos f first (backTo pos (starEach [] X.env)) (backToKw pos (keywordEach [] X.env))) := by rfl) :
    PE X (.Call (.Attribute o m apos) [] [] pos) (tMt (He.ga X.K c) m sp W ta tNil) := by
  obtain ⟨f, fd, c, hm, hb, F⟩ := F
  refine ⟨fun pins s σ H Q I h => ?_⟩
  refine PySem.W.methodCall_KW (pl := pl) (thn (he.run pins s σ H _ I h) fun u s1 ⟨x, H1, I1, rx, a, dx, fs, ex, ea, l, q⟩ => ?_) ht
  subst ex
  obtain rfl : u = Value.ref a := rx
  refine getmeth_ok I1 ea c hm l ?_
  exact PySem.W.callWith_K0 (first := [.ref a]) I1.kIn hm.kp (run_fnS (E := WE W) (us := [.ref a]) (vs := [.ref a]) F (hr.mono hj) hb (passAt tk σ) I1 (.cons rfl .nil) q)
theorem run_mk {f C : Addr} {fd : FuncData} {E : XK} {pins : List (Addr × Obj)} {σ : L2.St} {H : Hp} {s : Shared} {Q : VK} {us : List Value} {vs : List V} (M : Mk X.K C f) (F : FnOk X.prog X.w X.K X.mg X.base (L2.CX X.prog X.w) k f fd ps sp) (hr : Room (k + 1) X.A) (hb : Binds X.K fd ps [])
    (hx : PassesAt (L2.CX X.prog X.w) X σ E) (I : Inv X pins σ H s) (r : Vals vs us)
    (h : ∀ x dx, H x = none → H dx = none → dx ≠ x → sp (.ref x :: vs) (upd (upd H dx (.own x)) x (.ins C dx [])) (fun v H2 => v = .non ∧ Q (.ref x) H2) E) :
    wpAny (model X.prog X.w) X.A (call (.ref C) us) (EP X pins σ Q) X.xe s := by
  have hq := h (s.heap.objs.size + 1) s.heap.objs.size (I.hok.fresh (Nat.le_succ _)) (I.hok.fresh (Nat.le_refl _)) (Nat.ne_of_lt (Nat.lt_succ_self _))
  have I2 := Inv.made (C := C) I
  have r2 : Vals (V.ref (s.heap.objs.size + 1) :: vs) (Value.ref (s.heap.objs.size + 1) :: us) := .cons rfl r
  have hl : (Value.ref (s.heap.objs.size + 1) :: us ++ []).length = ps.length := by
    have e := r2.length
    rw [F.len _ _ _ _ hq] at e
    rw [List.append_nil]
    exact e.symm
  have bb := hb _ (Value.ref (s.heap.objs.size + 1) :: us) I2.kIn hl
  rw [List.append_nil] at bb
  refine wpAny_call (make_map (f := f) I.kIn M.makes M.init (beq_iff_eq.mp M.fn) (codeAny_mono (F.run _ X.stack _ _ ⟨Value.ref (s.heap.objs.size + 1) :: us, []⟩ (Value.ref (s.heap.objs.size + 1) :: us) _ _ E (hr.make C us [])
    (I2.env0.make C us []) bb r2 hq) fun r s' hq' => ?_))
  cases r with
  | error e => exact hx pins _ _ e s' I2 hq'
  | ok fl =>
    cases fl with
    | ret u =>
      obtain ⟨v, H', I3, rv, ev, q3⟩ := I2.after hq'
      subst ev
      exact ⟨rv, ⟨V.ref (s.heap.objs.size + 1), H', I3, rfl, q3⟩⟩
    | next => exact False.elim hq'
    | brk => exact False.elim hq'
    | cont => exact False.elim hq'
theorem pe_mk (F : Mkr X.prog X.w X.K X.mg X.base k x ps sp) (hr : Room j X.A) (hj : k + 1 ≤ j) (tk : Takes X W) (ha : PA X (e :: es) t) (hg : Gl X x := by rfl)
    (hdb : (x == ("__debug__" : Str)) = false := by decide) (he : starEach (e :: es) X.env = (false, eval e X.env) :: starEach es X.env := by rfl) (hpl : (backTo pos (starEach es X.env)).any (·.1) = false := by rfl) :
    PE X (.Call (.Name x p) (e :: es) [] pos) (tMk (He.ga X.K x) sp W t) := by
  obtain ⟨f, fd, hm, M, hb, F⟩ := F
  refine ⟨fun pins s σ H Q I h => ?_⟩
  refine wpAny_Call_Name_kw (ld_glob I hg hm ?_ hdb)
  refine PySem.W.callWith_K (h₀ := X.base) I.ok.mod.kin M.kp (thn (ha.run pos pins s σ H _ I h) fun us s1 ⟨vs, H1, I1, r, q⟩ => ⟨I1.kIn, ?_⟩) he hpl
  exact run_mk M F (hr.mono hj) hb (passAt tk σ) I1 r q
end
/-! ### errors of the package -/
def qInitB (K : PySem.W.Frag) (c : Str) : Bool := PySem.W.readsIn K (He.ga K c) (.type "type") && (decide (PySem.W.specialIn K (.ref (He.ga K c)) "__getattribute__" = some (some (.builtin "type.__getattribute__"))) &&
  (match PySem.W.findCls K (.ref (He.ga K c)) (.type "type") "__init__" with
    | some (.val (.builtin "ValueError.__init__")) => true
    | _ => false))
theorem qInitB_ok {K : PySem.W.Frag} {c : Str} (h : qInitB K c = true) : PySem.W.readsIn K (He.ga K c) (.type "type") = true ∧ PySem.W.specialIn K (.ref (He.ga K c)) "__getattribute__" = some (some (.builtin "type.__getattribute__")) ∧
    PySem.W.findCls K (.ref (He.ga K c)) (.type "type") "__init__" = some (.val (.builtin "ValueError.__init__")) := by
  obtain ⟨h1, h⟩ := Bool.and_eq_true_iff.mp h
  obtain ⟨h2, h3⟩ := Bool.and_eq_true_iff.mp h
  refine ⟨h1, of_decide_eq_true h2, ?_⟩
  split at h3
  · assumption
  · cases h3
section
variable {X : Cx} {e : Expr} {es : List Expr} {ta : TA} {p1 p2 pos : Pos} {c : Str}
theorem pe_qinit {pl : Sem Bool} (hm : X.mg c = some (.ref (He.ga X.K c))) (q : qInitB X.K c = true) (ha : PA X (e :: es) ta) (hg : Gl X c := by rfl) (hdb : (c == ("__debug__" : Str)) = false := by decide)
    (hc : eval (.Call (.Attribute (.Name c p1) "__init__" p2) (e :: es) [] pos) X.env = (do
      let ov ← eval (.Name c p1) X.env
      standAt p2.atName
      let (f, first) ← holding [ov] (getMethod ov "__init__" pl)
      callWith pos f first (backTo pos (starEach (e :: es) X.env)) (backToKw pos (keywordEach [] X.env))) := by rfl)
    (he : starEach (e :: es) X.env = (false, eval e X.env) :: starEach es X.env := by rfl) (hpl : (backTo pos (starEach es X.env)).any (·.1) = false := by rfl) :
    PE X (.Call (.Attribute (.Name c p1) "__init__" p2) (e :: es) [] pos) (tVeI X.K ta) := by
  obtain ⟨q1, q2, q3⟩ := qInitB_ok q
  refine ⟨fun pins s σ H Q I h => ?_⟩
  refine PySem.W.methodCall_KW (ld_glob I hg hm ?_ hdb) hc
  refine PySem.W.method_cls I.kIn q2 (PySem.W.cls_value I.kIn q1 q3 (by decide +kernel) ?_)
  show wpAny _ _ (callWith pos (Value.builtin "ValueError.__init__") [] (backTo pos (starEach (e :: es) X.env)) []) _ _ _
  refine PyProof.Rows.callWith_method1 (thn (ha.run pos pins _ σ H _ (I.tok _) h) fun us s1 ⟨vs, H1, I1, r1, a, C, ws, ev, hl, T, ea, q⟩ => ?_) he hpl
  subst ev
  cases r1 with
  | @cons _ u0 _ ur ra rw' =>
    obtain rfl : u0 = Value.ref a := ra
    have hlen : ur.length ≤ sizeLine := by
      rw [← Paired.length rw', sizeLine_eq]
      omega
    exact oinit_ok T I1 ea hlen fun s' J => ⟨.non, H1, J, rfl, q⟩
end
def oexB (K : PySem.W.Frag) (C : Addr) : Bool := (match K.lookup C with
  | some ⟨.type "type", _, .cls cd, sl⟩ => (match cd.mro, sl.toList with
    | .ref C' :: bm, [_, _, _, _, some (.builtin n), _] => C' == C && n == "ValueError.__new__" && !cd.hasDel && cd.hasDict && PySem.HandSPX.refsVE bm
    | _, _ => false)
  | _ => false) && (decide (PySem.W.findIn K (.ref C) "__setattr__" = some (some (.builtin "object.__setattr__"))) && (decide (PySem.W.subIn K (.ref C) (.type "BaseException") = some true) &&
    (decide (PySem.W.typeIn K (.ref C) = some (.type "type")) && PySem.W.keepIn K (.ref C))))
theorem oexB_ok {K : PySem.W.Frag} {C : Addr} (h : oexB K C = true) : OexC K C := by
  obtain ⟨q, h⟩ := Bool.and_eq_true_iff.mp h
  obtain ⟨h2, h⟩ := Bool.and_eq_true_iff.mp h
  obtain ⟨h3, h⟩ := Bool.and_eq_true_iff.mp h
  obtain ⟨h4, h5⟩ := Bool.and_eq_true_iff.mp h
  refine ⟨?_, of_decide_eq_true h2, of_decide_eq_true h3, of_decide_eq_true h4, h5⟩
  split at q
  · rename_i dd cd sl ho
    split at q
    · rename_i C' bm k0 k1 k2 k3 n k5 hm hs
      simp only [Bool.and_eq_true, beq_iff_eq, Bool.not_eq_true'] at q
      obtain ⟨⟨⟨⟨rfl, rfl⟩, hdel⟩, hdi⟩, ht⟩ := q
      obtain ⟨nm, bs, mro, ns, qn, hd, sn, sub, ab, col, del⟩ := cd
      dsimp only at hm hdel hdi
      subst hm hdel hdi
      have hsl : sl = #[k0, k1, k2, k3, some (.builtin "ValueError.__new__"), k5] := by
        obtain ⟨l⟩ := sl
        simp only at hs
        rw [hs]
      subst hsl
      exact ⟨nm, qn, ns, bs, bm, sn, sub, ab, col, dd, k0, k1, k2, k3, k5, ho, ht⟩
    · cases q
  · cases q
/-- what an __init__ of one field does; of two -/
def spI1 (K : PySem.W.Frag) (C : Addr) (f : Str) : Sp := fun vs H Q _ => ∃ a v, vs = [.ref a, v] ∧ H a = some (exo a C none) ∧ ∀ dx, H dx = none → dx ≠ a → Q .non (upd (upd H dx (exd dx [(f, v)])) a (exo a C (some dx)))
def spI2 (K : PySem.W.Frag) (C : Addr) (f g : Str) : Sp := fun vs H Q _ => ∃ a v u, vs = [.ref a, v, u] ∧ H a = some (exo a C none) ∧ ∀ dx, H dx = none → dx ≠ a → Q .non (upd (upd (upd H dx (exd dx [(f, v)])) a (exo a C (some dx))) dx (exd dx [(g, u), (f, v)]))
/-- an error class of the package with an __init__ -/
def ErC (P : Program) (w : World) (K : PySem.W.Frag) (mg : Str → Option Value) (base : Heap) (c : Str) (ps : List Str) (sp : Sp) : Prop :=
  ∃ f fd, mg c = some (.ref (He.ga K c)) ∧ OexC K (He.ga K c) ∧ PySem.W.findIn K (.ref (He.ga K c)) "__init__" = some (some (.ref f)) ∧ PySem.W.typeIn K (.ref f) = some (.type "function") ∧ Binds K fd ps [] ∧ FnOk P w K mg base (L2.CX P w) 1 f fd ps sp
/-- raise X(e); raise X(e, f) -/
def tRz1 (C : Addr) (f : Str) (te : TE) (W : WX) : TS := fun _ σ H => te σ H fun v H1 => ∀ d, H1 d = none → W (.ref C) (some d) σ (upd H1 d (.xd [(f, v)]))
def tRz2 (C : Addr) (f g : Str) (te tu : TE) (W : WX) : TS := fun _ σ H => te σ H fun v H1 => tu σ H1 fun u H2 => ∀ d, H2 d = none → W (.ref C) (some d) σ (upd H2 d (.xd [(g, u), (f, v)]))
theorem passNo {X : Cx} : Passes (L2.CX X.prog X.w) X (fun _ _ _ => False) := fun _ _ _ _ _ _ _ h => by
  obtain ⟨_, _, _, _, _, _, _, _, _, _, _, _, z⟩ := h
  exact z.elim
def tMono (te : TE) : TE := fun σ H Q => ∃ R : VK, te σ H R ∧ ∀ v H1, R v H1 → Q v H1
theorem pe_mono {X : Cx} {e : Expr} {te : TE} (h : PE X e te) : PE X e (tMono te) := ⟨fun pins s σ H Q I ⟨R, h1, h2⟩ => thn (h.run pins s σ H R I h1) fun _ _ ⟨v, H', I', r, q⟩ => ⟨v, H', I', r, h2 _ _ q⟩⟩
section
variable {X : Cx} {j : Nat} {W : WX} {x f g : Str} {ps : List Str} {e1 e2 : Expr} {te tu : TE} {p pos pos' : Pos}
theorem heap_rz {H : Hp} {a d C : Addr} {fs gs : List (Str × V)} (ha : H a = none) (hd : d ≠ a) :
    upd (del (upd (upd (upd H a (exo a C none)) d (exd d gs)) a (exo a C (some d))) a) d (.xd fs) = upd H d (.xd fs) := by
  funext b
  by_cases h1 : b = d
  · rw [h1, upd_same, upd_same]
  · rw [upd_ne h1, upd_ne h1]
    by_cases h2 : b = a
    · rw [h2, del_same, ha]
    · rw [del_ne h2, upd_ne h2, upd_ne h1, upd_ne h2]
theorem ps_rz1 (F : ErC X.prog X.w X.K X.mg X.base x ps (spI1 X.K (He.ga X.K x) f)) (hr : Room j X.A) (hj : 2 ≤ j) (hc : X.calm = true) (tk : Takes X W) (ha : PE X e1 te) (hg : Gl X x := by rfl)
    (hdb : (x == ("__debug__" : Str)) = false := by decide) (he : starEach (e1 :: []) X.env = (false, eval e1 X.env) :: starEach [] X.env := by rfl) (hpl : (backTo pos (starEach [] X.env)).any (·.1) = false := by rfl) :
    PS X (.Raise (some (.Call (.Name x p) [e1] [] pos)) none pos') (tRz1 (He.ga X.K x) f te W) := by
  obtain ⟨fI, fd, hm, T, iC, tI, hb, F⟩ := F
  have R := ps_raise (pos := pos') hc tk (pmk_oex (p := p) (pos := pos) T iC tI F (hr.mono hj) hb (.nil (F := RelV)) passNo hg hm (pa_cons (pe_mono ha) pa_nil he) hdb he hpl)
  refine ⟨fun pins s σ H Q I h => R.run pins s σ H Q I ?_⟩
  refine ⟨_, h, fun v H1 q => ⟨by simp, fun a na => ⟨a, v, rfl, upd_same, fun d hd da => ?_⟩⟩⟩
  have hd1 : H1 d = none := by rw [upd_ne da] at hd; exact hd
  refine ⟨rfl, d, _, upd_same, by rw [upd_ne da, upd_same], hd1, ?_⟩
  rw [heap_rz na da]
  exact q d hd1
end
end Q

set_option Elab.async false
set_option linter.all false
set_option maxRecDepth 100000
set_option maxHeartbeats 4000000
namespace Q
open PySem PySem.Spec PyProof.Rows L2
/-! ### operators by name -/
def rAddI : R2 := rI0 fun i j => .int (i + j)
def rSubI : R2 := rI0 fun i j => .int (i - j)
def rMulI : R2 := rI CMul fun i j => .int (i * j)
def rModI : R2 := rI (fun _ j => 0 < j) fun i j => .int (i % j)
def rDivI : R2 := rI CDiv fun i j => .int (i / j)
def rPowI : R2 := rI CPow fun i j => .int (i ^ j.toNat)
def rLtI : R2 := rI0 fun i j => .bl (decide (i < j))
def rLeI : R2 := rI0 fun i j => .bl (decide (i ≤ j))
def rGtI : R2 := rI0 fun i j => .bl (decide (j < i))
def rGeI : R2 := rI0 fun i j => .bl (decide (j ≤ i))
def rLtS : R2 := fun x y H Q => ∃ i j, x = .str i ∧ y = .str j ∧ Q (.bl (decide (i.cps.toList < j.cps.toList))) H
def rAddS : R2 := fun x y H Q => ∃ i j, x = .str i ∧ y = .str j ∧ i.length + j.length ≤ sizeLine ∧ Q (.str (i ++ j)) H
def rLenA (K : PySem.W.Frag) : List V → Hp → VK → Prop := fun xs H Q => ∃ x n, xs = [x] ∧ LenV K x H n ∧ Q (.int n) H
def rLenD : List V → Hp → VK → Prop := fun xs H Q => ∃ a kvs, xs = [V.ref a] ∧ H a = some (.dK kvs) ∧ Q (.int (kvs.length : Nat)) H
def rAbs : List V → Hp → VK → Prop := fun xs H Q => ∃ i, xs = [.int i] ∧ Q (.int (if i < 0 then -i else i)) H
def rMin2 : List V → Hp → VK → Prop := fun xs H Q => ∃ i j, xs = [.int i, .int j] ∧ Q (.int (if j < i then j else i)) H
def rMax2 : List V → Hp → VK → Prop := fun xs H Q => ∃ i j, xs = [.int i, .int j] ∧ Q (.int (if j > i then j else i)) H
def rInt1 : List V → Hp → VK → Prop := fun xs H Q => (∃ i, xs = [.int i] ∧ Q (.int i) H) ∨ ∃ k, xs = [.bl k] ∧ Q (.int (if k then 1 else 0)) H
def rListOf (K : PySem.W.Frag) : List V → Hp → VK → Prop := fun xs H Q => ∃ p ys, xs = [.ref p] ∧ (SqL K H p ys ∨ SqT K H p ys) ∧ ∀ l, H l = none → Q (.ref l) (upd H l (.lst ys))
def rTupOf (K : PySem.W.Frag) : List V → Hp → VK → Prop := fun xs H Q => ∃ p ys, xs = [.ref p] ∧ ((SqL K H p ys ∧ ∀ l, H l = none → Q (.ref l) (upd H l (.tup ys))) ∨ (SqT K H p ys ∧ Q (.ref p) H))
def tTr (K : PySem.W.Frag) (ta : TE) : TT := fun σ H Q => ta σ H fun x H' => ∃ k, TruV K x H' k ∧ Q k H'
def rJoin (K : PySem.W.Frag) : V → List V → Hp → VK → Prop := fun x xs H Q => ∃ a p, ∃ ys : List Str, x = .str a ∧ xs = [.ref p] ∧ (SqL K H p (ys.map V.str) ∨ SqT K H p (ys.map V.str)) ∧
      (ys.map (·.length)).sum + ys.length * a.length ≤ 16777216 ∧ Q (.str (Txt.join a ys)) H
section
variable {X : Cx}
theorem oAddI : OpR X (binaryOp .Add) rAddI := op_add
theorem oMulI : OpR X (binaryOp .Mult) rMulI := op_mul
theorem oModI : OpR X (binaryOp .Mod) rModI := op_mod
theorem oDivI : OpR X (binaryOp .FloorDiv) rDivI := op_fdiv
theorem oPowI : OpR X (binaryOp .Pow) rPowI := op_pow
theorem oLtI : OpR X (compareOp .Lt) rLtI := op_lt
theorem oGtI : OpR X (compareOp .Gt) rGtI := op_gt
theorem oGeI : OpR X (compareOp .GtE) rGeI := op_ge
theorem oLtS : OpR X (compareOp .Lt) rLtS := op_lt_str
theorem oAddS : OpR X (binaryOp .Add) rAddS := op_add_str
theorem cLenA : CallR X (.builtin "len") (rLenA X.K) := call_len
theorem cLenD : CallR X (.builtin "len") rLenD := call_lenD
theorem cAbs : CallR X (.builtin "abs") rAbs := call_abs
theorem cMin2 (hc : X.calm = true) : CallR X (.builtin "min") rMin2 := call_min2 hc
theorem cInt1 : CallR X (.type "int") rInt1 := call_int1
theorem cListOf : CallR X (.type "list") (rListOf X.K) := call_list_of
theorem cTupOf : CallR X (.type "tuple") (rTupOf X.K) := call_tuple_of
theorem pt_tr {a : Expr} {ta : TE} (ha : PE X a ta) (he : ∀ whole, isTrue a X.env whole = (do let v ← whole; standAt a.pos; holding [v] (truthy v)) := by intro _; rfl) : PT X a (tTr X.K ta) := pt_truth ha he
end
/-! ### one step of a reading -/
section
variable {K : PySem.W.Frag} {σ : L2.St} {H : Hp} {Q : VK} {Qb : Bool → Hp → Prop} {Qa : List V → Hp → Prop} {Qs : L2.St → Hp → Prop} {De : Ends} {t u : TS} {c c2 : TT} {te ta tb : TE} {tl tr : TA} {g : TG} {i : Nat} {v : V} {W : WX} {r : R2} {sp : Sp} {b : Bool} {m n : Int} {x y : Str} {p : Addr}
theorem x_seq (h : t { De with nx := u De } σ H) : tSeq t u De σ H := h
theorem x_next (h : De.nx σ H) : tNext De σ H := h
theorem x_asg (h : te σ H fun x H1 => g x σ H1 De.nx) : tAsg te g De σ H := h
theorem x_gname (h : Qs (σ.set i (some v)) H) : gName i v σ H Qs := h
theorem x_var (e : σ[i]? = some (some v)) (h : Q v H) : tVar i σ H Q := ⟨v, e, h⟩
theorem x_c (h : Q v H) : tC v σ H Q := h
theorem x_op (h : ta σ H fun x H1 => tb σ H1 fun y H2 => r x y H2 Q) : tOp r ta tb σ H Q := h
theorem x_ret (h : te σ H De.rt) : tRet te De σ H := h
theorem x_drop (h : te σ H fun _ H1 => De.nx σ H1) : tDrop te De σ H := h
theorem x_cont (h : De.ct σ H) : tCont De σ H := h
theorem x_if (h : c σ H fun b H1 => if b = true then t De σ H1 else u De σ H1) : tIfS c t u De σ H := h
theorem x_and (h : c σ H fun b H1 => if b = true then c2 σ H1 Qb else Qb false H1) : tAnd c c2 σ H Qb := h
theorem x_or (h : c σ H fun b H1 => if b = true then Qb true H1 else c2 σ H1 Qb) : tOr c c2 σ H Qb := h
theorem x_not (h : c σ H fun b H1 => Qb (!b) H1) : tNot c σ H Qb := h
theorem x_andV (h : ta σ H fun x H1 => ∃ c, x = .bl c ∧ if c = true then tb σ H1 Q else Q (.bl false) H1) : tAndV ta tb σ H Q := h
theorem x_orV (h : ta σ H fun x H1 => ∃ c, x = .bl c ∧ if c = true then Q (.bl true) H1 else tb σ H1 Q) : tOrV ta tb σ H Q := h
theorem x_test (h : te σ H fun x H1 => ∃ k, x = .bl k ∧ Qb k H1) : tTest te σ H Qb := h
theorem x_tB (h : te σ H fun x H1 => ∃ k, x = .bl k ∧ Qb k H1) : tB te σ H Qb := h
theorem x_tr (h : te σ H fun x H1 => ∃ k, TruV K x H1 k ∧ Qb k H1) : tTr K te σ H Qb := h
theorem x_exb {Qc : Bool → Prop} (h : Qc b) : ∃ k, V.bl b = .bl k ∧ Qc k := ⟨b, rfl, h⟩
theorem x_cb {rr : List V → Hp → VK → Prop} (h : tl σ H fun vs H1 => rr vs H1 Q) : tCB rr tl σ H Q := h
theorem x_cons (h : ta σ H fun x H1 => tr σ H1 fun xs H2 => Qa (x :: xs) H2) : tCons ta tr σ H Qa := h
theorem x_nil (h : Qa [] H) : tNil σ H Qa := h
theorem x_cl (h : tl σ H fun vs H1 => sp vs H1 Q fun c d H' => W c d σ H') : tCl sp W tl σ H Q := h
theorem x_isN (h : ta σ H fun x H1 => Q (.bl (decide (x = .non))) H1) : tIsN ta σ H Q := h
theorem x_notN (h : ta σ H fun x H1 => Q (.bl (!decide (x = .non))) H1) : tNotN ta σ H Q := h
theorem x_addI (h : Q (.int (m + n)) H) : rAddI (.int m) (.int n) H Q := ⟨m, n, rfl, rfl, h⟩
theorem x_mulI (hc : CMul m n) (h : Q (.int (m * n)) H) : rMulI (.int m) (.int n) H Q := ⟨m, n, rfl, rfl, hc, h⟩
theorem x_modI (hc : 0 < n) (h : Q (.int (m % n)) H) : rModI (.int m) (.int n) H Q := ⟨m, n, rfl, rfl, hc, h⟩
theorem x_divI (hc : CDiv m n) (h : Q (.int (m / n)) H) : rDivI (.int m) (.int n) H Q := ⟨m, n, rfl, rfl, hc, h⟩
theorem x_powI (hc : CPow m n) (h : Q (.int (m ^ n.toNat)) H) : rPowI (.int m) (.int n) H Q := ⟨m, n, rfl, rfl, hc, h⟩
theorem x_ltI (h : Q (.bl (decide (m < n))) H) : rLtI (.int m) (.int n) H Q := ⟨m, n, rfl, rfl, h⟩
theorem x_gtI (h : Q (.bl (decide (n < m))) H) : rGtI (.int m) (.int n) H Q := ⟨m, n, rfl, rfl, h⟩
theorem x_geI (h : Q (.bl (decide (n ≤ m))) H) : rGeI (.int m) (.int n) H Q := ⟨m, n, rfl, rfl, h⟩
theorem x_ltS (h : Q (.bl (decide (x.cps.toList < y.cps.toList))) H) : rLtS (.str x) (.str y) H Q := ⟨x, y, rfl, rfl, h⟩
theorem x_addS (hl : x.length + y.length ≤ sizeLine) (h : Q (.str (x ++ y)) H) : rAddS (.str x) (.str y) H Q := ⟨x, y, rfl, rfl, hl, h⟩
theorem x_eq {a b : V} (hs : scal a b = true) (h : Q (.bl (decide (a = b))) H) : rEq a b H Q := ⟨hs, h⟩
theorem x_ne {a b : V} (hs : scal a b = true) (h : Q (.bl (!decide (a = b))) H) : rNe a b H Q := ⟨hs, h⟩
theorem x_lenS (hl : x.length ≤ sizeLine) (h : Q (.int (x.length : Nat)) H) : rLenA K [.str x] H Q := ⟨_, _, rfl, ⟨hl, rfl⟩, h⟩
theorem x_lenL {xs : List V} (hp : SqL K H p xs) (h : Q (.int (xs.length : Nat)) H) : rLenA K [.ref p] H Q := ⟨_, _, rfl, .inl ⟨_, hp, rfl⟩, h⟩
theorem x_lenT {xs : List V} (hp : SqT K H p xs) (h : Q (.int (xs.length : Nat)) H) : rLenA K [.ref p] H Q := ⟨_, _, rfl, .inr ⟨_, hp, rfl⟩, h⟩
theorem x_lenD {kvs : List (Key × V)} (hp : H p = some (.dK kvs)) (h : Q (.int (kvs.length : Nat)) H) : rLenD [.ref p] H Q := ⟨_, _, rfl, hp, h⟩
theorem x_abs (h : Q (.int (if m < 0 then -m else m)) H) : rAbs [.int m] H Q := ⟨m, rfl, h⟩
theorem x_min2 (h : Q (.int (if n < m then n else m)) H) : rMin2 [.int m, .int n] H Q := ⟨m, n, rfl, h⟩
theorem x_int1 (h : Q (.int m) H) : rInt1 [.int m] H Q := .inl ⟨m, rfl, h⟩
theorem x_isi {a : V} {T : String} {tv : Value} (ty : TyX K H a tv) (k : PySem.W.kitOne K tv (.type T) = some b) (h : Q (.bl b) H) : rIsi K [a, .ty T] H Q := ⟨a, .ty T, tv, .type T, b, rfl, .ty T, ty, k, h⟩
theorem x_tt (A B : Prop) (h : A) : if true = true then A else B := by rw [if_pos rfl]; exact h
theorem x_ff (A B : Prop) (h : B) : if false = true then A else B := by rw [if_neg (by decide)]; exact h
theorem x_ite {A B : Prop} (h1 : b = true → A) (h2 : b = false → B) : if b = true then A else B := by
  cases b with
  | true => rw [if_pos rfl]; exact h1 rfl
  | false => rw [if_neg (by decide)]; exact h2 rfl
theorem x_ixL {xs : List V} (hp : SqL K H p xs) (e : atI xs m = some v) (h : Q v H) : rIxL K (.ref p) (.int m) H Q := ⟨p, xs, m, v, rfl, rfl, hp, e, h⟩
theorem x_ixT {xs : List V} (hp : SqT K H p xs) (e : atI xs m = some v) (h : Q v H) : rIxT K (.ref p) (.int m) H Q := ⟨p, xs, m, v, rfl, rfl, hp, e, h⟩
theorem x_ixS {k : Nat} (hl : x.length ≤ sizeLine) (e : atI x.cps.toList m = some k) (h : Q (.str ⟨#[k]⟩) H) : rIxS (.str x) (.int m) H Q := ⟨x, m, k, rfl, rfl, hl, e, h⟩
theorem x_notInS {k : Nat} (h : Q (.bl (!decide (k ∈ y.cps.toList))) H) : rNotInS (.str ⟨#[k]⟩) (.str y) H Q := ⟨k, y, rfl, rfl, h⟩
theorem x_inL {a : V} {xs : List V} (hp : SqL K H p xs) (f1 : flatV a = true) (f2 : xs.all flatV = true) (h : Q (.bl (inV a xs)) H) : rIn K false a (.ref p) H Q := ⟨p, xs, rfl, .inl hp, f1, f2, h⟩
theorem x_ninL {a : V} {xs : List V} (hp : SqL K H p xs) (f1 : flatV a = true) (f2 : xs.all flatV = true) (h : Q (.bl (!inV a xs)) H) : rIn K true a (.ref p) H Q := ⟨p, xs, rfl, .inl hp, f1, f2, h⟩
theorem x_ninT {a : V} {xs : List V} (hp : SqT K H p xs) (f1 : flatV a = true) (f2 : xs.all flatV = true) (h : Q (.bl (!inV a xs)) H) : rIn K true a (.ref p) H Q := ⟨p, xs, rfl, .inr hp, f1, f2, h⟩
/-- a new thing at p -/
theorem x_new {S : List Addr} {B0 H0 B : Hp} {M : List (Addr × HO)} {Qp : Addr → Hp → Prop} {o : HO} (hs : HS S B0 H0 B H M) (h : ∀ p H', HS S B0 H0 B H' ((p, o) :: M) → H p = none → Qp p H') : ∀ p, H p = none → Qp p (upd H p o) :=
  fun p hp => h p _ (hs.new hp) hp
/-- a new thing that never changes (a tuple, or a list nobody changes) -/
theorem x_newF {S : List Addr} {B0 H0 B : Hp} {M : List (Addr × HO)} {Qp : Addr → Hp → Prop} {o : HO} (hs : HS S B0 H0 B H M) (h : ∀ p B' H', HS S B0 H0 B' H' M → Same B B' → B' p = some o → H p = none → Qp p H') : ∀ p, H p = none → Qp p (upd H p o) := fun p hp => by
  have h1 := hs.new (o := o) hp
  have h0 : H0 p = none ∨ p ∈ S := (h1.mu (p, o) List.mem_cons_self).2.2
  have nd := h1.nd
  have hB : B p = none := same_none hs.bh hp
  have sB : Same B (upd B p o) := fun b u e => by rw [upd_ne (ne_of_none e hB)]; exact e
  refine h p (upd B p o) _ ⟨hs.bb.trans sB, fun b u e => ?_, fun b u n1 n2 e => ?_, fun q m => ?_, hs.nd⟩ sB upd_same hp
  · by_cases z : b = p
    · subst z; rw [upd_same] at e; cases e; exact upd_same
    · rw [upd_ne z] at e ⊢; exact hs.bh _ _ e
  · obtain ⟨a1, a2⟩ := hs.fr b u n1 n2 e
    have nb : b ≠ p := ne_of_none a2 hp
    exact ⟨by rw [upd_ne nb]; exact a1, by rw [upd_ne nb]; exact a2⟩
  · obtain ⟨a1, a2, a3⟩ := hs.mu q m
    have nb : q.1 ≠ p := ne_of_none a2 hp
    exact ⟨by rw [upd_ne nb]; exact a1, by rw [upd_ne nb]; exact a2, a3⟩
end
/-! ### isinstance of any data -/
def D.isT : String → D → Bool
  | "str", .str _ => true
  | "int", .int _ => true
  | "int", .bl _ => true
  | "bool", .bl _ => true
  | "list", .lst _ => true
  | "tuple", .tup _ => true
  | "dict", .dct _ => true
  | _, _ => false
theorem x_isiD {K : PySem.W.Frag} {S : List Addr} {B0 H0 B H : Hp} {M : List (Addr × HO)} {Q : VK} {v : V} {d : D} {T : String} (hs : HS S B0 H0 B H M) (r : Rep K B v d) (hT : T ∈ (["str", "int", "bool", "list", "tuple", "dict"] : List String)) (h : Q (.bl (d.isT T)) H) :
    rIsi K [v, .ty T] H Q := by
  have go : ∀ {tv : String} {b : Bool}, TyX K H v (.type tv) → kitB tv T = some b → d.isT T = b → rIsi K [v, .ty T] H Q := fun {tv b} ty k e => ⟨v, .ty T, _, .type T, b, rfl, .ty T, ty, kit_ty k, by rw [← e]; exact h⟩
  simp only [List.mem_cons, List.not_mem_nil, or_false] at hT
  cases r with
  | non => rcases hT with rfl | rfl | rfl | rfl | rfl | rfl <;> first | exact go (b := false) (.base .non) (by decide +kernel) rfl | exact go (b := true) (.base .non) (by decide +kernel) rfl
  | bl b => rcases hT with rfl | rfl | rfl | rfl | rfl | rfl <;> first | exact go (b := false) (.base (.bl b)) (by decide +kernel) rfl | exact go (b := true) (.base (.bl b)) (by decide +kernel) rfl
  | int i => rcases hT with rfl | rfl | rfl | rfl | rfl | rfl <;> first | exact go (b := false) (.base (.int i)) (by decide +kernel) rfl | exact go (b := true) (.base (.int i)) (by decide +kernel) rfl
  | str _ => rcases hT with rfl | rfl | rfl | rfl | rfl | rfl <;> first | exact go (b := false) (.base (.str _)) (by decide +kernel) rfl | exact go (b := true) (.base (.str _)) (by decide +kernel) rfl
  | lst e _ _ => rcases hT with rfl | rfl | rfl | rfl | rfl | rfl <;> first | exact go (b := false) (.base (.lst (hs.up e))) (by decide +kernel) rfl | exact go (b := true) (.base (.lst (hs.up e))) (by decide +kernel) rfl
  | tup e _ => rcases hT with rfl | rfl | rfl | rfl | rfl | rfl <;> first | exact go (b := false) (.base (.tup (hs.up e))) (by decide +kernel) rfl | exact go (b := true) (.base (.tup (hs.up e))) (by decide +kernel) rfl
  | dct e _ => rcases hT with rfl | rfl | rfl | rfl | rfl | rfl <;> first | exact go (b := false) (.base (.dK (hs.up e))) (by decide +kernel) rfl | exact go (b := true) (.base (.dK (hs.up e))) (by decide +kernel) rfl
  | obj e i =>
    refine ⟨_, .ty T, _, .type T, false, rfl, .ty T, .base (.ins (hs.up e) i.cl i.ha i.hn i.tk i.mo), i.no T (by simp only [List.mem_cons, List.not_mem_nil, or_false]; exact hT), ?_⟩
    rcases hT with rfl | rfl | rfl | rfl | rfl | rfl <;> exact h
theorem bstep {B B' : Hp} {a : Addr} {o : HO} (s : Same B B') (e : B a = some o) : B' a = some o := s _ _ e
theorem small_le {n : Nat} (h : n ≤ 1000000) : n ≤ sizeLine := Nat.le_trans h (by rw [sizeLine_eq]; decide)
theorem small_lt {n : Nat} (h : n ≤ 1000000) : n < sizeLine := Nat.lt_of_le_of_lt h (by rw [sizeLine_eq]; decide)
end Q

set_option Elab.async false
set_option linter.all false
set_option maxRecDepth 100000
set_option maxHeartbeats 4000000
namespace Q
open PySem PySem.Spec PyProof.Rows L2
/-! ### loops: a state s of one's own, from which the slots and what may change follow -/
def LI {α : Type} (S : List Addr) (B0 H0 B : Hp) (σf : α → L2.St) (Mf : α → List (Addr × HO)) (P : Nat → α → Hp → Prop) (i : Nat) (σ : L2.St) (H : Hp) : Prop :=
  ∃ s B1, σ = σf s ∧ Same B B1 ∧ HS S B0 H0 B1 H (Mf s) ∧ P i s B1
abbrev LoopW (J : It) (g : TG) (tb : TS) (De : Ends) (σ : L2.St) (H : Hp) : Prop := ∃ W : Nat → Nat → L2.St → Hp → Prop, (∃ m, W 0 m σ H) ∧ ∀ i m σ H, W i m σ H →
  (J.stop i H ∧ De.nx σ H) ∨ (J.go i H ∧ ∃ N : L2.St → Hp → Prop, (∀ σ' H', N σ' H' → ∃ m', m' < m ∧ W (i + 1) m' σ' H') ∧ ∀ x H', J.yld i H x H' → g x σ H' fun σ2 H2 => tb { De with nx := N, ct := N, bk := De.nx } σ2 H2)
theorem x_for {wi : TI} {g : TG} {tb : TS} {De : Ends} {σ : L2.St} {H : Hp} (h : wi σ H fun J H1 => LoopW J g tb De σ H1) : tFor wi g tb De σ H := h
theorem x_iList {K : PySem.W.Frag} {te : TE} {σ : L2.St} {H : Hp} {R : It → Hp → Prop} (h : te σ H fun x H1 => ∃ a, x = .ref a ∧ (∃ xs, SqL K H1 a xs) ∧ R (Itl K a) H1) : iList K te σ H R := h
theorem x_iTup {K : PySem.W.Frag} {te : TE} {σ : L2.St} {H : Hp} {R : It → Hp → Prop} (h : te σ H fun x H1 => ∃ a, x = .ref a ∧ (∃ xs, SqT K H1 a xs) ∧ R (Itt K a) H1) : iTup K te σ H R := h
theorem x_iStr {te : TE} {σ : L2.St} {H : Hp} {R : It → Hp → Prop} (h : te σ H fun v H1 => ∃ x, v = .str x ∧ R (Its x) H1) : iStr te σ H R := h
theorem x_iRng1 {ta : TA} {σ : L2.St} {H : Hp} {R : It → Hp → Prop} (h : ta σ H fun vs H1 => ∃ j : Int, vs = [.int j] ∧ -(2 ^ 62) ≤ j ∧ j < 2 ^ 62 ∧ R (Itr 0 j.toNat) H1) : iRng1 ta σ H R := h
/-- a list or a tuple -/
def iSeq (K : PySem.W.Frag) (te : TE) : TI := fun σ H R => iList K te σ H R ∨ iTup K te σ H R
theorem pi_seq {X : Cx} {tg l : Expr} {tl : TE} (hl : PE X l tl) : PI X tg l (iSeq X.K tl) :=
  ⟨fun pins s σ H R I h => h.elim (fun h => (pi_list (tg := tg) hl).run pins s σ H R I h) fun h => (pi_tup (tg := tg) hl).run pins s σ H R I h⟩
def iEnumS (K : PySem.W.Frag) (ta : TA) : TI := iEnum K ta
section
variable {α : Type} {K : PySem.W.Frag} {S : List Addr} {B0 H0 B : Hp} {σf : α → L2.St} {Mf : α → List (Addr × HO)} {P : Nat → α → Hp → Prop} {a : Addr} {xs : List V} {g : TG} {tb : TS} {De : Ends} {H : Hp} {s0 : α}
theorem l_list (hs : HS S B0 H0 B H (Mf s0)) (ea : B a = some (.lst xs)) (h0 : P 0 s0 B)
    (hb : ∀ i x s B1 H1, xs[i]? = some x → Same B B1 → HS S B0 H0 B1 H1 (Mf s) → P i s B1 → g x (σf s) H1 fun σ2 H2 => tb { De with nx := LI S B0 H0 B σf Mf P (i + 1), ct := LI S B0 H0 B σf Mf P (i + 1), bk := De.nx } σ2 H2)
    (hd : ∀ s B1 H1, Same B B1 → HS S B0 H0 B1 H1 (Mf s) → P xs.length s B1 → De.nx (σf s) H1) : LoopW (Itl K a) g tb De (σf s0) H :=
  for_list (K := K) (a := a) (xs := xs) (LI S B0 H0 B σf Mf P) ⟨s0, B, rfl, Same.refl _, hs, h0⟩ (fun i σ H' _ ⟨s, B1, _, sb, hs', _⟩ => SqL.of (hs'.up (sb _ _ ea)))
    (fun i x σ H' hi ⟨s, B1, e, sb, hs', p⟩ => by rw [e]; exact hb i x s B1 H' hi sb hs' p) fun σ H' ⟨s, B1, e, sb, hs', p⟩ => by rw [e]; exact hd s B1 H' sb hs' p
theorem l_tup (hs : HS S B0 H0 B H (Mf s0)) (ea : B a = some (.tup xs)) (h0 : P 0 s0 B)
    (hb : ∀ i x s B1 H1, xs[i]? = some x → Same B B1 → HS S B0 H0 B1 H1 (Mf s) → P i s B1 → g x (σf s) H1 fun σ2 H2 => tb { De with nx := LI S B0 H0 B σf Mf P (i + 1), ct := LI S B0 H0 B σf Mf P (i + 1), bk := De.nx } σ2 H2)
    (hd : ∀ s B1 H1, Same B B1 → HS S B0 H0 B1 H1 (Mf s) → P xs.length s B1 → De.nx (σf s) H1) : LoopW (Itt K a) g tb De (σf s0) H :=
  for_tup (K := K) (a := a) (xs := xs) (LI S B0 H0 B σf Mf P) ⟨s0, B, rfl, Same.refl _, hs, h0⟩ (fun i σ H' _ ⟨s, B1, _, sb, hs', _⟩ => SqT.of (hs'.up (sb _ _ ea)))
    (fun i x σ H' hi ⟨s, B1, e, sb, hs', p⟩ => by rw [e]; exact hb i x s B1 H' hi sb hs' p) fun σ H' ⟨s, B1, e, sb, hs', p⟩ => by rw [e]; exact hd s B1 H' sb hs' p
theorem l_range {lo : Int} {n : Nat} (hs : HS S B0 H0 B H (Mf s0)) (h0 : P 0 s0 B)
    (hb : ∀ i s B1 H1, i < n → Same B B1 → HS S B0 H0 B1 H1 (Mf s) → P i s B1 → g (.int (lo + i)) (σf s) H1 fun σ2 H2 => tb { De with nx := LI S B0 H0 B σf Mf P (i + 1), ct := LI S B0 H0 B σf Mf P (i + 1), bk := De.nx } σ2 H2)
    (hd : ∀ s B1 H1, Same B B1 → HS S B0 H0 B1 H1 (Mf s) → P n s B1 → De.nx (σf s) H1) : LoopW (Itr lo n) g tb De (σf s0) H :=
  for_range (lo := lo) (n := n) (LI S B0 H0 B σf Mf P) ⟨s0, B, rfl, Same.refl _, hs, h0⟩
    (fun i σ H' hi ⟨s, B1, e, sb, hs', p⟩ => by rw [e]; exact hb i s B1 H' hi sb hs' p) fun σ H' ⟨s, B1, e, sb, hs', p⟩ => by rw [e]; exact hd s B1 H' sb hs' p
theorem l_str {z : Str} (hs : HS S B0 H0 B H (Mf s0)) (h0 : P 0 s0 B)
    (hb : ∀ i c s B1 H1, z.cps.toList[i]? = some c → Same B B1 → HS S B0 H0 B1 H1 (Mf s) → P i s B1 → g (.str ⟨#[c]⟩) (σf s) H1 fun σ2 H2 => tb { De with nx := LI S B0 H0 B σf Mf P (i + 1), ct := LI S B0 H0 B σf Mf P (i + 1), bk := De.nx } σ2 H2)
    (hd : ∀ s B1 H1, Same B B1 → HS S B0 H0 B1 H1 (Mf s) → P z.cps.toList.length s B1 → De.nx (σf s) H1) : LoopW (Its z) g tb De (σf s0) H := by
  refine for_it walk_str (LI S B0 H0 B σf Mf P) ⟨s0, B, rfl, Same.refl _, hs, h0⟩ (fun _ _ _ _ _ => trivial) (fun i x σ H' H2 hi ⟨s, B1, e, sb, hs', p⟩ y => ?_) fun σ H' ⟨s, B1, e, sb, hs', p⟩ => ?_
  · obtain ⟨rfl, c, hc, rfl⟩ := y
    rw [e]
    exact hb i c s B1 _ (by rw [Array.getElem?_toList]; exact hc) sb hs' p
  · rw [e]
    exact hd s B1 H' sb hs' (by rw [Array.length_toList]; exact p)
end
/-! ### comprehensions -/
abbrev CompW (J : It) (g : TG) (tt : TT) (te : TE) (vs : List Nat) (σ : L2.St) (D : Addr) (H1 : Hp) (Q : VK) : Prop := ∃ W : Nat → Nat → Hp → Prop, (∃ m, W 0 m (upd H1 D (.lst []))) ∧ ∀ i m H, W i m H →
  (J.stop i H ∧ Q (.ref D) H) ∨ (J.go i H ∧ ∃ Nx : Hp → Prop, (∀ H', Nx H' → ∃ m', m' < m ∧ W (i + 1) m' H') ∧ ∀ x H', J.yld i H x H' → g x (wipe σ vs) H' fun σ2 H2 => wipe σ2 vs = wipe σ vs ∧ tt σ2 H2 fun b H3 =>
    if b = true then te σ2 H3 fun y H4 => ∃ acc, H4 D = some (.lst acc) ∧ acc.length < sizeLine ∧ Nx (upd H4 D (.lst (acc ++ [y]))) else Nx H3)
theorem x_lc {wi : TI} {g : TG} {tt : TT} {te : TE} {vs : List Nat} {σ : L2.St} {H : Hp} {Q : VK} (h : wi σ H fun J H1 => ∀ D, H1 D = none → CompW J g tt te vs σ D H1 Q) : tLc wi g tt te vs σ H Q := h
/-- the list so far stands at D, ahead of what else may change (which follows from a state s of one's own) -/
def CI {α : Type} (S : List Addr) (B0 H0 B : Hp) (Mf : α → List (Addr × HO)) (D : Addr) (P : Nat → α → List V → Hp → Prop) (i : Nat) (H : Hp) : Prop :=
  ∃ s acc B1, Same B B1 ∧ HS S B0 H0 B1 H ((D, .lst acc) :: Mf s) ∧ acc.length ≤ i ∧ P i s acc B1
section
variable {α : Type} {K : PySem.W.Frag} {S : List Addr} {B0 H0 B : Hp} {Mf : α → List (Addr × HO)} {P : Nat → α → List V → Hp → Prop} {a D : Addr} {xs : List V} {g : TG} {tt : TT} {te : TE} {vs : List Nat} {σ : L2.St} {H1 : Hp} {Q : VK} {s0 : α}
theorem c_keep {B2 H4 : Hp} {i : Nat} {s : α} {acc : List V} {y : V} (sb : Same B B2) (hs : HS S B0 H0 B2 H4 ((D, .lst acc) :: Mf s)) (hi : acc.length ≤ i) (hz : i < 1000000) (p : P (i + 1) s (acc ++ [y]) B2) :
    ∃ acc', H4 D = some (.lst acc') ∧ acc'.length < sizeLine ∧ CI S B0 H0 B Mf D P (i + 1) (upd H4 D (.lst (acc' ++ [y]))) :=
  ⟨acc, hs.get List.mem_cons_self, small_lt (by omega), s, acc ++ [y], B2, sb, hs.set0, by simp; omega, p⟩
theorem c_left {B2 H4 : Hp} {i : Nat} {s : α} {acc : List V} (sb : Same B B2) (hs : HS S B0 H0 B2 H4 ((D, .lst acc) :: Mf s)) (hi : acc.length ≤ i) (p : P (i + 1) s acc B2) : CI S B0 H0 B Mf D P (i + 1) H4 := ⟨s, acc, B2, sb, hs, by omega, p⟩
theorem c_list (hs : HS S B0 H0 B H1 (Mf s0)) (hD : H1 D = none) (ea : B a = some (.lst xs)) (h0 : P 0 s0 [] B)
    (hb : ∀ i x s acc B1 H', xs[i]? = some x → acc.length ≤ i → Same B B1 → HS S B0 H0 B1 H' ((D, .lst acc) :: Mf s) → P i s acc B1 → g x (wipe σ vs) H' fun σ2 H2 => wipe σ2 vs = wipe σ vs ∧ tt σ2 H2 fun b H3 =>
      if b = true then te σ2 H3 fun y H4 => ∃ acc', H4 D = some (.lst acc') ∧ acc'.length < sizeLine ∧ CI S B0 H0 B Mf D P (i + 1) (upd H4 D (.lst (acc' ++ [y]))) else CI S B0 H0 B Mf D P (i + 1) H3)
    (hd : ∀ s acc B1 H', Same B B1 → HS S B0 H0 B1 H' ((D, .lst acc) :: Mf s) → acc.length ≤ xs.length → P xs.length s acc B1 → Q (.ref D) H') : CompW (Itl K a) g tt te vs σ D H1 Q :=
  lc_list (K := K) (a := a) (xs := xs) (CI S B0 H0 B Mf D P) ⟨s0, [], B, Same.refl _, hs.new hD, Nat.le_refl _, h0⟩ (fun i H' _ ⟨s, acc, B1, sb, hs', _⟩ => SqL.of (hs'.up (sb _ _ ea)))
    (fun i x H' hi ⟨s, acc, B1, sb, hs', hl, p⟩ => hb i x s acc B1 H' hi hl sb hs' p) fun H' ⟨s, acc, B1, sb, hs', hl, p⟩ => hd s acc B1 H' sb hs' hl p
theorem c_range {lo : Int} {n : Nat} (hs : HS S B0 H0 B H1 (Mf s0)) (hD : H1 D = none) (h0 : P 0 s0 [] B)
    (hb : ∀ i s acc B1 H', i < n → acc.length ≤ i → Same B B1 → HS S B0 H0 B1 H' ((D, .lst acc) :: Mf s) → P i s acc B1 → g (.int (lo + i)) (wipe σ vs) H' fun σ2 H2 => wipe σ2 vs = wipe σ vs ∧ tt σ2 H2 fun b H3 =>
      if b = true then te σ2 H3 fun y H4 => ∃ acc', H4 D = some (.lst acc') ∧ acc'.length < sizeLine ∧ CI S B0 H0 B Mf D P (i + 1) (upd H4 D (.lst (acc' ++ [y]))) else CI S B0 H0 B Mf D P (i + 1) H3)
    (hd : ∀ s acc B1 H', Same B B1 → HS S B0 H0 B1 H' ((D, .lst acc) :: Mf s) → acc.length ≤ n → P n s acc B1 → Q (.ref D) H') : CompW (Itr lo n) g tt te vs σ D H1 Q :=
  lc_range (lo := lo) (n := n) (CI S B0 H0 B Mf D P) ⟨s0, [], B, Same.refl _, hs.new hD, Nat.le_refl _, h0⟩
    (fun i H' hi ⟨s, acc, B1, sb, hs', hl, p⟩ => hb i s acc B1 H' hi hl sb hs' p) fun H' ⟨s, acc, B1, sb, hs', hl, p⟩ => hd s acc B1 H' sb hs' hl p
end
end Q

set_option Elab.async false
set_option linter.all false
set_option maxRecDepth 100000
set_option maxHeartbeats 4000000
namespace Q
open PySem PySem.Spec PyProof.Rows L2
abbrev WE0 (E : XK) : WX := fun c d _ H' => E c d H'
abbrev W0 : WX := fun _ _ _ _ => False
def rNegI : V → Hp → VK → Prop := rU fun i => .int (-i)
theorem x_un {r : V → Hp → VK → Prop} {ta : TE} {σ : L2.St} {H : Hp} {Q : VK} (h : ta σ H fun x H1 => r x H1 Q) : tUn r ta σ H Q := h
theorem x_neg {m : Int} {H : Hp} {Q : VK} (h : Q (.int (-m)) H) : rNegI (.int m) H Q := ⟨m, rfl, h⟩
def tTryAs (K : PySem.W.Frag) (c : Value) (i : Nat) (ts : Addr → Value → Option Addr → TS) (Wout : WX) (tb : WX → TS) : TS := fun De σ H => tb (wAs K c i ts Wout De) De σ H
def tTryOnly (K : PySem.W.Frag) (c : Value) (ts : Addr → Value → Option Addr → TS) (Wout : WX) (tb : WX → TS) : TS := fun De σ H => tb (wOnly K c ts Wout De) De σ H
/-! ### enumerate of a tuple -/
theorem meets_enumT (l : Addr) (items : Array Value) :
    Meets (Builtin.«enumerate.__new__» ⟨[.type "enumerate", .ref l], []⟩) (fun _ R s => s.heap.IsTuple l items ∧
      R (.ok (.ret (.ref (s.heap.push { cls := .type "tuple_iterator", data := .fields #[.ref l, .int 0 0] }).objs.size)))
        { s with heap := (s.heap.push { cls := .type "tuple_iterator", data := .fields #[.ref l, .int 0 0] }).push { cls := .type "enumerate", data := .fields #[.none, .bool false, .ref s.heap.objs.size, rawInt 0, .none, .none] } }) :=
  .of_wp fun prog w A R s h => by
    obtain ⟨hp, g, d, tk, os⟩ := s; obtain ⟨hl, h⟩ := h
    have hsub := sub_enumerate
    have hL : Heap.IsTuple (Shared.heap ⟨hp, g, d, tk, os⟩) l items := hl
    obtain ⟨ob, hob, hcl, n, hdt⟩ := id hl
    have q1 : ∀ {A' : Around} {E : Value → Shared → Prop} {Q : Value → Shared → Prop}, Q (.ref hp.objs.size) ⟨hp.push { cls := .type "tuple_iterator", data := .fields #[.ref l, .int 0 0] }, g, d, tk, os⟩ → wpAny (model prog w) A' (pyIter (.ref l)) Q E ⟨hp, g, d, tk, os⟩ :=
      fun q => (begins_tuple l items).iter prog w _ _ ⟨hp, g, d, tk, os⟩ _ hl q
    wp_walk using q1
    refine wpAny_stack_any fun st => wpAny_pure ?_
    split
    · rename_i c _ _ _ _ _
      cases (c == Value.type "enumerate")
      · wp_walk using q1
        exact ⟨_, rfl, h⟩
      · wp_walk using q1
        exact ⟨_, rfl, h⟩
    · wp_walk using q1
      exact ⟨_, rfl, h⟩
theorem call_enumT {prog : Program} {w : World} {A : Around} {E : Value → Shared → Prop} {s : Shared} {l : Addr} {items : Array Value} {Q : Value → Shared → Prop} (hL : s.heap.IsTuple l items)
    (h : ∀ h', IsEnum h' (s.heap.objs.size + 1) s.heap.objs.size 0 .none → h'.IsTupleIter s.heap.objs.size l 0 → h'.objs.size = s.heap.objs.size + 2 →
      (∀ b o, s.heap.get? b = some o → h'.get? b = some o) → Q (.ref (s.heap.objs.size + 1)) { s with heap := h' }) :
    wpAny (model prog w) A (call (.type "enumerate") [.ref l]) Q E s := by
  refine callType_new F.called_enumerate (by decide) (F.typeCall_enumerate_1 _) (F.newCall_enumerate_1 _) (fun obj => F.args_object_init_2 obj _) F.entry_enumerate_new
    (meets_enumT l items) ⟨hL, ?_⟩
  have hz : (s.heap.push { cls := .type "tuple_iterator", data := .fields #[.ref l, .int 0 0] }).objs.size = s.heap.objs.size + 1 := Heap.size_push ..
  show _ ∧ _
  rw [hz]
  have he : IsEnum ((s.heap.push { cls := .type "tuple_iterator", data := .fields #[.ref l, .int 0 0] }).push
      { cls := .type "enumerate", data := .fields #[.none, .bool false, .ref s.heap.objs.size, rawInt 0, .none, .none] }) (s.heap.objs.size + 1) s.heap.objs.size 0 .none := by
    have := Heap.get?_push_size (s.heap.push { cls := .type "tuple_iterator", data := .fields #[.ref l, .int 0 0] })
      (o := { cls := .type "enumerate", data := .fields #[.none, .bool false, .ref s.heap.objs.size, rawInt 0, .none, .none] }) rfl
    rw [hz] at this; exact this
  refine ⟨⟨_, he, rfl⟩, h _ he ⟨_, Heap.get?_push_of_some _ (Heap.get?_push_size _ rfl), rfl, rfl⟩ (by rw [Heap.size_push, hz]) fun b o x => Heap.get?_push_of_some _ (Heap.get?_push_of_some _ x)⟩
def IteT (K : PySem.W.Frag) (a : Addr) : It :=
  ⟨fun i H => ∃ (xs : List V) (x : V), SqT K H a xs ∧ xs[i]? = some x, fun i H v H' => ∃ T x, v = .ref T ∧ H T = none ∧ H' = upd H T (.tup [.int (i : Nat), x]) ∧ ∀ xs, SqT K H a xs → xs[i]? = some x, fun i H => ∃ xs : List V, SqT K H a xs ∧ xs.length ≤ i⟩
theorem turn_enumT {P : Program} {w : World} {K : PySem.W.Frag} {elts : List Expr} {kk : Nat} {tpos : Pos} (a e it : Addr) (hai : a ≠ it) (hea : e ≠ a) :
    Turn P w K (.Tuple elts kk tpos) (IteT K a) [e, it] e (fun i h => (∃ old, IsEnum h e it ((i : Nat) : Int) old) ∧ h.IsTupleIter it a i ∧ e ≠ it) where
  mem := by simp
  obj := fun i h st b hb => by
    obtain ⟨⟨old, he⟩, ⟨o, ho, hc, hd⟩, _⟩ := st
    have e' : b = e ∨ b = it := by simpa using hb
    rcases e' with z | z
    · rw [z]; exact ⟨_, he, fun v q => nomatch q⟩
    · rw [z]; exact ⟨o, ho, fun v q => by rw [hd] at q; cases q⟩
  keep := fun i h h' st k => let ⟨⟨old, he⟩, hi, hne⟩ := st; ⟨⟨old, k e (by simp) _ he⟩, hi.at fun o q => k it (by simp) o q, hne⟩
  item := by
    intro X hP hw hK hc i pins s σ H E I hf st hg
    subst hP hw hK
    obtain ⟨⟨old, he⟩, hit, hne⟩ := st
    obtain ⟨xs, x, hq, hx⟩ := hg
    obtain ⟨its, rv, p, hz⟩ := I.tuple hq
    obtain ⟨u, hu, ru⟩ := rv.get hx
    have hel : e < s.heap.objs.size := Heap.lt_size he
    have hil : it < s.heap.objs.size := by obtain ⟨_, q, _⟩ := hit; exact Heap.lt_size q
    have hlt : i < its.toArray.size := by
      have := (List.getElem?_eq_some_iff.mp hu).1
      simpa using this
    refine wpAny_pyNext_enum_itemD (Draws.tuple (A := X.A.in1) (I.ok.hd hc) it a hai its.toArray) he ⟨hit, p⟩ hlt hne (by simp [hne, hea]) fun y h' tk hy ho hst hT hsz hk => ?_
    have ey : y = u := by
      have h1 : its[i]? = some y := by simpa using hy
      rw [hu] at h1; exact (Option.some.inj h1).symm
    subst ey
    refine ⟨_, rfl, wpAny_letOwnedTupleGo_enum (s := { s with heap := h', toks := tk + 1 }) ho fun h'' he' sb => ?_⟩
    have hT2 : h''.get? s.heap.objs.size = some { cls := .type "tuple", data := .seq #[.int i tk, y] } := (sb.2 _ (Nat.ne_of_gt hel)).trans hT
    have new : ObjOk X.prog X.w (upd H s.heap.objs.size (.tup [.int (i : Nat), x])) h'' s.heap.objs.size (.tup [.int (i : Nat), x]) :=
      ⟨by show 2 ≤ sizeLine; decide, [.int i tk, y], .cons ⟨_, rfl⟩ (.cons ru .nil), ⟨_, hT2, rfl, _, rfl⟩⟩
    have I1 : Inv X pins σ (upd H s.heap.objs.size (.tup [.int (i : Nat), x])) { s with heap := h'', toks := tk + 1 } :=
      I.turnedNew (ch := [e, it]) (fun b ob hb q => (sb.2 b (fun z => hb (by simp [z]))).trans (hk b ob (fun z => hb (by simp [z])) (fun z => hb (by simp [z])) q)) hf (Nat.le_refl _) new
    refine ⟨.ref s.heap.objs.size, _, I1, rfl, ⟨_, x, rfl, I.hok.fresh (Nat.le_refl _), rfl, fun ys hy => by rw [I.tuple_inj hy hq]; exact hx⟩, ⟨⟨y, ?_⟩, hst.1.at fun o q => (sb.2 it (Ne.symm hne)).trans q, hne⟩, fun b hb => ?_⟩
    · have e1 : ((i + 1 : Nat) : Int) = (i : Int) + 1 := by omega
      rw [e1]; exact he'
    · have hb' : b < s.heap.objs.size := by
        have e' : b = e ∨ b = it := by simpa using hb
        rcases e' with z | z
        · rw [z]; exact hel
        · rw [z]; exact hil
      rw [upd_ne (Nat.ne_of_lt hb')]
      exact (hf b hb).1
  done := by
    intro X hP hw hK hc i pins s σ H E I hf st hg
    subst hP hw hK
    obtain ⟨⟨old, he⟩, hit, hne⟩ := st
    obtain ⟨xs, hq, hx⟩ := hg
    obtain ⟨its, rv, p, hz⟩ := I.tuple hq
    obtain ⟨f0, f1, f2, f3, f4, f5⟩ := hf it (by simp)
    have hl := rv.length
    have hTy : s.TypeIs (.ref e) "enumerate" := ⟨_, he, rfl⟩
    unfold pyNext
    refine wpAny_bind (wpAny_attempt (wpAny_callSpecial?_slot (name := Str.ofString "__next__") hTy F.slot_enumerate_next
      (wpAny_call_entry F.slot_enumerate_next hTy F.entry_enumerate_next ?_ (F.args_enumerate_next_1 _))))
    show wpAny _ _ (field (.ref e) 2 >>= _) _ _ _
    refine wpAny_bind (wpAny_field he rfl (x := .ref it) rfl ?_)
    refine wpAny_bind (wpAny_nextOf_tuple_end (A := X.A.in1) (I.ok.hd hc) hit (show s.heap.IsTuple a its.toArray from p) (by simp; omega) fun h' x he' hx' => ?_)
    obtain ⟨o, ho, hcx⟩ := hx'
    refine wpAny_bind (wpAny_isInstance (T := "StopIteration") (b := true) ⟨o, ho, hcx⟩ isSubtype_stop ?_)
    exact wpAny_pure ⟨rfl, I.turned (t' := s.toks) (fun b o hb q => he' b o hb q) f0 f1 f3 f4 f5⟩
  self := fun A i s Q E st h => let ⟨⟨_, he⟩, _⟩ := st; wpAny_pyIter_enum he h
def iEnumT (K : PySem.W.Frag) (ta : TA) : TI := fun σ H R => ta σ H fun vs H1 => ∃ a xs, vs = [.ref a] ∧ SqT K H1 a xs ∧ R (IteT K a) H1
theorem pi_enumT {X : Cx} {e : Expr} {ta : TA} {p pos tpos : Pos} {elts : List Expr} {kk : Nat} (hg : Gl X "enumerate") (hm : X.mg "enumerate" = none) (ha : PA X [e] ta) (hs : starEach [e] X.env = [(false, eval e X.env)] := by rfl) :
    PI X (.Tuple elts kk tpos) (.Call (.Name "enumerate" p) [e] [] pos) (iEnumT X.K ta) := by
  refine ⟨fun pins s σ H R I h => ?_⟩
  refine Call_ (ld_blt I hg hm boot_enumerate (PyProof.Rows.callWith_type1 (thn (ha.run pos pins s σ H _ I h) fun us s1 ⟨vs, H1, I1, r1, q1⟩ => ?_) hs rfl))
  obtain ⟨a, xs, ex, hq, q⟩ := q1
  subst ex
  cases r1 with
  | cons r rr =>
    cases rr
    cases r
    obtain ⟨its, rv, p', hz⟩ := I1.tuple hq
    have ha : a < s1.heap.objs.size := by obtain ⟨o, e1, _⟩ := p'; exact Heap.lt_size e1
    refine call_enumT (show s1.heap.IsTuple a its.toArray from p') fun h' he hit hsz hk => wpAny_pyIter_enum he ?_
    have I2 : Inv X pins σ H1 { s1 with heap := h' } := I1.kept (t' := s1.toks) hk
    refine ⟨s1.heap.objs.size + 1, [s1.heap.objs.size + 1, s1.heap.objs.size], _, _, H1, rfl, I2, turn_enumT a (s1.heap.objs.size + 1) s1.heap.objs.size (Nat.ne_of_lt ha) (Nat.ne_of_gt (Nat.lt_succ_of_lt ha)), ⟨⟨.none, he⟩, hit, Nat.succ_ne_self _⟩, fun b hb => ?_, q⟩
    have e' : b = s1.heap.objs.size + 1 ∨ b = s1.heap.objs.size := by simpa using hb
    have hle : s1.heap.objs.size ≤ b := by
      rcases e' with z | z
      · rw [z]; exact Nat.le_add_right _ _
      · rw [z]; exact Nat.le_refl _
    exact I1.fpOk hle (I1.hok.fresh hle)
theorem walk_enumT {K : PySem.W.Frag} {a : Addr} {xs : List V} : Walk (IteT K a) xs.length (fun H => SqT K H a xs) (YPair (fun i => some (.int (i : Nat))) (fun i => xs[i]?)) := by
  refine ⟨fun i _ hi q => ⟨xs, xs[i], q, by simp [hi]⟩, fun _ q => ⟨xs, q, Nat.le_refl _⟩, fun i H v H' _ q y => ?_⟩
  obtain ⟨T, x, h1, h2, h3, h4⟩ := y
  exact ⟨T, .int (i : Nat), x, h1, h2, h3, rfl, h4 xs q⟩
theorem x_iEnumT {K : PySem.W.Frag} {ta : TA} {σ : L2.St} {H : Hp} {R : It → Hp → Prop} (h : ta σ H fun vs H1 => ∃ a xs, vs = [.ref a] ∧ SqT K H1 a xs ∧ R (IteT K a) H1) : iEnumT K ta σ H R := h
theorem x_iEnum {K : PySem.W.Frag} {ta : TA} {σ : L2.St} {H : Hp} {R : It → Hp → Prop} (h : ta σ H fun vs H1 => ∃ a xs, vs = [.ref a] ∧ SqL K H1 a xs ∧ R (Ite K a) H1) : iEnum K ta σ H R := h
section
variable {α : Type} {K : PySem.W.Frag} {S : List Addr} {B0 H0 B : Hp} {σf : α → L2.St} {Mf : α → List (Addr × HO)} {P : Nat → α → Hp → Prop} {a : Addr} {xs : List V} {g : TG} {tb : TS} {De : Ends} {H : Hp} {s0 : α}
theorem l_enumT (hs : HS S B0 H0 B H (Mf s0)) (ea : B a = some (.tup xs)) (h0 : P 0 s0 B)
    (hb : ∀ i x s T B1 H1, xs[i]? = some x → Same B B1 → HS S B0 H0 B1 H1 (Mf s) → P i s B1 → B1 T = some (.tup [.int (i : Nat), x]) → g (.ref T) (σf s) H1 fun σ2 H2 => tb { De with nx := LI S B0 H0 B σf Mf P (i + 1), ct := LI S B0 H0 B σf Mf P (i + 1), bk := De.nx } σ2 H2)
    (hd : ∀ s B1 H1, Same B B1 → HS S B0 H0 B1 H1 (Mf s) → P xs.length s B1 → De.nx (σf s) H1)
    (hm : ∀ i s B1 B2, P i s B1 → Same B1 B2 → P i s B2) : LoopW (IteT K a) g tb De (σf s0) H := by
  refine for_it (walk_enumT (xs := xs)) (LI S B0 H0 B σf Mf P) ⟨s0, B, rfl, Same.refl _, hs, h0⟩ (fun i σ H' _ ⟨s, B1, _, sb, hs', _⟩ => SqT.of (hs'.up (sb _ _ ea))) (fun i x σ H' H2 hi ⟨s, B1, e, sb, hs', p⟩ y => ?_) fun σ H' ⟨s, B1, e, sb, hs', p⟩ => ?_
  · obtain ⟨T, v, u, rfl, hT, rfl, e1, e2⟩ := y
    cases e1
    rw [e]
    exact x_newF (Qp := fun T H2 => g (.ref T) (σf s) H2 fun σ2 H2 => tb { De with nx := LI S B0 H0 B σf Mf P (i + 1), ct := LI S B0 H0 B σf Mf P (i + 1), bk := De.nx } σ2 H2) hs' (fun p B' H' h1 h2 h3 _ => hb i u s p B' H' e2 (sb.trans h2) h1 (hm i s B1 B' ‹_› h2) h3) T hT
  · rw [e]
    exact hd s B1 H' sb hs' p
end
/-! ### sorted of texts: a list, a tuple, a dict's keys -/
def rSortL (K : PySem.W.Frag) : List V → Hp → VK → Prop := rSortedS K
theorem cSortL {X : Cx} : CallR X (.builtin "sorted") (rSortL X.K) := cr_sortedS
def rSortD : List V → Hp → VK → Prop := fun xs H Q => ∃ (a : Addr) (kvs : List (Key × V)) (ks : List Str), xs = [.ref a] ∧ Rd H a (.dK kvs) ∧ kvs.map (·.1) = ks.map Sum.inr ∧ ks.length < 64 ∧
    ∀ ys p, ys.Perm ks → sortedS ys = true → H p = none → Q (.ref p) (upd H p (.lst (ys.map V.str)))
theorem cSortD {X : Cx} (hc : X.calm = true) : CallR X (.builtin "sorted") rSortD := call_sortedD hc
def rSortT (K : PySem.W.Frag) : List V → Hp → VK → Prop := fun vs H Q => ∃ (a : Addr) (xs : List Str), vs = [V.ref a] ∧ SqT K H a (xs.map V.str) ∧ xs.length < 64 ∧
  ∀ (ys : List Str) (p : Addr), ys.Perm xs → sortedS ys = true → H p = none → Q (.ref p) (upd H p (.lst (ys.map V.str)))
theorem cSortT {X : Cx} (hc : X.calm = true) : CallR X (.builtin "sorted") (rSortT X.K) := by
  intro pins s σ H xs us Q I r q
  obtain ⟨a, ks, ex, hd, h64, q⟩ := q
  subst ex
  obtain ⟨u, eu, rx⟩ := vals1 r
  subst eu
  cases rx
  obtain ⟨its, rv, ⟨o, ho, hcl, n, hdt⟩, hz⟩ := I.tuple hd
  have hal : its.length = ks.length := by rw [← rv.length, List.length_map]
  have hS : StrsAre its ks := rv.strs
  refine Calls.call_function_entry PyProof.Rows.kind_sorted PyProof.Rows.plain_sorted PyProof.Rows.entry_sorted (PyProof.Rows.args_sorted1 _) ?_
  unfold Builtin.«sorted»
  refine wpAny_bind (m := checkCount "sorted" 1 1 _) (wpAny_pure ?_)
  refine wpAny_bind (wpAny_collect_seq (A := X.A.in1) a (.inr rfl) ho hcl hdt (fun h' hk => ?_) (by simp; rw [hal]; rw [sizeLine_eq]; omega))
  have I1 : Inv X pins σ H { s with heap := h', toks := s.toks } := I.kept hk
  show wpAny _ _ _ _ _ { s with heap := h' }
  refine wpAny_bind (wpAny_newList ?_ (by simp; rw [hal, sizeLine_eq]; omega))
  have el : its.toArray.toList = its := by simp
  rw [el]
  have hoL : (h'.push (seqObj "list" its.toArray 0)).get? h'.objs.size = some (seqObj "list" its.toArray 0) := Heap.get?_push_size _ rfl
  show wpAny _ _ _ _ _ { s with heap := h'.push (seqObj "list" its.toArray 0) }
  refine wpAny_bind (wpAny_holding (wpAny_call_entry PyProof.Rows.slot_list_sort ⟨_, hoL, rfl⟩ PyProof.Rows.entry_list_sort
    (list_sort_treeK strKind_oneLt (s := { s with heap := h'.push (seqObj "list" its.toArray 0) }) hoL hS.keysOf (fun v₁ v₂ rest e => keyKind_strs (by rw [← e]; exact hS)) (by rw [hal]; exact h64) fun st' hp hs => ⟨_, rfl, ?_⟩)
    (PyProof.Rows.args_list_sort _)))
  obtain ⟨ys, g1, g2, g3⟩ := sorted_out_str hS hp hs
  obtain ⟨e', he'⟩ := PyProof.Rows.sortedHeap_at (vs := its) (out := (arrOf st').map (·.2)) hoL
  have hlen : (ys.map V.str).length ≤ sizeLine := by
    rw [List.length_map, g2.length_eq]
    exact Nat.le_trans (Nat.le_of_lt h64) (by decide)
  refine wpAny_pure ⟨_, rfl, .ref h'.objs.size, upd H h'.objs.size (.lst (ys.map V.str)), I1.laid (t' := s.toks) (fun b u e => ?_) (Nat.le_refl _)
    (show ObjOk X.prog X.w _ _ _ (.lst (ys.map V.str)) from ⟨hlen, ((arrOf st').map (·.2)).toList, e', vals_of_strs g1, by rw [Array.toArray_toList]; exact he'⟩), rfl, q ys _ g2 g3 (I1.hok.fresh (Nat.le_refl _))⟩
  have hb : b < h'.objs.size := Heap.lt_size e
  rw [PyProof.Rows.sortedHeap_old (Nat.ne_of_lt hb) (by rw [size_push']; exact Nat.lt_succ_of_lt hb)]
  exact Heap.get?_push_of_some _ e
def rSortS (K : PySem.W.Frag) : List V → Hp → VK → Prop := fun vs H Q => rSortL K vs H Q ∨ rSortT K vs H Q
end Q

set_option Elab.async false
set_option linter.all false
set_option maxRecDepth 100000
set_option maxHeartbeats 4000000
namespace Q
open PySem PySem.Spec PyProof.Rows L2
section
variable {K : PySem.W.Frag} {σ : L2.St} {H : Hp} {Q : VK} {Qs : L2.St → Hp → Prop} {De : Ends} {te tu td ty tv to ta : TE} {tl : TA} {v y : V} {W : WX} {x : Str} {p C dx l : Addr} {fs : List (Str × V)} {f : Str} {S : List Addr} {B0 H0 B : Hp} {M : List (Addr × HO)} {kvs : List (Key × V)} {xs : List V}
/-! ### more steps: dicts, lists, fields, targets, errors -/
/-- a new thing o, and what is wanted of it -/
def New (o : HO) (Q : VK) (H : Hp) : Prop := ∀ p, H p = none → Q (.ref p) (upd H p o)
def NewL (Q : VK) (xs : List V) (H : Hp) : Prop := xs.length ≤ sizeLine ∧ New (.lst xs) Q H
def NewT (Q : VK) (xs : List V) (H : Hp) : Prop := xs.length ≤ sizeLine ∧ New (.tup xs) Q H
def Rz (W : WX) (C : Addr) (fs : List (Str × V)) (σ : L2.St) (H : Hp) : Prop := ∀ d, H d = none → W (.ref C) (some d) σ (upd H d (.xd fs))
def SetF (K : PySem.W.Frag) (f : Str) (R : Hp → Prop) (x y : V) (H : Hp) : Prop := ∃ a C dx fs, x = .ref a ∧ H a = some (.ins C dx fs) ∧ Cls K C ∧ NoAttr K C f ∧ fs.length < 1000 ∧ R (upd H a (.ins C dx (putF f y fs)))
def Mkd (C : Addr) (sp : Sp) (W : WX) (σ : L2.St) (Q : VK) (vs : List V) (H : Hp) : Prop := ∀ x dx, H x = none → H dx = none → dx ≠ x → sp (.ref x :: vs) (upd (upd H dx (.own x)) x (.ins C dx [])) (fun v H2 => v = .non ∧ Q (.ref x) H2) fun c d H' => W c d σ H'
theorem new_M {o : HO} (hs : HS S B0 H0 B H M) (k : ∀ p H', HS S B0 H0 B H' ((p, o) :: M) → H p = none → Q (.ref p) H') : New o Q H := x_new (Qp := fun p H' => Q (.ref p) H') hs k
theorem new_F {o : HO} (hs : HS S B0 H0 B H M) (k : ∀ p B' H', HS S B0 H0 B' H' M → Same B B' → B' p = some o → H p = none → Q (.ref p) H') : New o Q H := x_newF (Qp := fun p H' => Q (.ref p) H') hs k
theorem x_newL (hz : xs.length ≤ 1000000) (h : New (.lst xs) Q H) : NewL Q xs H := ⟨small_le hz, h⟩
theorem x_newT (hz : xs.length ≤ 1000000) (h : New (.tup xs) Q H) : NewT Q xs H := ⟨small_le hz, h⟩
theorem x_lst (h : tl σ H (NewL Q)) : tLst tl σ H Q := h
theorem x_tup (h : tl σ H (NewT Q)) : tTup tl σ H Q := h
theorem x_dget (h : td σ H fun x H1 => ty σ H1 fun y H2 => ∃ a v, x = .ref a ∧ DGet H2 a y (some v) ∧ Q v H2) : tDGet td ty σ H Q := h
theorem x_dgS {R : V → Prop} (hd : H p = some (.dK kvs)) (e : valV kvs (.inr x) = some v) (h : R v) : ∃ a v, V.ref p = .ref a ∧ DGet H a (.str x) (some v) ∧ R v := ⟨p, v, rfl, by rw [← e]; exact DGet.k (k := .inr x) hd, h⟩
theorem x_din (h : ty σ H fun y H1 => td σ H1 fun x H2 => ∃ a o, x = .ref a ∧ DGet H2 a y o ∧ Q (.bl o.isSome) H2) : tDIn ty td σ H Q := h
theorem x_dnin (h : ty σ H fun y H1 => td σ H1 fun x H2 => ∃ a o, x = .ref a ∧ DGet H2 a y o ∧ Q (.bl (!o.isSome)) H2) : tDNotIn ty td σ H Q := h
theorem x_dinO {R : Option V → Prop} (hd : H p = some (.dK kvs)) (h : R (valV kvs (.inr x))) : ∃ a o, V.ref p = .ref a ∧ DGet H a (.str x) o ∧ R o := ⟨p, _, rfl, DGet.k (k := .inr x) hd, h⟩
theorem x_dputU (h : tv σ H fun v H1 => td σ H1 fun x H2 => ty σ H2 fun y H3 => ∃ a H4, x = .ref a ∧ DPut H3 a y v H4 ∧ De.nx σ H4) : sDPut td ty tv De σ H := h
theorem x_dput {R : Hp → Prop} (hs : HS S B0 H0 B H ((p, .dK kvs) :: M)) (hz : kvs.length ≤ 1000000) (h : ∀ H', HS S B0 H0 B H' ((p, .dK (putK kvs (.inr x) v)) :: M) → R H') : ∃ a H4, V.ref p = .ref a ∧ DPut H a (.str x) v H4 ∧ R H4 :=
  ⟨p, _, rfl, DPut.k (k := .inr x) (hs.get List.mem_cons_self) (small_lt hz), h _ hs.set0⟩
theorem x_dnew (h : New (.dK []) Q H) : tDNewK σ H Q := h
theorem x_bm {T : String} {r : V → List V → Hp → VK → Prop} (h : to σ H fun x H1 => tyV K T x H1 ∧ tl σ H1 fun xs H2 => r x xs H2 Q) : tBM K T r to tl σ H Q := h
theorem x_bm0 {T : String} {r : V → List V → Hp → VK → Prop} (h : to σ H fun x H1 => tyV K T x H1 ∧ r x [] H1 Q) : tBM0 K T r to σ H Q := h
theorem x_tyL {R : Prop} (hl : SqL K H l xs) (h : R) : tyV K "list" (.ref l) H ∧ R := ⟨Or.inl ⟨rfl, _, hl⟩, h⟩
theorem x_append (hs : HS S B0 H0 B H ((l, .lst xs) :: M)) (hz : xs.length ≤ 1000000) (h : ∀ H', HS S B0 H0 B H' ((l, .lst (xs ++ [y])) :: M) → Q .non H') : rAppend (.ref l) [y] H Q :=
  ⟨l, xs, y, rfl, rfl, hs.get List.mem_cons_self, small_lt hz, h _ hs.set0⟩
theorem x_popAt {i : Int} {k : Nat} (hs : HS S B0 H0 B H ((l, .lst xs) :: M)) (h1 : -(2 ^ 63) ≤ i) (h2 : i < 2 ^ 63) (e1 : seqIndex? i xs.length = some k) (e : xs[k]? = some y) (h : ∀ H', HS S B0 H0 B H' ((l, .lst (xs.eraseIdx k)) :: M) → Q y H') : rPopAt (.ref l) [.int i] H Q :=
  ⟨l, xs, i, k, y, rfl, rfl, hs.get List.mem_cons_self, h1, h2, e1, e, h _ hs.set0⟩
theorem x_setL {m : Int} {j : Nat} {Qh : Hp → Prop} (hs : HS S B0 H0 B H ((l, .lst xs) :: M)) (e : ixN xs.length m = some j) (h : ∀ H', HS S B0 H0 B H' ((l, .lst (xs.set j v)) :: M) → Qh H') : rSetL (.ref l) (.int m) v H Qh :=
  ⟨l, xs, m, j, rfl, rfl, hs.get List.mem_cons_self, e, h _ hs.set0⟩
theorem x_gsub {ti : TE} {t : TSet} (h : to σ H fun o H1 => ti σ H1 fun i H2 => t o i v H2 fun H3 => Qs σ H3) : gSub to ti t v σ H Qs := h
theorem x_fldU (h : ta σ H fun x H1 => ∃ a C dx fs v, x = .ref a ∧ H1 a = some (.ins C dx fs) ∧ Cls K C ∧ NoAttr K C f ∧ fs.lookup f = some v ∧ Q v H1) : tFld K ta f σ H Q := h
theorem x_fld {R : V → Prop} (hp : H p = some (.ins C dx fs)) (cl : Cls K C) (na : NoAttr K C f) (e : fs.lookup f = some v) (h : R v) : ∃ a C dx fs v, V.ref p = .ref a ∧ H a = some (.ins C dx fs) ∧ Cls K C ∧ NoAttr K C f ∧ fs.lookup f = some v ∧ R v :=
  ⟨p, C, dx, fs, v, rfl, hp, cl, na, e, h⟩
theorem x_sfldU (h : tv σ H fun y H1 => ta σ H1 fun x H2 => SetF K f (De.nx σ) x y H2) : sFld K ta tv f De σ H := h
theorem x_sfld {R : Hp → Prop} (hs : HS S B0 H0 B H ((p, .ins C dx fs) :: M)) (cl : Cls K C) (na : NoAttr K C f) (hl : fs.length < 1000) (h : ∀ H', HS S B0 H0 B H' ((p, .ins C dx (putF f y fs)) :: M) → R H') :
    SetF K f R (.ref p) y H := ⟨p, C, dx, fs, rfl, hs.get List.mem_cons_self, cl, na, hl, h _ hs.set0⟩
theorem x_gtup {n : Nat} {t : TGs} (hp : SqT K H p xs) (hn : xs.length = n) (h : t xs σ H Qs) : gTup K n t (.ref p) σ H Qs := ⟨p, xs, rfl, hp, hn, h⟩
theorem x_gcons {t : TG} {u : TGs} {r : List V} (h : t v σ H fun σ' H' => u r σ' H' Qs) : gCons t u (v :: r) σ H Qs := ⟨v, r, rfl, h⟩
theorem x_gnil (h : Qs σ H) : gNil [] σ H Qs := ⟨rfl, h⟩
theorem x_rz1 (h : te σ H fun v H1 => Rz W C [(f, v)] σ H1) : tRz1 C f te W De σ H := h
theorem x_thr {E : XK} {c : Str} {gs : List (Str × V)} (hs : HS [] B0 H0 B H M) (k : Thr K B0 H0 E c gs) : Rz (WE0 E) (He.ga K c) gs σ H := fun d hd =>
  k B _ d (hs.new hd).all (same_none hs.bh hd) upd_same
theorem x_mtU {m : Str} {sp : Sp} (h : ta σ H fun x H1 => ∃ a dx fs, x = .ref a ∧ H1 a = some (.ins C dx fs) ∧ fs.lookup m = none ∧ tl σ H1 fun vs H2 => sp (x :: vs) H2 Q fun c d H' => W c d σ H') : tMt C m sp W ta tl σ H Q := h
theorem x_mt {m : Str} {R : Prop} (hp : H p = some (.ins C dx fs)) (e : fs.lookup m = none) (h : R) : ∃ a dx fs, V.ref p = .ref a ∧ H a = some (.ins C dx fs) ∧ fs.lookup m = none ∧ R := ⟨p, dx, fs, rfl, hp, e, h⟩
theorem x_mk {sp : Sp} (h : tl σ H (Mkd C sp W σ Q)) : tMk C sp W tl σ H Q := h
theorem x_str1 {R : Prop} {z : Str} (h : R) : (∃ a, V.str z = .str a) ∧ R := ⟨⟨z, rfl⟩, h⟩
theorem x_yes {Qb : Bool → Hp → Prop} (h : Qb true H) : tYes σ H Qb := h
theorem x_listL (hp : SqL K H p xs) (h : New (.lst xs) Q H) : rListOf K [.ref p] H Q := ⟨p, xs, rfl, .inl hp, h⟩
theorem x_listT (hp : SqT K H p xs) (h : New (.lst xs) Q H) : rListOf K [.ref p] H Q := ⟨p, xs, rfl, .inr hp, h⟩
theorem x_tupL (hp : SqL K H p xs) (h : New (.tup xs) Q H) : rTupOf K [.ref p] H Q := ⟨p, xs, rfl, .inl ⟨hp, h⟩⟩
theorem x_sortT {ss : List Str} (hp : SqT K H p (ss.map V.str)) (hz : ss.length < 64) (h : ∀ ys : List Str, ys.Perm ss → sortedS ys = true → New (.lst (ys.map V.str)) Q H) : rSortT K [.ref p] H Q := ⟨p, ss, rfl, hp, hz, fun ys q pe so hn => h ys pe so q hn⟩
theorem x_sortL {ss : List Str} (hp : SqL K H p (ss.map V.str)) (hz : ss.length < 64) (h : ∀ ys : List Str, ys.Perm ss → sortedS ys = true → New (.lst (ys.map V.str)) Q H) : rSortL K [.ref p] H Q := ⟨p, ss, rfl, hp, hz, fun ys q pe so hn => h ys pe so q hn⟩
theorem x_sortD {ks : List Str} (hp : H p = some (.dK kvs)) (hk : kvs.map (·.1) = ks.map Sum.inr) (hz : ks.length < 64) (h : ∀ ys : List Str, ys.Perm ks → sortedS ys = true → New (.lst (ys.map V.str)) Q H) : rSortD [.ref p] H Q := ⟨p, kvs, ks, rfl, .inl hp, hk, hz, fun ys q pe so hn => h ys pe so q hn⟩
end
/-! ### more of the frame -/
theorem HS.set1 {S : List Addr} {B0 H0 B H : Hp} {p q : Addr} {o u u' : HO} {M : List (Addr × HO)} (h : HS S B0 H0 B H ((p, o) :: (q, u) :: M)) : HS S B0 H0 B (upd H q u') ((p, o) :: (q, u') :: M) := h.swap.set0.swap
theorem HS.perm {S : List Addr} {B0 H0 B H : Hp} {M M' : List (Addr × HO)} (h : HS S B0 H0 B H M) (p : M.Perm M') : HS S B0 H0 B H M' :=
  ⟨h.bb, h.bh, h.fr, fun q m => h.mu q (p.mem_iff.mpr m), (p.map (·.1)).nodup_iff.mp h.nd⟩
/-- what is new stands still from now on, with what it names -/
theorem HS.still {S : List Addr} {B0 H0 B H : Hp} {p : Addr} {o : HO} {M : List (Addr × HO)} (h : HS S B0 H0 B H ((p, o) :: M)) (hp : p ∉ S) : HS S B0 H0 (upd B p o) H M ∧ Same B (upd B p o) :=
  h.freeze ((h.mu (p, o) List.mem_cons_self).2.2.resolve_right hp)
/-! ### dict comprehensions -/
abbrev CompD (J : It) (g : TG) (tt : TT) (tk tv : TE) (vs : List Nat) (σ : L2.St) (D : Addr) (H1 : Hp) (Q : VK) : Prop := ∃ W : Nat → Nat → Hp → Prop, (∃ m, W 0 m (upd H1 D (.dK []))) ∧ ∀ i m H, W i m H →
  (J.stop i H ∧ Q (.ref D) H) ∨ (J.go i H ∧ ∃ Nx : Hp → Prop, (∀ H', Nx H' → ∃ m', m' < m ∧ W (i + 1) m' H') ∧ ∀ x H', J.yld i H x H' → g x (wipe σ vs) H' fun σ2 H2 => wipe σ2 vs = wipe σ vs ∧ tt σ2 H2 fun b H3 =>
    if b = true then tk σ2 H3 fun y H4 => tv σ2 H4 fun z H5 => ∃ kvs k, y = kV k ∧ H5 D = some (.dK kvs) ∧ kvs.length < sizeLine ∧ Nx (upd H5 D (.dK (putK kvs k z))) else Nx H3)
theorem x_dc {wi : TI} {g : TG} {tt : TT} {tk tv : TE} {vs : List Nat} {σ : L2.St} {H : Hp} {Q : VK} (h : wi σ H fun J H1 => ∀ D, H1 D = none → CompD J g tt tk tv vs σ D H1 Q) : tDc wi g tt tk tv vs σ H Q := h
def DI {α : Type} (S : List Addr) (B0 H0 B : Hp) (Mf : α → List (Addr × HO)) (D : Addr) (P : Nat → α → List (Key × V) → Hp → Prop) (i : Nat) (H : Hp) : Prop :=
  ∃ s acc B1, Same B B1 ∧ HS S B0 H0 B1 H ((D, .dK acc) :: Mf s) ∧ acc.length ≤ i ∧ P i s acc B1
theorem putK_len {κ : Type} [DecidableEq κ] (kvs : List (κ × V)) (k : κ) (v : V) : (putK kvs k v).length ≤ kvs.length + 1 := by
  unfold putK
  split
  · rw [List.length_map]; omega
  · simp
section
variable {α : Type} {K : PySem.W.Frag} {S : List Addr} {B0 H0 B : Hp} {Mf : α → List (Addr × HO)} {P : Nat → α → List (Key × V) → Hp → Prop} {a D : Addr} {xs : List V} {g : TG} {tt : TT} {tk tv : TE} {vs : List Nat} {σ : L2.St} {H1 : Hp} {Q : VK} {s0 : α}
theorem d_keep {B2 H4 : Hp} {i : Nat} {s : α} {acc : List (Key × V)} {x : Str} {y : V} (sb : Same B B2) (hs : HS S B0 H0 B2 H4 ((D, .dK acc) :: Mf s)) (hi : acc.length ≤ i) (hz : i < 1000000) (p : P (i + 1) s (putK acc (.inr x) y) B2) :
    ∃ kvs k, V.str x = kV k ∧ H4 D = some (.dK kvs) ∧ kvs.length < sizeLine ∧ DI S B0 H0 B Mf D P (i + 1) (upd H4 D (.dK (putK kvs k y))) :=
  ⟨acc, .inr x, rfl, hs.get List.mem_cons_self, small_lt (by omega), s, putK acc (.inr x) y, B2, sb, hs.set0, Nat.le_trans (putK_len _ _ _) (by omega), p⟩
theorem d_it {J : It} {n : Nat} {G : Hp → Prop} {Y : Nat → Hp → V → Hp → Prop} (w : Walk J n G Y) (hs : HS S B0 H0 B H1 (Mf s0)) (hD : H1 D = none) (h0 : P 0 s0 [] B) (hG : ∀ B1 H' M, Same B B1 → HS S B0 H0 B1 H' M → G H')
    (hb : ∀ i x s acc B1 H' H2, i < n → acc.length ≤ i → Same B B1 → HS S B0 H0 B1 H' ((D, .dK acc) :: Mf s) → P i s acc B1 → Y i H' x H2 → g x (wipe σ vs) H2 fun σ2 H2 => wipe σ2 vs = wipe σ vs ∧ tt σ2 H2 fun b H3 =>
      if b = true then tk σ2 H3 fun y H4 => tv σ2 H4 fun z H5 => ∃ kvs k, y = kV k ∧ H5 D = some (.dK kvs) ∧ kvs.length < sizeLine ∧ DI S B0 H0 B Mf D P (i + 1) (upd H5 D (.dK (putK kvs k z))) else DI S B0 H0 B Mf D P (i + 1) H3)
    (hd : ∀ s acc B1 H', Same B B1 → HS S B0 H0 B1 H' ((D, .dK acc) :: Mf s) → acc.length ≤ n → P n s acc B1 → Q (.ref D) H') : CompD J g tt tk tv vs σ D H1 Q := by
  refine ⟨fun i m H => m = n - i ∧ i ≤ n ∧ DI S B0 H0 B Mf D P i H, ⟨n, by simp, Nat.zero_le _, s0, [], B, Same.refl _, hs.new hD, Nat.le_refl _, h0⟩, ?_⟩
  rintro i m H ⟨rfl, hi, s, acc, B1, sb, hs', hl, p⟩
  by_cases hlt : i < n
  · refine .inr ⟨w.goes i H hlt (hG B1 H _ sb hs'), DI S B0 H0 B Mf D P (i + 1), fun H' p' => ⟨n - (i + 1), by omega, rfl, hlt, p'⟩, fun x H' y => ?_⟩
    exact hb i x s acc B1 H H' hlt hl sb hs' p (w.yields i H x H' hlt (hG B1 H _ sb hs') y)
  · have e : i = n := by omega
    subst e
    exact .inl ⟨w.stops H (hG B1 H _ sb hs'), hd s acc B1 H sb hs' hl p⟩
theorem d_tup (hs : HS S B0 H0 B H1 (Mf s0)) (hD : H1 D = none) (ea : B a = some (.tup xs)) (h0 : P 0 s0 [] B)
    (hb : ∀ i x s acc B1 H', xs[i]? = some x → i < xs.length → acc.length ≤ i → Same B B1 → HS S B0 H0 B1 H' ((D, .dK acc) :: Mf s) → P i s acc B1 → g x (wipe σ vs) H' fun σ2 H2 => wipe σ2 vs = wipe σ vs ∧ tt σ2 H2 fun b H3 =>
      if b = true then tk σ2 H3 fun y H4 => tv σ2 H4 fun z H5 => ∃ kvs k, y = kV k ∧ H5 D = some (.dK kvs) ∧ kvs.length < sizeLine ∧ DI S B0 H0 B Mf D P (i + 1) (upd H5 D (.dK (putK kvs k z))) else DI S B0 H0 B Mf D P (i + 1) H3)
    (hd : ∀ s acc B1 H', Same B B1 → HS S B0 H0 B1 H' ((D, .dK acc) :: Mf s) → acc.length ≤ xs.length → P xs.length s acc B1 → Q (.ref D) H') : CompD (Itt K a) g tt tk tv vs σ D H1 Q :=
  d_it (walk_tup (xs := xs)) hs hD h0 (fun B1 H' M sb h => SqT.of (h.up (sb _ _ ea))) (fun i x s acc B1 H' H2 hi hl sb h p ⟨e1, e2⟩ => by rw [e1]; exact hb i x s acc B1 H' e2 hi hl sb h p) hd
theorem d_list (hs : HS S B0 H0 B H1 (Mf s0)) (hD : H1 D = none) (ea : B a = some (.lst xs)) (h0 : P 0 s0 [] B)
    (hb : ∀ i x s acc B1 H', xs[i]? = some x → i < xs.length → acc.length ≤ i → Same B B1 → HS S B0 H0 B1 H' ((D, .dK acc) :: Mf s) → P i s acc B1 → g x (wipe σ vs) H' fun σ2 H2 => wipe σ2 vs = wipe σ vs ∧ tt σ2 H2 fun b H3 =>
      if b = true then tk σ2 H3 fun y H4 => tv σ2 H4 fun z H5 => ∃ kvs k, y = kV k ∧ H5 D = some (.dK kvs) ∧ kvs.length < sizeLine ∧ DI S B0 H0 B Mf D P (i + 1) (upd H5 D (.dK (putK kvs k z))) else DI S B0 H0 B Mf D P (i + 1) H3)
    (hd : ∀ s acc B1 H', Same B B1 → HS S B0 H0 B1 H' ((D, .dK acc) :: Mf s) → acc.length ≤ xs.length → P xs.length s acc B1 → Q (.ref D) H') : CompD (Itl K a) g tt tk tv vs σ D H1 Q :=
  d_it (walk_list (xs := xs)) hs hD h0 (fun B1 H' M sb h => SqL.of (h.up (sb _ _ ea))) (fun i x s acc B1 H' H2 hi hl sb h p ⟨e1, e2⟩ => by rw [e1]; exact hb i x s acc B1 H' e2 hi hl sb h p) hd
/-- over enumerate(list): a new pair each turn -/
theorem d_enum (hs : HS S B0 H0 B H1 (Mf s0)) (hD : H1 D = none) (ea : B a = some (.lst xs)) (h0 : P 0 s0 [] B) (hm : ∀ i s acc B1 B2, P i s acc B1 → Same B1 B2 → P i s acc B2)
    (hb : ∀ i x s acc T B1 H', xs[i]? = some x → i < xs.length → acc.length ≤ i → Same B B1 → HS S B0 H0 B1 H' ((D, .dK acc) :: Mf s) → P i s acc B1 → B1 T = some (.tup [.int (i : Nat), x]) → g (.ref T) (wipe σ vs) H' fun σ2 H2 => wipe σ2 vs = wipe σ vs ∧ tt σ2 H2 fun b H3 =>
      if b = true then tk σ2 H3 fun y H4 => tv σ2 H4 fun z H5 => ∃ kvs k, y = kV k ∧ H5 D = some (.dK kvs) ∧ kvs.length < sizeLine ∧ DI S B0 H0 B Mf D P (i + 1) (upd H5 D (.dK (putK kvs k z))) else DI S B0 H0 B Mf D P (i + 1) H3)
    (hd : ∀ s acc B1 H', Same B B1 → HS S B0 H0 B1 H' ((D, .dK acc) :: Mf s) → acc.length ≤ xs.length → P xs.length s acc B1 → Q (.ref D) H') : CompD (Ite K a) g tt tk tv vs σ D H1 Q :=
  d_it (walk_enum (xs := xs)) hs hD h0 (fun B1 H' M sb h => SqL.of (h.up (sb _ _ ea))) (fun i v s acc B1 H' H2 hi hl sb h p y => by
    obtain ⟨T, v1, u, rfl, hT, rfl, e1, e2⟩ := y
    cases e1
    exact x_newF (Qp := fun T H2 => g (.ref T) (wipe σ vs) H2 fun σ2 H2 => wipe σ2 vs = wipe σ vs ∧ tt σ2 H2 fun b H3 =>
      if b = true then tk σ2 H3 fun y H4 => tv σ2 H4 fun z H5 => ∃ kvs k, y = kV k ∧ H5 D = some (.dK kvs) ∧ kvs.length < sizeLine ∧ DI S B0 H0 B Mf D P (i + 1) (upd H5 D (.dK (putK kvs k z))) else DI S B0 H0 B Mf D P (i + 1) H3) h
      (fun p' B' H' h1 h2 h3 _ => hb i u s acc p' B' H' e2 hi hl (sb.trans h2) h1 (hm i s acc B1 B' p h2) h3) T hT) hd
end
end Q
namespace Q
open PySem PySem.Spec PyProof.Rows L2
/-! ### rows of texts -/
theorem flat_strs (xs : List Str) : (xs.map V.str).all flatV = true := by
  rw [List.all_eq_true]
  intro v m
  obtain ⟨x, _, rfl⟩ := List.mem_map.mp m
  rfl
theorem inV_strs (x : Str) (xs : List Str) : inV (.str x) (xs.map V.str) = decide (x ∈ xs) := by
  unfold inV
  rw [Bool.eq_iff_iff, List.any_eq_true, decide_eq_true_iff]
  constructor
  · rintro ⟨v, m, e⟩
    obtain ⟨y, my, rfl⟩ := List.mem_map.mp m
    have : y = x := by simpa [eqV] using e
    rw [← this]; exact my
  · intro m
    exact ⟨.str x, List.mem_map.mpr ⟨x, m, rfl⟩, by simp [eqV]⟩
/-- a list or a tuple of texts -/
def Sq (B : Hp) (v : V) (xs : List Str) : Prop := ∃ a, v = .ref a ∧ (B a = some (.lst (xs.map V.str)) ∨ B a = some (.tup (xs.map V.str)))
theorem Sq.mono {B B' : Hp} {v : V} {xs : List Str} (s : Same B B') (h : Sq B v xs) : Sq B' v xs := by
  obtain ⟨a, e, h⟩ := h
  exact ⟨a, e, h.imp (s _ _) (s _ _)⟩
section
variable {K : PySem.W.Frag} {S : List Addr} {B0 H0 B H : Hp} {M : List (Addr × HO)} {Q : VK} {x : Str} {xs : List Str} {p : Addr} {vs : List V} {v : V}
theorem x_inLS (hp : SqL K H p (xs.map V.str)) (h : Q (.bl (decide (x ∈ xs))) H) : rIn K false (.str x) (.ref p) H Q := x_inL hp rfl (flat_strs xs) (by rw [inV_strs]; exact h)
theorem x_ninLS (hp : SqL K H p (xs.map V.str)) (h : Q (.bl (!decide (x ∈ xs))) H) : rIn K true (.str x) (.ref p) H Q := x_ninL hp rfl (flat_strs xs) (by rw [inV_strs]; exact h)
theorem x_ninTS (hp : SqT K H p (xs.map V.str)) (h : Q (.bl (!decide (x ∈ xs))) H) : rIn K true (.str x) (.ref p) H Q := x_ninT hp rfl (flat_strs xs) (by rw [inV_strs]; exact h)
theorem x_ninSq (hs : HS S B0 H0 B H M) (q : Sq B v xs) (h : Q (.bl (!decide (x ∈ xs))) H) : rIn K true (.str x) v H Q := by
  obtain ⟨a, rfl, e | e⟩ := q
  · exact x_ninLS (SqL.of (hs.up e)) h
  · exact x_ninTS (SqT.of (hs.up e)) h
theorem x_lenSq (hs : HS S B0 H0 B H M) (q : Sq B v xs) (h : Q (.int (xs.length : Nat)) H) : rLenA K [v] H Q := by
  obtain ⟨a, rfl, e | e⟩ := q
  · exact x_lenL (SqL.of (hs.up e)) (by rw [List.length_map]; exact h)
  · exact x_lenT (SqT.of (hs.up e)) (by rw [List.length_map]; exact h)
end
theorem strs_get {xs : List Str} {i : Nat} {v : V} (h : (xs.map V.str)[i]? = some v) : ∃ x, xs[i]? = some x ∧ v = .str x := by
  rw [List.getElem?_map] at h
  cases e : xs[i]? with
  | none => rw [e] at h; cases h
  | some x => rw [e] at h; exact ⟨x, rfl, (Option.some.inj h).symm⟩
section
variable {α : Type} {K : PySem.W.Frag} {S : List Addr} {B0 H0 B : Hp} {σf : α → L2.St} {Mf : α → List (Addr × HO)} {P : Nat → α → Hp → Prop} {v : V} {xs : List Str} {g : TG} {tb : TS} {De : Ends} {H : Hp} {s0 : α} {te : TE}
/-- for x in a list or a tuple of texts -/
theorem l_sq {σ : L2.St} {tl : TE} (hs : HS S B0 H0 B H (Mf s0)) (q : Sq B v xs) (ev : ∀ Qv : VK, Qv v H → tl (σf s0) H Qv) (h0 : P 0 s0 B)
    (hb : ∀ i x s B1 H1, xs[i]? = some x → Same B B1 → HS S B0 H0 B1 H1 (Mf s) → P i s B1 → g (.str x) (σf s) H1 fun σ2 H2 => tb { De with nx := LI S B0 H0 B σf Mf P (i + 1), ct := LI S B0 H0 B σf Mf P (i + 1), bk := De.nx } σ2 H2)
    (hd : ∀ s B1 H1, Same B B1 → HS S B0 H0 B1 H1 (Mf s) → P xs.length s B1 → De.nx (σf s) H1) : tFor (iSeq K tl) g tb De (σf s0) H := by
  obtain ⟨a, rfl, e | e⟩ := q
  · refine x_for (.inl (x_iList (ev _ ⟨a, rfl, ⟨_, SqL.of (hs.up e)⟩, ?_⟩)))
    refine l_list hs e h0 (fun i y s B1 H1 hi => ?_) fun s B1 H1 sb h p => hd s B1 H1 sb h (by rw [List.length_map] at p; exact p)
    obtain ⟨x, hx, rfl⟩ := strs_get hi
    exact hb i x s B1 H1 hx
  · refine x_for (.inr (x_iTup (ev _ ⟨a, rfl, ⟨_, SqT.of (hs.up e)⟩, ?_⟩)))
    refine l_tup hs e h0 (fun i y s B1 H1 hi => ?_) fun s B1 H1 sb h p => hd s B1 H1 sb h (by rw [List.length_map] at p; exact p)
    obtain ⟨x, hx, rfl⟩ := strs_get hi
    exact hb i x s B1 H1 hx
end
/-! ### dicts by data -/
def dval {α : Type} (ds : List (Key × α)) (k : Key) : Option α := (ds.find? fun kv => decide (kv.1 = k)).map (·.2)
theorem repK_val {K : PySem.W.Frag} {B : Hp} : ∀ {kvs : List (Key × V)} {ds : List (Key × D)}, RepK K B kvs ds → ∀ k, (∃ v d, valV kvs k = some v ∧ dval ds k = some d ∧ Rep K B v d) ∨ (valV kvs k = none ∧ dval ds k = none)
  | _, _, .nil, k => .inr ⟨rfl, rfl⟩
  | _, _, @RepK.cons _ _ k' v vs d ds h r, k => by
    by_cases e : k' = k
    · exact .inl ⟨v, d, valV_pos (p := (k', v)) e, by simp [dval, e], h⟩
    · rcases repK_val r k with ⟨v', d', h1, h2, h3⟩ | ⟨h1, h2⟩
      · exact .inl ⟨v', d', by rw [valV_neg (p := (k', v)) e]; exact h1, by simp only [dval, List.find?_cons, decide_eq_false e]; exact h2, h3⟩
      · exact .inr ⟨by rw [valV_neg (p := (k', v)) e]; exact h1, by simp only [dval, List.find?_cons, decide_eq_false e]; exact h2⟩
theorem repK_some {K : PySem.W.Frag} {B : Hp} {kvs : List (Key × V)} {ds : List (Key × D)} (r : RepK K B kvs ds) (k : Key) : (valV kvs k).isSome = (dval ds k).isSome := by
  rcases repK_val r k with ⟨v, d, h1, h2, _⟩ | ⟨h1, h2⟩ <;> rw [h1, h2] <;> rfl
end Q

set_option Elab.async false
set_option linter.all false
set_option maxRecDepth 100000
set_option maxHeartbeats 4000000
namespace Q
open PySem PySem.Spec PyProof.Rows L2
/-! ### the head's Hook with facts of one's own -/
def obsX (ex : List (PySem.W.Frag → Bool)) (fa : List He.Fa) (fn : List He.DefD) (K : PySem.W.Frag) : Bool × He.AlD := (ex.all fun b => b K, He.obsD fa fn K)
structure SaysX (ex : List (PySem.W.Frag → Bool)) (fa : List He.Fa) (fn : List He.DefD) (K : PySem.W.Frag) : Prop where
  one : (ex.all fun b => b K) = true
  two : He.SaysD fa fn K
theorem SaysX.ex {ex : List (PySem.W.Frag → Bool)} {fa : List He.Fa} {fn : List He.DefD} {K : PySem.W.Frag} (c : SaysX ex fa fn K) (i : Nat) {b : PySem.W.Frag → Bool} (h : ex[i]? = some b) : b K = true := List.all_eq_true.mp c.one b (List.mem_of_getElem? h)
def obsXG (n : Nat) (ex : List (PySem.W.Frag → Bool)) (fa : List He.Fa) (fn : List He.DefD) (g : Addr → Option Obj) : Bool × He.AlD := obsX ex fa fn (He.frG g (cStatics :: He.asD g n))
def hookX (n : Nat) (ex : List (PySem.W.Frag → Bool)) (fa : List He.Fa) (fn : List He.DefD) : PySem.W.Hook where
  α := Bool × He.AlD
  obs := fun s => obsXG n ex fa fn s.heap.get?
  val := fun _ => (true, He.valD fn)
  says := fun _ h => ∃ K : PySem.W.Frag, K.In h ∧ SaysX ex fa fn K
  of := fun _ _ e => ⟨_, He.frG_in, congrArg (fun z : Bool × He.AlD => z.1) e, congrArg (fun z : Bool × He.AlD => z.2) e⟩
  keeps := fun _ _ _ ⟨K, hK, c⟩ k => ⟨K, PySem.W.Frag.In.keeps hK k, c⟩
theorem obsXG_eq {n : Nat} {ex : List (PySem.W.Frag → Bool)} {fa : List He.Fa} {fn : List He.DefD} {g : Addr → Option Obj} {s : Shared} (h : ∀ a, g a = s.heap.get? a) : obsXG n ex fa fn g = (hookX n ex fa fn).obs s := by
  have e : g = s.heap.get? := funext h
  rw [e] <;> rfl
/-! ### what a def may let out, whatever the world -/
def CXE (P : Program) : CXT := fun outer H s E u s' => ∃ w, L2.CX P w outer H s E u s'
theorem cxe_no {P : Program} (H : Hp) (s : Shared) (e : Value) (s' : Shared) (h : CXE P [] H s (fun _ _ _ => False) e s') : False := by
  obtain ⟨w, a, B, H', cls, d, _, _, _, _, _, _, _, z⟩ := h
  exact z
theorem fnok_cxe {P : Program} {w : World} {K : PySem.W.Frag} {mg : Str → Option Value} {base : Heap} {k : Nat} {f : Addr} {fd : FuncData} {ps : List Str} {sp : Sp} (F : FnOk P w K mg base (L2.CX P w) k f fd ps sp) : FnOk P w K mg base (CXE P) k f fd ps sp :=
  ⟨F.len, fun A outer s H args us vs Q E hr he hb hv hs => codeAny_mono (F.run A outer s H args us vs Q E hr he hb hv hs) fun r s' hq => by
    cases r with
    | ok fl => cases fl <;> exact hq
    | error e => exact ⟨w, hq⟩⟩
/-! ### try, by its reading -/
section
variable {X : Cx} {x n : Str} {c : Value} {i : Nat} {body suite : List Stmt} {b₀ : Stmt} {np pos pos' : Pos} {tb : WX → TS} {ts : Addr → Value → Option Addr → TS} {Wout : WX}
end
/-! ### the errors' __init__ -/
section
variable {K : PySem.W.Frag} {C a : Addr} {v u : V} {f g msg : Str} {H : Hp} {Q : VK}
theorem xi1 (ox : OexC K C) (na : PySem.W.findIn K (.ref C) f = some none) (ha : H a = some (exo a C none)) (k : ∀ dx, H dx = none → dx ≠ a → Q .non (upd (upd H dx (exd dx [(f, v)])) a (exo a C (some dx)))) :
    (tSeq (tDrop (tVeI K (tCons (tVar 0) (tCons (tC (.str msg)) tNil)))) (tOst K f (tVar 0) (tVar 1))) { nx := fun _ H' => Q .non H', rt := Q } [some (.ref a), some v] H :=
  ⟨.ref a, rfl, a, C, [.str msg], rfl, by simp, ox, ha, v, rfl, .ref a, rfl, a, C, rfl, ox, na, .inl ⟨ha, k⟩⟩
end
end Q

set_option Elab.async false
set_option linter.all false
set_option maxRecDepth 100000
set_option maxHeartbeats 4000000
namespace Q
open PySem PySem.Spec PyProof.Rows L2
structure GIs (K : PySem.W.Frag) : Prop where
  own : PySem.W.kitOne K (.ref (He.ga K "Group")) (.ref (He.ga K "Group")) = some true
  no : ∀ T ∈ (["NoneType", "bool", "int", "str", "list", "tuple", "dict"] : List String), PySem.W.kitOne K (.type T) (.ref (He.ga K "Group")) = some false
def gisB (K : PySem.W.Frag) : Bool := decide (PySem.W.kitOne K (.ref (He.ga K "Group")) (.ref (He.ga K "Group")) = some true) && (["NoneType", "bool", "int", "str", "list", "tuple", "dict"] : List String).all fun T => decide (PySem.W.kitOne K (.type T) (.ref (He.ga K "Group")) = some false)
end Q

set_option Elab.async false
set_option linter.all false
set_option maxRecDepth 100000
set_option maxHeartbeats 0
/-! ### the head -/
namespace Hd
open PySem PySem.Spec PyProof.Rows L2 Q
def top (i : Nat) : Stmt := PySem.Challenge.pw_quietpairs_k26_whole_two_sides.main.body.getD i (.Pass ⟨0, 0, 0, 0⟩)
abbrev s__law_cell : Stmt := top 31
abbrev s__law_copy : Stmt := top 36
abbrev s__law_is_dealing : Stmt := top 41
abbrev s__law_pairs : Stmt := top 38
abbrev s__law_rather : Stmt := top 39
abbrev s__law_quarrels : Stmt := top 40
abbrev s__law_is_calm : Stmt := top 42
abbrev s__law_take : Stmt := top 32
abbrev s__law_mixed : Stmt := top 35
abbrev s__law_mutual : Stmt := top 37
abbrev s__law_name : Stmt := top 33
abbrev s__law_names : Stmt := top 34
abbrev s__law_row : Stmt := top 43
abbrev s_ask_all : Stmt := top 16
abbrev s_cycle_from : Stmt := top 18
abbrev s_in_order : Stmt := top 20
abbrev s_lower : Stmt := top 17
abbrev s_passed_on : Stmt := top 19
abbrev s_rings_of : Stmt := top 21
abbrev s_plain : Stmt := top 22
abbrev s_NoPerson___init__ : Stmt := inClass (top 5) 0
abbrev s_Group_check : Stmt := inClass (top 14) 6
abbrev s_Group_open_to : Stmt := inClass (top 14) 9
abbrev s_Group_people : Stmt := inClass (top 14) 7
abbrev s_find_half : Stmt := top 23
abbrev s_lots : Stmt := top 27
abbrev s_alone : Stmt := top 29
abbrev s_dealing : Stmt := top 25
abbrev s_odd : Stmt := top 28
abbrev s_is_name : Stmt := top 9
abbrev s_BadPeople___init__ : Stmt := inClass (top 3) 0
abbrev s_check_people : Stmt := top 12
abbrev s_fits_wishes : Stmt := top 11
abbrev s_same_keys : Stmt := top 10
abbrev s_BadWishes___init__ : Stmt := inClass (top 4) 0
abbrev s_check_wishes : Stmt := top 13
abbrev s_Group___init__ : Stmt := inClass (top 14) 0
abbrev s_law : Stmt := top 44
def d__law_cell : He.DefD := ⟨("_law_cell", none), "_law_cell", "_law_cell", defArgs s__law_cell, defBody s__law_cell, defScope s__law_cell, [], []⟩
def d__law_copy : He.DefD := ⟨("_law_copy", none), "_law_copy", "_law_copy", defArgs s__law_copy, defBody s__law_copy, defScope s__law_copy, [], []⟩
def d__law_is_dealing : He.DefD := ⟨("_law_is_dealing", none), "_law_is_dealing", "_law_is_dealing", defArgs s__law_is_dealing, defBody s__law_is_dealing, defScope s__law_is_dealing, [], []⟩
def d__law_pairs : He.DefD := ⟨("_law_pairs", none), "_law_pairs", "_law_pairs", defArgs s__law_pairs, defBody s__law_pairs, defScope s__law_pairs, [], []⟩
def d__law_rather : He.DefD := ⟨("_law_rather", none), "_law_rather", "_law_rather", defArgs s__law_rather, defBody s__law_rather, defScope s__law_rather, [], []⟩
def d__law_quarrels : He.DefD := ⟨("_law_quarrels", none), "_law_quarrels", "_law_quarrels", defArgs s__law_quarrels, defBody s__law_quarrels, defScope s__law_quarrels, [], []⟩
def d__law_is_calm : He.DefD := ⟨("_law_is_calm", none), "_law_is_calm", "_law_is_calm", defArgs s__law_is_calm, defBody s__law_is_calm, defScope s__law_is_calm, [], []⟩
def d__law_take : He.DefD := ⟨("_law_take", none), "_law_take", "_law_take", defArgs s__law_take, defBody s__law_take, defScope s__law_take, [], []⟩
def d__law_mixed : He.DefD := ⟨("_law_mixed", none), "_law_mixed", "_law_mixed", defArgs s__law_mixed, defBody s__law_mixed, defScope s__law_mixed, [], []⟩
def d__law_mutual : He.DefD := ⟨("_law_mutual", none), "_law_mutual", "_law_mutual", defArgs s__law_mutual, defBody s__law_mutual, defScope s__law_mutual, [], []⟩
def d__law_name : He.DefD := ⟨("_law_name", none), "_law_name", "_law_name", defArgs s__law_name, defBody s__law_name, defScope s__law_name, [], []⟩
def d__law_names : He.DefD := ⟨("_law_names", none), "_law_names", "_law_names", defArgs s__law_names, defBody s__law_names, defScope s__law_names, [], []⟩
def d__law_row : He.DefD := ⟨("_law_row", none), "_law_row", "_law_row", defArgs s__law_row, defBody s__law_row, defScope s__law_row, [], []⟩
def d_ask_all : He.DefD := ⟨("ask_all", none), "ask_all", "ask_all", defArgs s_ask_all, defBody s_ask_all, defScope s_ask_all, [], []⟩
def d_cycle_from : He.DefD := ⟨("cycle_from", none), "cycle_from", "cycle_from", defArgs s_cycle_from, defBody s_cycle_from, defScope s_cycle_from, [], []⟩
def d_in_order : He.DefD := ⟨("in_order", none), "in_order", "in_order", defArgs s_in_order, defBody s_in_order, defScope s_in_order, [], []⟩
def d_lower : He.DefD := ⟨("lower", none), "lower", "lower", defArgs s_lower, defBody s_lower, defScope s_lower, [], []⟩
def d_passed_on : He.DefD := ⟨("passed_on", none), "passed_on", "passed_on", defArgs s_passed_on, defBody s_passed_on, defScope s_passed_on, [], []⟩
def d_rings_of : He.DefD := ⟨("rings_of", none), "rings_of", "rings_of", defArgs s_rings_of, defBody s_rings_of, defScope s_rings_of, [], []⟩
def d_plain : He.DefD := ⟨("plain", none), "plain", "plain", defArgs s_plain, defBody s_plain, defScope s_plain, [], []⟩
def d_NoPerson___init__ : He.DefD := ⟨("NoPerson", some "__init__"), "__init__", "NoPerson.__init__", defArgs s_NoPerson___init__, defBody s_NoPerson___init__, defScope s_NoPerson___init__, [], []⟩
def d_Group_check : He.DefD := ⟨("Group", some "check"), "check", "Group.check", defArgs s_Group_check, defBody s_Group_check, defScope s_Group_check, [], []⟩
def d_Group_open_to : He.DefD := ⟨("Group", some "open_to"), "open_to", "Group.open_to", defArgs s_Group_open_to, defBody s_Group_open_to, defScope s_Group_open_to, [], []⟩
def d_Group_people : He.DefD := ⟨("Group", some "people"), "people", "Group.people", defArgs s_Group_people, defBody s_Group_people, defScope s_Group_people, [], []⟩
def d_find_half : He.DefD := ⟨("find_half", none), "find_half", "find_half", defArgs s_find_half, defBody s_find_half, defScope s_find_half, [], []⟩
def d_lots : He.DefD := ⟨("lots", none), "lots", "lots", defArgs s_lots, defBody s_lots, defScope s_lots, [], []⟩
def d_alone : He.DefD := ⟨("alone", none), "alone", "alone", defArgs s_alone, defBody s_alone, defScope s_alone, [], []⟩
def d_dealing : He.DefD := ⟨("dealing", none), "dealing", "dealing", defArgs s_dealing, defBody s_dealing, defScope s_dealing, [], []⟩
def d_odd : He.DefD := ⟨("odd", none), "odd", "odd", defArgs s_odd, defBody s_odd, defScope s_odd, [], []⟩
def d_is_name : He.DefD := ⟨("is_name", none), "is_name", "is_name", defArgs s_is_name, defBody s_is_name, defScope s_is_name, [], []⟩
def d_BadPeople___init__ : He.DefD := ⟨("BadPeople", some "__init__"), "__init__", "BadPeople.__init__", defArgs s_BadPeople___init__, defBody s_BadPeople___init__, defScope s_BadPeople___init__, [], []⟩
def d_check_people : He.DefD := ⟨("check_people", none), "check_people", "check_people", defArgs s_check_people, defBody s_check_people, defScope s_check_people, [], []⟩
def d_fits_wishes : He.DefD := ⟨("fits_wishes", none), "fits_wishes", "fits_wishes", defArgs s_fits_wishes, defBody s_fits_wishes, defScope s_fits_wishes, [], []⟩
def d_same_keys : He.DefD := ⟨("same_keys", none), "same_keys", "same_keys", defArgs s_same_keys, defBody s_same_keys, defScope s_same_keys, [], []⟩
def d_BadWishes___init__ : He.DefD := ⟨("BadWishes", some "__init__"), "__init__", "BadWishes.__init__", defArgs s_BadWishes___init__, defBody s_BadWishes___init__, defScope s_BadWishes___init__, [], []⟩
def d_check_wishes : He.DefD := ⟨("check_wishes", none), "check_wishes", "check_wishes", defArgs s_check_wishes, defBody s_check_wishes, defScope s_check_wishes, [], []⟩
def d_Group___init__ : He.DefD := ⟨("Group", some "__init__"), "__init__", "Group.__init__", defArgs s_Group___init__, defBody s_Group___init__, defScope s_Group___init__, [], []⟩
def d_law : He.DefD := ⟨("law", none), "law", "law", defArgs s_law, defBody s_law, defScope s_law, [], []⟩
def fn : List He.DefD := [d__law_cell, d__law_copy, d__law_is_dealing, d__law_pairs, d__law_rather, d__law_quarrels, d__law_is_calm, d__law_take, d__law_mixed, d__law_mutual, d__law_name, d__law_names, d__law_row, d_ask_all, d_cycle_from, d_in_order, d_lower, d_passed_on, d_rings_of, d_plain, d_NoPerson___init__, d_Group_check, d_Group_open_to, d_Group_people, d_find_half, d_lots, d_alone, d_dealing, d_odd, d_is_name, d_BadPeople___init__, d_check_people, d_fits_wishes, d_same_keys, d_BadWishes___init__, d_check_wishes, d_Group___init__, d_law]
def fa : List He.Fa := [He.Fa.free "abs", He.Fa.free "dict", He.Fa.free "enumerate", He.Fa.free "int", He.Fa.free "isinstance", He.Fa.free "len", He.Fa.free "list", He.Fa.free "min", He.Fa.free "range", He.Fa.free "sorted", He.Fa.free "str", He.Fa.free "tuple", He.Fa.str "LETTERS" "abcdefghijklmnopqrstuvwxyz", He.Fa.int "MOST_PEOPLE" 16, He.Fa.glo "BadPeople", He.Fa.glo "BadWishes", He.Fa.glo "Group", He.Fa.glo "NoPerson", He.Fa.glo "QuietError", He.Fa.glo "_law_cell", He.Fa.glo "_law_copy", He.Fa.glo "_law_is_dealing", He.Fa.glo "_law_pairs", He.Fa.glo "_law_rather", He.Fa.glo "_law_quarrels", He.Fa.glo "_law_is_calm", He.Fa.glo "_law_take", He.Fa.glo "_law_mixed", He.Fa.glo "_law_mutual", He.Fa.glo "_law_name", He.Fa.glo "_law_names", He.Fa.glo "_law_row", He.Fa.glo "ask_all", He.Fa.glo "cycle_from", He.Fa.glo "in_order", He.Fa.glo "lower", He.Fa.glo "passed_on", He.Fa.glo "rings_of", He.Fa.glo "plain", He.Fa.glo "find_half", He.Fa.glo "lots", He.Fa.glo "alone", He.Fa.glo "dealing", He.Fa.glo "odd", He.Fa.glo "is_name", He.Fa.glo "check_people", He.Fa.glo "fits_wishes", He.Fa.glo "same_keys", He.Fa.glo "check_wishes", He.Fa.glo "law", He.Fa.noat "BadPeople" "index", He.Fa.noat "BadWishes" "person", He.Fa.noat "NoPerson" "value", He.Fa.meth "BadPeople" "__init__", He.Fa.meth "BadWishes" "__init__", He.Fa.meth "NoPerson" "__init__", He.Fa.meth "Group" "check", He.Fa.meth "Group" "open_to", He.Fa.meth "Group" "people", He.Fa.mkr "Group", He.Fa.cls "Group", He.Fa.noat "Group" "names", He.Fa.noat "Group" "lists", He.Fa.noat "Group" "mutual", He.Fa.noat "Group" "places"]
def ex : List (PySem.W.Frag → Bool) := [(fun K => qInitB K "QuietError"), (fun K => oexB K (He.ga K "BadPeople")), (fun K => decide (PySem.W.typeIn K (.ref (He.ma K (He.ga K "BadPeople") "__init__")) = some (.type "function"))), (fun K => oexB K (He.ga K "BadWishes")), (fun K => decide (PySem.W.typeIn K (.ref (He.ma K (He.ga K "BadWishes") "__init__")) = some (.type "function"))), (fun K => oexB K (He.ga K "NoPerson")), (fun K => decide (PySem.W.typeIn K (.ref (He.ma K (He.ga K "NoPerson") "__init__")) = some (.type "function"))), (fun K => insB K (He.ga K "Group"))]
abbrev R : PySem.W.OpenRow := PySem.W.OpenLaw.row PySem.Challenge.rw_quietpairs_k26_whole_two_sides
abbrev hk : PySem.W.Hook := hookX 5 ex fa fn
def ob (s : PySem.W.SharedT) : Bool × He.AlD := obsXG 5 ex fa fn (HandSHeadRun.getT s)
theorem ob_eq (s : PySem.W.SharedT) : ob s = hk.obs s.abs := obsXG_eq (HandSHeadRun.getT_eq s)
def loose : List Str := "_wall" :: "QuietError" :: "BadPeople" :: "BadWishes" :: "NoPerson" :: "LETTERS" :: "MOST_PEOPLE" :: "is_name" :: "same_keys" :: "fits_wishes" :: "check_people" :: "check_wishes" :: "Group" :: "ask_all" :: "lower" :: "cycle_from" :: "passed_on" :: "in_order" :: "rings_of" :: "plain" :: "find_half" :: "dealing" :: "lots" :: "odd" :: "alone" :: "_law_cell" :: "_law_take" :: "_law_name" :: "_law_names" :: "_law_mixed" :: "_law_copy" :: "_law_mutual" :: "_law_pairs" :: "_law_rather" :: "_law_quarrels" :: "_law_is_dealing" :: "_law_is_calm" :: "_law_row" :: []
theorem run (w : World) : HandSHeadRun.RunEq R (PySem.W.view R.prog [44]) hk ob 20000 loose w := by
  intro os
  kernel_rfl
end Hd

set_option Elab.async false
set_option linter.all false
set_option maxRecDepth 100000
set_option maxHeartbeats 4000000
namespace Q
open PySem PySem.Spec PyProof.Rows L2
/-! ### the order of texts -/
def leS (a b : Str) : Bool := !ltCps b.cps.toList a.cps.toList
theorem leS_iff {a b : Str} : leS a b = true ↔ a.cps.toList ≤ b.cps.toList := by
  unfold leS
  rw [ltCps_eq, Bool.not_eq_true', decide_eq_false_iff_not]
  exact Iff.rfl
theorem leS_trans (a b c : Str) (h1 : leS a b = true) (h2 : leS b c = true) : leS a c = true := leS_iff.mpr (List.le_trans (leS_iff.mp h1) (leS_iff.mp h2))
theorem leS_total (a b : Str) : (leS a b || leS b a) = true := by
  rw [Bool.or_eq_true]
  rcases List.le_total a.cps.toList b.cps.toList with h | h
  · exact .inl (leS_iff.mpr h)
  · exact .inr (leS_iff.mpr h)
theorem str_ext {a b : Str} (h : a.cps.toList = b.cps.toList) : a = b := by
  obtain ⟨x⟩ := a
  obtain ⟨y⟩ := b
  have : x = y := by
    have h : x.toList = y.toList := h
    exact Array.toList_inj.mp h
  rw [this]
theorem leS_anti {a b : Str} (h1 : leS a b = true) (h2 : leS b a = true) : a = b := str_ext (List.le_antisymm (leS_iff.mp h1) (leS_iff.mp h2))
theorem leS_refl (a : Str) : leS a a = true := by
  have := leS_total a a
  simpa using this
def ltS (a b : Str) : Prop := a.cps.toList < b.cps.toList
instance (a b : Str) : Decidable (ltS a b) := inferInstanceAs (Decidable (a.cps.toList < b.cps.toList))
theorem not_ltS {a b : Str} : ¬ ltS a b ↔ leS b a = true := by rw [leS_iff]; exact Iff.rfl
theorem ltS_iff {a b : Str} : ltS a b ↔ leS a b = true ∧ a ≠ b := by
  constructor
  · intro h
    refine ⟨?_, fun e => ?_⟩
    · rcases Bool.or_eq_true _ _ ▸ leS_total a b with k | k
      · exact k
      · exact absurd h (not_ltS.mpr k)
    · subst e
      exact not_ltS.mpr (leS_refl a) h
  · rintro ⟨h1, h2⟩
    by_cases h : ltS a b
    · exact h
    · exact absurd (leS_anti h1 (not_ltS.mp h)) h2
theorem rising_pw : ∀ (p : Str) (l : List Str), risingS p l = true → (p :: l).Pairwise (fun a b => leS a b = true)
  | p, [], _ => List.pairwise_singleton _ _
  | p, x :: r, h => by
    have h : (leS p x && risingS x r) = true := h
    obtain ⟨h1, h2⟩ := Bool.and_eq_true_iff.mp h
    have ih := rising_pw x r h2
    rw [List.pairwise_cons] at ih ⊢
    refine ⟨fun y m => ?_, List.pairwise_cons.mpr ih⟩
    rcases List.mem_cons.mp m with rfl | m
    · exact h1
    · exact leS_trans _ _ _ h1 (ih.1 y m)
theorem sorted_pw {l : List Str} (h : sortedS l = true) : l.Pairwise (fun a b => leS a b = true) := by
  cases l with
  | nil => exact List.Pairwise.nil
  | cons x r => exact rising_pw x r h
def sortS (xs : List Str) : List Str := xs.mergeSort leS
theorem sortS_perm (xs : List Str) : (sortS xs).Perm xs := List.mergeSort_perm xs leS
theorem sortS_pw (xs : List Str) : (sortS xs).Pairwise (fun a b => leS a b = true) := List.pairwise_mergeSort leS_trans leS_total xs
theorem sorted_eq {xs ys : List Str} (p : ys.Perm xs) (s : sortedS ys = true) : ys = sortS xs :=
  List.Perm.eq_of_pairwise (fun _ _ _ _ h1 h2 => leS_anti h1 h2) (sorted_pw s) (sortS_pw xs) (p.trans (sortS_perm xs).symm)
theorem mem_sortS {xs : List Str} {x : Str} : x ∈ sortS xs ↔ x ∈ xs := (sortS_perm xs).mem_iff
theorem sortS_len (xs : List Str) : (sortS xs).length = xs.length := (sortS_perm xs).length_eq
theorem sortS_nodup {xs : List Str} (h : xs.Nodup) : (sortS xs).Nodup := (sortS_perm xs).nodup_iff.mpr h
section
variable {K : PySem.W.Frag} {H : Hp} {Q : VK} {p : Addr} {ss : List Str} {kvs : List (Key × V)}
theorem x_srtT (hp : SqT K H p (ss.map V.str)) (hz : ss.length < 64) (h : New (.lst ((sortS ss).map V.str)) Q H) : rSortT K [.ref p] H Q := x_sortT hp hz fun ys pe so => by rw [sorted_eq pe so]; exact h
theorem x_srtL (hp : SqL K H p (ss.map V.str)) (hz : ss.length < 64) (h : New (.lst ((sortS ss).map V.str)) Q H) : rSortL K [.ref p] H Q := x_sortL hp hz fun ys pe so => by rw [sorted_eq pe so]; exact h
theorem x_srtD (hp : H p = some (.dK kvs)) (hk : kvs.map (·.1) = ss.map Sum.inr) (hz : ss.length < 64) (h : New (.lst ((sortS ss).map V.str)) Q H) : rSortD [.ref p] H Q := x_sortD hp hk hz fun ys pe so => by rw [sorted_eq pe so]; exact h
end
end Q

set_option Elab.async false
set_option linter.all false
set_option maxRecDepth 100000
set_option maxHeartbeats 4000000
namespace Q
open PySem PySem.Spec PyProof.Rows L2
local macro_rules | `(tactic| walk_at "bf") => `(tactic| first | assumption | (refine' bstep (by assumption) ?r; case r => walk_at "bf") | fail)
local macro_rules | `(tactic| walk_at "rp") => `(tactic| first | assumption | exact Rep.int _ | exact Rep.bl _ | exact Rep.non | (refine' Rep.mono (by assumption) ?r; case r => walk_at "rp") | fail)
local macro_rules | `(tactic| walk_at "hf") => `(tactic| first | assumption | exact HS.up (by assumption) (by walk_at "bf") | exact HS.get (by assumption) List.mem_cons_self | exact HS.get (by assumption) (List.mem_cons_of_mem _ List.mem_cons_self) | exact HS.get (by assumption) (List.mem_cons_of_mem _ (List.mem_cons_of_mem _ List.mem_cons_self)) | exact HS.get (by assumption) (List.mem_cons_of_mem _ (List.mem_cons_of_mem _ (List.mem_cons_of_mem _ List.mem_cons_self))) | fail)
local macro_rules | `(tactic| walk_at "sl") => `(tactic| first | assumption | exact SqL.of (by walk_at "hf") | fail)
local macro_rules | `(tactic| walk_at "st") => `(tactic| first | assumption | exact SqT.of (by walk_at "hf") | fail)
local macro_rules | `(tactic| walk_at "sz") => `(tactic| first | assumption | (refine small_le ?_; first | assumption | omega | (simp; done) | (simp; omega)) | fail)
/-! ### names -/
abbrev letters : Str := "abcdefghijklmnopqrstuvwxyz"
def okName (x : Str) : Bool := decide (1 ≤ x.length) && (decide (x.length ≤ 8) && x.cps.toList.all fun c => decide (c ∈ letters.cps.toList))
def isName : D → Bool
  | .str x => okName x
  | _ => false
abbrev N_is_name : List Str := ["value", "letter"]
def t_is_name (K : PySem.W.Frag) (E : XK) : TS := (tSeq (tIfS (tOr (tNot (tB (tCB (rIsi K) (tCons (tVar 0) (tCons (tC (.ty "str")) tNil))))) (tOr (tTest (tOp rLtI (tCB (rLenA K) (tCons (tVar 0) tNil)) (tC (.int 1)))) (tTest (tOp rGtI (tCB (rLenA K) (tCons (tVar 0) tNil)) (tC (.int 8)))))) (tRet (tC (.bl false))) tNext)
  (tSeq (tFor (iStr (tVar 0)) (gName 1) (tIfS (tTest (tOp rNotInS (tVar 1) (tC (.str "abcdefghijklmnopqrstuvwxyz")))) (tRet (tC (.bl false))) tNext))
  (tRet (tC (.bl true)))))
def sp_is_name (K : PySem.W.Frag) : Sp := fun vs H Q E => ∃ v B d, vs = [v] ∧ Same B H ∧ Rep K B v d ∧ Ret B H Q fun _ r => r = .bl (isName d)
theorem pure_is_name {K : PySem.W.Frag} {vs : List V} {H : Hp} {Q : VK} {E : XK} (h : sp_is_name K vs H Q E) : t_is_name K E { nx := fun _ H' => Q .non H', rt := Q } (start N_is_name vs) H := by
  obtain ⟨v, B, d, rfl, sB, r, k⟩ := h
  have hs := HS.start sB
  show t_is_name K E _ [some v, none] H
  unfold t_is_name
  ((with_reducible refine x_seq ?_); (with_reducible refine x_if ?_); (with_reducible refine x_or ?_); (with_reducible refine x_not ?_); (with_reducible refine x_tB ?_); (with_reducible refine x_cb ?_); (with_reducible refine x_cons ?_); ((with_reducible refine' x_var ?z8h ?_); case z8h => rfl); (with_reducible refine x_cons ?_); (with_reducible refine x_c ?_); (with_reducible refine x_nil ?_); ((with_reducible refine' x_isiD ?z12h1 ?z12h2 ?z12h3 ?_); (case z12h1 => assumption); (case z12h2 => walk_at "rp"); (case z12h3 => decide)); (with_reducible refine x_exb ?_))
  cases r with
  | str hx =>
    rename_i x
    refine x_ite (fun h => by simp [D.isT] at h) (fun _ => ?_)
    ((with_reducible refine x_or ?_); (with_reducible refine x_test ?_); (with_reducible refine x_op ?_); (with_reducible refine x_cb ?_); (with_reducible refine x_cons ?_); ((with_reducible refine' x_var ?z19h ?_); case z19h => rfl); (with_reducible refine x_nil ?_); ((with_reducible refine' x_lenS ?z21h ?_); case z21h => walk_at "sz"); (with_reducible refine x_c ?_); (with_reducible refine x_ltI ?_); (with_reducible refine x_exb ?_))
    refine x_ite (fun h => ?_) (fun h1 => ?_)
    · ((with_reducible refine x_tt _ _ ?_); (with_reducible refine x_ret ?_); (with_reducible refine x_c ?_))
      refine k B H _ hs (congrArg V.bl ?_)
      have h := of_decide_eq_true h
      have : ¬ 1 ≤ x.length := by omega
      simp only [isName, okName, decide_eq_false this, Bool.false_and]
    ((with_reducible refine x_test ?_); (with_reducible refine x_op ?_); (with_reducible refine x_cb ?_); (with_reducible refine x_cons ?_); ((with_reducible refine' x_var ?z32h ?_); case z32h => rfl); (with_reducible refine x_nil ?_); ((with_reducible refine' x_lenS ?z34h ?_); case z34h => walk_at "sz"); (with_reducible refine x_c ?_); (with_reducible refine x_gtI ?_); (with_reducible refine x_exb ?_))
    refine x_ite (fun h => ?_) (fun h2 => ?_)
    · ((with_reducible refine x_ret ?_); (with_reducible refine x_c ?_))
      refine k B H _ hs (congrArg V.bl ?_)
      have h := of_decide_eq_true h
      have : ¬ x.length ≤ 8 := by omega
      simp only [isName, okName, decide_eq_false this, Bool.false_and, Bool.and_false]
    have h1 : 1 ≤ x.length := by have := of_decide_eq_false h1; omega
    have h2 : x.length ≤ 8 := by have := of_decide_eq_false h2; omega
    ((with_reducible refine x_next ?_); (with_reducible refine x_seq ?_); (with_reducible refine x_for ?_); (with_reducible refine x_iStr ?_); ((with_reducible refine' x_var ?z44h ?_); case z44h => rfl))
    refine ⟨x, rfl, ?_⟩
    refine l_str (α := Option V) (σf := fun u => [some (.str x), u]) (Mf := fun _ => []) (P := fun i _ _ => ∀ c ∈ x.cps.toList.take i, c ∈ letters.cps.toList) (s0 := none) hs (by simp) (fun i c s B1 H1 hi sb hs1 p => ?_) (fun s B1 H1 sb hs1 p => ?_)
    · (((with_reducible refine x_gname ?_); try simp only [List.set_cons_zero, List.set_cons_succ]); (with_reducible refine x_if ?_); (with_reducible refine x_test ?_); (with_reducible refine x_op ?_); ((with_reducible refine' x_var ?z49h ?_); case z49h => rfl); (with_reducible refine x_c ?_); (with_reducible refine x_notInS ?_); (with_reducible refine x_exb ?_))
      refine x_ite (fun h => ?_) (fun h => ?_)
      · ((with_reducible refine x_ret ?_); (with_reducible refine x_c ?_))
        refine k B1 H1 _ (hs.call hs1) (congrArg V.bl ?_)
        have hc : ¬ c ∈ letters.cps.toList := by simpa using h
        have hall : (x.cps.toList.all fun c => decide (c ∈ letters.cps.toList)) = false := by
          rw [List.all_eq_false]
          exact ⟨c, List.mem_of_getElem? hi, by simpa using hc⟩
        simp only [isName, okName, hall, Bool.and_false]
      · (with_reducible refine x_next ?_)
        refine ⟨some _, B1, rfl, sb, hs1, fun c' m => ?_⟩
        have hc : c ∈ letters.cps.toList := by simpa using h
        rw [List.take_succ, hi] at m
        rcases List.mem_append.mp m with m | m
        · exact p c' m
        · have : c' = c := by simpa using m
          rw [this]; exact hc
    · ((with_reducible refine x_ret ?_); (with_reducible refine x_c ?_))
      refine k B1 H1 _ (hs.call hs1) (congrArg V.bl ?_)
      rw [List.take_length] at p
      have hall : (x.cps.toList.all fun c => decide (c ∈ letters.cps.toList)) = true := List.all_eq_true.mpr fun c m => decide_eq_true (p c m)
      simp only [isName, okName, decide_eq_true h1, decide_eq_true h2, hall, Bool.and_self]
  | _ =>
    refine x_ite (fun h => ?_) (fun h => by simp [D.isT] at h)
    ((with_reducible refine x_tt _ _ ?_); (with_reducible refine x_ret ?_); (with_reducible refine x_c ?_))
    exact k B H _ hs rfl
end Q

set_option Elab.async false
set_option linter.all false
set_option maxRecDepth 100000
set_option maxHeartbeats 4000000
namespace Q
open PySem PySem.Spec PyProof.Rows L2
local macro_rules | `(tactic| walk_at "bf") => `(tactic| first | assumption | (refine' bstep (by assumption) ?r; case r => walk_at "bf") | fail)
local macro_rules | `(tactic| walk_at "rp") => `(tactic| first | assumption | exact Rep.int _ | exact Rep.bl _ | exact Rep.non | (refine' Rep.mono (by assumption) ?r; case r => walk_at "rp") | fail)
local macro_rules | `(tactic| walk_at "hf") => `(tactic| first | assumption | exact HS.up (by assumption) (by walk_at "bf") | exact HS.get (by assumption) List.mem_cons_self | exact HS.get (by assumption) (List.mem_cons_of_mem _ List.mem_cons_self) | exact HS.get (by assumption) (List.mem_cons_of_mem _ (List.mem_cons_of_mem _ List.mem_cons_self)) | exact HS.get (by assumption) (List.mem_cons_of_mem _ (List.mem_cons_of_mem _ (List.mem_cons_of_mem _ List.mem_cons_self))) | fail)
local macro_rules | `(tactic| walk_at "sl") => `(tactic| first | assumption | exact SqL.of (by walk_at "hf") | fail)
local macro_rules | `(tactic| walk_at "st") => `(tactic| first | assumption | exact SqT.of (by walk_at "hf") | fail)
local macro_rules | `(tactic| walk_at "sz") => `(tactic| first | assumption | (refine small_le ?_; first | assumption | omega | (simp; done) | (simp; omega)) | fail)
/-! ### same_keys, fits_wishes -/
def sameKeys (d : D) (xs : List Str) : Bool := match d with
  | .dct ds => decide (ds.length = xs.length) && xs.all fun x => (dval ds (.inr x)).isSome
  | _ => false
abbrev N_same_keys : List Str := ["value", "people", "person"]
def t_same_keys (K : PySem.W.Frag) (E : XK) : TS := (tSeq (tIfS (tOr (tNot (tB (tCB (rIsi K) (tCons (tVar 0) (tCons (tC (.ty "dict")) tNil))))) (tTest (tOp rNe (tCB rLenD (tCons (tVar 0) tNil)) (tCB (rLenA K) (tCons (tVar 1) tNil))))) (tRet (tC (.bl false))) tNext)
  (tSeq (tFor (iSeq K (tVar 1)) (gName 2) (tIfS (tB (tDNotIn (tVar 2) (tVar 0))) (tRet (tC (.bl false))) tNext))
  (tRet (tC (.bl true)))))
def sp_same_keys (K : PySem.W.Frag) : Sp := fun vs H Q E => ∃ v u B d xs, vs = [v, u] ∧ Same B H ∧ Rep K B v d ∧ Sq B u xs ∧ Ret B H Q fun _ r => r = .bl (sameKeys d xs)
theorem pure_same_keys {K : PySem.W.Frag} {vs : List V} {H : Hp} {Q : VK} {E : XK} (h : sp_same_keys K vs H Q E) : t_same_keys K E { nx := fun _ H' => Q .non H', rt := Q } (start N_same_keys vs) H := by
  obtain ⟨v, u, B, d, xs, rfl, sB, r, q, k⟩ := h
  have hs := HS.start sB
  show t_same_keys K E _ [some v, some u, none] H
  unfold t_same_keys
  ((with_reducible refine x_seq ?_); (with_reducible refine x_if ?_); (with_reducible refine x_or ?_); (with_reducible refine x_not ?_); (with_reducible refine x_tB ?_); (with_reducible refine x_cb ?_); (with_reducible refine x_cons ?_); ((with_reducible refine' x_var ?z8h ?_); case z8h => rfl); (with_reducible refine x_cons ?_); (with_reducible refine x_c ?_); (with_reducible refine x_nil ?_); ((with_reducible refine' x_isiD ?z12h1 ?z12h2 ?z12h3 ?_); (case z12h1 => assumption); (case z12h2 => walk_at "rp"); (case z12h3 => decide)); (with_reducible refine x_exb ?_))
  cases r with
  | @dct a kvs ds e r =>
    refine x_ite (fun h => by simp [D.isT] at h) (fun _ => ?_)
    ((with_reducible refine x_test ?_); (with_reducible refine x_op ?_); (with_reducible refine x_cb ?_); (with_reducible refine x_cons ?_); ((with_reducible refine' x_var ?z18h ?_); case z18h => rfl); (with_reducible refine x_nil ?_); ((with_reducible refine' x_lenD ?z20h ?_); case z20h => walk_at "hf"); (with_reducible refine x_cb ?_); (with_reducible refine x_cons ?_); ((with_reducible refine' x_var ?z23h ?_); case z23h => rfl); (with_reducible refine x_nil ?_))
    refine x_lenSq hs q ?_
    (((with_reducible refine' x_ne ?z25h ?_); case z25h => rfl); (with_reducible refine x_exb ?_))
    have hl := r.length
    refine x_ite (fun h => ?_) (fun h1 => ?_)
    · ((with_reducible refine x_ret ?_); (with_reducible refine x_c ?_))
      refine k B H _ hs (congrArg V.bl ?_)
      have : ¬ ds.length = xs.length := by
        intro z
        rw [hl, z] at h
        simp at h
      simp only [sameKeys, decide_eq_false this, Bool.false_and]
    have h1 : ds.length = xs.length := by
      have h2 := of_decide_eq_true (Bool.not_eq_false' .. ▸ h1)
      injection h2 with h2
      omega
    ((with_reducible refine x_next ?_); (with_reducible refine x_seq ?_); (with_reducible refine x_for ?_))
    refine l_sq (σ := []) (α := Option V) (σf := fun u' => [some (.ref a), some u, u']) (Mf := fun _ => []) (P := fun i _ _ => ∀ x ∈ xs.take i, (dval ds (.inr x)).isSome = true) (s0 := none) hs q (fun Qv z => ⟨u, rfl, z⟩) (by simp) (fun i x s B1 H1 hi sb hs1 p => ?_) (fun s B1 H1 sb hs1 p => ?_)
    · (((with_reducible refine x_gname ?_); try simp only [List.set_cons_zero, List.set_cons_succ]); (with_reducible refine x_if ?_); (with_reducible refine x_tB ?_); (with_reducible refine x_dnin ?_); ((with_reducible refine' x_var ?z36h ?_); case z36h => rfl); ((with_reducible refine' x_var ?z37h ?_); case z37h => rfl); ((with_reducible refine' x_dinO ?z38h ?_); case z38h => walk_at "hf"); (with_reducible refine x_exb ?_))
      rw [repK_some r]
      refine x_ite (fun h => ?_) (fun h => ?_)
      · ((with_reducible refine x_ret ?_); (with_reducible refine x_c ?_))
        refine k B1 H1 _ (hs.call hs1) (congrArg V.bl ?_)
        have hall : (xs.all fun x => (dval ds (.inr x)).isSome) = false := by
          rw [List.all_eq_false]
          exact ⟨x, List.mem_of_getElem? hi, by simpa using h⟩
        simp only [sameKeys, hall, Bool.and_false]
      · (with_reducible refine x_next ?_)
        refine ⟨some _, B1, rfl, sb, hs1, fun y m => ?_⟩
        rw [List.take_succ, hi] at m
        rcases List.mem_append.mp m with m | m
        · exact p y m
        · have : y = x := by simpa using m
          rw [this]; simpa using h
    · ((with_reducible refine x_ret ?_); (with_reducible refine x_c ?_))
      refine k B1 H1 _ (hs.call hs1) (congrArg V.bl ?_)
      rw [List.take_length] at p
      have hall : (xs.all fun x => (dval ds (.inr x)).isSome) = true := List.all_eq_true.mpr p
      simp only [sameKeys, h1, hall, decide_true, Bool.and_self]
  | _ =>
    refine x_ite (fun h => ?_) (fun h => by simp [D.isT] at h)
    ((with_reducible refine x_tt _ _ ?_); (with_reducible refine x_ret ?_); (with_reducible refine x_c ?_))
    exact k B H _ hs rfl
/-- a row of different people without the person -/
def fitsGo (xs : List Str) (p : Str) : List Str → List D → Bool
  | _, [] => true
  | seen, .str x :: r => !decide (x = p) && (decide (x ∈ xs) && (!decide (x ∈ seen) && fitsGo xs p (seen ++ [x]) r))
  | _, _ => false
def fitsW (d : D) (xs : List Str) (p : Str) : Bool := match d with
  | .lst ds => fitsGo xs p [] ds
  | _ => false
abbrev N_fits_wishes : List Str := ["value", "people", "person", "seen", "item"]
def t_fits_wishes (K : PySem.W.Frag) (E : XK) : TS := (tSeq (tIfS (tNot (tB (tCB (rIsi K) (tCons (tVar 0) (tCons (tC (.ty "list")) tNil))))) (tRet (tC (.bl false))) tNext)
  (tSeq (tAsg (tLst tNil) (gName 3))
  (tSeq (tFor (iList K (tVar 0)) (gName 4) (tSeq (tIfS (tOr (tNot (tB (tCB (rIsi K) (tCons (tVar 4) (tCons (tC (.ty "str")) tNil))))) (tOr (tTest (tOp rEq (tVar 4) (tVar 2))) (tOr (tTest (tOp (rIn K true) (tVar 4) (tVar 1))) (tTest (tOp (rIn K false) (tVar 4) (tVar 3)))))) (tRet (tC (.bl false))) tNext)
  (tDrop (tBM K "list" rAppend (tVar 3) (tCons (tVar 4) tNil)))))
  (tRet (tC (.bl true))))))
def sp_fits_wishes (K : PySem.W.Frag) : Sp := fun vs H Q E => ∃ v u B d xs p, vs = [v, u, .str p] ∧ Same B H ∧ Rep K B v d ∧ Sq B u xs ∧ Ret B H Q fun _ r => r = .bl (fitsW d xs p)
theorem pure_fits_wishes {K : PySem.W.Frag} {vs : List V} {H : Hp} {Q : VK} {E : XK} (h : sp_fits_wishes K vs H Q E) : t_fits_wishes K E { nx := fun _ H' => Q .non H', rt := Q } (start N_fits_wishes vs) H := by
  obtain ⟨v, u, B, d, xs, p, rfl, sB, r, q, k⟩ := h
  have hs := HS.start sB
  show t_fits_wishes K E _ [some v, some u, some (.str p), none, none] H
  unfold t_fits_wishes
  ((with_reducible refine x_seq ?_); (with_reducible refine x_if ?_); (with_reducible refine x_not ?_); (with_reducible refine x_tB ?_); (with_reducible refine x_cb ?_); (with_reducible refine x_cons ?_); ((with_reducible refine' x_var ?z54h ?_); case z54h => rfl); (with_reducible refine x_cons ?_); (with_reducible refine x_c ?_); (with_reducible refine x_nil ?_); ((with_reducible refine' x_isiD ?z58h1 ?z58h2 ?z58h3 ?_); (case z58h1 => assumption); (case z58h2 => walk_at "rp"); (case z58h3 => decide)); (with_reducible refine x_exb ?_))
  cases r with
  | @lst a vs ds e hz r =>
    have hlr := r.length
    refine x_ite (fun h => by simp [D.isT] at h) (fun _ => ?_)
    ((with_reducible refine x_next ?_); (with_reducible refine x_seq ?_); (with_reducible refine x_asg ?_); (with_reducible refine x_lst ?_); (with_reducible refine x_nil ?_); ((with_reducible refine' x_newL ?z65h ?_); case z65h => first | exact Nat.zero_le _ | (simp; done) | (simp; omega)))
    refine new_M hs (fun l H1 hs1 _ => ?_)
    (((with_reducible refine x_gname ?_); try simp only [List.set_cons_zero, List.set_cons_succ]); (with_reducible refine x_seq ?_); (with_reducible refine x_for ?_); (with_reducible refine x_iList ?_); ((with_reducible refine' x_var ?z70h ?_); case z70h => rfl))
    refine ⟨a, rfl, ⟨_, by walk_at "sl"⟩, ?_⟩
    refine l_list (α := List Str × Option V) (σf := fun s => [some (.ref a), some u, some (.str p), some (.ref l), s.2]) (Mf := fun s => [(l, .lst (s.1.map V.str))])
      (P := fun i s _ => s.1.length = i ∧ fitsGo xs p [] ds = fitsGo xs p s.1 (ds.drop i)) (s0 := ([], none)) hs1 e ⟨rfl, rfl⟩ (fun i x s B1 H1 hi sb hs2 pp => ?_) (fun s B1 H1 sb hs2 pp => ?_)
    · obtain ⟨seen, s2⟩ := s
      obtain ⟨hlen, hgo⟩ := pp
      dsimp only at hlen hgo hs2 ⊢
      obtain ⟨d, hd, rd⟩ := r.get hi
      have hdrop : ds.drop i = d :: ds.drop (i + 1) := by
        rw [List.drop_eq_getElem_cons (List.getElem?_eq_some_iff.mp hd).1]
        rw [(List.getElem?_eq_some_iff.mp hd).2]
      have hil : i < ds.length := (List.getElem?_eq_some_iff.mp hd).1
      rw [hdrop] at hgo
      have rd1 := rd.mono sb
      (((with_reducible refine x_gname ?_); try simp only [List.set_cons_zero, List.set_cons_succ]); (with_reducible refine x_seq ?_); (with_reducible refine x_if ?_); (with_reducible refine x_or ?_); (with_reducible refine x_not ?_); (with_reducible refine x_tB ?_); (with_reducible refine x_cb ?_); (with_reducible refine x_cons ?_); ((with_reducible refine' x_var ?z79h ?_); case z79h => rfl); (with_reducible refine x_cons ?_); (with_reducible refine x_c ?_); (with_reducible refine x_nil ?_); ((with_reducible refine' x_isiD ?z83h1 ?z83h2 ?z83h3 ?_); (case z83h1 => assumption); (case z83h2 => walk_at "rp"); (case z83h3 => decide)); (with_reducible refine x_exb ?_))
      have fin : ∀ b, fitsGo xs p seen (d :: ds.drop (i + 1)) = false → b = false → Q (.bl b) H1 := fun b e1 e2 => by
        refine k B1 H1 _ (hs.call hs2.all) (congrArg V.bl ?_)
        simp only [fitsW, hgo, e1, e2]
      cases rd with
      | @str x hx =>
        refine x_ite (fun h => by simp [D.isT] at h) (fun _ => ?_)
        ((with_reducible refine x_or ?_); (with_reducible refine x_test ?_); (with_reducible refine x_op ?_); ((with_reducible refine' x_var ?z88h ?_); case z88h => rfl); ((with_reducible refine' x_var ?z89h ?_); case z89h => rfl); ((with_reducible refine' x_eq ?z90h ?_); case z90h => rfl); (with_reducible refine x_exb ?_))
        refine x_ite (fun h => ?_) (fun h1 => ?_)
        · ((with_reducible refine x_tt _ _ ?_); (with_reducible refine x_ret ?_); (with_reducible refine x_c ?_))
          refine fin _ ?_ rfl
          have := of_decide_eq_true h
          injection this with this
          simp [fitsGo, this]
        have h1 : ¬ x = p := fun z => of_decide_eq_false h1 (by rw [z])
        ((with_reducible refine x_or ?_); (with_reducible refine x_test ?_); (with_reducible refine x_op ?_); ((with_reducible refine' x_var ?z98h ?_); case z98h => rfl); ((with_reducible refine' x_var ?z99h ?_); case z99h => rfl))
        refine x_ninSq hs2 (q.mono sb) ?_
        (with_reducible refine x_exb ?_)
        refine x_ite (fun h => ?_) (fun h2 => ?_)
        · ((with_reducible refine x_tt _ _ ?_); (with_reducible refine x_ret ?_); (with_reducible refine x_c ?_))
          refine fin _ ?_ rfl
          have : ¬ x ∈ xs := by simpa using h
          simp [fitsGo, this]
        have h2 : x ∈ xs := by simpa using h2
        ((with_reducible refine x_test ?_); (with_reducible refine x_op ?_); ((with_reducible refine' x_var ?z106h ?_); case z106h => rfl); ((with_reducible refine' x_var ?z107h ?_); case z107h => rfl); ((with_reducible refine' x_inLS ?z108h ?_); case z108h => walk_at "sl"); (with_reducible refine x_exb ?_))
        refine x_ite (fun h => ?_) (fun h3 => ?_)
        · ((with_reducible refine x_ret ?_); (with_reducible refine x_c ?_))
          refine fin _ ?_ rfl
          have : x ∈ seen := by simpa using h
          simp [fitsGo, this]
        have h3 : ¬ x ∈ seen := by simpa using h3
        ((with_reducible refine x_next ?_); (with_reducible refine x_drop ?_); (with_reducible refine x_bm ?_); ((with_reducible refine' x_var ?z115h ?_); case z115h => rfl); ((with_reducible refine' x_tyL ?z116h ?_); case z116h => walk_at "sl"); (with_reducible refine x_cons ?_); ((with_reducible refine' x_var ?z118h ?_); case z118h => rfl); (with_reducible refine x_nil ?_))
        refine x_append hs2 (by rw [List.length_map]; omega) (fun H2 hs3 => ?_)
        refine ⟨(seen ++ [x], some _), B1, rfl, sb, by simpa using hs3, by simp [hlen], ?_⟩
        rw [hgo]
        simp [fitsGo, h1, h2, h3]
      | _ =>
        refine x_ite (fun h => ?_) (fun h => by simp [D.isT] at h)
        ((with_reducible refine x_tt _ _ ?_); (with_reducible refine x_ret ?_); (with_reducible refine x_c ?_))
        exact fin _ rfl rfl
    · ((with_reducible refine x_ret ?_); (with_reducible refine x_c ?_))
      refine k B1 H1 _ (hs.call hs2.all) (congrArg V.bl ?_)
      obtain ⟨hlen, hgo⟩ := pp
      have : ds.drop vs.length = [] := by rw [r.length]; simp
      rw [this] at hgo
      simp only [fitsW, hgo, fitsGo]
  | _ =>
    refine x_ite (fun h => ?_) (fun h => by simp [D.isT] at h)
    ((with_reducible refine x_ret ?_); (with_reducible refine x_c ?_))
    exact k B H _ hs rfl
end Q

set_option Elab.async false
set_option linter.all false
set_option maxRecDepth 100000
set_option maxHeartbeats 4000000
namespace Q
open PySem PySem.Spec PyProof.Rows L2
local macro_rules | `(tactic| walk_at "bf") => `(tactic| first | assumption | (refine' bstep (by assumption) ?r; case r => walk_at "bf") | fail)
local macro_rules | `(tactic| walk_at "rp") => `(tactic| first | assumption | exact Rep.int _ | exact Rep.bl _ | exact Rep.non | (refine' Rep.mono (by assumption) ?r; case r => walk_at "rp") | fail)
local macro_rules | `(tactic| walk_at "hf") => `(tactic| first | assumption | exact HS.up (by assumption) (by walk_at "bf") | exact HS.get (by assumption) List.mem_cons_self | exact HS.get (by assumption) (List.mem_cons_of_mem _ List.mem_cons_self) | exact HS.get (by assumption) (List.mem_cons_of_mem _ (List.mem_cons_of_mem _ List.mem_cons_self)) | exact HS.get (by assumption) (List.mem_cons_of_mem _ (List.mem_cons_of_mem _ (List.mem_cons_of_mem _ List.mem_cons_self))) | fail)
local macro_rules | `(tactic| walk_at "sl") => `(tactic| first | assumption | exact SqL.of (by walk_at "hf") | fail)
local macro_rules | `(tactic| walk_at "st") => `(tactic| first | assumption | exact SqT.of (by walk_at "hf") | fail)
local macro_rules | `(tactic| walk_at "sz") => `(tactic| first | assumption | (refine small_le ?_; first | assumption | omega | (simp; done) | (simp; omega)) | fail)
/-! ### check_people, check_wishes -/
/-- the first place of an item that is no name or stood before -/
def badAt : Nat → List Str → List D → Option Nat
  | _, _, [] => none
  | i, seen, .str x :: r => if okName x && !decide (x ∈ seen) then badAt (i + 1) (seen ++ [x]) r else some i
  | i, _, _ :: _ => some i
def badPeople : D → Option Int
  | .tup ds => if ds.length ≤ 16 then (badAt 0 [] ds).map fun (n : Nat) => (n : Int) else some (-1)
  | _ => some (-1)
theorem use_is_name {K : PySem.W.Frag} {S : List Addr} {B0 H0 B H : Hp} {M : List (Addr × HO)} {Q : VK} {E : XK} {v : V} {d : D} (hs : HS S B0 H0 B H M) (r : Rep K B v d)
    (k : ∀ B' H', Same B B' → HS S B0 H0 B' H' M → Q (.bl (isName d)) H') : sp_is_name K [v] H Q E := ⟨v, B, d, rfl, hs.bh, r, fun B' H' v' c e => by rw [e]; exact k B' H' c.bb (hs.call c)⟩
theorem use_same_keys {K : PySem.W.Frag} {S : List Addr} {B0 H0 B H : Hp} {M : List (Addr × HO)} {Q : VK} {E : XK} {v u : V} {d : D} {xs : List Str} (hs : HS S B0 H0 B H M) (r : Rep K B v d) (q : Sq B u xs)
    (k : ∀ B' H', Same B B' → HS S B0 H0 B' H' M → Q (.bl (sameKeys d xs)) H') : sp_same_keys K [v, u] H Q E := ⟨v, u, B, d, xs, rfl, hs.bh, r, q, fun B' H' v' c e => by rw [e]; exact k B' H' c.bb (hs.call c)⟩
theorem use_fits_wishes {K : PySem.W.Frag} {S : List Addr} {B0 H0 B H : Hp} {M : List (Addr × HO)} {Q : VK} {E : XK} {v u : V} {d : D} {xs : List Str} {p : Str} (hs : HS S B0 H0 B H M) (r : Rep K B v d) (q : Sq B u xs)
    (k : ∀ B' H', Same B B' → HS S B0 H0 B' H' M → Q (.bl (fitsW d xs p)) H') : sp_fits_wishes K [v, u, .str p] H Q E := ⟨v, u, B, d, xs, p, rfl, hs.bh, r, q, fun B' H' v' c e => by rw [e]; exact k B' H' c.bb (hs.call c)⟩
abbrev N_check_people : List Str := ["people", "seen", "index", "item"]
def t_check_people (K : PySem.W.Frag) (E : XK) : TS := (tSeq (tIfS (tOr (tNot (tB (tCB (rIsi K) (tCons (tVar 0) (tCons (tC (.ty "tuple")) tNil))))) (tTest (tOp rGtI (tCB (rLenA K) (tCons (tVar 0) tNil)) (tC (.int 16))))) (tRz1 (He.ga K "BadPeople") "index" (tUn rNegI (tC (.int 1))) (WE0 E)) tNext)
  (tSeq (tAsg (tLst tNil) (gName 1))
  (tFor (iEnumT K (tCons (tVar 0) tNil)) (gTup K 2 (gCons (gName 2) (gCons (gName 3) gNil))) (tSeq (tIfS (tOr (tNot (tB (tCl (sp_is_name K) (WE0 E) (tCons (tVar 3) tNil)))) (tTest (tOp (rIn K false) (tVar 3) (tVar 1)))) (tRz1 (He.ga K "BadPeople") "index" (tVar 2) (WE0 E)) tNext)
  (tDrop (tBM K "list" rAppend (tVar 1) (tCons (tVar 3) tNil)))))))
def sp_check_people (K : PySem.W.Frag) : Sp := fun vs H Q E => ∃ v B d, vs = [v] ∧ Same B H ∧ Rep K B v d ∧ match badPeople d with
  | none => Ret B H Q fun _ r => r = .non
  | some i => Thr K B H E "BadPeople" [("index", .int i)]
theorem pure_check_people {K : PySem.W.Frag} {vs : List V} {H : Hp} {Q : VK} {E : XK} (h : sp_check_people K vs H Q E) : t_check_people K E { nx := fun _ H' => Q .non H', rt := Q } (start N_check_people vs) H := by
  obtain ⟨v, B, d, rfl, sB, r, k⟩ := h
  have hs := HS.start sB
  show t_check_people K E _ [some v, none, none, none] H
  unfold t_check_people
  ((with_reducible refine x_seq ?_); (with_reducible refine x_if ?_); (with_reducible refine x_or ?_); (with_reducible refine x_not ?_); (with_reducible refine x_tB ?_); (with_reducible refine x_cb ?_); (with_reducible refine x_cons ?_); ((with_reducible refine' x_var ?z8h ?_); case z8h => rfl); (with_reducible refine x_cons ?_); (with_reducible refine x_c ?_); (with_reducible refine x_nil ?_); ((with_reducible refine' x_isiD ?z12h1 ?z12h2 ?z12h3 ?_); (case z12h1 => assumption); (case z12h2 => walk_at "rp"); (case z12h3 => decide)); (with_reducible refine x_exb ?_))
  cases r with
  | @tup a vs ds e r =>
    have hl := r.length
    refine x_ite (fun h => by simp [D.isT] at h) (fun _ => ?_)
    ((with_reducible refine x_test ?_); (with_reducible refine x_op ?_); (with_reducible refine x_cb ?_); (with_reducible refine x_cons ?_); ((with_reducible refine' x_var ?z18h ?_); case z18h => rfl); (with_reducible refine x_nil ?_); ((with_reducible refine' x_lenT ?z20h ?_); case z20h => walk_at "st"); (with_reducible refine x_c ?_); (with_reducible refine x_gtI ?_); (with_reducible refine x_exb ?_))
    refine x_ite (fun h => ?_) (fun h1 => ?_)
    · ((with_reducible refine x_rz1 ?_); (with_reducible refine x_un ?_); (with_reducible refine x_c ?_); (with_reducible refine x_neg ?_))
      have : ¬ ds.length ≤ 16 := by have := of_decide_eq_true h; omega
      simp only [badPeople, if_neg this] at k
      exact x_thr hs k
    have h1 : ds.length ≤ 16 := by have := of_decide_eq_false h1; omega
    simp only [badPeople, if_pos h1] at k
    ((with_reducible refine x_next ?_); (with_reducible refine x_seq ?_); (with_reducible refine x_asg ?_); (with_reducible refine x_lst ?_); (with_reducible refine x_nil ?_); ((with_reducible refine' x_newL ?z33h ?_); case z33h => first | exact Nat.zero_le _ | (simp; done) | (simp; omega)))
    refine new_M hs (fun l H1 hs1 _ => ?_)
    (((with_reducible refine x_gname ?_); try simp only [List.set_cons_zero, List.set_cons_succ]); (with_reducible refine x_for ?_); (with_reducible refine x_iEnumT ?_); (with_reducible refine x_cons ?_); ((with_reducible refine' x_var ?z38h ?_); case z38h => rfl); (with_reducible refine x_nil ?_))
    refine ⟨a, vs, rfl, by walk_at "st", ?_⟩
    refine l_enumT (α := List Str × Option V × Option V) (σf := fun s => [some (.ref a), some (.ref l), s.2.1, s.2.2]) (Mf := fun s => [(l, .lst (s.1.map V.str))])
      (P := fun i s _ => s.1.length = i ∧ badAt 0 [] ds = badAt i s.1 (ds.drop i)) (s0 := ([], none, none)) hs1 e ⟨rfl, rfl⟩ (fun i x s T B1 H1 hi sb hs2 pp hT => ?_) (fun s B1 H1 sb hs2 pp => ?_) (fun _ _ _ _ p _ => p)
    · obtain ⟨seen, s2, s3⟩ := s
      obtain ⟨hlen, hgo⟩ := pp
      dsimp only at hlen hgo hs2 ⊢
      obtain ⟨d, hd, rd⟩ := r.get hi
      have hil : i < ds.length := (List.getElem?_eq_some_iff.mp hd).1
      have hdrop : ds.drop i = d :: ds.drop (i + 1) := by
        rw [List.drop_eq_getElem_cons hil, (List.getElem?_eq_some_iff.mp hd).2]
      rw [hdrop] at hgo
      have rd1 := rd.mono sb
      have fin : ∀ B2 H2, Same B1 B2 → HS [] B H B2 H2 [(l, .lst (seen.map V.str))] → badAt i seen (d :: ds.drop (i + 1)) = some i → Rz (WE0 E) (He.ga K "BadPeople") [("index", .int (i : Nat))] [some (.ref a), some (.ref l), some (.int (i : Nat)), some x] H2 := fun B2 H2 _ h2 e1 => by
        rw [hgo, e1] at k
        exact x_thr h2 k
      (((with_reducible refine' x_gtup ?z40h ?z40h2 ?_); (case z40h => walk_at "st"); (case z40h2 => rfl)); (with_reducible refine x_gcons ?_); ((with_reducible refine x_gname ?_); try simp only [List.set_cons_zero, List.set_cons_succ]); (with_reducible refine x_gcons ?_); ((with_reducible refine x_gname ?_); try simp only [List.set_cons_zero, List.set_cons_succ]); (with_reducible refine x_gnil ?_); (with_reducible refine x_seq ?_); (with_reducible refine x_if ?_); (with_reducible refine x_or ?_); (with_reducible refine x_not ?_); (with_reducible refine x_tB ?_); (with_reducible refine x_cl ?_); (with_reducible refine x_cons ?_); ((with_reducible refine' x_var ?z53h ?_); case z53h => rfl); (with_reducible refine x_nil ?_))
      refine use_is_name hs2 rd1 (fun B2 H2 sb2 hs3 => ?_)
      (with_reducible refine x_exb ?_)
      refine x_ite (fun h => ?_) (fun h => ?_)
      · ((with_reducible refine x_tt _ _ ?_); (with_reducible refine x_rz1 ?_); ((with_reducible refine' x_var ?z58h ?_); case z58h => rfl))
        refine fin _ _ sb2 hs3 ?_
        have hn : isName d = false := by simpa using h
        cases d with
        | str y =>
          have hn : okName y = false := hn
          simp [badAt, hn]
        | _ => rfl
      have hn : isName d = true := by simpa using h
      cases rd with
      | @str y hy =>
        have hn : okName y = true := hn
        ((with_reducible refine x_test ?_); (with_reducible refine x_op ?_); ((with_reducible refine' x_var ?z61h ?_); case z61h => rfl); ((with_reducible refine' x_var ?z62h ?_); case z62h => rfl); ((with_reducible refine' x_inLS ?z63h ?_); case z63h => walk_at "sl"); (with_reducible refine x_exb ?_))
        refine x_ite (fun h => ?_) (fun h => ?_)
        · ((with_reducible refine x_rz1 ?_); ((with_reducible refine' x_var ?z66h ?_); case z66h => rfl))
          refine fin _ _ sb2 hs3 ?_
          have : y ∈ seen := by simpa using h
          simp [badAt, this]
        have h3 : ¬ y ∈ seen := by simpa using h
        ((with_reducible refine x_next ?_); (with_reducible refine x_drop ?_); (with_reducible refine x_bm ?_); ((with_reducible refine' x_var ?z70h ?_); case z70h => rfl); ((with_reducible refine' x_tyL ?z71h ?_); case z71h => walk_at "sl"); (with_reducible refine x_cons ?_); ((with_reducible refine' x_var ?z73h ?_); case z73h => rfl); (with_reducible refine x_nil ?_))
        refine x_append hs3 (by rw [List.length_map]; omega) (fun H3 hs4 => ?_)
        refine ⟨(seen ++ [y], some _, some _), B2, rfl, sb.trans sb2, by simpa using hs4, by simp [hlen], ?_⟩
        rw [hgo]
        simp [badAt, hn, h3]
      | _ => cases hn
    · obtain ⟨hlen, hgo⟩ := pp
      have : ds.drop vs.length = [] := by rw [hl]; simp
      rw [hgo, this] at k
      exact k B1 H1 _ (hs.call hs2.all) rfl
  | _ =>
    refine x_ite (fun h => ?_) (fun h => by simp [D.isT] at h)
    ((with_reducible refine x_tt _ _ ?_); (with_reducible refine x_rz1 ?_); (with_reducible refine x_un ?_); (with_reducible refine x_c ?_); (with_reducible refine x_neg ?_))
    exact x_thr hs k
end Q

set_option Elab.async false
set_option linter.all false
set_option maxRecDepth 100000
set_option maxHeartbeats 4000000
namespace Q
open PySem PySem.Spec PyProof.Rows L2
local macro_rules | `(tactic| walk_at "bf") => `(tactic| first | assumption | (refine' bstep (by assumption) ?r; case r => walk_at "bf") | fail)
local macro_rules | `(tactic| walk_at "rp") => `(tactic| first | assumption | exact Rep.int _ | exact Rep.bl _ | exact Rep.non | (refine' Rep.mono (by assumption) ?r; case r => walk_at "rp") | fail)
local macro_rules | `(tactic| walk_at "hf") => `(tactic| first | assumption | exact HS.up (by assumption) (by walk_at "bf") | exact HS.get (by assumption) List.mem_cons_self | exact HS.get (by assumption) (List.mem_cons_of_mem _ List.mem_cons_self) | exact HS.get (by assumption) (List.mem_cons_of_mem _ (List.mem_cons_of_mem _ List.mem_cons_self)) | exact HS.get (by assumption) (List.mem_cons_of_mem _ (List.mem_cons_of_mem _ (List.mem_cons_of_mem _ List.mem_cons_self))) | fail)
local macro_rules | `(tactic| walk_at "sl") => `(tactic| first | assumption | exact SqL.of (by walk_at "hf") | fail)
local macro_rules | `(tactic| walk_at "st") => `(tactic| first | assumption | exact SqT.of (by walk_at "hf") | fail)
local macro_rules | `(tactic| walk_at "sz") => `(tactic| first | assumption | (refine small_le ?_; first | assumption | omega | (simp; done) | (simp; omega)) | fail)
/-! ### check_wishes -/
def vald (d : D) (p : Str) : D := match d with
  | .dct ds => (dval ds (.inr p)).getD .non
  | _ => .non
def badWishes (d : D) (xs : List Str) : Option Str := if sameKeys d xs then (sortS xs).find? (fun p => !fitsW (vald d p) xs p) else some ""
theorem sameKeys_dct {d : D} {xs : List Str} (h : sameKeys d xs = true) : ∃ ds, d = .dct ds ∧ ds.length = xs.length ∧ ∀ x ∈ xs, (dval ds (.inr x)).isSome = true := by
  cases d with
  | dct ds =>
    obtain ⟨h1, h2⟩ := Bool.and_eq_true_iff.mp h
    exact ⟨ds, rfl, of_decide_eq_true h1, List.all_eq_true.mp h2⟩
  | _ => cases h
abbrev N_check_wishes : List Str := ["people", "wishes", "person"]
def t_check_wishes (K : PySem.W.Frag) (E : XK) : TS := (tSeq (tIfS (tNot (tB (tCl (sp_same_keys K) (WE0 E) (tCons (tVar 1) (tCons (tVar 0) tNil))))) (tRz1 (He.ga K "BadWishes") "person" (tC (.str "")) (WE0 E)) tNext)
  (tFor (iList K (tCB (rSortT K) (tCons (tVar 0) tNil))) (gName 2) (tIfS (tNot (tB (tCl (sp_fits_wishes K) (WE0 E) (tCons (tDGet (tVar 1) (tVar 2)) (tCons (tVar 0) (tCons (tVar 2) tNil)))))) (tRz1 (He.ga K "BadWishes") "person" (tVar 2) (WE0 E)) tNext)))
def sp_check_wishes (K : PySem.W.Frag) : Sp := fun vs H Q E => ∃ a u B d xs, vs = [.ref a, u] ∧ Same B H ∧ B a = some (.tup (xs.map V.str)) ∧ xs.length ≤ 16 ∧ Rep K B u d ∧ match badWishes d xs with
  | none => Ret B H Q fun _ r => r = .non
  | some p => Thr K B H E "BadWishes" [("person", .str p)]
theorem pure_check_wishes {K : PySem.W.Frag} {vs : List V} {H : Hp} {Q : VK} {E : XK} (h : sp_check_wishes K vs H Q E) : t_check_wishes K E { nx := fun _ H' => Q .non H', rt := Q } (start N_check_wishes vs) H := by
  obtain ⟨a, u, B, d, xs, rfl, sB, ea, hz, r, k⟩ := h
  have hs := HS.start sB
  show t_check_wishes K E _ [some (.ref a), some u, none] H
  unfold t_check_wishes
  ((with_reducible refine x_seq ?_); (with_reducible refine x_if ?_); (with_reducible refine x_not ?_); (with_reducible refine x_tB ?_); (with_reducible refine x_cl ?_); (with_reducible refine x_cons ?_); ((with_reducible refine' x_var ?z7h ?_); case z7h => rfl); (with_reducible refine x_cons ?_); ((with_reducible refine' x_var ?z9h ?_); case z9h => rfl); (with_reducible refine x_nil ?_))
  refine use_same_keys hs r ⟨a, rfl, .inr ea⟩ (fun B1 H1 sb1 hs1 => ?_)
  (with_reducible refine x_exb ?_)
  refine x_ite (fun h => ?_) (fun h => ?_)
  · ((with_reducible refine x_rz1 ?_); (with_reducible refine x_c ?_))
    have h : sameKeys d xs = false := by simpa using h
    simp only [badWishes, h, Bool.false_eq_true, if_false] at k
    exact x_thr hs1 k
  have h : sameKeys d xs = true := by simpa using h
  obtain ⟨ds, rfl, _, hsome⟩ := sameKeys_dct h
  simp only [badWishes, h, if_true] at k
  ((with_reducible refine x_next ?_); (with_reducible refine x_for ?_); (with_reducible refine x_iList ?_); (with_reducible refine x_cb ?_); (with_reducible refine x_cons ?_); ((with_reducible refine' x_var ?z19h ?_); case z19h => rfl); (with_reducible refine x_nil ?_); ((with_reducible refine' x_srtT ?z21h ?z21h2 ?_); (case z21h => walk_at "st"); (case z21h2 => omega)))
  refine new_F hs1 (fun l B2 H2 hs2 sb2 el _ => ?_)
  refine ⟨l, rfl, ⟨_, by walk_at "sl"⟩, ?_⟩
  refine l_list (α := Option V) (σf := fun s => [some (.ref a), some u, s]) (Mf := fun _ => [])
      (P := fun i s _ => (sortS xs).find? (fun p => !fitsW (vald (.dct ds) p) xs p) = ((sortS xs).drop i).find? (fun p => !fitsW (vald (.dct ds) p) xs p)) (s0 := none) hs2 el rfl (fun i x s B3 H3 hi sb3 hs3 pp => ?_) (fun s B3 H3 sb3 hs3 pp => ?_)
  · obtain ⟨x, hx, rfl⟩ := strs_get hi
    have hmem : x ∈ xs := mem_sortS.mp (List.mem_of_getElem? hx)
    have hdrop : (sortS xs).drop i = x :: (sortS xs).drop (i + 1) := by
      rw [List.drop_eq_getElem_cons (List.getElem?_eq_some_iff.mp hx).1, (List.getElem?_eq_some_iff.mp hx).2]
    rw [hdrop, List.find?_cons] at pp
    cases r with
    | @dct aw kvs _ ew rk =>
      obtain ⟨v, dv, hv, hdv, rv⟩ : ∃ v dv, valV kvs (.inr x) = some v ∧ dval ds (.inr x) = some dv ∧ Rep K B v dv := by
        rcases repK_val rk (.inr x) with z | ⟨_, z⟩
        · exact z
        · have := hsome x hmem
          rw [z] at this; cases this
      have hval : vald (.dct ds) x = dv := by simp only [vald, hdv, Option.getD_some]
      (((with_reducible refine x_gname ?_); try simp only [List.set_cons_zero, List.set_cons_succ]); (with_reducible refine x_if ?_); (with_reducible refine x_not ?_); (with_reducible refine x_tB ?_); (with_reducible refine x_cl ?_); (with_reducible refine x_cons ?_); (with_reducible refine x_dget ?_); ((with_reducible refine' x_var ?z29h ?_); case z29h => rfl); ((with_reducible refine' x_var ?z30h ?_); case z30h => rfl); ((with_reducible refine' x_dgS ?z31h ?z31h2 ?_); (case z31h => walk_at "hf"); (case z31h2 => assumption)); (with_reducible refine x_cons ?_); ((with_reducible refine' x_var ?z33h ?_); case z33h => rfl); (with_reducible refine x_cons ?_); ((with_reducible refine' x_var ?z35h ?_); case z35h => rfl); (with_reducible refine x_nil ?_))
      refine use_fits_wishes hs3 (by walk_at "rp") ⟨a, rfl, .inr (by walk_at "bf")⟩ (fun B4 H4 sb4 hs4 => ?_)
      (with_reducible refine x_exb ?_)
      refine x_ite (fun h => ?_) (fun h => ?_)
      · ((with_reducible refine x_rz1 ?_); ((with_reducible refine' x_var ?z39h ?_); case z39h => rfl))
        rw [hval, h] at pp
        rw [pp] at k
        exact x_thr hs4 k
      · (with_reducible refine x_next ?_)
        rw [hval, h] at pp
        exact ⟨some _, B4, rfl, sb3.trans sb4, hs4, pp⟩
  · rw [List.length_map, List.drop_length] at pp
    rw [pp] at k
    exact k B3 H3 _ (hs.call hs3) rfl
theorem use_check_people {K : PySem.W.Frag} {S : List Addr} {B0 H0 B H : Hp} {M : List (Addr × HO)} {Q : VK} {E : XK} {v : V} {d : D} (hs : HS S B0 H0 B H M) (r : Rep K B v d)
    (k : badPeople d = none → ∀ B' H', Same B B' → HS S B0 H0 B' H' M → Q .non H')
    (ke : ∀ i, badPeople d = some i → Thr K B H E "BadPeople" [("index", .int i)]) : sp_check_people K [v] H Q E := ⟨v, B, d, rfl, hs.bh, r, by
  cases e : badPeople d with
  | none => exact fun B' H' v' c e' => by rw [e']; exact k e B' H' c.bb (hs.call c)
  | some i => exact ke i e⟩
theorem use_check_wishes {K : PySem.W.Frag} {S : List Addr} {B0 H0 B H : Hp} {M : List (Addr × HO)} {Q : VK} {E : XK} {a : Addr} {u : V} {d : D} {xs : List Str} (hs : HS S B0 H0 B H M) (ea : B a = some (.tup (xs.map V.str))) (hz : xs.length ≤ 16) (r : Rep K B u d)
    (k : badWishes d xs = none → ∀ B' H', Same B B' → HS S B0 H0 B' H' M → Q .non H')
    (ke : ∀ p, badWishes d xs = some p → Thr K B H E "BadWishes" [("person", .str p)]) : sp_check_wishes K [.ref a, u] H Q E := ⟨a, u, B, d, xs, rfl, hs.bh, ea, hz, r, by
  cases e : badWishes d xs with
  | none => exact fun B' H' v' c e' => by rw [e']; exact k e B' H' c.bb (hs.call c)
  | some i => exact ke i e⟩
end Q

set_option Elab.async false
set_option linter.all false
set_option maxRecDepth 100000
set_option maxHeartbeats 4000000
namespace Q
open PySem PySem.Spec PyProof.Rows L2
/-! ### groups -/
structure Grp where
  names : List Str
  wish : Str → List Str
def Grp.open (G : Grp) (p : Str) : List Str := (G.wish p).filter fun b => decide (p ∈ G.wish b)
structure Grp.Ok (G : Grp) : Prop where
  nd : G.names.Nodup
  few : G.names.length ≤ 16
  nm : ∀ x ∈ G.names, okName x = true
  wn : ∀ p ∈ G.names, (G.wish p).Nodup
  ws : ∀ p ∈ G.names, p ∉ G.wish p
  wi : ∀ p ∈ G.names, ∀ q ∈ G.wish p, q ∈ G.names
inductive GRes where
  | ok (G : Grp) | bp (i : Int) | bw (p : Str)
def D.strL : List D → List Str
  | [] => []
  | .str x :: r => x :: D.strL r
  | _ :: r => D.strL r
def D.asStrs : D → List Str
  | .lst ds => D.strL ds
  | .tup ds => D.strL ds
  | _ => []
def mkGroup (dp dw : D) : GRes := match badPeople dp with
  | some i => .bp i
  | none => match badWishes dw dp.asStrs with
    | some p => .bw p
    | none => .ok ⟨dp.asStrs, fun p => (vald dw p).asStrs⟩
theorem strL_map (xs : List Str) : D.strL (xs.map D.str) = xs := by
  induction xs with
  | nil => rfl
  | cons x r ih => simp [D.strL, ih]
theorem badAt_none : ∀ {ds : List D} {i : Nat} {seen : List Str}, badAt i seen ds = none → ∃ xs : List Str, ds = xs.map D.str ∧ (∀ x ∈ xs, okName x = true ∧ x ∉ seen) ∧ xs.Nodup
  | [], _, _, _ => ⟨[], rfl, by simp, List.nodup_nil⟩
  | d :: r, i, seen, h => by
    cases d with
    | str x =>
      unfold badAt at h
      by_cases hc : (okName x && !decide (x ∈ seen)) = true
      · rw [if_pos hc] at h
        obtain ⟨h1, h2⟩ := Bool.and_eq_true_iff.mp hc
        obtain ⟨xs, e, hx, hn⟩ := badAt_none h
        refine ⟨x :: xs, by rw [e]; rfl, fun y m => ?_, ?_⟩
        · rcases List.mem_cons.mp m with rfl | m
          · exact ⟨h1, by simpa using h2⟩
          · exact ⟨(hx y m).1, fun z => (hx y m).2 (List.mem_append_left _ z)⟩
        · rw [List.nodup_cons]
          exact ⟨fun z => (hx x z).2 (by simp), hn⟩
      · rw [if_neg hc] at h
        cases h
    | _ => cases h
theorem badPeople_none {d : D} (h : badPeople d = none) : ∃ xs : List Str, d = .tup (xs.map D.str) ∧ xs.length ≤ 16 ∧ (∀ x ∈ xs, okName x = true) ∧ xs.Nodup := by
  cases d with
  | tup ds =>
    unfold badPeople at h
    by_cases hl : ds.length ≤ 16
    · simp only [if_pos hl, Option.map_eq_none_iff] at h
      obtain ⟨xs, e, hx, hn⟩ := badAt_none h
      exact ⟨xs, by rw [e], by rw [e, List.length_map] at hl; exact hl, fun x m => (hx x m).1, hn⟩
    · simp only [if_neg hl] at h
      cases h
  | _ => cases h
theorem fitsGo_true {xs : List Str} {p : Str} : ∀ {ds : List D} {seen : List Str}, fitsGo xs p seen ds = true → ∃ ws : List Str, ds = ws.map D.str ∧ (∀ x ∈ ws, x ≠ p ∧ x ∈ xs ∧ x ∉ seen) ∧ ws.Nodup
  | [], _, _ => ⟨[], rfl, by simp, List.nodup_nil⟩
  | d :: r, seen, h => by
    cases d with
    | str x =>
      unfold fitsGo at h
      simp only [Bool.and_eq_true, Bool.not_eq_true', decide_eq_false_iff_not, decide_eq_true_eq] at h
      obtain ⟨h1, h2, h3, h4⟩ := h
      obtain ⟨ws, e, hx, hn⟩ := fitsGo_true h4
      refine ⟨x :: ws, by rw [e]; rfl, fun y m => ?_, ?_⟩
      · rcases List.mem_cons.mp m with rfl | m
        · exact ⟨h1, h2, h3⟩
        · exact ⟨(hx y m).1, (hx y m).2.1, fun z => (hx y m).2.2 (List.mem_append_left _ z)⟩
      · rw [List.nodup_cons]
        exact ⟨fun z => (hx x z).2.2 (by simp), hn⟩
    | _ => cases h
theorem fitsW_true {d : D} {xs : List Str} {p : Str} (h : fitsW d xs p = true) : ∃ ws : List Str, d = D.strs ws ∧ (∀ x ∈ ws, x ≠ p ∧ x ∈ xs) ∧ ws.Nodup := by
  cases d with
  | lst ds =>
    obtain ⟨ws, e, hx, hn⟩ := fitsGo_true h
    exact ⟨ws, by rw [e]; rfl, fun x m => ⟨(hx x m).1, (hx x m).2.1⟩, hn⟩
  | _ => cases h
theorem badWishes_none {d : D} {xs : List Str} (h : badWishes d xs = none) : ∃ ds, d = .dct ds ∧ ∀ p ∈ xs, (dval ds (.inr p)).isSome = true ∧ ∃ ws : List Str, vald d p = D.strs ws ∧ (∀ x ∈ ws, x ≠ p ∧ x ∈ xs) ∧ ws.Nodup := by
  unfold badWishes at h
  by_cases hk : sameKeys d xs = true
  · rw [if_pos hk] at h
    obtain ⟨ds, rfl, _, hsome⟩ := sameKeys_dct hk
    refine ⟨ds, rfl, fun p m => ⟨hsome p m, fitsW_true ?_⟩⟩
    have := List.find?_eq_none.mp h p (mem_sortS.mpr m)
    simpa using this
  · rw [if_neg hk] at h
    cases h
theorem asStrs_strs (ws : List Str) : (D.strs ws).asStrs = ws := strL_map ws
theorem mkGroup_ok {dp dw : D} {G : Grp} (h : mkGroup dp dw = .ok G) : G.Ok := by
  unfold mkGroup at h
  cases e : badPeople dp with
  | some i => rw [e] at h; cases h
  | none =>
    rw [e] at h
    obtain ⟨xs, rfl, hl, hn, hd⟩ := badPeople_none e
    have ex : (D.tup (xs.map D.str)).asStrs = xs := strL_map xs
    dsimp only at h
    rw [ex] at h
    cases e2 : badWishes dw xs with
    | some p => rw [e2] at h; cases h
    | none =>
      rw [e2] at h
      cases h
      obtain ⟨ds, rfl, hw⟩ := badWishes_none e2
      refine ⟨hd, hl, hn, fun p m => ?_, fun p m => ?_, fun p m q => ?_⟩
      all_goals
        obtain ⟨_, ws, e3, h1, h2⟩ := hw p m
        dsimp only
        rw [e3, asStrs_strs]
      · exact h2
      · exact fun z => (h1 p z).1 rfl
      · exact fun z => (h1 q z).2
/-! ### how a heap shows them -/
def zipK (xs : List Str) (al : List Addr) : List (Key × V) := (xs.zip al).map fun q => (.inr q.1, .ref q.2)
theorem zipK_keys {xs : List Str} {al : List Addr} (h : al.length = xs.length) : (zipK xs al).map (·.1) = xs.map Sum.inr := by
  unfold zipK
  rw [List.map_map]
  have : (xs.zip al).map Prod.fst = xs := List.map_fst_zip (by omega)
  rw [← this, List.map_map, List.map_fst_zip (by omega)]
  congr 1
theorem zipK_snoc {xs : List Str} {al : List Addr} {x : Str} {a : Addr} (h : al.length = xs.length) : zipK (xs ++ [x]) (al ++ [a]) = zipK xs al ++ [(.inr x, .ref a)] := by
  unfold zipK
  rw [List.zip_append (by omega), List.map_append]
  rfl
theorem zipK_val {p : Str} : ∀ {xs : List Str} {al : List Addr}, al.length = xs.length → xs.Nodup → p ∈ xs → ∃ (j : Nat) (a : Addr), xs[j]? = some p ∧ al[j]? = some a ∧ valV (zipK xs al) (.inr p) = some (.ref a)
  | [], _, _, _, m => nomatch m
  | x :: r, [], h, _, _ => by simp at h
  | x :: r, a :: al, h, nd, m => by
    by_cases e : x = p
    · subst e
      exact ⟨0, a, rfl, rfl, valV_pos (p := ((Sum.inr x : Key), V.ref a)) rfl⟩
    · have m' : p ∈ r := by
        rcases List.mem_cons.mp m with z | z
        · exact absurd z.symm e
        · exact z
      obtain ⟨j, b, h1, h2, h3⟩ := zipK_val (xs := r) (al := al) (by simpa using h) (List.nodup_cons.mp nd).2 m'
      refine ⟨j + 1, b, by simpa using h1, by simpa using h2, ?_⟩
      show valV (((Sum.inr x : Key), V.ref a) :: zipK r al) (.inr p) = _
      rw [valV_neg (p := ((Sum.inr x : Key), V.ref a)) (fun z => e (Sum.inr.inj z))]
      exact h3
theorem zipK_none {p : Str} : ∀ {xs : List Str} {al : List Addr}, p ∉ xs → valV (zipK xs al) (.inr p) = none
  | [], _, _ => rfl
  | x :: r, [], _ => rfl
  | x :: r, a :: al, m => by
    show valV (((Sum.inr x : Key), V.ref a) :: zipK r al) (.inr p) = _
    rw [valV_neg (p := ((Sum.inr x : Key), V.ref a)) (fun z => m (by rw [← Sum.inr.inj z]; exact List.mem_cons_self))]
    exact zipK_none fun z => m (List.mem_cons_of_mem _ z)
/-- a dict from the names xs to objects of which R holds -/
def DAt (B : Hp) (d : Addr) (xs : List Str) (R : Str → Addr → Prop) : Prop := ∃ al : List Addr, al.length = xs.length ∧ B d = some (.dK (zipK xs al)) ∧ ∀ (j : Nat) p a, xs[j]? = some p → al[j]? = some a → R p a
theorem DAt.get {B : Hp} {d : Addr} {xs : List Str} {R : Str → Addr → Prop} (h : DAt B d xs R) (nd : xs.Nodup) {p : Str} (m : p ∈ xs) : ∃ kvs a, B d = some (.dK kvs) ∧ valV kvs (.inr p) = some (.ref a) ∧ R p a := by
  obtain ⟨al, hl, e, hR⟩ := h
  obtain ⟨j, a, h1, h2, h3⟩ := zipK_val hl nd m
  exact ⟨_, a, e, h3, hR j p a h1 h2⟩
theorem DAt.has {B : Hp} {d : Addr} {xs : List Str} {R : Str → Addr → Prop} (h : DAt B d xs R) (nd : xs.Nodup) (p : Str) : ∃ kvs, B d = some (.dK kvs) ∧ (valV kvs (.inr p)).isSome = decide (p ∈ xs) := by
  obtain ⟨al, hl, e, hR⟩ := h
  refine ⟨_, e, ?_⟩
  by_cases m : p ∈ xs
  · obtain ⟨j, a, _, _, h3⟩ := zipK_val hl nd m
    rw [h3, decide_eq_true m]; rfl
  · rw [zipK_none m, decide_eq_false m]; rfl
theorem DAt.mono {B B' : Hp} {d : Addr} {xs : List Str} {R R' : Str → Addr → Prop} (s : Same B B') (hR : ∀ p a, R p a → R' p a) (h : DAt B d xs R) : DAt B' d xs R' := by
  obtain ⟨al, hl, e, h⟩ := h
  exact ⟨al, hl, s _ _ e, fun j p a h1 h2 => hR _ _ (h j p a h1 h2)⟩
def enumK (row : List Str) : List (Key × V) := row.zipIdx.map fun q => (.inr q.1, .int (q.2 : Nat))
def gf (n l m q : Addr) : List (Str × V) := [("names", .ref n), ("lists", .ref l), ("mutual", .ref m), ("places", .ref q)]
def LAt (B : Hp) (f : Str → List Str) : Str → Addr → Prop := fun p a => B a = some (.lst ((f p).map V.str))
def PAt (B : Hp) (f : Str → List Str) : Str → Addr → Prop := fun p a => B a = some (.dK (enumK (f p)))
structure GAt (K : PySem.W.Frag) (B : Hp) (p : Addr) (G : Grp) : Prop where
  ex : ∃ dx n l m q, B p = some (.ins (He.ga K "Group") dx (gf n l m q)) ∧ B n = some (.lst (G.names.map V.str)) ∧ DAt B l G.names (LAt B G.wish) ∧ DAt B m G.names (LAt B G.open) ∧ DAt B q G.names (PAt B G.open)
  ok : G.Ok
theorem GAt.mono {K : PySem.W.Frag} {B B' : Hp} {p : Addr} {G : Grp} (s : Same B B') (h : GAt K B p G) : GAt K B' p G := by
  obtain ⟨⟨dx, n, l, m, q, h1, h2, h3, h4, h5⟩, ok⟩ := h
  exact ⟨⟨dx, n, l, m, q, s _ _ h1, s _ _ h2, h3.mono s fun _ _ z => s _ _ z, h4.mono s fun _ _ z => s _ _ z, h5.mono s fun _ _ z => s _ _ z⟩, ok⟩
/-- what the written part says of the class Group -/
structure GK (K : PySem.W.Frag) : Prop where
  cl : Cls K (He.ga K "Group")
  nn : NoAttr K (He.ga K "Group") "names"
  nl : NoAttr K (He.ga K "Group") "lists"
  nm : NoAttr K (He.ga K "Group") "mutual"
  np : NoAttr K (He.ga K "Group") "places"
  ik : InsK K (He.ga K "Group")
theorem GAt.rep {K : PySem.W.Frag} {B : Hp} {p : Addr} {G : Grp} (gk : GK K) (h : GAt K B p G) : Rep K B (.ref p) (.obj p (He.ga K "Group")) := by
  obtain ⟨⟨dx, n, l, m, q, h1, _⟩, _⟩ := h
  exact .obj h1 gk.ik
theorem putK_new {kvs : List (Key × V)} {k : Key} {v : V} (h : valV kvs k = none) : putK kvs k v = kvs ++ [(k, v)] := by
  unfold putK
  rw [valV_any, h]
  rfl
theorem HS.rot3 {S : List Addr} {B0 H0 B H : Hp} {a b c : Addr × HO} {M : List (Addr × HO)} (h : HS S B0 H0 B H (a :: b :: c :: M)) : HS S B0 H0 B H (c :: a :: b :: M) :=
  h.perm ((List.Perm.cons a (List.Perm.swap c b M)).trans (List.Perm.swap c a (b :: M)))
theorem HS.unrot3 {S : List Addr} {B0 H0 B H : Hp} {a b c : Addr × HO} {M : List (Addr × HO)} (h : HS S B0 H0 B H (c :: a :: b :: M)) : HS S B0 H0 B H (a :: b :: c :: M) :=
  h.perm ((List.Perm.cons a (List.Perm.swap c b M)).trans (List.Perm.swap c a (b :: M))).symm
/-- an object that is made by a call of its class -/
theorem HS.made {S : List Addr} {B0 H0 B H B' H' : Hp} {M : List (Addr × HO)} {x dx C : Addr} (hs : HS S B0 H0 B H M) (hx : H x = none) (hd : H dx = none)
    (c : HS [x] B (upd (upd H dx (.own x)) x (.ins C dx [])) B' H' []) : HS S B0 H0 B' H' M := by
  have up : ∀ b o, H b = some o → upd (upd H dx (.own x)) x (.ins C dx []) b = some o := fun b o e => by rw [upd_ne (ne_of_none e hx), upd_ne (ne_of_none e hd)]; exact e
  refine ⟨hs.bb.trans c.bb, c.bh, fun b u n1 n2 e => ?_, fun q m => ?_, hs.nd⟩
  · obtain ⟨h1, h2⟩ := hs.fr b u n1 n2 e
    exact c.fr b u (by simpa using ne_of_none h2 hx) h1 (up _ _ h2)
  · obtain ⟨h1, h2, h3⟩ := hs.mu q m
    obtain ⟨k1, k2⟩ := c.fr q.1 q.2 (by simpa using ne_of_none h2 hx) h1 (up _ _ h2)
    exact ⟨k1, k2, h3⟩
end Q

set_option Elab.async false
set_option linter.all false
set_option maxRecDepth 100000
set_option maxHeartbeats 4000000
namespace Q
open PySem PySem.Spec PyProof.Rows L2
local macro_rules | `(tactic| walk_at "bf") => `(tactic| first | assumption | (refine' bstep (by assumption) ?r; case r => walk_at "bf") | fail)
local macro_rules | `(tactic| walk_at "rp") => `(tactic| first | assumption | exact Rep.int _ | exact Rep.bl _ | exact Rep.non | (refine' Rep.mono (by assumption) ?r; case r => walk_at "rp") | fail)
local macro_rules | `(tactic| walk_at "hf") => `(tactic| first | assumption | exact HS.up (by assumption) (by walk_at "bf") | exact HS.get (by assumption) List.mem_cons_self | exact HS.get (by assumption) (List.mem_cons_of_mem _ List.mem_cons_self) | exact HS.get (by assumption) (List.mem_cons_of_mem _ (List.mem_cons_of_mem _ List.mem_cons_self)) | exact HS.get (by assumption) (List.mem_cons_of_mem _ (List.mem_cons_of_mem _ (List.mem_cons_of_mem _ List.mem_cons_self))) | fail)
local macro_rules | `(tactic| walk_at "sl") => `(tactic| first | assumption | exact SqL.of (by walk_at "hf") | fail)
local macro_rules | `(tactic| walk_at "st") => `(tactic| first | assumption | exact SqT.of (by walk_at "hf") | fail)
local macro_rules | `(tactic| walk_at "sz") => `(tactic| first | assumption | (refine small_le ?_; first | assumption | omega | (simp; done) | (simp; omega)) | fail)
/-! ### Group.__init__ -/
abbrev N_Group___init__ : List Str := ["self", "people", "wishes", "person", "row", "other", "at"]
def t_Group___init__ (K : PySem.W.Frag) (E : XK) : TS := (tSeq (tDrop (tCl (sp_check_people K) (WE0 E) (tCons (tVar 1) tNil)))
  (tSeq (tDrop (tCl (sp_check_wishes K) (WE0 E) (tCons (tVar 1) (tCons (tVar 2) tNil))))
  (tSeq (sFld K (tVar 0) (tCB (rListOf K) (tCons (tVar 1) tNil)) "names")
  (tSeq (sFld K (tVar 0) (tDc (iTup K (tVar 1)) (gName 3) tYes (tVar 3) (tCB (rListOf K) (tCons (tDGet (tVar 2) (tVar 3)) tNil)) [3]) "lists")
  (tSeq (sFld K (tVar 0) tDNewK "mutual")
  (tSeq (sFld K (tVar 0) tDNewK "places")
  (tFor (iTup K (tVar 1)) (gName 3) (tSeq (tAsg (tLc (iList K (tDGet (tVar 2) (tVar 3))) (gName 5) (tTest (tOp (rIn K false) (tVar 3) (tDGet (tVar 2) (tVar 5)))) (tVar 5) [5]) (gName 4))
  (tSeq (sDPut (tFld K (tVar 0) "mutual") (tVar 3) (tVar 4))
  (sDPut (tFld K (tVar 0) "places") (tVar 3) (tDc (iEnum K (tCons (tVar 4) tNil)) (gTup K 2 (gCons (gName 6) (gCons (gName 5) gNil))) tYes (tVar 5) (tVar 6) [6, 5])))))))))))
def sp_Group___init__ (K : PySem.W.Frag) : Sp := fun vs H Q E => ∃ p v u B dx dp dw, vs = [.ref p, v, u] ∧ Same B H ∧ B p = none ∧ H p = some (.ins (He.ga K "Group") dx []) ∧ Rep K B v dp ∧ Rep K B u dw ∧ match mkGroup dp dw with
  | .ok G => ∀ B' H', HS [p] B H B' H' [] → GAt K B' p G → Q .non H'
  | .bp i => ∀ B' H' d, HS [p] B H B' H' [] → B' d = none → H' d = some (.xd [("index", .int i)]) → E (.ref (He.ga K "BadPeople")) (some d) H'
  | .bw x => ∀ B' H' d, HS [p] B H B' H' [] → B' d = none → H' d = some (.xd [("person", .str x)]) → E (.ref (He.ga K "BadWishes")) (some d) H'
theorem HS.lift {B H B' H' : Hp} {p : Addr} {o : HO} (hs : HS [] B H B' H' []) : HS [p] B H B' H' [] := ⟨hs.bb, hs.bh, fun b u _ n2 e => hs.fr b u (by simp) n2 e, fun _ z => (nomatch z), List.nodup_nil⟩
theorem HS.ne01 {S : List Addr} {B0 H0 B H : Hp} {p q : Addr} {o u : HO} {M : List (Addr × HO)} (h : HS S B0 H0 B H ((p, o) :: (q, u) :: M)) : p ≠ q := by
  have := h.nd
  simp only [List.map_cons, List.nodup_cons, List.mem_cons, not_or] at this
  exact this.1.1
theorem pf1 (a : V) : putF "names" a [] = ([("names", a)] : List (Str × V)) := rfl
theorem pf2 (a b : V) : putF "lists" b ([("names", a)] : List (Str × V)) = ([("names", a), ("lists", b)] : List (Str × V)) := by
  unfold putF
  rw [if_neg (show ¬ (("names" : Str) = "lists") by decide +kernel)]
  rfl
theorem pf3 (a b c : V) : putF "mutual" c ([("names", a), ("lists", b)] : List (Str × V)) = ([("names", a), ("lists", b), ("mutual", c)] : List (Str × V)) := by
  unfold putF
  rw [if_neg (show ¬ (("names" : Str) = "mutual") by decide +kernel)]
  unfold putF
  rw [if_neg (show ¬ (("lists" : Str) = "mutual") by decide +kernel)]
  rfl
theorem pf4 (a b c d : V) : putF "places" d ([("names", a), ("lists", b), ("mutual", c)] : List (Str × V)) = ([("names", a), ("lists", b), ("mutual", c), ("places", d)] : List (Str × V)) := by
  unfold putF
  rw [if_neg (show ¬ (("names" : Str) = "places") by decide +kernel)]
  unfold putF
  rw [if_neg (show ¬ (("lists" : Str) = "places") by decide +kernel)]
  unfold putF
  rw [if_neg (show ¬ (("mutual" : Str) = "places") by decide +kernel)]
  rfl
theorem gf_names (n l m q : Addr) : (gf n l m q).lookup ("names" : Str) = some (V.ref n) := by simp [gf, List.lookup]
theorem gf_lists (n l m q : Addr) : (gf n l m q).lookup ("lists" : Str) = some (V.ref l) := by
  have h1 : (("lists" : Str) == "names") = false := by decide +kernel
  simp [gf, List.lookup, h1]
theorem gf_mutual (n l m q : Addr) : (gf n l m q).lookup ("mutual" : Str) = some (V.ref m) := by
  have h1 : (("mutual" : Str) == "names") = false := by decide +kernel
  have h2 : (("mutual" : Str) == "lists") = false := by decide +kernel
  simp [gf, List.lookup, h1, h2]
theorem gf_places (n l m q : Addr) : (gf n l m q).lookup ("places" : Str) = some (V.ref q) := by
  have h1 : (("places" : Str) == "names") = false := by decide +kernel
  have h2 : (("places" : Str) == "lists") = false := by decide +kernel
  have h3 : (("places" : Str) == "mutual") = false := by decide +kernel
  simp [gf, List.lookup, h1, h2, h3]
theorem gf_no {n l m q : Addr} {f : Str} (h : f ∉ (["names", "lists", "mutual", "places"] : List Str)) : (gf n l m q).lookup f = none := by
  simp only [List.mem_cons, List.not_mem_nil, or_false, not_or] at h
  obtain ⟨h1, h2, h3, h4⟩ := h
  have e1 : (f == ("names" : Str)) = false := beq_eq_false_iff_ne.mpr h1
  have e2 : (f == ("lists" : Str)) = false := beq_eq_false_iff_ne.mpr h2
  have e3 : (f == ("mutual" : Str)) = false := beq_eq_false_iff_ne.mpr h3
  have e4 : (f == ("places" : Str)) = false := beq_eq_false_iff_ne.mpr h4
  simp [gf, List.lookup, e1, e2, e3, e4]
theorem take_none {xs : List Str} {al : List Addr} {i : Nat} {q : Str} (hd : xs.Nodup) (hq : xs[i]? = some q) : valV (zipK (xs.take i) al) (.inr q) = none := by
  refine zipK_none fun z => ?_
  obtain ⟨j, hj, e⟩ := List.mem_take_iff_getElem.mp z
  have h1 : xs[j]? = some q := by rw [← e]; simp
  have := nodup_ix hd h1 hq
  omega
theorem zipK_put {xs : List Str} {al : List Addr} {i : Nat} {q : Str} {c : Addr} (hd : xs.Nodup) (hq : xs[i]? = some q) (hal : al.length = i) : putK (zipK (xs.take i) al) (.inr q) (.ref c) = zipK (xs.take (i + 1)) (al ++ [c]) := by
  have hil : i < xs.length := (List.getElem?_eq_some_iff.mp hq).1
  rw [putK_new (take_none hd hq), List.take_succ, hq]
  exact (zipK_snoc (by rw [hal, List.length_take]; omega)).symm
theorem all_put {R R' : Str → Addr → Prop} {xs : List Str} {al : List Addr} {i : Nat} {q : Str} {c : Addr} (hq : xs[i]? = some q) (hal : al.length = i) (hR : ∀ (j : Nat) q' b, xs[j]? = some q' → al[j]? = some b → R q' b) (hc : R' q c) (hm : ∀ q' b, R q' b → R' q' b) :
    ∀ (j : Nat) q' b, xs[j]? = some q' → (al ++ [c])[j]? = some b → R' q' b := fun j q' b' h1 h2 => by
  by_cases hj : j < al.length
  · rw [List.getElem?_append_left hj] at h2
    exact hm _ _ (hR j q' b' h1 h2)
  · rw [List.getElem?_append_right (by omega)] at h2
    have hj0 : j - al.length = 0 := by
      by_cases z : j - al.length = 0
      · exact z
      · rw [List.getElem?_eq_none (by simp; omega)] at h2; cases h2
    rw [hj0] at h2
    cases h2
    have : j = i := by omega
    rw [this, hq] at h1
    cases h1
    exact hc
theorem zipK_len (xs : List Str) (al : List Addr) : (zipK xs al).length ≤ xs.length := by
  unfold zipK
  rw [List.length_map, List.length_zip]
  omega
theorem filter_take {α : Type} {l : List α} {i : Nat} {x : α} (f : α → Bool) (h : l[i]? = some x) : (l.take (i + 1)).filter f = if f x then (l.take i).filter f ++ [x] else (l.take i).filter f := by
  rw [List.take_succ, h]
  simp only [Option.toList_some, List.filter_append, List.filter_cons, List.filter_nil]
  split <;> simp
theorem enumK_take {row : List Str} {i : Nat} {x : Str} (h : row[i]? = some x) : enumK (row.take (i + 1)) = enumK (row.take i) ++ [(.inr x, .int (i : Nat))] := by
  have hi : i < row.length := (List.getElem?_eq_some_iff.mp h).1
  unfold enumK
  rw [List.take_succ, h]
  simp only [Option.toList_some, List.zipIdx_append, List.map_append, List.length_take, Nat.min_eq_left (Nat.le_of_lt hi)]
  simp
theorem enumK_keys (row : List Str) : (enumK row).map (·.1) = row.map Sum.inr := by
  unfold enumK
  rw [List.map_map]
  show row.zipIdx.map (fun q => (Sum.inr q.1 : Key)) = _
  have e : (fun q : Str × Nat => (Sum.inr q.1 : Key)) = Sum.inr ∘ Prod.fst := rfl
  rw [e, ← List.map_map]
  congr 1
  simp
theorem nodup_len {α : Type} [DecidableEq α] : ∀ {xs ys : List α}, xs.Nodup → (∀ x ∈ xs, x ∈ ys) → xs.length ≤ ys.length
  | [], _, _, _ => Nat.zero_le _
  | x :: r, ys, nd, h => by
    rw [List.nodup_cons] at nd
    have hx : x ∈ ys := h x List.mem_cons_self
    have ih := nodup_len (xs := r) (ys := ys.erase x) nd.2 fun y m => (List.mem_erase_of_ne (fun e => nd.1 (by rw [← e]; exact m))).mpr (h y (List.mem_cons_of_mem _ m))
    rw [List.length_erase_of_mem hx] at ih
    have : 0 < ys.length := List.length_pos_of_mem hx
    simp only [List.length_cons]
    omega
theorem valV_none_keys {kvs : List (Key × V)} {k : Key} (h : k ∉ kvs.map (·.1)) : valV kvs k = none := by
  cases e : valV kvs k with
  | none => rfl
  | some v =>
    have := valV_any k kvs
    rw [e] at this
    obtain ⟨p, m, hp⟩ := List.any_eq_true.mp this
    exact absurd (List.mem_map.mpr ⟨p, m, of_decide_eq_true hp⟩) h
theorem pure_Group___init__ {K : PySem.W.Frag} (gk : GK K) {vs : List V} {H : Hp} {Q : VK} {E : XK} (h : sp_Group___init__ K vs H Q E) : t_Group___init__ K E { nx := fun _ H' => Q .non H', rt := Q } (start N_Group___init__ vs) H := by
  obtain ⟨p, v, u, B, dx, dp, dw, rfl, sB, bp, hp, rp, rw_, k⟩ := h
  have hs := HS.startS sB bp hp
  show t_Group___init__ K E _ [some (.ref p), some v, some u, none, none, none, none] H
  unfold t_Group___init__
  ((with_reducible refine x_seq ?_); (with_reducible refine x_drop ?_); (with_reducible refine x_cl ?_); (with_reducible refine x_cons ?_); ((with_reducible refine' x_var ?z5h ?_); case z5h => rfl); (with_reducible refine x_nil ?_))
  refine use_check_people hs rp (fun hbp B1 H1 sb1 hs1 => ?_) (fun i hi => ?_)
  case refine_2 =>
    simp only [mkGroup, hi] at k
    exact fun B' H' d c e1 e2 => k B' H' d (HS.lift (o := .lst []) c) e1 e2
  obtain ⟨xs, rfl, hl, hn, hd⟩ := badPeople_none hbp
  have ex : (D.tup (xs.map D.str)).asStrs = xs := strL_map xs
  obtain ⟨a, rfl, ea⟩ : ∃ a, v = .ref a ∧ B a = some (.tup (xs.map V.str)) := by
    cases rp with
    | tup e r => exact ⟨_, rfl, by rw [e, reps_str_eq r]⟩
  ((with_reducible refine x_seq ?_); (with_reducible refine x_drop ?_); (with_reducible refine x_cl ?_); (with_reducible refine x_cons ?_); ((with_reducible refine' x_var ?z11h ?_); case z11h => rfl); (with_reducible refine x_cons ?_); ((with_reducible refine' x_var ?z13h ?_); case z13h => rfl); (with_reducible refine x_nil ?_))
  refine use_check_wishes hs1 (by walk_at "bf") hl (by walk_at "rp") (fun hbw B2 H2 sb2 hs2 => ?_) (fun i hi => ?_)
  case refine_2 =>
    simp only [mkGroup, hbp, ex, hi] at k
    refine fun B' H' d c e1 e2 => k B' H' d ?_ e1 e2
    exact ⟨(hs1.call c).bb, (hs1.call c).bh, (hs1.call c).fr, fun _ z => (nomatch z), List.nodup_nil⟩
  have hG := mkGroup_ok (dp := .tup (xs.map D.str)) (dw := dw) (G := ⟨xs, fun p => (vald dw p).asStrs⟩) (by simp only [mkGroup, hbp, ex, hbw])
  simp only [mkGroup, hbp, ex, hbw] at k
  generalize hGd : (⟨xs, fun p => (vald dw p).asStrs⟩ : Grp) = G at hG k
  have hGn : G.names = xs := by rw [← hGd]
  obtain ⟨ds, rfl, hw⟩ := badWishes_none hbw
  obtain ⟨aw, kvs, rfl, ew, rk⟩ : ∃ aw kvs, u = .ref aw ∧ B aw = some (.dK kvs) ∧ RepK K B kvs ds := by
    cases rw_ with
    | dct e r => exact ⟨_, _, rfl, e, r⟩
  have hwish : ∀ q ∈ xs, ∃ b, valV kvs (.inr q) = some (.ref b) ∧ B b = some (.lst ((G.wish q).map V.str)) := fun q m => by
    obtain ⟨h1, ws, h2, _, _⟩ := hw q m
    rcases repK_val rk (.inr q) with ⟨v, d, z1, z2, z3⟩ | ⟨_, z⟩
    · have : d = D.strs ws := by
        simp only [vald, z2, Option.getD_some] at h2
        exact h2
      rw [this] at z3
      obtain ⟨b, rfl, z4⟩ := rep_strs_inv z3
      refine ⟨b, z1, ?_⟩
      rw [z4, ← hGd]
      dsimp only
      rw [h2, asStrs_strs]
    · rw [z] at h1; cases h1
  ((with_reducible refine x_seq ?_); (with_reducible refine x_sfldU ?_); (with_reducible refine x_cb ?_); (with_reducible refine x_cons ?_); ((with_reducible refine' x_var ?z19h ?_); case z19h => rfl); (with_reducible refine x_nil ?_); ((with_reducible refine' x_listT ?z21h ?_); case z21h => walk_at "st"))
  refine new_F hs2 (fun n B3 H3 hs3 sb3 en _ => ?_)
  ((with_reducible refine' x_var ?z22h ?_); case z22h => rfl)
  refine x_sfld hs3 gk.cl gk.nn (by decide) (fun H4 hs4 => ?_)
  ((with_reducible refine x_seq ?_); (with_reducible refine x_sfldU ?_); (with_reducible refine x_dc ?_); (with_reducible refine x_iTup ?_); ((with_reducible refine' x_var ?z27h ?_); case z27h => rfl))
  refine ⟨a, rfl, ⟨_, by walk_at "st"⟩, fun l hl' => ?_⟩
  rw [pf1] at hs4
  refine d_tup (α := List Addr) (Mf := fun _ => [(p, .ins (He.ga K "Group") dx [("names", .ref n)])]) (P := fun i al acc B1 => al.length = i ∧ acc = zipK (xs.take i) al ∧ ∀ (j : Nat) q b, xs[j]? = some q → al[j]? = some b → LAt B1 G.wish q b)
    (s0 := []) hs4 hl' (by walk_at "bf") ⟨rfl, rfl, by simp⟩ (fun i x al acc B5 H5 hi hil hacc sb5 hs5 pp => ?_) (fun al acc B5 H5 sb5 hs5 hacc pp => ?_)
  · obtain ⟨q, hq, rfl⟩ := strs_get hi
    obtain ⟨hal, hac, hR⟩ := pp
    have hqm : q ∈ xs := List.mem_of_getElem? hq
    obtain ⟨b, hb1, hb2⟩ := hwish q hqm
    ((with_reducible refine x_gname ?_); try simp only [List.set_cons_zero, List.set_cons_succ])
    refine ⟨rfl, ?_⟩
    ((with_reducible refine x_yes ?_); (with_reducible refine x_tt _ _ ?_); ((with_reducible refine' x_var ?z31h ?_); case z31h => rfl); (with_reducible refine x_cb ?_); (with_reducible refine x_cons ?_); (with_reducible refine x_dget ?_); ((with_reducible refine' x_var ?z35h ?_); case z35h => rfl); ((with_reducible refine' x_var ?z36h ?_); case z36h => rfl); ((with_reducible refine' x_dgS ?z37h ?z37h2 ?_); (case z37h => walk_at "hf"); (case z37h2 => assumption)); (with_reducible refine x_nil ?_); ((with_reducible refine' x_listL ?z39h ?_); case z39h => walk_at "sl"))
    refine new_F hs5 (fun c B6 H6 hs6 sb6 ec _ => ?_)
    refine d_keep (s := al ++ [c]) (sb5.trans sb6) hs6 hacc (by rw [List.length_map] at hil; omega) ⟨by simp [hal], ?_, all_put hq hal hR ec fun q' b z => sb6 _ _ z⟩
    rw [hac]
    exact zipK_put hd hq hal
  · obtain ⟨hal, hac, hR⟩ := pp
    rw [List.length_map] at hal hac
    rw [List.take_length] at hac
    subst hac
    ((with_reducible refine' x_var ?z40h ?_); case z40h => rfl)
    refine x_sfld hs5.swap gk.cl gk.nl (by simp) (fun H6 hs6 => ?_)
    rw [pf2] at hs6
    obtain ⟨hs7, sb7⟩ := hs6.swap.still (by simpa using hs5.ne01)
    have el : upd B5 l (.dK (zipK xs al)) l = some (.dK (zipK xs al)) := upd_same
    have hR7 : ∀ (j : Nat) q b, xs[j]? = some q → al[j]? = some b → LAt (upd B5 l (.dK (zipK xs al))) G.wish q b := fun j q b h1 h2 => sb7 _ _ (hR j q b h1 h2)
    generalize upd B5 l (.dK (zipK xs al)) = B7 at hs7 sb7 el hR7
    have hDl : DAt B7 l xs (LAt B7 G.wish) := ⟨al, hal, el, hR7⟩
    have sb5' := sb5
    ((with_reducible refine x_seq ?_); (with_reducible refine x_sfldU ?_); (with_reducible refine x_dnew ?_))
    refine new_M hs7 (fun m H8 hs8 _ => ?_)
    ((with_reducible refine' x_var ?z44h ?_); case z44h => rfl)
    refine x_sfld hs8.swap gk.cl gk.nm (by simp) (fun H9 hs9 => ?_)
    rw [pf3] at hs9
    ((with_reducible refine x_seq ?_); (with_reducible refine x_sfldU ?_); (with_reducible refine x_dnew ?_))
    refine new_M hs9 (fun q H10 hs10 _ => ?_)
    ((with_reducible refine' x_var ?z48h ?_); case z48h => rfl)
    refine x_sfld hs10.swap gk.cl gk.np (by simp) (fun H11 hs11 => ?_)
    rw [pf4] at hs11
    have hs11 : HS [p] B H B7 H11 [(p, .ins (He.ga K "Group") dx (gf n l m q)), (m, .dK []), (q, .dK [])] := by
      refine hs11.perm ?_
      exact List.Perm.cons _ (List.Perm.swap _ _ _)
    ((with_reducible refine x_for ?_); (with_reducible refine x_iTup ?_); ((with_reducible refine' x_var ?z51h ?_); case z51h => rfl))
    refine ⟨a, rfl, ⟨_, by walk_at "st"⟩, ?_⟩
    refine l_tup (α := (List Addr × List Addr) × (Option V × Option V)) (σf := fun s => [some (.ref p), some (.ref a), some (.ref aw), s.2.1, s.2.2, none, none])
      (Mf := fun s => [(p, .ins (He.ga K "Group") dx (gf n l m q)), (m, .dK (zipK (xs.take s.1.1.length) s.1.1)), (q, .dK (zipK (xs.take s.1.2.length) s.1.2))])
      (P := fun i s B1 => s.1.1.length = i ∧ s.1.2.length = i ∧ (∀ (j : Nat) x b, xs[j]? = some x → s.1.1[j]? = some b → LAt B1 G.open x b) ∧ (∀ (j : Nat) x b, xs[j]? = some x → s.1.2[j]? = some b → PAt B1 G.open x b))
      (s0 := (([], []), (none, none))) hs11 (by walk_at "bf") ⟨rfl, rfl, by simp, by simp⟩ (fun i x s B1 H1 hi sb1 hs1 pp => ?_) (fun s B1 H1 sb1 hs1 pp => ?_)
    · obtain ⟨⟨am, ap⟩, s2, s3⟩ := s
      obtain ⟨ham, hap, hRm, hRp⟩ := pp
      dsimp only at ham hap hRm hRp hs1 ⊢
      obtain ⟨x, hx, rfl⟩ := strs_get hi
      have hil : i < xs.length := (List.getElem?_eq_some_iff.mp hx).1
      have hxm : x ∈ xs := List.mem_of_getElem? hx
      obtain ⟨b, hb1, hb2⟩ := hwish x hxm
      have hwlen : (G.wish x).length ≤ 16 := by
        have h1 := hG.wn x (by rw [hGn]; exact hxm)
        have h2 := hG.wi x (by rw [hGn]; exact hxm)
        have := nodup_len h1 h2
        have := hG.few
        omega
      (((with_reducible refine x_gname ?_); try simp only [List.set_cons_zero, List.set_cons_succ]); (with_reducible refine x_seq ?_); (with_reducible refine x_asg ?_); (with_reducible refine x_lc ?_); (with_reducible refine x_iList ?_); (with_reducible refine x_dget ?_); ((with_reducible refine' x_var ?z58h ?_); case z58h => rfl); ((with_reducible refine' x_var ?z59h ?_); case z59h => rfl); ((with_reducible refine' x_dgS ?z60h ?z60h2 ?_); (case z60h => walk_at "hf"); (case z60h2 => assumption)))
      refine ⟨b, rfl, ⟨_, by walk_at "sl"⟩, fun r hr => ?_⟩
      refine c_list (α := Unit) (Mf := fun _ => [(p, .ins (He.ga K "Group") dx (gf n l m q)), (m, .dK (zipK (xs.take am.length) am)), (q, .dK (zipK (xs.take ap.length) ap))])
        (P := fun i _ acc _ => acc = (((G.wish x).take i).filter fun c => decide (x ∈ G.wish c)).map V.str) (s0 := ()) hs1 hr (by walk_at "bf") rfl (fun j y _ acc B2 H2 hj hacc sb2 hs2 pp => ?_) (fun _ acc B2 H2 sb2 hs2 hacc pp => ?_)
      · obtain ⟨y, hy, rfl⟩ := strs_get hj
        have hjl : j < (G.wish x).length := (List.getElem?_eq_some_iff.mp hy).1
        have hym : y ∈ xs := by rw [← hGn]; exact hG.wi x (by rw [hGn]; exact hxm) y (List.mem_of_getElem? hy)
        obtain ⟨c, hc1, hc2⟩ := hwish y hym
        ((with_reducible refine x_gname ?_); try simp only [List.set_cons_zero, List.set_cons_succ])
        refine ⟨rfl, ?_⟩
        ((with_reducible refine x_test ?_); (with_reducible refine x_op ?_); ((with_reducible refine' x_var ?z64h ?_); case z64h => rfl); (with_reducible refine x_dget ?_); ((with_reducible refine' x_var ?z66h ?_); case z66h => rfl); ((with_reducible refine' x_var ?z67h ?_); case z67h => rfl); ((with_reducible refine' x_dgS ?z68h ?z68h2 ?_); (case z68h => walk_at "hf"); (case z68h2 => assumption)); ((with_reducible refine' x_inLS ?z69h ?_); case z69h => walk_at "sl"); (with_reducible refine x_exb ?_))
        refine x_ite (fun h => ?_) (fun h => ?_)
        · ((with_reducible refine' x_var ?z71h ?_); case z71h => rfl)
          refine c_keep (s := ()) sb2 hs2 hacc (by omega) ?_
          rw [filter_take _ hy, if_pos h, pp]
          simp
        · refine c_left (s := ()) sb2 hs2 hacc ?_
          rw [filter_take _ hy, if_neg (by rw [h]; decide), pp]
      · rw [List.length_map, List.take_length] at pp
        have pp : acc = (G.open x).map V.str := pp
        subst pp
        obtain ⟨hs3, sb3⟩ := hs2.still (by simpa using hs2.ne01)
        have er : upd B2 r (.lst ((G.open x).map V.str)) r = some (.lst ((G.open x).map V.str)) := upd_same
        generalize upd B2 r (.lst ((G.open x).map V.str)) = B3 at hs3 sb3 er
        (((with_reducible refine x_gname ?_); try simp only [List.set_cons_zero, List.set_cons_succ]); (with_reducible refine x_seq ?_); (with_reducible refine x_dputU ?_); ((with_reducible refine' x_var ?z75h ?_); case z75h => rfl); (with_reducible refine x_fldU ?_); ((with_reducible refine' x_var ?z77h ?_); case z77h => rfl))
        refine x_fld (hs3.get List.mem_cons_self) gk.cl gk.nm (gf_mutual n l m q) ?_
        ((with_reducible refine' x_var ?z78h ?_); case z78h => rfl)
        refine x_dput hs3.swap (by have := zipK_len (xs.take am.length) am; rw [List.length_take] at this; omega) (fun H4 hs4 => ?_)
        have hs4 := hs4.swap
        ((with_reducible refine x_dputU ?_); (with_reducible refine x_dc ?_); (with_reducible refine x_iEnum ?_); (with_reducible refine x_cons ?_); ((with_reducible refine' x_var ?z83h ?_); case z83h => rfl); (with_reducible refine x_nil ?_))
        refine ⟨r, _, rfl, by walk_at "sl", fun dd hdd => ?_⟩
        have hop : (G.open x).length ≤ 16 := by
          have : (G.open x).length ≤ (G.wish x).length := List.length_filter_le _ _
          omega
        refine d_enum (α := Unit) (Mf := fun _ => [(p, .ins (He.ga K "Group") dx (gf n l m q)), (m, .dK (putK (zipK (xs.take am.length) am) (.inr x) (.ref r))), (q, .dK (zipK (xs.take ap.length) ap))])
          (P := fun i _ acc _ => acc = enumK ((G.open x).take i)) (s0 := ()) hs4 hdd (by walk_at "bf") rfl (fun _ _ _ _ _ z _ => z) (fun j y _ acc T B5 H5 hj hjl hacc sb5 hs5 pp hT => ?_) (fun _ acc B5 H5 sb5 hs5 hacc pp => ?_)
        · obtain ⟨y, hy, rfl⟩ := strs_get hj
          (((with_reducible refine' x_gtup ?z85h ?z85h2 ?_); (case z85h => walk_at "st"); (case z85h2 => rfl)); (with_reducible refine x_gcons ?_); ((with_reducible refine x_gname ?_); try simp only [List.set_cons_zero, List.set_cons_succ]); (with_reducible refine x_gcons ?_); ((with_reducible refine x_gname ?_); try simp only [List.set_cons_zero, List.set_cons_succ]); (with_reducible refine x_gnil ?_))
          refine ⟨rfl, ?_⟩
          ((with_reducible refine x_yes ?_); (with_reducible refine x_tt _ _ ?_); ((with_reducible refine' x_var ?z93h ?_); case z93h => rfl); ((with_reducible refine' x_var ?z94h ?_); case z94h => rfl))
          refine d_keep (s := ()) sb5 hs5 hacc (by rw [List.length_map] at hjl; omega) ?_
          rw [pp, enumK_take hy]
          refine putK_new (valV_none_keys ?_)
          rw [enumK_keys]
          intro z
          obtain ⟨y', hy', e⟩ := List.mem_map.mp z
          have e := Sum.inr.inj e
          subst e
          obtain ⟨j', hj', e⟩ := List.mem_take_iff_getElem.mp hy'
          have h1 : (G.open x)[j']? = some y' := by rw [← e]; simp
          have hnd : (G.open x).Nodup := (hG.wn x (by rw [hGn]; exact hxm)).filter _
          have := nodup_ix hnd h1 hy
          omega
        · rw [List.length_map, List.take_length] at pp
          subst pp
          have hdp : dd ≠ p := hs5.ne01
          obtain ⟨hs6, sb6⟩ := hs5.still (by simpa using hdp)
          have ed : upd B5 dd (.dK (enumK (G.open x))) dd = some (.dK (enumK (G.open x))) := upd_same
          generalize upd B5 dd (.dK (enumK (G.open x))) = B6 at hs6 sb6 ed
          ((with_reducible refine x_fldU ?_); ((with_reducible refine' x_var ?z96h ?_); case z96h => rfl))
          refine x_fld (hs6.get List.mem_cons_self) gk.cl gk.np (gf_places n l m q) ?_
          ((with_reducible refine' x_var ?z97h ?_); case z97h => rfl)
          refine x_dput hs6.rot3 (by have := zipK_len (xs.take ap.length) ap; rw [List.length_take] at this; omega) (fun H7 hs7 => ?_)
          have hs7 := hs7.unrot3
          have sb36 : Same B3 B6 := sb5.trans sb6
          have sb16 : Same B1 B6 := (sb2.trans sb3).trans sb36
          refine ⟨((am ++ [r], ap ++ [dd]), (some _, some _)), B6, rfl, sb1.trans sb16, ?_, by simp [ham], by simp [hap], all_put hx ham hRm (sb36 _ _ er) fun _ _ z => sb16 _ _ z, all_put hx hap hRp ed fun _ _ z => sb16 _ _ z⟩
          dsimp only
          have e1 := zipK_put (c := r) hd hx ham
          have e2 := zipK_put (c := dd) hd hx hap
          rw [List.length_append, List.length_append, ham, hap]
          rw [ham, hap] at hs7
          rw [e1, e2] at hs7
          exact hs7
    · obtain ⟨⟨am, ap⟩, s2, s3⟩ := s
      obtain ⟨ham, hap, hRm, hRp⟩ := pp
      dsimp only at ham hap hRm hRp hs1 ⊢
      rw [List.length_map] at ham hap
      rw [ham, hap, List.take_length] at hs1
      have hs2 := hs1.rot3
      obtain ⟨hs3, sb3⟩ := hs2.still (by simpa using hs2.ne01)
      have eq_ : upd B1 q (.dK (zipK xs ap)) q = some (.dK (zipK xs ap)) := upd_same
      generalize upd B1 q (.dK (zipK xs ap)) = B3 at hs3 sb3 eq_
      have hs4 := hs3.swap
      obtain ⟨hs5, sb5⟩ := hs4.still (by simpa using hs4.ne01)
      have em : upd B3 m (.dK (zipK xs am)) m = some (.dK (zipK xs am)) := upd_same
      generalize upd B3 m (.dK (zipK xs am)) = B5 at hs5 sb5 em
      have hpp := hs5.get List.mem_cons_self
      have bpp := (hs5.mu _ List.mem_cons_self).1
      dsimp only at hpp bpp
      have sB6 : Same B5 (upd B5 p (.ins (He.ga K "Group") dx (gf n l m q))) := fun b u e => by rw [upd_ne (ne_of_none e bpp)]; exact e
      have ep : upd B5 p (.ins (He.ga K "Group") dx (gf n l m q)) p = some (.ins (He.ga K "Group") dx (gf n l m q)) := upd_same
      have hs6 : HS [p] B H (upd B5 p (.ins (He.ga K "Group") dx (gf n l m q))) H1 [] := by
        refine ⟨hs5.bb.trans sB6, fun b u e => ?_, fun b u n1 n2 e => ?_, fun _ z => (nomatch z), List.nodup_nil⟩
        · by_cases z : b = p
          · subst z; rw [upd_same] at e; cases e; exact hpp
          · rw [upd_ne z] at e; exact hs5.bh _ _ e
        · obtain ⟨h1, h2⟩ := hs5.fr b u n1 n2 e
          exact ⟨by rw [upd_ne (by simpa using n1)]; exact h1, h2⟩
      generalize upd B5 p (.ins (He.ga K "Group") dx (gf n l m q)) = B6 at sB6 ep hs6
      have s76 : Same B7 B6 := ((sb1.trans sb3).trans sb5).trans sB6
      have s16 : Same B1 B6 := (sb3.trans sb5).trans sB6
      refine k B6 H1 hs6 ⟨⟨dx, n, l, m, q, ep, ?_, ?_, ⟨am, by rw [hGn]; exact ham, ?_, fun j x b h1 h2 => s16 _ _ (hRm j x b (by rw [← hGn]; exact h1) h2)⟩, ⟨ap, by rw [hGn]; exact hap, ?_, fun j x b h1 h2 => s16 _ _ (hRp j x b (by rw [← hGn]; exact h1) h2)⟩⟩, hG⟩
      · rw [hGn]; exact s76 _ _ (sb7 _ _ (sb5' _ _ en))
      · rw [hGn]; exact hDl.mono s76 fun _ _ z => s76 _ _ z
      · rw [hGn]; exact sB6 _ _ em
      · rw [hGn]; exact sB6 _ _ (sb5 _ _ eq_)
end Q

set_option Elab.async false
set_option linter.all false
set_option maxRecDepth 100000
set_option maxHeartbeats 4000000
namespace Q
open PySem PySem.Spec PyProof.Rows L2
local macro_rules | `(tactic| walk_at "bf") => `(tactic| first | assumption | (refine' bstep (by assumption) ?r; case r => walk_at "bf") | fail)
local macro_rules | `(tactic| walk_at "rp") => `(tactic| first | assumption | exact Rep.int _ | exact Rep.bl _ | exact Rep.non | (refine' Rep.mono (by assumption) ?r; case r => walk_at "rp") | fail)
local macro_rules | `(tactic| walk_at "hf") => `(tactic| first | assumption | exact HS.up (by assumption) (by walk_at "bf") | exact HS.get (by assumption) List.mem_cons_self | exact HS.get (by assumption) (List.mem_cons_of_mem _ List.mem_cons_self) | exact HS.get (by assumption) (List.mem_cons_of_mem _ (List.mem_cons_of_mem _ List.mem_cons_self)) | exact HS.get (by assumption) (List.mem_cons_of_mem _ (List.mem_cons_of_mem _ (List.mem_cons_of_mem _ List.mem_cons_self))) | fail)
local macro_rules | `(tactic| walk_at "sl") => `(tactic| first | assumption | exact SqL.of (by walk_at "hf") | fail)
local macro_rules | `(tactic| walk_at "st") => `(tactic| first | assumption | exact SqT.of (by walk_at "hf") | fail)
local macro_rules | `(tactic| walk_at "sz") => `(tactic| first | assumption | (refine small_le ?_; first | assumption | omega | (simp; done) | (simp; omega)) | fail)
/-! ### calls that hand back new things that may change -/
theorem HS.none0 {S : List Addr} {B0 H0 B H : Hp} {M : List (Addr × HO)} (h : HS S B0 H0 B H M) {p : Addr} (hp : H p = none) : H0 p = none ∨ p ∈ S := by
  by_cases hs : p ∈ S
  · exact .inr hs
  · left
    cases q : H0 p with
    | none => rfl
    | some u =>
      cases qb : B0 p with
      | some w => rw [h.bh _ _ (h.bb _ _ qb)] at hp; cases hp
      | none => rw [(h.fr p u hs qb q).2] at hp; cases hp
theorem HS.callN {S : List Addr} {B0 H0 B H B' H' : Hp} {M N : List (Addr × HO)} (h : HS S B0 H0 B H M) (c : HS [] B H B' H' N) : HS S B0 H0 B' H' (N ++ M) := by
  refine ⟨h.bb.trans c.bb, c.bh, fun b u n1 n2 e => ?_, fun q m => ?_, ?_⟩
  · obtain ⟨x, y⟩ := h.fr b u n1 n2 e
    exact c.fr b u (by simp) x y
  · rcases List.mem_append.mp m with m | m
    · obtain ⟨x, y, z⟩ := c.mu q m
      exact ⟨x, y, h.none0 (z.resolve_right (by simp))⟩
    · obtain ⟨x, y, z⟩ := h.mu q m
      obtain ⟨x', y'⟩ := c.fr q.1 q.2 (by simp) x y
      exact ⟨x', y', z⟩
  · rw [List.map_append, List.nodup_append]
    refine ⟨c.nd, h.nd, fun a ha b hb e => ?_⟩
    obtain ⟨q, mq, rfl⟩ := List.mem_map.mp ha
    obtain ⟨r, mr, rfl⟩ := List.mem_map.mp hb
    have h1 := (c.mu q mq).2.2.resolve_right (by simp)
    have h2 := (h.mu r mr).2.1
    rw [e, h2] at h1
    cases h1
theorem HS.call1N {S : List Addr} {B0 H0 B H B' H' : Hp} {M N : List (Addr × HO)} {p : Addr} {o o' : HO} (h : HS S B0 H0 B H ((p, o) :: M)) (c : HS [p] B H B' H' ((p, o') :: N)) : HS S B0 H0 B' H' ((p, o') :: (N ++ M)) := by
  have nd := h.nd
  rw [List.map_cons, List.nodup_cons] at nd
  have cnd := c.nd
  rw [List.map_cons, List.nodup_cons] at cnd
  obtain ⟨hB, hH, hs⟩ := h.mu (p, o) List.mem_cons_self
  dsimp only at hB hH hs
  obtain ⟨c1, c2, _⟩ := c.mu (p, o') List.mem_cons_self
  dsimp only at c1 c2
  have hN : ∀ q ∈ N, H q.1 = none := fun q m => by
    rcases (c.mu q (List.mem_cons_of_mem _ m)).2.2 with z | z
    · exact z
    · exact absurd (List.mem_map.mpr ⟨q, m, by simpa using z⟩) cnd.1
  refine ⟨h.bb.trans c.bb, c.bh, fun b u n1 n2 e => ?_, fun q m => ?_, ?_⟩
  · obtain ⟨x, y⟩ := h.fr b u n1 n2 e
    have : b ≠ p := fun z => by
      subst z
      rcases hs with k | k
      · rw [k] at e; cases e
      · exact n1 k
    exact c.fr b u (by simpa using this) x y
  · rcases List.mem_cons.mp m with rfl | m
    · exact ⟨c1, c2, hs⟩
    · rcases List.mem_append.mp m with m | m
      · obtain ⟨x, y, z⟩ := c.mu q (List.mem_cons_of_mem _ m)
        exact ⟨x, y, h.none0 (hN q m)⟩
      · obtain ⟨x, y, z⟩ := h.mu q (List.mem_cons_of_mem _ m)
        have : q.1 ≠ p := fun e => nd.1 (List.mem_map.mpr ⟨q, m, e⟩)
        obtain ⟨x', y'⟩ := c.fr q.1 q.2 (by simpa using this) x y
        exact ⟨x', y', z⟩
  · rw [List.map_cons, List.nodup_cons, List.map_append, List.nodup_append]
    refine ⟨fun z => ?_, cnd.2, nd.2, fun a ha b hb e => ?_⟩
    · rcases List.mem_append.mp z with z | z
      · exact cnd.1 z
      · exact nd.1 z
    obtain ⟨q, mq, rfl⟩ := List.mem_map.mp ha
    obtain ⟨r, mr, rfl⟩ := List.mem_map.mp hb
    have h1 := hN q mq
    have h2 := (h.mu r (List.mem_cons_of_mem _ mr)).2.1
    rw [e, h2] at h1
    cases h1
/-! ### Group.people -/
abbrev N_Group_people : List Str := ["self"]
def t_Group_people (K : PySem.W.Frag) (E : XK) : TS := (tRet (tCB (rListOf K) (tCons (tFld K (tVar 0) "names") tNil)))
def sp_Group_people (K : PySem.W.Frag) : Sp := fun vs H Q E => ∃ p B G, vs = [.ref p] ∧ Same B H ∧ GAt K B p G ∧ ∀ B' H' l, HS [] B H B' H' [(l, .lst (G.names.map V.str))] → Q (.ref l) H'
theorem pure_Group_people {K : PySem.W.Frag} (gk : GK K) {vs : List V} {H : Hp} {Q : VK} {E : XK} (h : sp_Group_people K vs H Q E) : t_Group_people K E { nx := fun _ H' => Q .non H', rt := Q } (start N_Group_people vs) H := by
  obtain ⟨p, B, G, rfl, sB, g, k⟩ := h
  have hs := HS.start sB
  show t_Group_people K E _ [some (.ref p)] H
  unfold t_Group_people
  obtain ⟨⟨dx, n, l, m, q, h1, h2, h3, h4, h5⟩, ok⟩ := g
  ((with_reducible refine x_ret ?_); (with_reducible refine x_cb ?_); (with_reducible refine x_cons ?_); (with_reducible refine x_fldU ?_); ((with_reducible refine' x_var ?z5h ?_); case z5h => rfl))
  refine x_fld (hs.up h1) gk.cl gk.nn (gf_names n l m q) ?_
  ((with_reducible refine x_nil ?_); ((with_reducible refine' x_listL ?z7h ?_); case z7h => walk_at "sl"))
  exact new_M hs (fun r H1 hs1 _ => k B H1 r hs1)
/-! ### drawing -/
def VSt (a b : Int) : Prop := 0 ≤ a ∧ 0 ≤ b ∧ b < 2147483629
def stO (a b : Int) : HO := .lst [.int a, .int b]
abbrev N__law_cell : List Str := ["_law_script", "_law_k", "_law_number", "_law_seed"]
def t__law_cell (K : PySem.W.Frag) (E : XK) : TS := (tSeq (tAsg (tC (.int 0)) (gName 2))
  (tSeq (tIfS (tTest (tOp rLtI (tVar 1) (tCB (rLenA K) (tCons (tVar 0) tNil)))) (tAsg (tCB rAbs (tCons (tOp (rIxL K) (tVar 0) (tVar 1)) tNil)) (gName 2)) tNext)
  (tSeq (tAsg (tOp rModI (tCB rInt1 (tCons (tOp rAddI (tOp rAddI (tOp rAddI (tVar 2) (tOp rMulI (tC (.int 7919)) (tVar 1))) (tOp rMulI (tC (.int 104729)) (tCB rMin2 (tCons (tCB (rLenA K) (tCons (tVar 0) tNil)) (tCons (tC (.int 63)) tNil))))) (tC (.int 17))) tNil)) (tC (.int 2147483629))) (gName 3))
  (tSeq (tAsg (tOp rModI (tCB rInt1 (tCons (tOp rAddI (tOp rAddI (tOp rMulI (tOp rMulI (tVar 3) (tVar 3)) (tVar 3)) (tOp rMulI (tC (.int 69621)) (tVar 3))) (tC (.int 11))) tNil)) (tC (.int 2147483629))) (gName 3))
  (tSeq (tIfS (tTest (tOp rLtI (tVar 2) (tOp rPowI (tC (.int 10)) (tC (.int 18))))) (tRet (tLst (tCons (tC (.int 0)) (tCons (tVar 3) tNil)))) tNext)
  (tRet (tLst (tCons (tVar 2) (tCons (tVar 3) tNil)))))))))
def sp__law_cell (K : PySem.W.Frag) : Sp := fun vs H Q E => ∃ (p : Addr) (xs : List Int) (k : Nat) (B : Hp), vs = [.ref p, .int (k : Nat)] ∧ Same B H ∧ SqL K H p (xs.map V.int) ∧ ∀ B' H' l a b, HS [] B H B' H' [(l, stO a b)] → VSt a b → Q (.ref l) H'
theorem atI_nat {α : Type} {xs : List α} {n : Nat} (h : n < xs.length) : atI xs (n : Int) = some xs[n] := by
  unfold atI ixN
  rw [if_pos (Int.natCast_nonneg _), if_pos (by omega)]
  simp [h]
theorem x_join {σ : L2.St} {H : Hp} {De : Ends} {t u : TS} {I : L2.St → Hp → Prop} (h2 : ∀ σ H, I σ H → u De σ H) (h1 : ∀ R : L2.St → Hp → Prop, (∀ σ H, I σ H → R σ H) → t { De with nx := R } σ H) : tSeq t u De σ H := h1 (u De) h2
theorem pure__law_cell {K : PySem.W.Frag} {vs : List V} {H : Hp} {Q : VK} {E : XK} (h : sp__law_cell K vs H Q E) : t__law_cell K E { nx := fun _ H' => Q .non H', rt := Q } (start N__law_cell vs) H := by
  obtain ⟨p, xs, j, B, rfl, sB, hp, k⟩ := h
  have hs := HS.start sB
  show t__law_cell K E _ [some (.ref p), some (.int (j : Nat)), none, none] H
  unfold t__law_cell
  refine x_seq ?_
  (with_reducible refine x_asg ?_)
  (with_reducible refine x_c ?_)
  ((with_reducible refine x_gname ?_); try simp only [List.set_cons_zero, List.set_cons_succ])
  refine x_join (I := fun σ H' => H' = H ∧ ∃ n : Int, 0 ≤ n ∧ σ = [some (.ref p), some (.int (j : Nat)), some (.int n), none]) ?_ (fun R hR => ?_)
  · rintro σ H' ⟨rfl, n, hn, rfl⟩
    ((with_reducible refine x_seq ?_); (with_reducible refine x_asg ?_); (with_reducible refine x_op ?_); (with_reducible refine x_cb ?_); (with_reducible refine x_cons ?_); (with_reducible refine x_op ?_); (with_reducible refine x_op ?_); (with_reducible refine x_op ?_); ((with_reducible refine' x_var ?z19h ?_); case z19h => rfl); (with_reducible refine x_op ?_); (with_reducible refine x_c ?_); ((with_reducible refine' x_var ?z22h ?_); case z22h => rfl); ((with_reducible refine' x_mulI ?z23h ?_); case z23h => first | exact .inl ⟨by decide, by decide⟩ | exact .inr ⟨by decide, by decide⟩ | exact .inl ⟨by omega, by omega⟩ | exact .inr ⟨by omega, by omega⟩); (with_reducible refine x_addI ?_); (with_reducible refine x_op ?_); (with_reducible refine x_c ?_); (with_reducible refine x_cb ?_); (with_reducible refine x_cons ?_); (with_reducible refine x_cb ?_); (with_reducible refine x_cons ?_); ((with_reducible refine' x_var ?z31h ?_); case z31h => rfl); (with_reducible refine x_nil ?_); ((with_reducible refine' x_lenL ?z33h ?_); case z33h => walk_at "sl"); (with_reducible refine x_cons ?_); (with_reducible refine x_c ?_); (with_reducible refine x_nil ?_); (with_reducible refine x_min2 ?_); ((with_reducible refine' x_mulI ?z38h ?_); case z38h => first | exact .inl ⟨by decide, by decide⟩ | exact .inr ⟨by decide, by decide⟩ | exact .inl ⟨by omega, by omega⟩ | exact .inr ⟨by omega, by omega⟩); (with_reducible refine x_addI ?_); (with_reducible refine x_c ?_); (with_reducible refine x_addI ?_); (with_reducible refine x_nil ?_); (with_reducible refine x_int1 ?_); (with_reducible refine x_c ?_); ((with_reducible refine' x_modI ?z45h ?_); case z45h => first | decide | omega); ((with_reducible refine x_gname ?_); try simp only [List.set_cons_zero, List.set_cons_succ]); (with_reducible refine x_seq ?_); (with_reducible refine x_asg ?_); (with_reducible refine x_op ?_); (with_reducible refine x_cb ?_); (with_reducible refine x_cons ?_); (with_reducible refine x_op ?_); (with_reducible refine x_op ?_); (with_reducible refine x_op ?_); (with_reducible refine x_op ?_); ((with_reducible refine' x_var ?z56h ?_); case z56h => rfl); ((with_reducible refine' x_var ?z57h ?_); case z57h => rfl); ((with_reducible refine' x_mulI ?z58h ?_); case z58h => first | exact .inl ⟨by decide, by decide⟩ | exact .inr ⟨by decide, by decide⟩ | exact .inl ⟨by omega, by omega⟩ | exact .inr ⟨by omega, by omega⟩); ((with_reducible refine' x_var ?z59h ?_); case z59h => rfl); ((with_reducible refine' x_mulI ?z60h ?_); case z60h => first | exact .inl ⟨by decide, by decide⟩ | exact .inr ⟨by decide, by decide⟩ | exact .inl ⟨by omega, by omega⟩ | exact .inr ⟨by omega, by omega⟩); (with_reducible refine x_op ?_); (with_reducible refine x_c ?_); ((with_reducible refine' x_var ?z63h ?_); case z63h => rfl); ((with_reducible refine' x_mulI ?z64h ?_); case z64h => first | exact .inl ⟨by decide, by decide⟩ | exact .inr ⟨by decide, by decide⟩ | exact .inl ⟨by omega, by omega⟩ | exact .inr ⟨by omega, by omega⟩); (with_reducible refine x_addI ?_); (with_reducible refine x_c ?_); (with_reducible refine x_addI ?_); (with_reducible refine x_nil ?_); (with_reducible refine x_int1 ?_); (with_reducible refine x_c ?_); ((with_reducible refine' x_modI ?z71h ?_); case z71h => first | decide | omega); ((with_reducible refine x_gname ?_); try simp only [List.set_cons_zero, List.set_cons_succ]); (with_reducible refine x_seq ?_); (with_reducible refine x_if ?_); (with_reducible refine x_test ?_); (with_reducible refine x_op ?_); ((with_reducible refine' x_var ?z77h ?_); case z77h => rfl); (with_reducible refine x_op ?_); (with_reducible refine x_c ?_); (with_reducible refine x_c ?_); ((with_reducible refine' x_powI ?z81h ?_); case z81h => exact ⟨by decide, by decide, by decide⟩); (with_reducible refine x_ltI ?_); (with_reducible refine x_exb ?_))
    generalize hz : (n + 7919 * (j : Int) + 104729 * _ + 17) % 2147483629 = z
    have hz1 : 0 ≤ z ∧ z < 2147483629 := by omega
    skip
    generalize hy : (z * z * z + 69621 * z + 11) % 2147483629 = y
    have hy1 : 0 ≤ y ∧ y < 2147483629 := by omega
    skip
    refine x_ite (fun h => ?_) (fun h => ?_)
    · ((with_reducible refine x_ret ?_); (with_reducible refine x_lst ?_); (with_reducible refine x_cons ?_); (with_reducible refine x_c ?_); (with_reducible refine x_cons ?_); ((with_reducible refine' x_var ?z89h ?_); case z89h => rfl); (with_reducible refine x_nil ?_); ((with_reducible refine' x_newL ?z91h ?_); case z91h => first | exact Nat.zero_le _ | (simp; done) | (simp; omega)))
      exact new_M hs fun l H1 hs1 _ => k _ _ l 0 y hs1 ⟨by decide, hy1.1, hy1.2⟩
    · ((with_reducible refine x_next ?_); (with_reducible refine x_ret ?_); (with_reducible refine x_lst ?_); (with_reducible refine x_cons ?_); ((with_reducible refine' x_var ?z96h ?_); case z96h => rfl); (with_reducible refine x_cons ?_); ((with_reducible refine' x_var ?z98h ?_); case z98h => rfl); (with_reducible refine x_nil ?_); ((with_reducible refine' x_newL ?z100h ?_); case z100h => first | exact Nat.zero_le _ | (simp; done) | (simp; omega)))
      exact new_M hs fun l H1 hs1 _ => k _ _ l n y hs1 ⟨hn, hy1.1, hy1.2⟩
  · ((with_reducible refine x_if ?_); (with_reducible refine x_test ?_); (with_reducible refine x_op ?_); ((with_reducible refine' x_var ?z104h ?_); case z104h => rfl); (with_reducible refine x_cb ?_); (with_reducible refine x_cons ?_); ((with_reducible refine' x_var ?z107h ?_); case z107h => rfl); (with_reducible refine x_nil ?_); ((with_reducible refine' x_lenL ?z109h ?_); case z109h => walk_at "sl"); (with_reducible refine x_ltI ?_); (with_reducible refine x_exb ?_))
    refine x_ite (fun h => ?_) (fun h => ?_)
    · have h := of_decide_eq_true h
      have hj : j < (xs.map V.int).length := by omega
      have e := atI_nat hj
      rw [List.getElem_map] at e
      ((with_reducible refine x_asg ?_); (with_reducible refine x_cb ?_); (with_reducible refine x_cons ?_); (with_reducible refine x_op ?_); ((with_reducible refine' x_var ?z116h ?_); case z116h => rfl); ((with_reducible refine' x_var ?z117h ?_); case z117h => rfl); ((with_reducible refine' x_ixL ?z118h ?z118h2 ?_); (case z118h => walk_at "sl"); (case z118h2 => first | rfl | assumption)); (with_reducible refine x_nil ?_); (with_reducible refine x_abs ?_); ((with_reducible refine x_gname ?_); try simp only [List.set_cons_zero, List.set_cons_succ]))
      exact hR _ _ ⟨rfl, _, by split <;> omega, rfl⟩
    · (with_reducible refine x_next ?_)
      exact hR _ _ ⟨rfl, 0, by decide, rfl⟩
abbrev N__law_take : List Str := ["_law_state", "_law_many", "_law_mixed", "_law_digit"]
def t__law_take (K : PySem.W.Frag) (E : XK) : TS := (tSeq (tIfS (tTest (tOp rGtI (tOp (rIxL K) (tVar 0) (tC (.int 0))) (tC (.int 0)))) (tSeq (tAsg (tOp rModI (tCB rInt1 (tCons (tOp (rIxL K) (tVar 0) (tC (.int 0))) tNil)) (tVar 1)) (gName 3))
  (tSeq (tAsg (tOp rDivI (tCB rInt1 (tCons (tOp (rIxL K) (tVar 0) (tC (.int 0))) tNil)) (tVar 1)) (gSub (tVar 0) (tC (.int 0)) rSetL))
  (tRet (tVar 3)))) tNext)
  (tSeq (tAsg (tOp rModI (tCB rInt1 (tCons (tOp rAddI (tOp rMulI (tOp (rIxL K) (tVar 0) (tC (.int 1))) (tC (.int 48271))) (tC (.int 30103))) tNil)) (tC (.int 2147483629))) (gSub (tVar 0) (tC (.int 1)) rSetL))
  (tSeq (tAsg (tOp rModI (tCB rInt1 (tCons (tOp rMulI (tOp (rIxL K) (tVar 0) (tC (.int 1))) (tOp rAddI (tOp rDivI (tOp (rIxL K) (tVar 0) (tC (.int 1))) (tC (.int 1009))) (tC (.int 69621)))) tNil)) (tC (.int 2147483647))) (gName 2))
  (tRet (tOp rModI (tCB rInt1 (tCons (tOp rDivI (tVar 2) (tC (.int 7))) tNil)) (tVar 1))))))
def sp__law_take (K : PySem.W.Frag) : Sp := fun vs H Q E => ∃ p a b m B, vs = [.ref p, .int m] ∧ Same B H ∧ B p = none ∧ H p = some (stO a b) ∧ VSt a b ∧ 0 < m ∧ m < 1073741824 ∧
  ∀ B' H' a' b' (n : Nat), HS [p] B H B' H' [(p, stO a' b')] → VSt a' b' → (n : Int) < m → Q (.int (n : Nat)) H'
theorem pure__law_take {K : PySem.W.Frag} {vs : List V} {H : Hp} {Q : VK} {E : XK} (h : sp__law_take K vs H Q E) : t__law_take K E { nx := fun _ H' => Q .non H', rt := Q } (start N__law_take vs) H := by
  obtain ⟨p, a, b, m, B, rfl, sB, bp, hp, ⟨h1, h2, h3⟩, m1, m2, k⟩ := h
  have hs := HS.startS sB bp hp
  show t__law_take K E _ [some (.ref p), some (.int m), none, none] H
  unfold t__law_take
  unfold stO at hs hp
  ((with_reducible refine x_seq ?_); (with_reducible refine x_if ?_); (with_reducible refine x_test ?_); (with_reducible refine x_op ?_); (with_reducible refine x_op ?_); ((with_reducible refine' x_var ?z128h ?_); case z128h => rfl); (with_reducible refine x_c ?_); ((with_reducible refine' x_ixL ?z130h ?z130h2 ?_); (case z130h => walk_at "sl"); (case z130h2 => first | rfl | assumption)); (with_reducible refine x_c ?_); (with_reducible refine x_gtI ?_); (with_reducible refine x_exb ?_))
  refine x_ite (fun h => ?_) (fun h => ?_)
  · have h := of_decide_eq_true h
    ((with_reducible refine x_seq ?_); (with_reducible refine x_asg ?_); (with_reducible refine x_op ?_); (with_reducible refine x_cb ?_); (with_reducible refine x_cons ?_); (with_reducible refine x_op ?_); ((with_reducible refine' x_var ?z140h ?_); case z140h => rfl); (with_reducible refine x_c ?_); ((with_reducible refine' x_ixL ?z142h ?z142h2 ?_); (case z142h => walk_at "sl"); (case z142h2 => first | rfl | assumption)); (with_reducible refine x_nil ?_); (with_reducible refine x_int1 ?_); ((with_reducible refine' x_var ?z145h ?_); case z145h => rfl); ((with_reducible refine' x_modI ?z146h ?_); case z146h => first | decide | omega); ((with_reducible refine x_gname ?_); try simp only [List.set_cons_zero, List.set_cons_succ]); (with_reducible refine x_seq ?_); (with_reducible refine x_asg ?_); (with_reducible refine x_op ?_); (with_reducible refine x_cb ?_); (with_reducible refine x_cons ?_); (with_reducible refine x_op ?_); ((with_reducible refine' x_var ?z154h ?_); case z154h => rfl); (with_reducible refine x_c ?_); ((with_reducible refine' x_ixL ?z156h ?z156h2 ?_); (case z156h => walk_at "sl"); (case z156h2 => first | rfl | assumption)); (with_reducible refine x_nil ?_); (with_reducible refine x_int1 ?_); ((with_reducible refine' x_var ?z159h ?_); case z159h => rfl); ((with_reducible refine' x_divI ?z160h ?_); case z160h => first | exact ⟨by decide, by decide⟩ | exact ⟨by omega, by omega⟩); (with_reducible refine x_gsub ?_); ((with_reducible refine' x_var ?z162h ?_); case z162h => rfl); (with_reducible refine x_c ?_))
    refine x_setL (j := 0) hs rfl (fun H1 hs1 => ?_)
    ((with_reducible refine x_ret ?_); ((with_reducible refine' x_var ?z165h ?_); case z165h => rfl))
    have e1 : 0 ≤ a % m := Int.emod_nonneg _ (by omega)
    have e2 : a % m < m := Int.emod_lt_of_pos _ m1
    obtain ⟨n, hn⟩ := Int.eq_ofNat_of_zero_le e1
    rw [hn]
    exact k B H1 (a / m) b n hs1 ⟨Int.ediv_nonneg h1 (by omega), h2, h3⟩ (by omega)
  · ((with_reducible refine x_next ?_); (with_reducible refine x_seq ?_); (with_reducible refine x_asg ?_); (with_reducible refine x_op ?_); (with_reducible refine x_cb ?_); (with_reducible refine x_cons ?_); (with_reducible refine x_op ?_); (with_reducible refine x_op ?_); (with_reducible refine x_op ?_); ((with_reducible refine' x_var ?z175h ?_); case z175h => rfl); (with_reducible refine x_c ?_); ((with_reducible refine' x_ixL ?z177h ?z177h2 ?_); (case z177h => walk_at "sl"); (case z177h2 => first | rfl | assumption)); (with_reducible refine x_c ?_); ((with_reducible refine' x_mulI ?z179h ?_); case z179h => first | exact .inl ⟨by decide, by decide⟩ | exact .inr ⟨by decide, by decide⟩ | exact .inl ⟨by omega, by omega⟩ | exact .inr ⟨by omega, by omega⟩); (with_reducible refine x_c ?_); (with_reducible refine x_addI ?_); (with_reducible refine x_nil ?_); (with_reducible refine x_int1 ?_); (with_reducible refine x_c ?_); ((with_reducible refine' x_modI ?z185h ?_); case z185h => first | decide | omega); (with_reducible refine x_gsub ?_); ((with_reducible refine' x_var ?z187h ?_); case z187h => rfl); (with_reducible refine x_c ?_))
    generalize hy : (b * 48271 + 30103) % 2147483629 = y
    have hy1 : 0 ≤ y ∧ y < 2147483629 := by omega
    refine x_setL (j := 1) hs rfl (fun H1 hs1 => ?_)
    ((with_reducible refine x_seq ?_); (with_reducible refine x_asg ?_); (with_reducible refine x_op ?_); (with_reducible refine x_cb ?_); (with_reducible refine x_cons ?_); (with_reducible refine x_op ?_); (with_reducible refine x_op ?_); ((with_reducible refine' x_var ?z196h ?_); case z196h => rfl); (with_reducible refine x_c ?_); ((with_reducible refine' x_ixL ?z198h ?z198h2 ?_); (case z198h => walk_at "sl"); (case z198h2 => first | rfl | assumption)); (with_reducible refine x_op ?_); (with_reducible refine x_op ?_); (with_reducible refine x_op ?_); ((with_reducible refine' x_var ?z202h ?_); case z202h => rfl); (with_reducible refine x_c ?_); ((with_reducible refine' x_ixL ?z204h ?z204h2 ?_); (case z204h => walk_at "sl"); (case z204h2 => first | rfl | assumption)); (with_reducible refine x_c ?_); ((with_reducible refine' x_divI ?z206h ?_); case z206h => first | exact ⟨by decide, by decide⟩ | exact ⟨by omega, by omega⟩); (with_reducible refine x_c ?_); (with_reducible refine x_addI ?_); ((with_reducible refine' x_mulI ?z209h ?_); case z209h => first | exact .inl ⟨by decide, by decide⟩ | exact .inr ⟨by decide, by decide⟩ | exact .inl ⟨by omega, by omega⟩ | exact .inr ⟨by omega, by omega⟩); (with_reducible refine x_nil ?_); (with_reducible refine x_int1 ?_); (with_reducible refine x_c ?_); ((with_reducible refine' x_modI ?z213h ?_); case z213h => first | decide | omega); ((with_reducible refine x_gname ?_); try simp only [List.set_cons_zero, List.set_cons_succ]); (with_reducible refine x_ret ?_); (with_reducible refine x_op ?_); (with_reducible refine x_cb ?_); (with_reducible refine x_cons ?_); (with_reducible refine x_op ?_); ((with_reducible refine' x_var ?z220h ?_); case z220h => rfl); (with_reducible refine x_c ?_); ((with_reducible refine' x_divI ?z222h ?_); case z222h => first | exact ⟨by decide, by decide⟩ | exact ⟨by omega, by omega⟩); (with_reducible refine x_nil ?_); (with_reducible refine x_int1 ?_); ((with_reducible refine' x_var ?z225h ?_); case z225h => rfl); ((with_reducible refine' x_modI ?z226h ?_); case z226h => first | decide | omega))
    generalize (y * (y / 1009 + 69621)) % 2147483647 / 7 = z
    have e1 : 0 ≤ z % m := Int.emod_nonneg _ (by omega)
    have e2 : z % m < m := Int.emod_lt_of_pos _ m1
    obtain ⟨n, hn⟩ := Int.eq_ofNat_of_zero_le e1
    rw [hn]
    exact k B H1 a y n hs1 ⟨h1, hy1.1, hy1.2⟩ (by omega)
theorem use_take {K : PySem.W.Frag} {S : List Addr} {B0 H0 B H : Hp} {M : List (Addr × HO)} {Q : VK} {E : XK} {p : Addr} {a b m : Int} (hs : HS S B0 H0 B H ((p, stO a b) :: M)) (v : VSt a b) (m1 : 0 < m) (m2 : m < 1073741824)
    (k : ∀ B' H' a' b' (n : Nat), Same B B' → HS S B0 H0 B' H' ((p, stO a' b') :: M) → VSt a' b' → (n : Int) < m → Q (.int (n : Nat)) H') : sp__law_take K [.ref p, .int m] H Q E :=
  ⟨p, a, b, m, B, rfl, hs.bh, (hs.mu _ List.mem_cons_self).1, hs.get List.mem_cons_self, v, m1, m2, fun B' H' a' b' n c v' hn => k B' H' a' b' n c.bb (hs.call1 c) v' hn⟩
theorem use_cell {K : PySem.W.Frag} {S : List Addr} {B0 H0 B H : Hp} {M : List (Addr × HO)} {Q : VK} {E : XK} {p : Addr} {xs : List Int} {j : Nat} (hs : HS S B0 H0 B H M) (hp : SqL K H p (xs.map V.int))
    (k : ∀ B' H' l a b, Same B B' → HS S B0 H0 B' H' ((l, stO a b) :: M) → VSt a b → Q (.ref l) H') : sp__law_cell K [.ref p, .int (j : Nat)] H Q E :=
  ⟨p, xs, j, B, rfl, hs.bh, hp, fun B' H' l a b c v => k B' H' l a b c.bb (hs.callN c) v⟩
/-! ### plain answers -/
abbrev N__law_is_integer : List Str := ["_law_actual"]
def t__law_is_integer (K : PySem.W.Frag) (E : XK) : TS := (tRet (tAndV (tCB (rIsi K) (tCons (tVar 0) (tCons (tC (.ty "int")) tNil))) (tNotV (tCB (rIsi K) (tCons (tVar 0) (tCons (tC (.ty "bool")) tNil))))))
def isInt : D → Bool
  | .int _ => true
  | _ => false
def sp__law_is_integer (K : PySem.W.Frag) : Sp := fun vs H Q E => ∃ v B d, vs = [v] ∧ Same B H ∧ Rep K B v d ∧ Ret B H Q fun _ r => r = .bl (isInt d)
end Q

set_option Elab.async false
set_option linter.all false
set_option maxRecDepth 100000
set_option maxHeartbeats 4000000
namespace Q
open PySem PySem.Spec PyProof.Rows L2
/-! ### more steps: text methods, slices, displays -/
def DispK (p : Addr) (Q : VK) (ps : List (V × V)) (H2 : Hp) : Prop := H2 p = some (.dK []) ∧ ∃ kvs : List (Key × V), ps = kvs.map (fun kv => (kV kv.1, kv.2)) ∧ kvs.length ≤ 15 ∧ Q (.ref p) (upd H2 p (.dK (mergeK [] kvs)))
section
variable {K : PySem.W.Frag} {σ : L2.St} {H : Hp} {Q : VK} {to te tk tv : TE} {tl th : TO} {z x : Str} {p l b : Addr} {xs zs : List V} {m : Int} {S : List Addr} {B0 H0 B : Hp} {M : List (Addr × HO)} {lo hi : Option Int}
theorem x_m1s {r : V → List V → Hp → VK → Prop} (h : to σ H fun x H1 => (∃ a, x = .str a) ∧ te σ H1 fun y H2 => r x [y] H2 Q) : tM1 r to te σ H Q := h
theorem x_joinL {ys : List Str} (hp : SqL K H p (ys.map V.str)) (hz : (ys.map (·.length)).sum + ys.length * z.length ≤ 16777216) (h : Q (.str (Txt.join z ys)) H) : rJoin K (.str z) [.ref p] H Q := ⟨z, p, ys, rfl, rfl, .inl hp, hz, h⟩
theorem x_sl {r : V → Option Int → Option Int → Hp → VK → Prop} (h : te σ H fun x H1 => tl σ H1 fun l H2 => th σ H2 fun u H3 => r x l u H3 Q) : tSl r te tl th σ H Q := h
theorem x_noPart {Qo : Option Int → Hp → Prop} (h : Qo none H) : tNoPart σ H Qo := h
theorem x_part {Qo : Option Int → Hp → Prop} (h : te σ H fun x H1 => ∃ i, x = .int i ∧ Qo (some i) H1) : tPart te σ H Qo := h
theorem x_exi {R : Int → Prop} (h : R m) : ∃ i, V.int m = .int i ∧ R i := ⟨m, rfl, h⟩
theorem x_slS (hz : z.length ≤ sizeLine) (h : Q (.str (cutS z lo hi)) H) : rSlS (.str z) lo hi H Q := ⟨z, rfl, hz, h⟩
theorem x_slL (hp : SqL K H p xs) (h : New (.lst (cutV xs lo hi)) Q H) : rSlL K (.ref p) lo hi H Q := ⟨p, xs, rfl, hp, h⟩
theorem SqL.same {H H' : Hp} (h : SqL K H p xs) (s : Same H H') : SqL K H' p xs := h.elim (fun h => .inl (h.elim (fun h => .inl (s _ _ h)) fun ⟨o, h⟩ => .inr ⟨o, s _ _ h⟩)) fun h => .inr h
end
theorem HS.keep {S : List Addr} {B0 H0 B H : Hp} {M : List (Addr × HO)} (hs : HS S B0 H0 B H M) (sb : Same B0 H0) {t : Addr} {o : HO} (ht : H0 t = some o) (hne : t ∉ S) : H t = some o := by
  cases e : B0 t with
  | some u => 
    have := sb _ _ e
    rw [ht] at this
    cases this
    exact hs.bh _ _ (hs.bb _ _ e)
  | none => exact (hs.fr t o hne e ht).2
end Q

set_option Elab.async false
set_option linter.all false
set_option maxRecDepth 100000
set_option maxHeartbeats 4000000
namespace Q
open PySem PySem.Spec PyProof.Rows L2
local macro_rules | `(tactic| walk_at "bf") => `(tactic| first | assumption | (refine' bstep (by assumption) ?r; case r => walk_at "bf") | fail)
local macro_rules | `(tactic| walk_at "rp") => `(tactic| first | assumption | exact Rep.int _ | exact Rep.bl _ | exact Rep.non | (refine' Rep.mono (by assumption) ?r; case r => walk_at "rp") | fail)
local macro_rules | `(tactic| walk_at "hf") => `(tactic| first | assumption | exact HS.up (by assumption) (by walk_at "bf") | exact HS.get (by assumption) List.mem_cons_self | exact HS.get (by assumption) (List.mem_cons_of_mem _ List.mem_cons_self) | exact HS.get (by assumption) (List.mem_cons_of_mem _ (List.mem_cons_of_mem _ List.mem_cons_self)) | exact HS.get (by assumption) (List.mem_cons_of_mem _ (List.mem_cons_of_mem _ (List.mem_cons_of_mem _ List.mem_cons_self))) | fail)
local macro_rules | `(tactic| walk_at "sl") => `(tactic| first | assumption | exact SqL.of (by walk_at "hf") | fail)
local macro_rules | `(tactic| walk_at "st") => `(tactic| first | assumption | exact SqT.of (by walk_at "hf") | fail)
local macro_rules | `(tactic| walk_at "sz") => `(tactic| first | assumption | (refine small_le ?_; first | assumption | omega | (simp; done) | (simp; omega)) | fail)
/-! ### names that are drawn -/
abbrev N__law_name : List Str := ["_law_state", "_law_taken", "_law_letters", "_law_size", "_law_name_here", "_law_last", "_law_k", "_law_other"]
def t__law_name (K : PySem.W.Frag) (E : XK) : TS := (tSeq (tAsg (tC (.str "abcdefghijklmnopqrstuvwxyz")) (gName 2))
  (tSeq (tAsg (tOp rAddI (tC (.int 1)) (tCl (sp__law_take K) (WE0 E) (tCons (tVar 0) (tCons (tC (.int 8)) tNil)))) (gName 3))
  (tSeq (tAsg (tM1 (rJoin K) (tC (.str "")) (tLc (iRng1 (tCons (tVar 3) tNil)) (gName 6) tYes (tOp rIxS (tVar 2) (tCl (sp__law_take K) W0 (tCons (tVar 0) (tCons (tC (.int 26)) tNil)))) [6])) (gName 4))
  (tSeq (tIfS (tTest (tOp (rIn K true) (tVar 4) (tVar 1))) (tRet (tVar 4)) tNext)
  (tSeq (tAsg (tCl (sp__law_take K) (WE0 E) (tCons (tVar 0) (tCons (tC (.int 26)) tNil))) (gName 5))
  (tSeq (tFor (iRng1 (tCons (tC (.int 26)) tNil)) (gName 6) (tSeq (tAsg (tOp rAddS (tSl rSlS (tVar 4) tNoPart (tPart (tC (.int 7)))) (tOp rIxS (tVar 2) (tOp rModI (tCB rInt1 (tCons (tOp rAddI (tVar 5) (tVar 6)) tNil)) (tC (.int 26))))) (gName 7))
  (tIfS (tTest (tOp (rIn K true) (tVar 7) (tVar 1))) (tRet (tVar 7)) tNext)))
  (tRet (tC (.str "")))))))))
def sp__law_name (K : PySem.W.Frag) : Sp := fun vs H Q E => ∃ (p t : Addr) (a b : Int) (taken : List Str) (B : Hp), vs = [.ref p, .ref t] ∧ Same B H ∧ B p = none ∧ H p = some (stO a b) ∧ VSt a b ∧ H t = some (.lst (taken.map V.str)) ∧ t ≠ p ∧ taken.length ≤ 25 ∧
  ∀ B' H' a' b' x, HS [p] B H B' H' [(p, stO a' b')] → VSt a' b' → okName x = true → x ∉ taken → Q (.str x) H'
theorem join_one (cs : List Nat) : (Txt.join "" (cs.map fun c => (⟨#[c]⟩ : Str))).cps.toList = cs := by
  rw [TL.join_eq]
  have : ∀ cs : List Nat, (Str.join "" (cs.map fun c => (⟨#[c]⟩ : Str))).cps.toList = cs := by
    intro cs
    induction cs with
    | nil => rfl
    | cons c r ih =>
      cases r with
      | nil => rfl
      | cons d r =>
        show (((⟨#[c]⟩ : Str) ++ "" ++ Str.join "" ((d :: r).map fun c => (⟨#[c]⟩ : Str)) : Str)).cps.toList = _
        show ((#[c] ++ #[] ++ (Str.join "" ((d :: r).map fun c => (⟨#[c]⟩ : Str))).cps : Array Nat)).toList = _
        rw [Array.toList_append, ih]
        rfl
  exact this cs
theorem okName_of {x : Str} {cs : List Nat} (e : x.cps.toList = cs) (h1 : 1 ≤ cs.length) (h2 : cs.length ≤ 8) (h3 : ∀ c ∈ cs, c ∈ letters.cps.toList) : okName x = true := by
  have hl : x.length = cs.length := by rw [← e, Array.length_toList]; rfl
  unfold okName
  rw [hl, e, decide_eq_true h1, decide_eq_true h2, Bool.true_and, Bool.true_and, List.all_eq_true]
  exact fun c m => decide_eq_true (h3 c m)
theorem letters_len : letters.cps.toList.length = 26 := by decide +kernel
theorem letters_nd : letters.cps.toList.Nodup := by decide +kernel
theorem pure__law_name {K : PySem.W.Frag} {vs : List V} {H : Hp} {Q : VK} {E : XK} (h : sp__law_name K vs H Q E) : t__law_name K E { nx := fun _ H' => Q .non H', rt := Q } (start N__law_name vs) H := by
  obtain ⟨p, t, a, b, taken, B, rfl, sB, bp, hp, hv, ht, htp, hl, k⟩ := h
  have hs := HS.startS sB bp hp
  have htS : t ∉ [p] := by simpa using htp
  show t__law_name K E _ [some (.ref p), some (.ref t), none, none, none, none, none, none] H
  unfold t__law_name
  ((with_reducible refine x_seq ?_); (with_reducible refine x_asg ?_); (with_reducible refine x_c ?_); ((with_reducible refine x_gname ?_); try simp only [List.set_cons_zero, List.set_cons_succ]); (with_reducible refine x_seq ?_); (with_reducible refine x_asg ?_); (with_reducible refine x_op ?_); (with_reducible refine x_c ?_); (with_reducible refine x_cl ?_); (with_reducible refine x_cons ?_); ((with_reducible refine' x_var ?z11h ?_); case z11h => rfl); (with_reducible refine x_cons ?_); (with_reducible refine x_c ?_); (with_reducible refine x_nil ?_))
  refine use_take hs hv (by decide) (by decide) (fun B1 H1 a1 b1 n sb1 hs1 hv1 hn => ?_)
  ((with_reducible refine x_addI ?_); ((with_reducible refine x_gname ?_); try simp only [List.set_cons_zero, List.set_cons_succ]); (with_reducible refine x_seq ?_); (with_reducible refine x_asg ?_); (with_reducible refine x_m1s ?_); (with_reducible refine x_c ?_); (with_reducible refine x_str1 ?_); (with_reducible refine x_lc ?_); (with_reducible refine x_iRng1 ?_); (with_reducible refine x_cons ?_); ((with_reducible refine' x_var ?z25h ?_); case z25h => rfl); (with_reducible refine x_nil ?_))
  refine ⟨_, rfl, by omega, by omega, fun D hD => ?_⟩
  have en : (1 + (n : Int)).toNat = n + 1 := by omega
  rw [en]
  refine c_range (α := Int × Int) (Mf := fun s => [(p, stO s.1 s.2)]) (P := fun i s acc _ => VSt s.1 s.2 ∧ ∃ cs : List Nat, cs.length = i ∧ acc = (cs.map fun c => (⟨#[c]⟩ : Str)).map V.str ∧ ∀ c ∈ cs, c ∈ letters.cps.toList)
    (s0 := (a1, b1)) hs1 hD ⟨hv1, [], rfl, rfl, by simp⟩ (fun i s acc B2 H2 hi hacc sb2 hs2 pp => ?_) (fun s acc B2 H2 sb2 hs2 hacc pp => ?_)
  · obtain ⟨hv2, cs, hcl, rfl, hcs⟩ := pp
    ((with_reducible refine x_gname ?_); try simp only [List.set_cons_zero, List.set_cons_succ])
    refine ⟨rfl, ?_⟩
    ((with_reducible refine x_yes ?_); (with_reducible refine x_tt _ _ ?_); (with_reducible refine x_op ?_); ((with_reducible refine' x_var ?z31h ?_); case z31h => rfl); (with_reducible refine x_cl ?_); (with_reducible refine x_cons ?_); ((with_reducible refine' x_var ?z34h ?_); case z34h => rfl); (with_reducible refine x_cons ?_); (with_reducible refine x_c ?_); (with_reducible refine x_nil ?_))
    refine use_take hs2.swap hv2 (by decide) (by decide) (fun B3 H3 a3 b3 m sb3 hs3 hv3 hm => ?_)
    have hm' : m < letters.cps.toList.length := by rw [letters_len]; omega
    refine x_ixS (by rw [sizeLine_eq]; decide +kernel) (atI_nat hm') ?_
    refine c_keep (s := (a3, b3)) (sb2.trans sb3) hs3.swap (by simp [hcl]) (by omega) ⟨hv3, cs ++ [letters.cps.toList[m]], by simp [hcl], by simp, fun c mc => ?_⟩
    rcases List.mem_append.mp mc with z | z
    · exact hcs c z
    · have : c = letters.cps.toList[m] := by simpa using z
      rw [this]; exact List.getElem_mem _
  · obtain ⟨hv2, cs, hcl, rfl, hcs⟩ := pp
    skip
    refine x_joinL (SqL.of (hs2.get List.mem_cons_self)) ?_ ?_
    · rw [List.map_map]
      have : (fun x : Str => x.length) ∘ (fun c => (⟨#[c]⟩ : Str)) = fun _ => 1 := rfl
      rw [this]
      simp only [List.map_const', List.sum_replicate_nat, List.length_map]
      have : (("" : Str)).length = 0 := rfl
      rw [this]
      omega
    have hy := join_one cs
    generalize Txt.join "" (cs.map fun c => (⟨#[c]⟩ : Str)) = y at hy
    have oky : okName y = true := okName_of hy (by omega) (by omega) hcs
    have hs3 := hs2.drop
    have ht3 := hs3.keep sB ht htS
    have hyl : y.length = n + 1 := by rw [← hcl, ← hy, Array.length_toList]; rfl
    (((with_reducible refine x_gname ?_); try simp only [List.set_cons_zero, List.set_cons_succ]); (with_reducible refine x_seq ?_); (with_reducible refine x_if ?_); (with_reducible refine x_test ?_); (with_reducible refine x_op ?_); ((with_reducible refine' x_var ?z43h ?_); case z43h => rfl); ((with_reducible refine' x_var ?z44h ?_); case z44h => rfl); ((with_reducible refine' x_ninLS ?z45h ?_); case z45h => walk_at "sl"); (with_reducible refine x_exb ?_))
    refine x_ite (fun h => ?_) (fun h => ?_)
    · ((with_reducible refine x_ret ?_); ((with_reducible refine' x_var ?z48h ?_); case z48h => rfl))
      exact k B2 H2 _ _ y hs3 hv2 oky (by simpa using h)
    ((with_reducible refine x_next ?_); (with_reducible refine x_seq ?_); (with_reducible refine x_asg ?_); (with_reducible refine x_cl ?_); (with_reducible refine x_cons ?_); ((with_reducible refine' x_var ?z54h ?_); case z54h => rfl); (with_reducible refine x_cons ?_); (with_reducible refine x_c ?_); (with_reducible refine x_nil ?_))
    refine use_take hs3 hv2 (by decide) (by decide) (fun B4 H4 a4 b4 m sb4 hs4 hv4 hm => ?_)
    (((with_reducible refine x_gname ?_); try simp only [List.set_cons_zero, List.set_cons_succ]); (with_reducible refine x_seq ?_); (with_reducible refine x_for ?_); (with_reducible refine x_iRng1 ?_); (with_reducible refine x_cons ?_); (with_reducible refine x_c ?_); (with_reducible refine x_nil ?_))
    refine ⟨_, rfl, by omega, by omega, ?_⟩
    have e26 : (26 : Int).toNat = 26 := rfl
    rw [e26]
    have hcut : (cutS y none (some 7)).cps.toList = cs.take 7 := by
      unfold cutS
      have h1 : HT.sIx y.length 0 none = 0 := rfl
      have h2 : HT.sIx y.length y.length (some 7) = min 7 y.length := HT.sIx_nat _ _ 7
      rw [h1, h2, hy]
      simp only [List.drop_zero, Nat.sub_zero]
      rw [hyl, ← hcl]
      simp
    let o : Nat → Str := fun j => cutS y none (some 7) ++ (⟨#[letters.cps.toList.getD ((m + j) % 26) 0]⟩ : Str)
    have ho : ∀ j, (o j).cps.toList = cs.take 7 ++ [letters.cps.toList.getD ((m + j) % 26) 0] := fun j => by
      show (((cutS y none (some 7)).cps ++ #[letters.cps.toList.getD ((m + j) % 26) 0] : Array Nat)).toList = _
      rw [Array.toList_append, hcut]
    have hcutl : (cutS y none (some 7)).length ≤ 7 := by
      have : (cutS y none (some 7)).length = (cs.take 7).length := by rw [← hcut, Array.length_toList]; rfl
      rw [this, List.length_take]; omega
    refine l_range (α := Option V × Option V) (σf := fun s => [some (.ref p), some (.ref t), some (.str "abcdefghijklmnopqrstuvwxyz"), some (.int (1 + (n : Nat))), some (.str y), some (.int (m : Nat)), s.1, s.2]) (Mf := fun _ => [(p, stO a4 b4)])
      (P := fun i _ _ => ∀ j, j < i → o j ∈ taken) (s0 := (none, none)) hs4 (by omega) (fun i s B5 H5 hi sb5 hs5 pp => ?_) (fun s B5 H5 sb5 hs5 pp => ?_)
    · have ht5 := hs5.keep sB ht htS
      (((with_reducible refine x_gname ?_); try simp only [List.set_cons_zero, List.set_cons_succ]); (with_reducible refine x_seq ?_); (with_reducible refine x_asg ?_); (with_reducible refine x_op ?_); (with_reducible refine x_sl ?_); ((with_reducible refine' x_var ?z70h ?_); case z70h => rfl); (with_reducible refine x_noPart ?_); (with_reducible refine x_part ?_); (with_reducible refine x_c ?_); (with_reducible refine x_exi ?_); ((with_reducible refine' x_slS ?z75h ?_); case z75h => walk_at "sz"); (with_reducible refine x_op ?_); ((with_reducible refine' x_var ?z77h ?_); case z77h => rfl); (with_reducible refine x_op ?_); (with_reducible refine x_cb ?_); (with_reducible refine x_cons ?_); (with_reducible refine x_op ?_); ((with_reducible refine' x_var ?z82h ?_); case z82h => rfl); ((with_reducible refine' x_var ?z83h ?_); case z83h => rfl); (with_reducible refine x_addI ?_); (with_reducible refine x_nil ?_); (with_reducible refine x_int1 ?_); (with_reducible refine x_c ?_); ((with_reducible refine' x_modI ?z88h ?_); case z88h => first | decide | omega))
      have em : ((m : Int) + (0 + (i : Int))) % 26 = ((m + i) % 26 : Nat) := by omega
      rw [em]
      have hm' : (m + i) % 26 < letters.cps.toList.length := by rw [letters_len]; omega
      refine x_ixS (by rw [sizeLine_eq]; decide +kernel) (atI_nat hm') ?_
      refine x_addS (small_le ?_) ?_
      · show (cutS y none (some 7)).length + 1 ≤ _
        omega
      have eo : cutS y none (some 7) ++ (⟨#[letters.cps.toList[(m + i) % 26]]⟩ : Str) = o i := by
        show _ = cutS y none (some 7) ++ (⟨#[letters.cps.toList.getD ((m + i) % 26) 0]⟩ : Str)
        rw [List.getD_eq_getElem?_getD, List.getElem?_eq_getElem hm', Option.getD_some]
      rw [eo]
      (((with_reducible refine x_gname ?_); try simp only [List.set_cons_zero, List.set_cons_succ]); (with_reducible refine x_if ?_); (with_reducible refine x_test ?_); (with_reducible refine x_op ?_); ((with_reducible refine' x_var ?z93h ?_); case z93h => rfl); ((with_reducible refine' x_var ?z94h ?_); case z94h => rfl); ((with_reducible refine' x_ninLS ?z95h ?_); case z95h => walk_at "sl"); (with_reducible refine x_exb ?_))
      refine x_ite (fun h => ?_) (fun h => ?_)
      · ((with_reducible refine x_ret ?_); ((with_reducible refine' x_var ?z98h ?_); case z98h => rfl))
        refine k B5 H5 _ _ (o i) hs5 hv4 (okName_of (ho i) (by simp) (by simp; omega) fun c mc => ?_) (by simpa using h)
        rcases List.mem_append.mp mc with z | z
        · exact hcs c (List.mem_of_mem_take z)
        · have : c = letters.cps.toList.getD ((m + i) % 26) 0 := by simpa using z
          rw [this, List.getD_eq_getElem?_getD, List.getElem?_eq_getElem hm', Option.getD_some]
          exact List.getElem_mem _
      · (with_reducible refine x_next ?_)
        refine ⟨(some _, some _), B5, rfl, sb5, hs5, fun j hj => ?_⟩
        by_cases e : j = i
        · rw [e]; simpa using h
        · exact pp j (by omega)
    · exfalso
      have h1 : ((List.range 26).map o).Nodup := by
        rw [List.nodup_iff_pairwise_ne, List.pairwise_map]
        refine List.Pairwise.imp_of_mem ?_ List.nodup_range
        intro i j hi hj hne e
        have e1 : (o i).cps.toList = (o j).cps.toList := by rw [e]
        rw [ho, ho] at e1
        have e2 := List.append_cancel_left e1
        have e3 : letters.cps.toList.getD ((m + i) % 26) 0 = letters.cps.toList.getD ((m + j) % 26) 0 := by simpa using e2
        have hi' : (m + i) % 26 < letters.cps.toList.length := by rw [letters_len]; omega
        have hj' : (m + j) % 26 < letters.cps.toList.length := by rw [letters_len]; omega
        rw [List.getD_eq_getElem?_getD, List.getD_eq_getElem?_getD, List.getElem?_eq_getElem hi', List.getElem?_eq_getElem hj', Option.getD_some, Option.getD_some] at e3
        have e4 := (List.getElem_inj letters_nd).mp e3
        have := List.mem_range.mp hi
        have := List.mem_range.mp hj
        omega
      have h2 := nodup_len h1 (ys := taken) fun x mx => by
        obtain ⟨j, hj, rfl⟩ := List.mem_map.mp mx
        exact pp j (List.mem_range.mp hj)
      rw [List.length_map, List.length_range] at h2
      omega
theorem use_name {K : PySem.W.Frag} {S : List Addr} {B0 H0 B H : Hp} {M : List (Addr × HO)} {Q : VK} {E : XK} {p t : Addr} {a b : Int} {taken : List Str} (hs : HS S B0 H0 B H ((p, stO a b) :: M)) (v : VSt a b) (ht : H t = some (.lst (taken.map V.str))) (hl : taken.length ≤ 25)
    (k : ∀ B' H' a' b' x, Same B B' → HS S B0 H0 B' H' ((p, stO a' b') :: M) → VSt a' b' → okName x = true → x ∉ taken → Q (.str x) H') (hne : t ≠ p) : sp__law_name K [.ref p, .ref t] H Q E :=
  ⟨p, t, a, b, taken, B, rfl, hs.bh, (hs.mu _ List.mem_cons_self).1, hs.get List.mem_cons_self, v, ht, hne, hl, fun B' H' a' b' x c v' h1 h2 => k B' H' a' b' x c.bb (hs.call1 c) v' h1 h2⟩
abbrev N__law_names : List Str := ["_law_state", "_law_many", "_law_names_here", "_law_k"]
def t__law_names (K : PySem.W.Frag) (E : XK) : TS := (tSeq (tAsg (tLst tNil) (gName 2))
  (tSeq (tFor (iRng1 (tCons (tVar 1) tNil)) (gName 3) (tDrop (tBM K "list" rAppend (tVar 2) (tCons (tCl (sp__law_name K) (WE0 E) (tCons (tVar 0) (tCons (tVar 2) tNil))) tNil))))
  (tRet (tVar 2))))
def sp__law_names (K : PySem.W.Frag) : Sp := fun vs H Q E => ∃ (p : Addr) (a b : Int) (m : Nat) (B : Hp), vs = [.ref p, .int (m : Nat)] ∧ Same B H ∧ B p = none ∧ H p = some (stO a b) ∧ VSt a b ∧ m ≤ 25 ∧
  ∀ B' H' a' b' l (xs : List Str), HS [p] B H B' H' [(p, stO a' b'), (l, .lst (xs.map V.str))] → VSt a' b' → xs.length = m → xs.Nodup → (∀ x ∈ xs, okName x = true) → Q (.ref l) H'
theorem pure__law_names {K : PySem.W.Frag} {vs : List V} {H : Hp} {Q : VK} {E : XK} (h : sp__law_names K vs H Q E) : t__law_names K E { nx := fun _ H' => Q .non H', rt := Q } (start N__law_names vs) H := by
  obtain ⟨p, a, b, m, B, rfl, sB, bp, hp, hv, hm, k⟩ := h
  have hs := HS.startS sB bp hp
  show t__law_names K E _ [some (.ref p), some (.int (m : Nat)), none, none] H
  unfold t__law_names
  ((with_reducible refine x_seq ?_); (with_reducible refine x_asg ?_); (with_reducible refine x_lst ?_); (with_reducible refine x_nil ?_); ((with_reducible refine' x_newL ?z104h ?_); case z104h => first | exact Nat.zero_le _ | (simp; done) | (simp; omega)))
  refine new_M hs (fun l H1 hs1 _ => ?_)
  (((with_reducible refine x_gname ?_); try simp only [List.set_cons_zero, List.set_cons_succ]); (with_reducible refine x_seq ?_); (with_reducible refine x_for ?_); (with_reducible refine x_iRng1 ?_); (with_reducible refine x_cons ?_); ((with_reducible refine' x_var ?z110h ?_); case z110h => rfl); (with_reducible refine x_nil ?_))
  refine ⟨_, rfl, by omega, by omega, ?_⟩
  have em : (m : Int).toNat = m := by omega
  rw [em]
  refine l_range (α := (Int × Int) × List Str × Option V) (σf := fun s => [some (.ref p), some (.int (m : Nat)), some (.ref l), s.2.2]) (Mf := fun s => [(p, stO s.1.1 s.1.2), (l, .lst (s.2.1.map V.str))])
    (P := fun i s _ => VSt s.1.1 s.1.2 ∧ s.2.1.length = i ∧ s.2.1.Nodup ∧ ∀ x ∈ s.2.1, okName x = true) (s0 := ((a, b), [], none)) hs1.swap ⟨hv, rfl, List.nodup_nil, by simp⟩ (fun i s B2 H2 hi sb2 hs2 pp => ?_) (fun s B2 H2 sb2 hs2 pp => ?_)
  · obtain ⟨⟨a2, b2⟩, xs, s3⟩ := s
    obtain ⟨hv2, hl2, nd2, ok2⟩ := pp
    dsimp only at hs2 hv2 hl2 nd2 ok2 ⊢
    (((with_reducible refine x_gname ?_); try simp only [List.set_cons_zero, List.set_cons_succ]); (with_reducible refine x_drop ?_); (with_reducible refine x_bm ?_); ((with_reducible refine' x_var ?z115h ?_); case z115h => rfl); ((with_reducible refine' x_tyL ?z116h ?_); case z116h => walk_at "sl"); (with_reducible refine x_cons ?_); (with_reducible refine x_cl ?_); (with_reducible refine x_cons ?_); ((with_reducible refine' x_var ?z120h ?_); case z120h => rfl); (with_reducible refine x_cons ?_); ((with_reducible refine' x_var ?z122h ?_); case z122h => rfl); (with_reducible refine x_nil ?_))
    refine use_name hs2 hv2 (hs2.get (List.mem_cons_of_mem _ List.mem_cons_self)) (by omega) (fun B3 H3 a3 b3 x sb3 hs3 hv3 okx nx => ?_) (Ne.symm hs2.ne01)
    (with_reducible refine x_nil ?_)
    refine x_append hs3.swap (by rw [List.length_map]; omega) (fun H4 hs4 => ?_)
    refine ⟨((a3, b3), xs ++ [x], some _), B3, rfl, sb2.trans sb3, by simpa using hs4.swap, hv3, by simp [hl2], ?_, fun y my => ?_⟩
    · rw [List.nodup_append]
      exact ⟨nd2, by simp, fun y my z mz e => nx (by have : z = x := by simpa using mz
                                                     rw [← this, ← e]; exact my)⟩
    · rcases List.mem_append.mp my with z | z
      · exact ok2 y z
      · have : y = x := by simpa using z
        rw [this]; exact okx
  · obtain ⟨⟨a2, b2⟩, xs, s3⟩ := s
    obtain ⟨hv2, hl2, nd2, ok2⟩ := pp
    ((with_reducible refine x_ret ?_); ((with_reducible refine' x_var ?z126h ?_); case z126h => rfl))
    exact k B2 H2 a2 b2 l xs hs2 hv2 hl2 nd2 ok2
theorem use_names {K : PySem.W.Frag} {S : List Addr} {B0 H0 B H : Hp} {M : List (Addr × HO)} {Q : VK} {E : XK} {p : Addr} {a b : Int} {m : Nat} (hs : HS S B0 H0 B H ((p, stO a b) :: M)) (v : VSt a b) (hm : m ≤ 25)
    (k : ∀ B' H' a' b' l (xs : List Str), Same B B' → HS S B0 H0 B' H' ((p, stO a' b') :: (l, .lst (xs.map V.str)) :: M) → VSt a' b' → xs.length = m → xs.Nodup → (∀ x ∈ xs, okName x = true) → Q (.ref l) H') : sp__law_names K [.ref p, .int (m : Nat)] H Q E :=
  ⟨p, a, b, m, B, rfl, hs.bh, (hs.mu _ List.mem_cons_self).1, hs.get List.mem_cons_self, v, hm, fun B' H' a' b' l xs c v' h1 h2 h3 => k B' H' a' b' l xs c.bb (hs.call1N c) v' h1 h2 h3⟩
end Q

set_option Elab.async false
set_option linter.all false
set_option maxRecDepth 100000
set_option maxHeartbeats 4000000
namespace Q
open PySem PySem.Spec PyProof.Rows L2
local macro_rules | `(tactic| walk_at "bf") => `(tactic| first | assumption | (refine' bstep (by assumption) ?r; case r => walk_at "bf") | fail)
local macro_rules | `(tactic| walk_at "rp") => `(tactic| first | assumption | exact Rep.int _ | exact Rep.bl _ | exact Rep.non | (refine' Rep.mono (by assumption) ?r; case r => walk_at "rp") | fail)
local macro_rules | `(tactic| walk_at "hf") => `(tactic| first | assumption | exact HS.up (by assumption) (by walk_at "bf") | exact HS.get (by assumption) List.mem_cons_self | exact HS.get (by assumption) (List.mem_cons_of_mem _ List.mem_cons_self) | exact HS.get (by assumption) (List.mem_cons_of_mem _ (List.mem_cons_of_mem _ List.mem_cons_self)) | exact HS.get (by assumption) (List.mem_cons_of_mem _ (List.mem_cons_of_mem _ (List.mem_cons_of_mem _ List.mem_cons_self))) | fail)
local macro_rules | `(tactic| walk_at "sl") => `(tactic| first | assumption | exact SqL.of (by walk_at "hf") | fail)
local macro_rules | `(tactic| walk_at "st") => `(tactic| first | assumption | exact SqT.of (by walk_at "hf") | fail)
local macro_rules | `(tactic| walk_at "sz") => `(tactic| first | assumption | (refine small_le ?_; first | assumption | omega | (simp; done) | (simp; omega)) | fail)
/-! ### law helpers: is_name, due, value, row -/
abbrev N__law_is_name : List Str := ["_law_value_here", "_law_letter"]
def t__law_is_name (K : PySem.W.Frag) (E : XK) : TS := (tSeq (tIfS (tOr (tNot (tB (tCB (rIsi K) (tCons (tVar 0) (tCons (tC (.ty "str")) tNil))))) (tOr (tTest (tOp rLtI (tCB (rLenA K) (tCons (tVar 0) tNil)) (tC (.int 1)))) (tTest (tOp rGtI (tCB (rLenA K) (tCons (tVar 0) tNil)) (tC (.int 8)))))) (tRet (tC (.bl false))) tNext)
  (tSeq (tFor (iStr (tVar 0)) (gName 1) (tIfS (tTest (tOp rNotInS (tVar 1) (tC (.str "abcdefghijklmnopqrstuvwxyz")))) (tRet (tC (.bl false))) tNext))
  (tRet (tC (.bl true)))))
def sp__law_is_name (K : PySem.W.Frag) : Sp := sp_is_name K
def dueV : Option Int → V
  | none => .non
  | some i => .int i
abbrev N__law_value : List Str := ["_law_state", "_law_deep", "_law_k", "_law_values"]
def t__law_value (K : PySem.W.Frag) (E : XK) : TS := (tSeq (tAsg (tC (.str "ann")) (gName 1))
  (tSeq (tFor (iRng1 (tCons (tC (.int 80)) tNil)) (gName 2) (tAsg (tLst (tCons (tVar 1) tNil)) (gName 1)))
  (tSeq (tAsg (tLst (tCons (tC .non) (tCons (tC (.bl true)) (tCons (tC (.bl false)) (tCons (tC (.int 0)) (tCons (tC (.int 1)) (tCons (tUn rNegI (tC (.int 1))) (tCons (tC (.int 7)) (tCons (tC (.str "")) (tCons (tC (.str "Ann")) (tCons (tC (.str "abcdefghi")) (tCons (tC (.str "an n")) (tCons (tC (.str "ann\n")) (tCons (tC (.str "ann1")) (tCons (tLst tNil) (tCons (tTup tNil) (tCons tDNewK (tCons (tLst (tCons (tC (.str "ann")) tNil)) tNil)))))))))))))))))) (gName 3))
  (tSeq (tAsg (tOp rCat (tVar 3) (tLst (tCons (tTup (tCons (tC (.str "ann")) (tCons (tC (.str "bob")) tNil))) (tCons (tTup (tCons (tC (.str "ann")) tNil)) (tCons (tDisp [((tC (.str "ann")), (tC (.int 1)))]) (tCons (tDisp [((tC (.str "ann")), (tLst (tCons (tC (.str "bob")) tNil))), ((tC (.str "bob")), (tLst (tCons (tC (.str "ann")) tNil)))]) (tCons (tVar 1) (tCons (tLst (tCons (tLst (tCons (tC (.int 1)) tNil)) (tCons (tDisp [((tC (.str "a")), (tLst tNil))]) tNil))) tNil)))))))) (gName 3))
  (tRet (tOp (rIxL K) (tVar 3) (tCl (sp__law_take K) (WE0 E) (tCons (tVar 0) (tCons (tCB (rLenA K) (tCons (tVar 3) tNil)) tNil)))))))))
def deepD : Nat → D
  | 0 => .str "ann"
  | n + 1 => .lst [deepD n]
def lawVals : List D := [.non, .bl true, .bl false, .int 0, .int 1, .int (-1), .int 7, .str "", .str "Ann", .str "abcdefghi", .str "an n", .str "ann\n", .str "ann1", .lst [], .tup [], .dct [], .lst [.str "ann"],
  .tup [.str "ann", .str "bob"], .tup [.str "ann"], .dct [(.inr "ann", .int 1)], .dct [(.inr "ann", .lst [.str "bob"]), (.inr "bob", .lst [.str "ann"])], deepD 80, .lst [.lst [.int 1], .dct [(.inr "a", .lst [])]]]
def sp__law_value (K : PySem.W.Frag) : Sp := fun vs H Q E => ∃ (p : Addr) (a b : Int) (B : Hp), vs = [.ref p] ∧ Same B H ∧ B p = none ∧ H p = some (stO a b) ∧ VSt a b ∧
  ∀ B' H' a' b' v d, HS [p] B H B' H' [(p, stO a' b')] → VSt a' b' → Rep K B' v d → d ∈ lawVals → (∀ q, v = .ref q → B q = none) → Q v H'
/-! ### rows of texts are equal -/
theorem dp_strs {K : PySem.W.Frag} {H : Hp} : ∀ xs : List Str, DpAll K H (xs.map V.str) (xs.map PyData.str)
  | [] => .nil
  | x :: r => .cons (.str x) (dp_strs r)
theorem okName_strOk {x : Str} (h : okName x = true) : PyData.strOk x = true := by
  unfold okName at h
  obtain ⟨_, h⟩ := Bool.and_eq_true_iff.mp h
  obtain ⟨_, h⟩ := Bool.and_eq_true_iff.mp h
  unfold PyData.strOk
  rw [Array.all_eq_true_iff_forall_mem]
  intro c m
  have h1 : c ∈ letters.cps.toList := of_decide_eq_true (List.all_eq_true.mp h c (Array.mem_toList_iff.mpr m))
  have h2 : ∀ c ∈ letters.cps.toList, (decide (c < 0x110000)) = true := by decide +kernel
  exact h2 c h1
theorem canLay_strs : ∀ {xs : List Str}, (∀ x ∈ xs, PyData.strOk x = true) → PyData.canLayAll0 (xs.map PyData.str) = true
  | [], _ => rfl
  | x :: r, h => by
    show (PyData.canLay0 (.str x) && PyData.canLayAll0 (r.map PyData.str)) = true
    rw [canLay_strs fun y m => h y (List.mem_cons_of_mem _ m), Bool.and_true]
    simp only [PyData.canLay0]
    exact h x List.mem_cons_self
theorem depth_strs (xs : List Str) : PyData.depthAll (xs.map PyData.str) = 0 := by
  induction xs with
  | nil => simp only [List.map_nil, PyData.depthAll]
  | cons x r ih => simp only [List.map_cons, PyData.depthAll, PyData.depth, ih, Nat.max_self]
theorem shaped_strs {xs : List Str} (h : ∀ x ∈ xs, PyData.strOk x = true) : SeqAt.shaped (.list (xs.map PyData.str)) = true := by
  unfold SeqAt.shaped
  simp only [PyData.canLay0, canLay_strs h, PyData.depth, depth_strs]
  decide
theorem eqv_strs : ∀ xs ys : List Str, PyData.eqvAll (xs.map PyData.str) (ys.map PyData.str) = decide (xs = ys)
  | [], [] => by simp [PyData.eqvAll]
  | [], _ :: _ => by simp [PyData.eqvAll]
  | _ :: _, [] => by simp [PyData.eqvAll]
  | x :: xs, y :: ys => by
    simp only [List.map_cons, PyData.eqvAll, PyData.eqv, eqv_strs xs ys]
    by_cases e : x = y <;> simp [e]
abbrev N__law_row : List Str := ["_law_actual", "_law_due_here"]
def t__law_row (K : PySem.W.Frag) (E : XK) : TS := (tRet (tAndV (tCB (rIsi K) (tCons (tVar 0) (tCons (tC (.ty "list")) tNil))) (tOp (rEqD K) (tVar 0) (tVar 1))))
def sp__law_row (K : PySem.W.Frag) : Sp := fun vs H Q E => ∃ (p q : Addr) (xs : List V) (d e : PyData) (B : Hp), vs = [.ref p, .ref q] ∧ Same B H ∧ H p = some (.lst xs) ∧ Dp K H (.ref p) d ∧ Dp K H (.ref q) e ∧ SeqAt.shaped d = true ∧ SeqAt.shaped e = true ∧ Q (.bl (PyData.eqv d e)) H
theorem pure__law_row {K : PySem.W.Frag} {vs : List V} {H : Hp} {Q : VK} {E : XK} (h : sp__law_row K vs H Q E) : t__law_row K E { nx := fun _ H' => Q .non H', rt := Q } (start N__law_row vs) H := by
  obtain ⟨p, q, xs, d, e, B, rfl, sB, hp, h1, h2, h3, h4, k⟩ := h
  show t__law_row K E _ [some (.ref p), some (.ref q)] H
  unfold t__law_row
  ((with_reducible refine x_ret ?_); (with_reducible refine x_andV ?_); (with_reducible refine x_cb ?_); (with_reducible refine x_cons ?_); ((with_reducible refine' x_var ?z148h ?_); case z148h => rfl); (with_reducible refine x_cons ?_); (with_reducible refine x_c ?_); (with_reducible refine x_nil ?_))
  refine x_isi (.base (.lst hp)) (kit_ty (show kitB "list" "list" = some true by decide +kernel)) ?_
  ((with_reducible refine x_exb ?_); (with_reducible refine x_tt _ _ ?_); (with_reducible refine x_op ?_); ((with_reducible refine' x_var ?z155h ?_); case z155h => rfl); ((with_reducible refine' x_var ?z156h ?_); case z156h => rfl))
  exact ⟨_, _, h1, h2, h3, h4, k⟩
theorem row_strs {K : PySem.W.Frag} {H B : Hp} {Q : VK} {E : XK} {p q : Addr} {xs ys : List Str} (sB : Same B H) (hp : H p = some (.lst (xs.map V.str))) (hq : H q = some (.lst (ys.map V.str))) (h1 : ∀ x ∈ xs, PyData.strOk x = true) (h2 : ∀ x ∈ ys, PyData.strOk x = true)
    (k : Q (.bl (decide (xs = ys))) H) : sp__law_row K [.ref p, .ref q] H Q E := ⟨p, q, _, _, _, B, rfl, sB, hp, .lst (SqL.of hp) (dp_strs xs), .lst (SqL.of hq) (dp_strs ys), shaped_strs h1, shaped_strs h2, by simp only [PyData.eqv, eqv_strs]; exact k⟩
end Q

set_option Elab.async false
set_option linter.all false
set_option maxRecDepth 100000
set_option maxHeartbeats 4000000
namespace Q
open PySem PySem.Spec PyProof.Rows L2
/-! ### making a group -/
theorem use_Group {K : PySem.W.Frag} {S : List Addr} {B0 H0 B H : Hp} {M : List (Addr × HO)} {Q : VK} {W : WX} {σ : L2.St} {v u : V} {dp dw : D} (hs : HS S B0 H0 B H M) (rp : Rep K B v dp) (rw_ : Rep K B u dw)
    (k : ∀ G, mkGroup dp dw = .ok G → ∀ B' H' g, Same B B' → HS S B0 H0 B' H' M → GAt K B' g G → Q (.ref g) H')
    (kp : ∀ i, mkGroup dp dw = .bp i → ∀ B' H' d, Same B B' → HS S B0 H0 B' H' M → B' d = none → H' d = some (.xd [("index", .int i)]) → W (.ref (He.ga K "BadPeople")) (some d) σ H')
    (kw : ∀ x, mkGroup dp dw = .bw x → ∀ B' H' d, Same B B' → HS S B0 H0 B' H' M → B' d = none → H' d = some (.xd [("person", .str x)]) → W (.ref (He.ga K "BadWishes")) (some d) σ H') :
    Mkd (He.ga K "Group") (sp_Group___init__ K) W σ Q [v, u] H := by
  intro x dx hx hd hne
  have sB : Same B (upd (upd H dx (.own x)) x (.ins (He.ga K "Group") dx [])) := fun b o e => by
    have e' := hs.bh _ _ e
    rw [upd_ne (ne_of_none e' hx), upd_ne (ne_of_none e' hd)]; exact e'
  refine ⟨x, v, u, B, dx, dp, dw, rfl, sB, same_none hs.bh hx, upd_same, rp, rw_, ?_⟩
  cases e : mkGroup dp dw with
  | ok G => exact fun B' H' c g => ⟨rfl, k G e B' H' x c.bb (hs.made hx hd c) g⟩
  | bp i => exact fun B' H' d c h1 h2 => kp i e B' H' d c.bb (hs.made hx hd c) h1 h2
  | bw y => exact fun B' H' d c h1 h2 => kw y e B' H' d c.bb (hs.made hx hd c) h1 h2
theorem use_people {K : PySem.W.Frag} {S : List Addr} {B0 H0 B H : Hp} {M : List (Addr × HO)} {Q : VK} {E : XK} {p : Addr} {G : Grp} (hs : HS S B0 H0 B H M) (g : GAt K B p G)
    (k : ∀ B' H' l, Same B B' → HS S B0 H0 B' H' ((l, .lst (G.names.map V.str)) :: M) → Q (.ref l) H') : sp_Group_people K [.ref p] H Q E := ⟨p, B, G, rfl, hs.bh, g, fun B' H' l c => k B' H' l c.bb (hs.callN c)⟩
theorem GAt.ins {K : PySem.W.Frag} {B : Hp} {p : Addr} {G : Grp} (h : GAt K B p G) : ∃ dx n l m q, B p = some (.ins (He.ga K "Group") dx (gf n l m q)) := by
  obtain ⟨⟨dx, n, l, m, q, h1, _⟩, _⟩ := h
  exact ⟨dx, n, l, m, q, h1⟩
theorem HS.still0 {B0 H0 B H : Hp} {p : Addr} {o : HO} {M : List (Addr × HO)} (h : HS [] B0 H0 B H ((p, o) :: M)) : ∃ B', HS [] B0 H0 B' H M ∧ Same B B' ∧ B' p = some o :=
  ⟨_, (h.still (by simp)).1, (h.still (by simp)).2, upd_same⟩
theorem okName_len {x : Str} (h : okName x = true) : x.length ≤ 1000000 := by
  unfold okName at h
  obtain ⟨_, h⟩ := Bool.and_eq_true_iff.mp h
  obtain ⟨h, _⟩ := Bool.and_eq_true_iff.mp h
  have := of_decide_eq_true h
  omega
def spLaw (K : PySem.W.Frag) : Sp := fun vs H Q _ => ∃ (a : Addr) (ns : List Int), vs = [.ref a] ∧ ns.length ≤ 63 ∧ SqL K H a (ns.map V.int) ∧ ∀ H', Q (.bl true) H'
theorem x_trL {K : PySem.W.Frag} {H : Hp} {p : Addr} {xs : List V} {R : Bool → Prop} (hp : H p = some (.lst xs)) (h : R (!xs.isEmpty)) : ∃ k, TruV K (.ref p) H k ∧ R k := ⟨_, Or.inl ⟨xs, SqL.of hp, rfl⟩, h⟩
theorem Reps.mem {K : PySem.W.Frag} {B : Hp} {vs : List V} {ds : List D} (r : Reps K B vs ds) {i : Nat} (h : i < vs.length) : ∃ d, Rep K B vs[i] d := by
  obtain ⟨d, _, h⟩ := r.get (List.getElem?_eq_getElem h)
  exact ⟨d, h⟩
end Q

set_option Elab.async false
set_option linter.all false
set_option maxRecDepth 100000
set_option maxHeartbeats 4000000
namespace Q
open PySem PySem.Spec PyProof.Rows L2
/-! ### sorted of tuples of texts, any number of them -/
def lexT : List Str → List Str → Bool
  | [], [] => false
  | [], _ :: _ => true
  | _ :: _, [] => false
  | x :: xs, y :: ys => if x = y then lexT xs ys else decide (x.cps.toList < y.cps.toList)
theorem lexT_asym : ∀ {a b : List Str}, lexT a b = true → lexT b a = false
  | [], [], _ => rfl
  | [], _ :: _, _ => rfl
  | _ :: _, [], h => by cases h
  | x :: xs, y :: ys, h => by
    unfold lexT at h ⊢
    by_cases e : x = y
    · rw [if_pos e] at h
      rw [if_pos e.symm]
      exact lexT_asym h
    · rw [if_neg e] at h
      rw [if_neg (Ne.symm e)]
      have h : ltS x y := of_decide_eq_true h
      refine decide_eq_false ?_
      show ¬ ltS y x
      exact not_ltS.mpr (ltS_iff.mp h).1
theorem lexT_tr : ∀ {a b c : List Str}, lexT a b = false → lexT b c = false → lexT a c = false
  | [], [], _, _, h2 => h2
  | [], _ :: _, _, h1, _ => by cases h1
  | _ :: _, [], [], _, _ => rfl
  | _ :: _, [], _ :: _, _, h2 => by cases h2
  | _ :: _, _ :: _, [], _, _ => rfl
  | x :: xs, y :: ys, z :: zs, h1, h2 => by
    unfold lexT at h1 h2 ⊢
    by_cases e1 : x = y
    · subst e1
      rw [if_pos rfl] at h1
      by_cases e2 : x = z
      · rw [if_pos e2] at h2 ⊢
        exact lexT_tr h1 h2
      · rw [if_neg e2] at h2 ⊢
        exact h2
    · rw [if_neg e1] at h1
      have l1 : leS y x = true := not_ltS.mp (of_decide_eq_false h1)
      by_cases e2 : y = z
      · subst e2
        rw [if_neg e1]
        exact h1
      · rw [if_neg e2] at h2
        have l2 : leS z y = true := not_ltS.mp (of_decide_eq_false h2)
        have l3 := leS_trans _ _ _ l2 l1
        by_cases e3 : x = z
        · subst e3
          exact absurd (leS_anti l1 l2) (Ne.symm e1)
        · rw [if_neg e3]
          exact decide_eq_false (not_ltS.mpr l3)
theorem lexT_anti : ∀ {a b : List Str}, lexT a b = false → lexT b a = false → a = b
  | [], [], _, _ => rfl
  | [], _ :: _, h, _ => by cases h
  | _ :: _, [], _, h => by cases h
  | x :: xs, y :: ys, h1, h2 => by
    unfold lexT at h1 h2
    by_cases e : x = y
    · rw [if_pos e] at h1
      rw [if_pos e.symm] at h2
      rw [e, lexT_anti h1 h2]
    · rw [if_neg e] at h1
      rw [if_neg (Ne.symm e)] at h2
      exact absurd (leS_anti (not_ltS.mp (of_decide_eq_false h2)) (not_ltS.mp (of_decide_eq_false h1))) e
def leT (a b : List Str) : Bool := !lexT b a
theorem leT_iff {a b : List Str} : leT a b = true ↔ lexT b a = false := by simp [leT]
theorem leT_trans (a b c : List Str) (h1 : leT a b = true) (h2 : leT b c = true) : leT a c = true := leT_iff.mpr (lexT_tr (leT_iff.mp h2) (leT_iff.mp h1))
theorem leT_total (a b : List Str) : (leT a b || leT b a) = true := by
  rw [Bool.or_eq_true, leT_iff, leT_iff]
  cases h : lexT b a with
  | false => exact .inl rfl
  | true => exact .inr (lexT_asym h)
theorem leT_anti {a b : List Str} (h1 : leT a b = true) (h2 : leT b a = true) : a = b := lexT_anti (leT_iff.mp h2) (leT_iff.mp h1)
def sortT (l : List (List Str)) : List (List Str) := l.mergeSort leT
theorem sortT_perm (l : List (List Str)) : (sortT l).Perm l := List.mergeSort_perm l leT
theorem sortT_pw (l : List (List Str)) : (sortT l).Pairwise (fun a b => leT a b = true) := List.pairwise_mergeSort leT_trans leT_total l
theorem sortT_eq {l m : List (List Str)} (p : m.Perm l) (s : m.Pairwise (fun a b => leT a b = true)) : m = sortT l :=
  List.Perm.eq_of_pairwise (fun _ _ _ _ h1 h2 => leT_anti h1 h2) s (sortT_pw l) (p.trans (sortT_perm l).symm)
theorem swoT (k : Value → List Str) : SrtO.Swo fun v u => lexT (k v) (k u) := ⟨fun _ _ h => lexT_asym h, fun _ _ _ h1 h2 => lexT_tr h2 h1⟩
theorem swoTV (k : V → List Str) : SrtO.Swo fun v u => lexT (k v) (k u) := ⟨fun _ _ h => lexT_asym h, fun _ _ _ h1 h2 => lexT_tr h2 h1⟩
def IsTx (h : Heap) (v : Value) (ks : List Str) : Prop := ∃ a o n us, v = .ref a ∧ h.get? a = some o ∧ o.cls = .type "tuple" ∧ o.data = .seq (List.toArray us) n ∧ Vals (ks.map V.str) us
theorem IsTx.keeps {h h' : Heap} {v : Value} {ks : List Str} (p : IsTx h v ks) (k : ∀ b o, h.get? b = some o → o.cls = .type "tuple" → h'.get? b = some o) : IsTx h' v ks := by
  obtain ⟨a, o, n, us, e, ho, hc, hd, r⟩ := p
  exact ⟨a, o, n, us, e, k _ _ ho hc, hc, hd, r⟩
section
variable {prog : Program} {w : World} {A : Around} {E : Value → Shared → Prop} {s : Shared}
theorem kat_txt {Q : Bool → Shared → Prop} : ∀ {xs ys : List Str} {us ws : List Value} {fin : Bool} (i : Nat), Vals (xs.map V.str) us → Vals (ys.map V.str) ws → fin = decide (xs.length < ys.length) → Q (lexT xs ys) s → PySem.W.KatLex prog w A true fin Q (us.zip ws) i s
  | [], [], us, ws, fin, i, r1, r2, e, q => by
    cases r1
    cases r2
    rw [e]
    exact PySem.W.kat_nil q
  | [], y :: ys, us, ws, fin, i, r1, r2, e, q => by
    cases r1
    rw [e]
    have : (([] : List Value).zip ws) = [] := by simp
    rw [this]
    refine PySem.W.kat_nil ?_
    have e2 : decide (([] : List Str).length < (y :: ys).length) = true := by simp
    rw [e2]
    exact q
  | x :: xs, [], us, ws, fin, i, r1, r2, e, q => by
    cases r2
    rw [e]
    have : (us.zip ([] : List Value)) = [] := by simp
    rw [this]
    refine PySem.W.kat_nil ?_
    have e2 : decide ((x :: xs).length < ([] : List Str).length) = false := by simp
    rw [e2]
    exact q
  | x :: xs, y :: ys, us, ws, fin, i, r1, r2, e, q => by
    cases r1 with
    | @cons _ u _ us' ra r1 =>
      cases r2 with
      | @cons _ v _ ws' rb r2 =>
        obtain ⟨t, rfl⟩ := ra
        obtain ⟨t', rfl⟩ := rb
        show PySem.W.KatLex prog w A true fin Q ((.str x t, .str y t') :: us'.zip ws') i s
        refine PySem.W.kat_cons (SeqAt.EqAt.str_str x t y t' prog w _ _ ?_)
        unfold lexT at q
        refine PySem.W.kat_go (fun e1 => ?_) (fun e1 => ?_)
        · have ex : x = y := by simpa using e1
          rw [if_pos ex] at q
          exact PySem.W.kat_yes (kat_txt (i + 1) r1 r2 (by rw [e]; simp) q)
        · have ex : ¬ x = y := by simpa using e1
          rw [if_neg ex] at q
          refine PySem.W.kat_no ?_
          cases hb : (true && i == 0) with
          | true => exact oneLt_str q
          | false => exact PySem.W.kat_one _ _ (PyProof.Rows.lt_str q)
theorem tx_cmp {vs : List Value} {k : Value → List Str} (hp : ∀ v ∈ vs, IsTx s.heap v (k v)) : SrtO.Cmp prog w A s (tuples' true) (fun p => p.1 ∈ vs) (SrtO.lt2 fun v u => lexT (k v) (k u)) := by
  intro p q hm hm'
  show wpAny (model prog w) A (keyLt' (tuples' true) p.1 q.1) (fun r s' => s' = s ∧ r = lexT (k p.1) (k q.1)) (fun _ _ => False) s
  have h1 := hp _ hm
  have h2 := hp _ hm'
  generalize k p.1 = x at h1 ⊢
  generalize k q.1 = y at h2 ⊢
  obtain ⟨a, o, n, us, e, ho, hc, hd, r⟩ := h1
  obtain ⟨a', o', n', us', e', ho', hc', hd', r'⟩ := h2
  rw [e, e']
  refine PySem.W.kat_lt ho hd ho' hd' ?_
  refine kat_txt 0 (by simpa using r) (by simpa using r') ?_ ⟨rfl, rfl⟩
  have l1 := r.length
  have l2 := r'.length
  rw [List.length_map] at l1 l2
  simp [l1, l2]
theorem firsts_tx {h : Heap} {k : Value → List Str} : ∀ {vs : List Value}, (∀ v ∈ vs, IsTx h v (k v) ∧ k v ≠ []) → ∃ fs : List Value, PySem.W.KatTups h vs fs ∧ fs.length = vs.length ∧ ∀ f ∈ fs, ∃ x t, f = Value.str x t
  | [], _ => ⟨[], PySem.W.KatTups.nil, rfl, fun _ hm => by simp at hm⟩
  | v :: vs, hp => by
    obtain ⟨fs, h1, h2, h3⟩ := firsts_tx (vs := vs) fun v' hm => hp v' (List.mem_cons_of_mem _ hm)
    obtain ⟨⟨a, o, n, us, e, ho, hc, hd, r⟩, hne⟩ := hp v (List.mem_cons_self ..)
    generalize k v = ks at r hne
    subst e
    cases ks with
    | nil => exact absurd rfl hne
    | cons x xs =>
      cases r with
      | cons ra r =>
        obtain ⟨t, rfl⟩ := ra
        refine ⟨.str x t :: fs, PySem.W.KatTups.cons ho hc hd rfl h1, by rw [List.length_cons, List.length_cons, h2], fun f hm => ?_⟩
        rcases List.mem_cons.mp hm with rfl | hm
        · exact ⟨x, t, rfl⟩
        · exact h3 f hm
theorem tx_sortable {a : Addr} {vs : List Value} {k : Value → List Str} (h0 : 0 < vs.length) (hp : ∀ v ∈ vs, IsTx s.heap v (k v) ∧ k v ≠ []) (ha : ∀ o, s.heap.get? a = some o → o.cls ≠ .type "tuple") : SrtO.SortableO prog w A s a vs fun v u => lexT (k v) (k u) := by
  intro h' keep
  have hp' : ∀ v ∈ vs, IsTx h' v (k v) ∧ k v ≠ [] := fun v hm => ⟨(hp v hm).1.keeps fun b o e c => keep b o (fun z => by subst z; exact ha o e c) e, (hp v hm).2⟩
  obtain ⟨fs, h1, h2, h3⟩ := firsts_tx hp'
  refine ⟨tuples' true, fun Q E hq => ?_, tx_cmp fun v hm => (hp' v hm).1⟩
  refine PySem.W.kat_kind (T := .type "str") h1 (by omega) (fun f hm => ?_) (by rfl) ?_
  · obtain ⟨x, t, rfl⟩ := h3 f hm
    exact PySem.W.Looks.now
  · have e : (Value.type "str" != Value.type "tuple") = true := by first | decide +kernel | rfl | decide
    rw [e]
    exact hq
theorem sorted_tx {l : Addr} {vs : List Value} {k : Value → List Str} {Q : Value → Shared → Prop} (hl : s.heap.IsList l vs.toArray) (hz : vs.length ≤ sizeLine) (hp : ∀ v ∈ vs, IsTx s.heap v (k v) ∧ k v ≠ [])
    (h : ∀ (h' : Heap) (d : Addr) (out : List Value), SrtO.Srtd (fun v u => lexT (k v) (k u)) out → SrtO.Stb (fun v u => lexT (k v) (k u)) out vs → (∀ b o, s.heap.get? b = some o → h'.get? b = some o) → s.heap.objs.size ≤ d → (∃ n, h'.get? d = some (seqObj "list" out.toArray n)) → Q (.ref d) { s with heap := h' }) :
    wpAny (model prog w) A (call (.builtin "sorted") [.ref l]) Q E s := by
  refine SrtO.sorted_ord (swoT k) hl hz (fun h2 h₁ a ha kk => ?_) fun out hs hb => ?_
  · refine tx_sortable (s := { s with heap := h₁ }) (by omega) (fun v hm => ⟨(hp v hm).1.keeps fun b o e _ => (kk b o e).2, (hp v hm).2⟩) fun o e => ?_
    have e' : some o = some (seqObj "list" vs.toArray 0) := e.symm.trans ha
    cases e'
    intro c
    exact absurd (Value.type.inj c) (by decide)
  · exact h _ _ out hs hb (fun b o e => sortedAll_old e) (Nat.le_succ _) (sortedAll_at s.heap vs out.toArray)
end
def rSortTx (K : PySem.W.Frag) : List V → Hp → VK → Prop := fun vs H Q => ∃ (a : Addr) (xs : List V) (k : V → List Str), vs = [V.ref a] ∧ SqL K H a xs ∧ (∀ x ∈ xs, (∃ t, x = V.ref t ∧ H t = some (.tup ((k x).map V.str))) ∧ k x ≠ []) ∧
  ∀ ys p, ys.Perm xs → ys.map k = sortT (xs.map k) → H p = none → Q (.ref p) (upd H p (.lst ys))
theorem cSortTx {X : Cx} : CallR X (.builtin "sorted") (rSortTx X.K) := by
  intro pins s σ H vs us Q I r h
  obtain ⟨a, xs, k, rfl, hs, hx, q⟩ := h
  obtain ⟨its, rv, hl, hz⟩ := I.list hs
  obtain ⟨u, rfl, ru⟩ := vals1 r
  obtain rfl : u = Value.ref a := ru
  obtain ⟨e1, e2⟩ := refs_back rv fun x m => by
    obtain ⟨⟨t, e, _⟩, _⟩ := hx x m
    exact ⟨t, e⟩
  refine sorted_tx (k := fun u => k (backV u)) hl.isList (by rw [← rv.length]; exact hz) (fun v hv => ?_) fun h' d out h1 h2 kp hd hn => ?_
  · obtain ⟨t, rfl⟩ := e2 v hv
    have hm : V.ref t ∈ xs := by rw [e1]; exact List.mem_map.mpr ⟨_, hv, rfl⟩
    obtain ⟨⟨t', e, ht⟩, hne⟩ := hx _ hm
    cases e
    obtain ⟨_, its2, r2, o, ho, hc, n, hd⟩ := I.hok _ _ ht
    exact ⟨⟨t, o, n, its2, rfl, ho, hc, hd, r2⟩, hne⟩
  · have h3 : ∀ u ∈ out, ∃ a, u = Value.ref a := fun u hu => e2 u (h2.perm.mem_iff.mp hu)
    obtain ⟨n, hn⟩ := hn
    have hb : SrtO.Stb (fun x y => lexT (k x) (k y)) (out.map backV) xs := by
      rw [e1]
      exact SrtO.Stb.map (swoTV k) backV h2
    have hsr : SrtO.Srtd (fun x y => lexT (k x) (k y)) (out.map backV) := SrtO.srtd_map h1
    refine ⟨.ref d, upd H d (.lst (out.map backV)), I.laid (t' := s.toks) kp hd ⟨?_, out, n, vals_back h3, hn⟩, rfl, q _ d hb.perm ?_ (I.hok.fresh hd)⟩
    · rw [hb.len]
      exact hz
    · refine sortT_eq (hb.perm.map k) ?_
      rw [List.pairwise_map]
      exact List.Pairwise.imp (fun h => leT_iff.mpr h) hsr
end Q

set_option Elab.async false
set_option linter.all false
set_option maxRecDepth 100000
set_option maxHeartbeats 4000000
namespace Q
open PySem PySem.Spec PyProof.Rows L2
/-! ### the operators of one's own class: in, not in, [], len -/
def rInG (C : Addr) (sp : Sp) : R2 := fun x y H Q => ∃ a dx fs, y = .ref a ∧ H a = some (.ins C dx fs) ∧ sp [.ref a, x] H (fun v H' => ∃ b, v = .bl b ∧ Q (.bl b) H') fun _ _ _ => False
def rNotInG (C : Addr) (sp : Sp) : R2 := fun x y H Q => ∃ a dx fs, y = .ref a ∧ H a = some (.ins C dx fs) ∧ sp [.ref a, x] H (fun v H' => ∃ b, v = .bl b ∧ Q (.bl (!b)) H') fun _ _ _ => False
def tGetG (C : Addr) (sp : Sp) (W : WX) (ta ti : TE) : TE := fun σ H Q => ta σ H fun x H1 => ti σ H1 fun y H2 => ∃ a dx fs, x = .ref a ∧ H2 a = some (.ins C dx fs) ∧ sp [x, y] H2 Q fun c d H' => W c d σ H'
def rLenO (C : Addr) (sp : Sp) : List V → Hp → VK → Prop := fun xs H Q => ∃ a dx fs, xs = [V.ref a] ∧ H a = some (.ins C dx fs) ∧ sp [.ref a] H (fun v H' => ∃ n : Nat, v = .int (n : Nat) ∧ n ≤ 1000000 ∧ Q (.int (n : Nat)) H') fun _ _ _ => False
/-- a method whose function is a def of the text -/
def MtI (P : Program) (w : World) (K : PySem.W.Frag) (mg : Str → Option Value) (base : Heap) (k : Nat) (c m : Str) (ps : List Str) (sp : Sp) : Prop :=
  ∃ f fd, Cls K (He.ga K c) ∧ Meth K (He.ga K c) m f ∧ Binds K fd ps [] ∧ FnOk P w K mg base (L2.CX P w) k f fd ps sp ∧ PySem.W.fnIn K f = true
theorem FunD.fnIn {K : PySem.W.Frag} {x qual : Str} {params : Arguments} {body : List Stmt} {scope : Scope} {dvs : List V} {kws : List (Str × V)} {f : Addr} {fd : FuncData} (F : FunD K x qual params body scope dvs kws f fd) : PySem.W.fnIn K f = true := by
  obtain ⟨oc, od, dV, kV, doc, pm, an, cdv, ct, osl, e, lk, _⟩ := F.ex
  unfold PySem.W.fnIn
  rw [lk]
section
variable {X : Cx} {k j : Nat} {c : Str} {ps : List Str} {sp : Sp} {W : WX} {o i : Expr} {ta ti : TE} {pos : Pos}
end
end Q

set_option Elab.async false
set_option linter.all false
set_option maxRecDepth 100000
set_option maxHeartbeats 4000000
namespace Q
open PySem PySem.Spec PyProof.Rows L2
local macro_rules | `(tactic| walk_at "bf") => `(tactic| first | assumption | (refine' bstep (by assumption) ?r; case r => walk_at "bf") | fail)
local macro_rules | `(tactic| walk_at "rp") => `(tactic| first | assumption | exact Rep.int _ | exact Rep.bl _ | exact Rep.non | (refine' Rep.mono (by assumption) ?r; case r => walk_at "rp") | fail)
local macro_rules | `(tactic| walk_at "hf") => `(tactic| first | assumption | exact HS.up (by assumption) (by walk_at "bf") | exact HS.get (by assumption) List.mem_cons_self | exact HS.get (by assumption) (List.mem_cons_of_mem _ List.mem_cons_self) | exact HS.get (by assumption) (List.mem_cons_of_mem _ (List.mem_cons_of_mem _ List.mem_cons_self)) | exact HS.get (by assumption) (List.mem_cons_of_mem _ (List.mem_cons_of_mem _ (List.mem_cons_of_mem _ List.mem_cons_self))) | fail)
local macro_rules | `(tactic| walk_at "sl") => `(tactic| first | assumption | exact SqL.of (by walk_at "hf") | fail)
local macro_rules | `(tactic| walk_at "st") => `(tactic| first | assumption | exact SqT.of (by walk_at "hf") | fail)
local macro_rules | `(tactic| walk_at "sz") => `(tactic| first | assumption | (refine small_le ?_; first | assumption | omega | (simp; done) | (simp; omega)) | fail)
/-! ### slices of texts' rows -/
theorem cutV_fromS {xs : List Str} {m : Int} {i : Nat} (e : m = i) : cutV (xs.map V.str) (some m) none = (xs.drop i).map V.str := by
  subst e
  unfold cutV
  rw [HT.sIx_nat, HT.sIx_none, List.length_map, ← List.map_drop, ← List.map_take]
  congr 1
  rw [List.take_of_length_le (by rw [List.length_drop]; omega)]
  by_cases h : i ≤ xs.length
  · rw [Nat.min_eq_left h]
  · rw [Nat.min_eq_right (by omega), List.drop_length, List.drop_of_length_le (by omega)]
theorem cutV_toS {xs : List Str} {m : Int} {i : Nat} (e : m = i) : cutV (xs.map V.str) none (some m) = (xs.take i).map V.str := by
  subst e
  unfold cutV
  rw [HT.sIx_nat, HT.sIx_none, List.length_map, List.drop_zero, Nat.sub_zero, ← List.map_take]
  congr 1
  by_cases h : i ≤ xs.length
  · rw [Nat.min_eq_left h]
  · rw [Nat.min_eq_right (by omega), List.take_length, List.take_of_length_le (by omega)]
theorem eraseIdx_mapS : ∀ (xs : List Str) (i : Nat), (xs.map V.str).eraseIdx i = (xs.eraseIdx i).map V.str
  | [], _ => by simp
  | _ :: _, 0 => by simp
  | x :: r, i + 1 => by simp [eraseIdx_mapS r i]
theorem seqIndex_nat {n m : Nat} (h : m < n) : seqIndex? (m : Int) n = some m := by
  unfold seqIndex?
  simp only
  rw [if_neg (show ¬ (m : Int) < 0 by omega)]
  rw [if_pos (by simp; omega)]
  simp
theorem perm_erase {α : Type} : ∀ {l : List α} {i : Nat} (h : i < l.length), (l[i] :: l.eraseIdx i).Perm l
  | _ :: _, 0, _ => List.Perm.refl _
  | x :: r, i + 1, h => by
    have ih := perm_erase (l := r) (i := i) (by simpa using h)
    simp only [List.getElem_cons_succ, List.eraseIdx_cons_succ]
    exact (List.Perm.swap _ _ _).trans (List.Perm.cons x ih)
/-! ### a row in a drawn order -/
abbrev N__law_mixed : List Str := ["_law_state", "_law_items", "_law_pool", "_law_row_here", "_law_k"]
def t__law_mixed (K : PySem.W.Frag) (E : XK) : TS := (tSeq (tAsg (tCB (rListOf K) (tCons (tVar 1) tNil)) (gName 2))
  (tSeq (tAsg (tLst tNil) (gName 3))
  (tSeq (tFor (iRng1 (tCons (tCB (rLenA K) (tCons (tVar 1) tNil)) tNil)) (gName 4) (tDrop (tBM K "list" rAppend (tVar 3) (tCons (tBM K "list" rPopAt (tVar 2) (tCons (tCl (sp__law_take K) (WE0 E) (tCons (tVar 0) (tCons (tCB (rLenA K) (tCons (tVar 2) tNil)) tNil))) tNil)) tNil))))
  (tRet (tVar 3)))))
def sp__law_mixed (K : PySem.W.Frag) : Sp := fun vs H Q E => ∃ (p t : Addr) (a b : Int) (xs : List Str) (B : Hp), vs = [.ref p, .ref t] ∧ Same B H ∧ B p = none ∧ H p = some (stO a b) ∧ VSt a b ∧ B t = some (.lst (xs.map V.str)) ∧ xs.length ≤ 100 ∧
  ∀ B' H' a' b' l (ys : List Str), HS [p] B H B' H' [(p, stO a' b'), (l, .lst (ys.map V.str))] → VSt a' b' → ys.Perm xs → Q (.ref l) H'
theorem pure__law_mixed {K : PySem.W.Frag} {vs : List V} {H : Hp} {Q : VK} {E : XK} (h : sp__law_mixed K vs H Q E) : t__law_mixed K E { nx := fun _ H' => Q .non H', rt := Q } (start N__law_mixed vs) H := by
  obtain ⟨p, t, a, b, xs, B, rfl, sB, bp, hp, hv, ht, hl, k⟩ := h
  have hs := HS.startS sB bp hp
  show t__law_mixed K E _ [some (.ref p), some (.ref t), none, none, none] H
  unfold t__law_mixed
  ((with_reducible refine x_seq ?_); (with_reducible refine x_asg ?_); (with_reducible refine x_cb ?_); (with_reducible refine x_cons ?_); ((with_reducible refine' x_var ?z5h ?_); case z5h => rfl); (with_reducible refine x_nil ?_); ((with_reducible refine' x_listL ?z7h ?_); case z7h => walk_at "sl"))
  refine new_M hs (fun po H1 hs1 _ => ?_)
  (((with_reducible refine x_gname ?_); try simp only [List.set_cons_zero, List.set_cons_succ]); (with_reducible refine x_seq ?_); (with_reducible refine x_asg ?_); (with_reducible refine x_lst ?_); (with_reducible refine x_nil ?_); ((with_reducible refine' x_newL ?z13h ?_); case z13h => first | exact Nat.zero_le _ | (simp; done) | (simp; omega)))
  refine new_M hs1 (fun ro H2 hs2 _ => ?_)
  (((with_reducible refine x_gname ?_); try simp only [List.set_cons_zero, List.set_cons_succ]); (with_reducible refine x_seq ?_); (with_reducible refine x_for ?_); (with_reducible refine x_iRng1 ?_); (with_reducible refine x_cons ?_); (with_reducible refine x_cb ?_); (with_reducible refine x_cons ?_); ((with_reducible refine' x_var ?z21h ?_); case z21h => rfl); (with_reducible refine x_nil ?_); ((with_reducible refine' x_lenL ?z23h ?_); case z23h => walk_at "sl"); (with_reducible refine x_nil ?_))
  refine ⟨_, rfl, by rw [List.length_map]; omega, by rw [List.length_map]; omega, ?_⟩
  have en : (((xs.map V.str).length : Nat) : Int).toNat = xs.length := by rw [List.length_map]; omega
  rw [en]
  have hs3 : HS [p] B H B H2 [(p, stO a b), (po, .lst (xs.map V.str)), (ro, .lst (([] : List Str).map V.str))] := hs2.perm ((List.Perm.cons _ (List.Perm.swap _ _ _)).trans ((List.Perm.swap _ _ _).trans (List.Perm.cons _ (List.Perm.swap _ _ _))))
  refine l_range (α := (Int × Int) × (List Str × List Str) × Option V) (σf := fun s => [some (.ref p), some (.ref t), some (.ref po), some (.ref ro), s.2.2]) (Mf := fun s => [(p, stO s.1.1 s.1.2), (po, .lst (s.2.1.1.map V.str)), (ro, .lst (s.2.1.2.map V.str))])
    (P := fun i s _ => VSt s.1.1 s.1.2 ∧ s.2.1.2.length = i ∧ (s.2.1.2 ++ s.2.1.1).Perm xs) (s0 := ((a, b), (xs, []), none)) hs3 ⟨hv, rfl, List.Perm.refl _⟩ (fun i s B1 H1 hi sb1 hs1 pp => ?_) (fun s B1 H1 sb1 hs1 pp => ?_)
  · obtain ⟨⟨a1, b1⟩, ⟨rest, done⟩, s3⟩ := s
    obtain ⟨hv1, hl1, hp1⟩ := pp
    dsimp only at hs1 hv1 hl1 hp1 ⊢
    have hlen := hp1.length_eq
    rw [List.length_append] at hlen
    (((with_reducible refine x_gname ?_); try simp only [List.set_cons_zero, List.set_cons_succ]); (with_reducible refine x_drop ?_); (with_reducible refine x_bm ?_); ((with_reducible refine' x_var ?z28h ?_); case z28h => rfl); ((with_reducible refine' x_tyL ?z29h ?_); case z29h => walk_at "sl"); (with_reducible refine x_cons ?_); (with_reducible refine x_bm ?_); ((with_reducible refine' x_var ?z32h ?_); case z32h => rfl); ((with_reducible refine' x_tyL ?z33h ?_); case z33h => walk_at "sl"); (with_reducible refine x_cons ?_); (with_reducible refine x_cl ?_); (with_reducible refine x_cons ?_); ((with_reducible refine' x_var ?z37h ?_); case z37h => rfl); (with_reducible refine x_cons ?_); (with_reducible refine x_cb ?_); (with_reducible refine x_cons ?_); ((with_reducible refine' x_var ?z41h ?_); case z41h => rfl); (with_reducible refine x_nil ?_); ((with_reducible refine' x_lenL ?z43h ?_); case z43h => walk_at "sl"); (with_reducible refine x_nil ?_))
    try refine x_tyL (SqL.of (hs1.get (List.mem_cons_of_mem _ (List.mem_cons_of_mem _ List.mem_cons_self)))) ?_
    skip
    try refine x_tyL (SqL.of (hs1.get (List.mem_cons_of_mem _ List.mem_cons_self))) ?_
    skip
    try refine x_lenL (SqL.of (hs1.get (List.mem_cons_of_mem _ List.mem_cons_self))) ?_
    skip
    refine use_take hs1 hv1 (by rw [List.length_map]; omega) (by rw [List.length_map]; omega) (fun B2 H2 a2 b2 m sb2 hs2 hv2 hm => ?_)
    rw [List.length_map] at hm
    have hm' : m < rest.length := by omega
    (with_reducible refine x_nil ?_)
    refine x_popAt (y := .str rest[m]) hs2.swap (by omega) (by omega) (seqIndex_nat (by rw [List.length_map]; exact hm')) (by rw [List.getElem?_map, List.getElem?_eq_getElem hm']; rfl) (fun H3 hs3 => ?_)
    rw [eraseIdx_mapS] at hs3
    (with_reducible refine x_nil ?_)
    refine x_append hs3.rot3 (by rw [List.length_map]; omega) (fun H4 hs4 => ?_)
    have hs5 := hs4.unrot3.swap
    refine ⟨((a2, b2), (rest.eraseIdx m, done ++ [rest[m]]), some _), B2, rfl, sb1.trans sb2, by simpa using hs5, hv2, by simp [hl1], ?_⟩
    have e1 : (done ++ [rest[m]] ++ rest.eraseIdx m) = done ++ (rest[m] :: rest.eraseIdx m) := by simp
    dsimp only
    rw [e1]
    exact ((List.Perm.refl done).append (perm_erase hm')).trans hp1
  · obtain ⟨⟨a1, b1⟩, ⟨rest, done⟩, s3⟩ := s
    obtain ⟨hv1, hl1, hp1⟩ := pp
    dsimp only at hs1 hv1 hl1 hp1 ⊢
    have hlen := hp1.length_eq
    rw [List.length_append] at hlen
    have hr : rest = [] := List.length_eq_zero_iff.mp (by omega)
    rw [hr, List.append_nil] at hp1
    ((with_reducible refine x_ret ?_); ((with_reducible refine' x_var ?z48h ?_); case z48h => rfl))
    exact k B1 H1 a1 b1 ro done (hs1.swap.drop) hv1 hp1
theorem use_mixed {K : PySem.W.Frag} {S : List Addr} {B0 H0 B H : Hp} {M : List (Addr × HO)} {Q : VK} {E : XK} {p t : Addr} {a b : Int} {xs : List Str} (hs : HS S B0 H0 B H ((p, stO a b) :: M)) (v : VSt a b) (ht : B t = some (.lst (xs.map V.str))) (hl : xs.length ≤ 100)
    (k : ∀ B' H' a' b' l (ys : List Str), Same B B' → HS S B0 H0 B' H' ((p, stO a' b') :: (l, .lst (ys.map V.str)) :: M) → VSt a' b' → ys.Perm xs → Q (.ref l) H') : sp__law_mixed K [.ref p, .ref t] H Q E :=
  ⟨p, t, a, b, xs, B, rfl, hs.bh, (hs.mu _ List.mem_cons_self).1, hs.get List.mem_cons_self, v, ht, hl, fun B' H' a' b' l ys c v' h1 => k B' H' a' b' l ys c.bb (hs.call1N c) v' h1⟩
/-- the same, and the row stands still from now on -/
theorem HS.stillN {p q : Addr} {o u : HO} {M : List (Addr × HO)} {S : List Addr} {B0 H0 B H : Hp} (h : HS S B0 H0 B H ((p, o) :: (q, u) :: M)) (hq : q ∉ S) : ∃ B', HS S B0 H0 B' H ((p, o) :: M) ∧ Same B B' ∧ B' q = some u := by
  obtain ⟨h1, h2⟩ := h.swap.still hq
  exact ⟨_, h1, h2, upd_same⟩
abbrev N__law_others : List Str := ["_law_names_here", "_law_a", "_law_b"]
def t__law_others (K : PySem.W.Frag) (E : XK) : TS := (tRet (tLc (iList K (tVar 0)) (gName 2) (tTest (tOp rNe (tVar 2) (tVar 1))) (tVar 2) [2]))
def sp__law_others (K : PySem.W.Frag) : Sp := fun vs H Q E => ∃ (t : Addr) (x : Str) (xs : List Str) (B : Hp), vs = [.ref t, .str x] ∧ Same B H ∧ B t = some (.lst (xs.map V.str)) ∧ xs.length ≤ 1000 ∧
  ∀ B' H' l, HS [] B H B' H' [(l, .lst ((xs.filter fun y => !decide (y = x)).map V.str))] → Q (.ref l) H'
end Q

set_option Elab.async false
set_option linter.all false
set_option maxRecDepth 100000
set_option maxHeartbeats 4000000
namespace Q
open PySem PySem.Spec PyProof.Rows L2
local macro_rules | `(tactic| walk_at "bf") => `(tactic| first | assumption | (refine' bstep (by assumption) ?r; case r => walk_at "bf") | fail)
local macro_rules | `(tactic| walk_at "rp") => `(tactic| first | assumption | exact Rep.int _ | exact Rep.bl _ | exact Rep.non | (refine' Rep.mono (by assumption) ?r; case r => walk_at "rp") | fail)
local macro_rules | `(tactic| walk_at "hf") => `(tactic| first | assumption | exact HS.up (by assumption) (by walk_at "bf") | exact HS.get (by assumption) List.mem_cons_self | exact HS.get (by assumption) (List.mem_cons_of_mem _ List.mem_cons_self) | exact HS.get (by assumption) (List.mem_cons_of_mem _ (List.mem_cons_of_mem _ List.mem_cons_self)) | exact HS.get (by assumption) (List.mem_cons_of_mem _ (List.mem_cons_of_mem _ (List.mem_cons_of_mem _ List.mem_cons_self))) | fail)
local macro_rules | `(tactic| walk_at "sl") => `(tactic| first | assumption | exact SqL.of (by walk_at "hf") | fail)
local macro_rules | `(tactic| walk_at "st") => `(tactic| first | assumption | exact SqT.of (by walk_at "hf") | fail)
local macro_rules | `(tactic| walk_at "sz") => `(tactic| first | assumption | (refine small_le ?_; first | assumption | omega | (simp; done) | (simp; omega)) | fail)
/-! ### wishes that are drawn -/
def RowOk (names : List Str) (p : Str) (row : List Str) : Prop := row.Nodup ∧ p ∉ row ∧ ∀ q ∈ row, q ∈ names
theorem RowOk.perm {names row row' : List Str} {p : Str} (h : RowOk names p row) (e : row'.Perm row) : RowOk names p row' := ⟨e.nodup_iff.mpr h.1, fun m => h.2.1 (e.mem_iff.mp m), fun q m => h.2.2 q (e.mem_iff.mp m)⟩
theorem RowOk.take {names row : List Str} {p : Str} (h : RowOk names p row) (n : Nat) : RowOk names p (row.take n) := ⟨h.1.sublist (List.take_sublist n row), fun m => h.2.1 (List.mem_of_mem_take m), fun q m => h.2.2 q (List.mem_of_mem_take m)⟩
theorem RowOk.len {names row : List Str} {p : Str} (h : RowOk names p row) : row.length ≤ names.length := nodup_len h.1 h.2.2
def WRows (B : Hp) (names done : List Str) (kvs : List (Key × V)) : Prop := ∃ al : List Addr, al.length = done.length ∧ kvs = zipK done al ∧ ∀ (j : Nat) p a, done[j]? = some p → al[j]? = some a → ∃ row : List Str, B a = some (.lst (row.map V.str)) ∧ RowOk names p row
theorem WRows.nil {B : Hp} {names : List Str} : WRows B names [] [] := ⟨[], rfl, rfl, by simp⟩
theorem WRows.mono {B B' : Hp} {names done : List Str} {kvs : List (Key × V)} (s : Same B B') (h : WRows B names done kvs) : WRows B' names done kvs := by
  obtain ⟨al, h1, h2, h3⟩ := h
  refine ⟨al, h1, h2, fun j p a e1 e2 => ?_⟩
  obtain ⟨row, q1, q2⟩ := h3 j p a e1 e2
  exact ⟨row, s _ _ q1, q2⟩
theorem WRows.len {B : Hp} {names done : List Str} {kvs : List (Key × V)} (h : WRows B names done kvs) : kvs.length = done.length := by
  obtain ⟨al, h1, h2, h3⟩ := h
  rw [h2]
  unfold zipK
  rw [List.length_map, List.length_zip, h1, Nat.min_self]
theorem WRows.keys {B : Hp} {names done : List Str} {kvs : List (Key × V)} (h : WRows B names done kvs) : kvs.map (·.1) = done.map Sum.inr := by
  obtain ⟨al, h1, h2, h3⟩ := h
  rw [h2]
  exact zipK_keys h1
theorem WRows.snoc {B : Hp} {names done : List Str} {kvs : List (Key × V)} {x : Str} {a : Addr} {row : List Str} (h : WRows B names done kvs) (hx : x ∉ done) (e : B a = some (.lst (row.map V.str))) (ok : RowOk names x row) : WRows B names (done ++ [x]) (putK kvs (.inr x) (.ref a)) := by
  have hk := h.keys
  obtain ⟨al, h1, h2, h3⟩ := h
  refine ⟨al ++ [a], by simp [h1], ?_, fun j p b e1 e2 => ?_⟩
  · rw [putK_new (valV_none_keys ?_), h2, zipK_snoc h1]
    rw [hk]
    intro z
    obtain ⟨y, hy, q⟩ := List.mem_map.mp z
    have := Sum.inr.inj q
    subst this
    exact hx hy
  · by_cases hj : j < done.length
    · rw [List.getElem?_append_left hj] at e1
      rw [List.getElem?_append_left (by omega)] at e2
      exact h3 j p b e1 e2
    · rw [List.getElem?_append_right (by omega)] at e1 e2
      have hj0 : j - done.length = 0 := by
        by_cases z : j - done.length = 0
        · exact z
        · rw [List.getElem?_eq_none (by simp; omega)] at e1; cases e1
      rw [h1] at e2
      rw [hj0] at e1 e2
      cases e1
      cases e2
      exact ⟨row, e, ok⟩
theorem zipK_over {x : Str} {a : Addr} : ∀ {xs : List Str} {al : List Addr} {j : Nat}, al.length = xs.length → xs.Nodup → xs[j]? = some x → (zipK xs al).map (fun q => if q.1 = (Sum.inr x : Key) then (q.1, V.ref a) else q) = zipK xs (al.set j a)
  | [], _, _, _, _, e => by simp at e
  | y :: r, [], _, h, _, _ => by simp at h
  | y :: r, b :: al, 0, h, nd, e => by
    have e : y = x := by simpa using e
    subst e
    rw [List.nodup_cons] at nd
    show (if (Sum.inr y : Key) = Sum.inr y then ((Sum.inr y : Key), V.ref a) else ((Sum.inr y : Key), V.ref b)) :: (zipK r al).map _ = _
    rw [if_pos rfl]
    show _ = (Sum.inr y, V.ref a) :: zipK r al
    congr 1
    have : ∀ q ∈ zipK r al, (if q.1 = (Sum.inr y : Key) then (q.1, V.ref a) else q) = q := fun q m => by
      unfold zipK at m
      obtain ⟨z, hz, rfl⟩ := List.mem_map.mp m
      have : z.1 ∈ r := (List.of_mem_zip hz).1
      rw [if_neg (fun e => nd.1 (by rw [← Sum.inr.inj e]; exact this))]
    rw [List.map_congr_left this]
    simp
  | y :: r, b :: al, j + 1, h, nd, e => by
    rw [List.nodup_cons] at nd
    have e : r[j]? = some x := by simpa using e
    have hxy : ¬ (Sum.inr y : Key) = Sum.inr x := fun z => nd.1 (by rw [Sum.inr.inj z]; exact List.mem_of_getElem? e)
    show (if (Sum.inr y : Key) = Sum.inr x then ((Sum.inr y : Key), V.ref a) else ((Sum.inr y : Key), V.ref b)) :: (zipK r al).map _ = (Sum.inr y, V.ref b) :: zipK r (al.set j a)
    rw [if_neg hxy, zipK_over (by simpa using h) nd.2 e]
theorem WRows.over {B : Hp} {names done : List Str} {kvs : List (Key × V)} {x : Str} {a : Addr} {row : List Str} (h : WRows B names done kvs) (nd : done.Nodup) (hx : x ∈ done) (e : B a = some (.lst (row.map V.str))) (ok : RowOk names x row) : WRows B names done (putK kvs (.inr x) (.ref a)) := by
  obtain ⟨al, h1, h2, h3⟩ := h
  obtain ⟨j, hj, ej⟩ := List.getElem_of_mem hx
  have ej : done[j]? = some x := by rw [List.getElem?_eq_getElem hj, ej]
  obtain ⟨_, _, _, _, hv⟩ := zipK_val h1 nd hx
  refine ⟨al.set j a, by simp [h1], ?_, fun i p b e1 e2 => ?_⟩
  · rw [h2]
    unfold putK
    rw [valV_any, hv]
    exact zipK_over (a := a) h1 nd ej
  · by_cases hij : j = i
    · subst hij
      rw [ej] at e1
      cases e1
      rw [List.getElem?_set_self (by omega)] at e2
      cases e2
      exact ⟨row, e, ok⟩
    · rw [List.getElem?_set_ne hij] at e2
      exact h3 i p b e1 e2
abbrev N__law_plain_wishes : List Str := ["_law_state", "_law_names_here", "_law_mode", "_law_order", "_law_wishes_here", "_law_k", "_law_others_here", "_law_b"]
def t__law_plain_wishes (K : PySem.W.Frag) (E : XK) : TS := (tSeq (tAsg (tCl (sp__law_mixed K) (WE0 E) (tCons (tVar 0) (tCons (tVar 1) tNil))) (gName 3))
  (tSeq (tAsg tDNewK (gName 4))
  (tSeq (tFor (iRng1 (tCons (tCB (rLenA K) (tCons (tVar 3) tNil)) tNil)) (gName 5) (tSeq (tAsg (tOp rCat (tSl (rSlL K) (tVar 3) (tPart (tOp rAddI (tVar 5) (tC (.int 1)))) tNoPart) (tSl (rSlL K) (tVar 3) tNoPart (tPart (tVar 5)))) (gName 6))
  (tSeq (tIfS (tTest (tOp rEq (tVar 2) (tC (.int 1)))) (tAsg (tLc (iList K (tVar 3)) (gName 7) (tTest (tOp rNe (tVar 7) (tOp (rIxL K) (tVar 3) (tVar 5)))) (tVar 7) [7]) (gName 6)) tNext)
  (tSeq (tIfS (tTest (tOp rGtI (tVar 2) (tC (.int 1)))) (tAsg (tCl (sp__law_mixed K) (WE0 E) (tCons (tVar 0) (tCons (tVar 6) tNil))) (gName 6)) tNext)
  (tSeq (tIfS (tTest (tOp rEq (tVar 2) (tC (.int 3)))) (tAsg (tSl (rSlL K) (tVar 6) tNoPart (tPart (tCl (sp__law_take K) (WE0 E) (tCons (tVar 0) (tCons (tOp rAddI (tCB (rLenA K) (tCons (tVar 6) tNil)) (tC (.int 1))) tNil))))) (gName 6)) tNext)
  (tSeq (tIfS (tTest (tOp rEq (tVar 2) (tC (.int 4)))) (tAsg (tSl (rSlL K) (tVar 6) tNoPart (tPart (tCl (sp__law_take K) (WE0 E) (tCons (tVar 0) (tCons (tC (.int 4)) tNil))))) (gName 6)) tNext)
  (sDPut (tVar 4) (tOp (rIxL K) (tVar 3) (tVar 5)) (tVar 6))))))))
  (tRet (tVar 4)))))
def spW (p t : Addr) (H : Hp) (Q : VK) : Prop := ∃ (a b : Int) (xs : List Str) (B : Hp), Same B H ∧ B p = none ∧ H p = some (stO a b) ∧ VSt a b ∧ B t = some (.lst (xs.map V.str)) ∧ xs.length ≤ 25 ∧ xs.Nodup ∧
  ∀ B' H' a' b' w kvs done, HS [p] B H B' H' [(p, stO a' b'), (w, .dK kvs)] → VSt a' b' → done.Perm xs → WRows B' xs done kvs → Q (.ref w) H'
def sp__law_plain_wishes (K : PySem.W.Frag) : Sp := fun vs H Q E => ∃ (p t : Addr) (m : Int), vs = [.ref p, .ref t, .int m] ∧ spW p t H Q
theorem take_snoc {α : Type} {l : List α} {i : Nat} {x : α} (h : l[i]? = some x) : l.take (i + 1) = l.take i ++ [x] := by rw [List.take_succ, h]; rfl
theorem notin_take {l : List Str} {i : Nat} {x : Str} (nd : l.Nodup) (h : l[i]? = some x) : x ∉ l.take i := fun m => by
  obtain ⟨j, hj, e⟩ := List.mem_take_iff_getElem.mp m
  have h1 : l[j]? = some x := by rw [← e]; simp
  have := nodup_ix nd h1 h
  omega
end Q

set_option Elab.async false
set_option linter.all false
set_option maxRecDepth 100000
set_option maxHeartbeats 4000000
namespace Q
open PySem PySem.Spec PyProof.Rows L2
local macro_rules | `(tactic| walk_at "bf") => `(tactic| first | assumption | (refine' bstep (by assumption) ?r; case r => walk_at "bf") | fail)
local macro_rules | `(tactic| walk_at "rp") => `(tactic| first | assumption | exact Rep.int _ | exact Rep.bl _ | exact Rep.non | (refine' Rep.mono (by assumption) ?r; case r => walk_at "rp") | fail)
local macro_rules | `(tactic| walk_at "hf") => `(tactic| first | assumption | exact HS.up (by assumption) (by walk_at "bf") | exact HS.get (by assumption) List.mem_cons_self | exact HS.get (by assumption) (List.mem_cons_of_mem _ List.mem_cons_self) | exact HS.get (by assumption) (List.mem_cons_of_mem _ (List.mem_cons_of_mem _ List.mem_cons_self)) | exact HS.get (by assumption) (List.mem_cons_of_mem _ (List.mem_cons_of_mem _ (List.mem_cons_of_mem _ List.mem_cons_self))) | fail)
local macro_rules | `(tactic| walk_at "sl") => `(tactic| first | assumption | exact SqL.of (by walk_at "hf") | fail)
local macro_rules | `(tactic| walk_at "st") => `(tactic| first | assumption | exact SqT.of (by walk_at "hf") | fail)
local macro_rules | `(tactic| walk_at "sz") => `(tactic| first | assumption | (refine small_le ?_; first | assumption | omega | (simp; done) | (simp; omega)) | fail)
/-! ### wishes of two sides, of blocks -/
abbrev N__law_side_wishes : List Str := ["_law_state", "_law_names_here", "_law_order", "_law_left", "_law_right", "_law_turned", "_law_wishes_here", "_law_k"]
def t__law_side_wishes (K : PySem.W.Frag) (E : XK) : TS := (tSeq (tAsg (tCl (sp__law_mixed K) (WE0 E) (tCons (tVar 0) (tCons (tVar 1) tNil))) (gName 2))
  (tSeq (tAsg (tSl (rSlL K) (tVar 2) tNoPart (tPart (tOp rDivI (tCB (rLenA K) (tCons (tVar 2) tNil)) (tC (.int 2))))) (gName 3))
  (tSeq (tAsg (tSl (rSlL K) (tVar 2) (tPart (tOp rDivI (tCB (rLenA K) (tCons (tVar 2) tNil)) (tC (.int 2)))) tNoPart) (gName 4))
  (tSeq (tAsg (tCl (sp__law_take K) (WE0 E) (tCons (tVar 0) (tCons (tC (.int 2)) tNil))) (gName 5))
  (tSeq (tAsg tDNewK (gName 6))
  (tSeq (tFor (iRng1 (tCons (tCB (rLenA K) (tCons (tVar 3) tNil)) tNil)) (gName 7) (tSeq (sDPut (tVar 6) (tOp (rIxL K) (tVar 3) (tVar 7)) (tOp rCat (tSl (rSlL K) (tVar 4) (tPart (tVar 7)) tNoPart) (tSl (rSlL K) (tVar 4) tNoPart (tPart (tVar 7)))))
  (tIfS (tTest (tOp rEq (tVar 5) (tC (.int 0)))) (sDPut (tVar 6) (tOp (rIxL K) (tVar 3) (tVar 7)) (tCl (sp__law_mixed K) (WE0 E) (tCons (tVar 0) (tCons (tVar 4) tNil)))) tNext)))
  (tSeq (tFor (iRng1 (tCons (tCB (rLenA K) (tCons (tVar 4) tNil)) tNil)) (gName 7) (tSeq (sDPut (tVar 6) (tOp (rIxL K) (tVar 4) (tVar 7)) (tOp rCat (tSl (rSlL K) (tVar 3) (tPart (tOp rAddI (tVar 7) (tC (.int 1)))) tNoPart) (tSl (rSlL K) (tVar 3) tNoPart (tPart (tOp rAddI (tVar 7) (tC (.int 1)))))))
  (tIfS (tTest (tOp rEq (tVar 5) (tC (.int 0)))) (sDPut (tVar 6) (tOp (rIxL K) (tVar 4) (tVar 7)) (tCl (sp__law_mixed K) (WE0 E) (tCons (tVar 0) (tCons (tVar 3) tNil)))) tNext)))
  (tRet (tVar 6)))))))))
def sp__law_side_wishes (K : PySem.W.Frag) : Sp := fun vs H Q E => ∃ (p t : Addr), vs = [.ref p, .ref t] ∧ spW p t H Q
theorem atI_str {xs : List Str} {i : Nat} {x : Str} (h : xs[i]? = some x) : atI (xs.map V.str) (i : Int) = some (.str x) := by
  have hi : i < xs.length := (List.getElem?_eq_some_iff.mp h).1
  rw [atI_nat (by rw [List.length_map]; exact hi)]
  simp [(List.getElem?_eq_some_iff.mp h).2]
end Q

set_option Elab.async false
set_option linter.all false
set_option maxRecDepth 100000
set_option maxHeartbeats 4000000
namespace Q
open PySem PySem.Spec PyProof.Rows L2
local macro_rules | `(tactic| walk_at "bf") => `(tactic| first | assumption | (refine' bstep (by assumption) ?r; case r => walk_at "bf") | fail)
local macro_rules | `(tactic| walk_at "rp") => `(tactic| first | assumption | exact Rep.int _ | exact Rep.bl _ | exact Rep.non | (refine' Rep.mono (by assumption) ?r; case r => walk_at "rp") | fail)
local macro_rules | `(tactic| walk_at "hf") => `(tactic| first | assumption | exact HS.up (by assumption) (by walk_at "bf") | exact HS.get (by assumption) List.mem_cons_self | exact HS.get (by assumption) (List.mem_cons_of_mem _ List.mem_cons_self) | exact HS.get (by assumption) (List.mem_cons_of_mem _ (List.mem_cons_of_mem _ List.mem_cons_self)) | exact HS.get (by assumption) (List.mem_cons_of_mem _ (List.mem_cons_of_mem _ (List.mem_cons_of_mem _ List.mem_cons_self))) | fail)
local macro_rules | `(tactic| walk_at "sl") => `(tactic| first | assumption | exact SqL.of (by walk_at "hf") | fail)
local macro_rules | `(tactic| walk_at "st") => `(tactic| first | assumption | exact SqT.of (by walk_at "hf") | fail)
local macro_rules | `(tactic| walk_at "sz") => `(tactic| first | assumption | (refine small_le ?_; first | assumption | omega | (simp; done) | (simp; omega)) | fail)
/-! ### wishes of blocks -/
abbrev N__law_block_wishes : List Str := ["_law_state", "_law_names_here", "_law_order", "_law_wishes_here", "_law_at", "_law_turn", "_law_size", "_law_block", "_law_k", "_law_ring", "_law_head", "_law_tail", "_law_b"]
def t__law_block_wishes (K : PySem.W.Frag) (E : XK) : TS := (tSeq (tAsg (tCl (sp__law_mixed K) (WE0 E) (tCons (tVar 0) (tCons (tVar 1) tNil))) (gName 2))
  (tSeq (tAsg tDNewK (gName 3))
  (tSeq (tAsg (tC (.int 0)) (gName 4))
  (tSeq (tFor (iRng1 (tCons (tCB (rLenA K) (tCons (tVar 2) tNil)) tNil)) (gName 5) (tSeq (tAsg (tOp rAddI (tC (.int 1)) (tCl (sp__law_take K) (WE0 E) (tCons (tVar 0) (tCons (tC (.int 7)) tNil)))) (gName 6))
  (tSeq (tAsg (tSl (rSlL K) (tVar 2) (tPart (tVar 4)) (tPart (tOp rAddI (tVar 4) (tVar 6)))) (gName 7))
  (tSeq (tAug 4 (tVar 6) (ipI fun i j => i + j))
  (tFor (iRng1 (tCons (tCB (rLenA K) (tCons (tVar 7) tNil)) tNil)) (gName 8) (tSeq (tAsg (tOp rCat (tSl (rSlL K) (tVar 7) (tPart (tOp rAddI (tVar 8) (tC (.int 1)))) tNoPart) (tSl (rSlL K) (tVar 7) tNoPart (tPart (tVar 8)))) (gName 9))
  (tSeq (tAsg (tSl (rSlL K) (tVar 9) tNoPart (tPart (tC (.int 1)))) (gName 10))
  (tSeq (tIfS (tTest (tOp rGtI (tCB (rLenA K) (tCons (tVar 9) tNil)) (tC (.int 1)))) (tAsg (tLst (tCons (tOp (rIxL K) (tVar 9) (tC (.int 0))) (tCons (tOp (rIxL K) (tVar 9) (tUn rNegI (tC (.int 1)))) tNil))) (gName 10)) tNext)
  (tSeq (tAsg (tCl (sp__law_mixed K) (WE0 E) (tCons (tVar 0) (tCons (tLc (iList K (tCl (sp__law_others K) (WE0 E) (tCons (tVar 1) (tCons (tOp (rIxL K) (tVar 7) (tVar 8)) tNil)))) (gName 12) (tTest (tOp (rIn K true) (tVar 12) (tVar 10))) (tVar 12) [12]) tNil))) (gName 11))
  (tSeq (tAsg (tSl (rSlL K) (tVar 11) tNoPart (tPart (tCl (sp__law_take K) (WE0 E) (tCons (tVar 0) (tCons (tOp rAddI (tCB (rLenA K) (tCons (tVar 11) tNil)) (tC (.int 1))) tNil))))) (gName 11))
  (tSeq (tIfS (tAnd (tTr K (tVar 11)) (tTest (tOp rEq (tCl (sp__law_take K) (WE0 E) (tCons (tVar 0) (tCons (tC (.int 5)) tNil))) (tC (.int 0))))) (tSeq (tAsg (tOp rCat (tSl (rSlL K) (tVar 11) tNoPart (tPart (tC (.int 1)))) (tVar 10)) (gName 10))
  (tAsg (tSl (rSlL K) (tVar 11) (tPart (tC (.int 1))) tNoPart) (gName 11))) tNext)
  (sDPut (tVar 3) (tOp (rIxL K) (tVar 7) (tVar 8)) (tOp rCat (tVar 10) (tVar 11))))))))))))))
  (tRet (tVar 3))))))
def sp__law_block_wishes (K : PySem.W.Frag) : Sp := fun vs H Q E => ∃ (p t : Addr), vs = [.ref p, .ref t] ∧ spW p t H Q
end Q

set_option Elab.async false
set_option linter.all false
set_option maxRecDepth 100000
set_option maxHeartbeats 4000000
namespace Q
open PySem PySem.Spec PyProof.Rows L2
local macro_rules | `(tactic| walk_at "bf") => `(tactic| first | assumption | (refine' bstep (by assumption) ?r; case r => walk_at "bf") | fail)
local macro_rules | `(tactic| walk_at "rp") => `(tactic| first | assumption | exact Rep.int _ | exact Rep.bl _ | exact Rep.non | (refine' Rep.mono (by assumption) ?r; case r => walk_at "rp") | fail)
local macro_rules | `(tactic| walk_at "hf") => `(tactic| first | assumption | exact HS.up (by assumption) (by walk_at "bf") | exact HS.get (by assumption) List.mem_cons_self | exact HS.get (by assumption) (List.mem_cons_of_mem _ List.mem_cons_self) | exact HS.get (by assumption) (List.mem_cons_of_mem _ (List.mem_cons_of_mem _ List.mem_cons_self)) | exact HS.get (by assumption) (List.mem_cons_of_mem _ (List.mem_cons_of_mem _ (List.mem_cons_of_mem _ List.mem_cons_self))) | fail)
local macro_rules | `(tactic| walk_at "sl") => `(tactic| first | assumption | exact SqL.of (by walk_at "hf") | fail)
local macro_rules | `(tactic| walk_at "st") => `(tactic| first | assumption | exact SqT.of (by walk_at "hf") | fail)
local macro_rules | `(tactic| walk_at "sz") => `(tactic| first | assumption | (refine small_le ?_; first | assumption | omega | (simp; done) | (simp; omega)) | fail)
/-! ### a drawn group -/
def WAt (B : Hp) (done : List Str) (kvs : List (Key × V)) (ws : Str → List Str) : Prop := ∃ al : List Addr, al.length = done.length ∧ kvs = zipK done al ∧ ∀ (j : Nat) p a, done[j]? = some p → al[j]? = some a → LAt B ws p a
theorem WAt.mono {B B' : Hp} {done : List Str} {kvs : List (Key × V)} {ws : Str → List Str} (s : Same B B') (h : WAt B done kvs ws) : WAt B' done kvs ws := by
  obtain ⟨al, h1, h2, h3⟩ := h
  exact ⟨al, h1, h2, fun j p a e1 e2 => s _ _ (h3 j p a e1 e2)⟩
theorem WAt.get {B : Hp} {done : List Str} {kvs : List (Key × V)} {ws : Str → List Str} (h : WAt B done kvs ws) (nd : done.Nodup) {p : Str} (m : p ∈ done) : ∃ a, valV kvs (.inr p) = some (.ref a) ∧ B a = some (.lst ((ws p).map V.str)) := by
  obtain ⟨al, h1, h2, h3⟩ := h
  obtain ⟨j, a, e1, e2, e3⟩ := zipK_val h1 nd m
  exact ⟨a, by rw [h2]; exact e3, h3 j p a e1 e2⟩
theorem WAt.keys {B : Hp} {done : List Str} {kvs : List (Key × V)} {ws : Str → List Str} (h : WAt B done kvs ws) : kvs.map (·.1) = done.map Sum.inr := by
  obtain ⟨al, h1, h2, h3⟩ := h
  rw [h2]
  exact zipK_keys h1
theorem WRows.fn {B : Hp} {names done : List Str} {kvs : List (Key × V)} (h : WRows B names done kvs) (pe : done.Perm names) (nd : names.Nodup) : ∃ ws : Str → List Str, (∀ p ∈ names, RowOk names p (ws p)) ∧ WAt B done kvs ws := by
  have ndd : done.Nodup := pe.nodup_iff.mpr nd
  obtain ⟨al, h1, h2, h3⟩ := h
  have hex : ∀ p, ∃ row : List Str, p ∈ done → (∀ a, valV kvs (.inr p) = some (.ref a) → B a = some (.lst (row.map V.str))) ∧ RowOk names p row := fun p => by
    by_cases m : p ∈ done
    · obtain ⟨j, a, e1, e2, e3⟩ := zipK_val h1 ndd m
      obtain ⟨row, q1, q2⟩ := h3 j p a e1 e2
      refine ⟨row, fun _ => ⟨fun b hb => ?_, q2⟩⟩
      rw [h2, e3] at hb
      cases hb
      exact q1
    · exact ⟨[], fun z => absurd z m⟩
  refine ⟨fun p => (hex p).choose, fun p m => ((hex p).choose_spec (pe.mem_iff.mpr m)).2, al, h1, h2, fun j p a e1 e2 => ?_⟩
  have m : p ∈ done := List.mem_of_getElem? e1
  refine ((hex p).choose_spec m).1 a ?_
  obtain ⟨j', a', f1, f2, f3⟩ := zipK_val h1 ndd m
  have := nodup_ix ndd f1 e1
  subst this
  rw [e2] at f2
  cases f2
  rw [h2]
  exact f3
/-- names and wishes that fit them -/
structure Drawn (xs done : List Str) (ws : Str → List Str) : Prop where
  nd : xs.Nodup
  ok : ∀ x ∈ xs, okName x = true
  pe : done.Perm xs
  row : ∀ p ∈ xs, RowOk xs p (ws p)
abbrev N__law_wishes : List Str := ["_law_state", "_law_names_here", "_law_mode"]
def t__law_wishes (K : PySem.W.Frag) (E : XK) : TS := (tSeq (tAsg (tCl (sp__law_take K) (WE0 E) (tCons (tVar 0) (tCons (tC (.int 9)) tNil))) (gName 2))
  (tSeq (tIfS (tTest (tOp rGtI (tVar 2) (tC (.int 6)))) (tRet (tCl (sp__law_block_wishes K) (WE0 E) (tCons (tVar 0) (tCons (tVar 1) tNil)))) tNext)
  (tSeq (tIfS (tTest (tOp rGtI (tVar 2) (tC (.int 4)))) (tRet (tCl (sp__law_side_wishes K) (WE0 E) (tCons (tVar 0) (tCons (tVar 1) tNil)))) tNext)
  (tRet (tCl (sp__law_plain_wishes K) (WE0 E) (tCons (tVar 0) (tCons (tVar 1) (tCons (tVar 2) tNil))))))))
def sp__law_wishes (K : PySem.W.Frag) : Sp := fun vs H Q E => ∃ (p t : Addr), vs = [.ref p, .ref t] ∧ spW p t H Q
abbrev N__law_group : List Str := ["_law_state", "_law_top", "_law_names_here", "_law_wishes_here"]
def t__law_group (K : PySem.W.Frag) (E : XK) : TS := (tSeq (tAsg (tCl (sp__law_names K) (WE0 E) (tCons (tVar 0) (tCons (tCl (sp__law_take K) (WE0 E) (tCons (tVar 0) (tCons (tOp rAddI (tVar 1) (tC (.int 1))) tNil))) tNil))) (gName 2))
  (tSeq (tAsg (tCl (sp__law_wishes K) (WE0 E) (tCons (tVar 0) (tCons (tVar 2) tNil))) (gName 3))
  (tRet (tTup (tCons (tVar 2) (tCons (tVar 3) tNil))))))
def sp__law_group (K : PySem.W.Frag) : Sp := fun vs H Q E => ∃ (p : Addr) (top : Nat) (a b : Int) (B : Hp), vs = [.ref p, .int (top : Nat)] ∧ Same B H ∧ B p = none ∧ H p = some (stO a b) ∧ VSt a b ∧ top ≤ 24 ∧
  ∀ B' H' a' b' T n w xs kvs done ws, HS [p] B H B' H' [(p, stO a' b'), (w, .dK kvs)] → VSt a' b' → B' T = some (.tup [.ref n, .ref w]) → B' n = some (.lst (xs.map V.str)) → xs.length ≤ top → Drawn xs done ws → WAt B' done kvs ws → Q (.ref T) H'
/-! ### for x in a dict -/
def Lk (d : Addr) (u : HO) (o : Obj) (De : Ends) : Ends := ⟨fun σ' H' => H' d = some (.frz o u) ∧ De.nx σ' (upd H' d u), fun v H' => H' d = some (.frz o u) ∧ De.rt v (upd H' d u), fun σ' H' => H' d = some (.frz o u) ∧ De.bk σ' (upd H' d u), fun σ' H' => H' d = some (.frz o u) ∧ De.ct σ' (upd H' d u)⟩
theorem walk_keys {d : Addr} {o : Obj} {kvs : List (Key × V)} : Walk (Itk d o kvs) kvs.length (fun H => H d = some (.frz o (.dK kvs))) (fun i H v H' => H' = H ∧ ∃ k w, kvs[i]? = some (k, w) ∧ v = kV k) := ⟨fun i _ hi q => ⟨q, hi⟩, fun _ q => ⟨q, Nat.le_refl _⟩, fun i H v H' _ q y => y⟩
section
variable {α : Type} {S : List Addr} {B0 H0 B : Hp} {σf : α → L2.St} {Mf : α → List (Addr × HO)} {P : Nat → α → Hp → Prop} {g : TG} {tb : TS} {De : Ends} {H : Hp} {s0 : α} {d : Addr} {kvs : List (Key × V)} {ks : List Str} {td : TE}
theorem l_keys (hk : kvs.map (·.1) = ks.map Sum.inr) (hs : HS S B0 H0 B H ((d, .dK kvs) :: Mf s0)) (h0 : P 0 s0 B) (ev : ∀ (H' : Hp) (Qv : VK), Qv (.ref d) H' → td (σf s0) H' Qv)
    (hb : ∀ o i x s B1 H1, ks[i]? = some x → Same B B1 → HS S B0 H0 B1 H1 ((d, .frz o (.dK kvs)) :: Mf s) → P i s B1 → g (.str x) (σf s) H1 fun σ2 H2 => tb { (Lk d (.dK kvs) o De) with nx := LI S B0 H0 B σf (fun s => (d, .frz o (.dK kvs)) :: Mf s) P (i + 1), ct := LI S B0 H0 B σf (fun s => (d, .frz o (.dK kvs)) :: Mf s) P (i + 1), bk := (Lk d (.dK kvs) o De).nx } σ2 H2)
    (hd : ∀ s B1 H1, Same B B1 → HS S B0 H0 B1 H1 ((d, .dK kvs) :: Mf s) → P ks.length s B1 → De.nx (σf s) H1) : tLock (tFor (iKeys td) g tb) De (σf s0) H := by
  have hlen : kvs.length = ks.length := by
    have := congrArg List.length hk
    simpa using this
  refine ⟨d, .dK kvs, hs.get List.mem_cons_self, trivial, fun o => ?_⟩
  have hs1 := hs.set0 (o' := .frz o (.dK kvs))
  refine x_for (ev _ _ ⟨d, o, rfl, .inl ⟨kvs, hs1.get List.mem_cons_self, ?_⟩⟩)
  refine for_it walk_keys (LI S B0 H0 B σf (fun s => (d, .frz o (.dK kvs)) :: Mf s) P) ⟨s0, B, rfl, Same.refl _, hs1, h0⟩ (fun i σ H' _ ⟨s, B1, _, sb, hs', _⟩ => hs'.get List.mem_cons_self) (fun i v σ H' H2 hi ⟨s, B1, e, sb, hs', p⟩ y => ?_) fun σ H' ⟨s, B1, e, sb, hs', p⟩ => ?_
  · obtain ⟨rfl, k, w, e1, rfl⟩ := y
    rw [e]
    have hki : (kvs.map (·.1))[i]? = some k := by rw [List.getElem?_map, e1]; rfl
    rw [hk, List.getElem?_map] at hki
    cases hx : ks[i]? with
    | none => rw [hx] at hki; cases hki
    | some x =>
      rw [hx] at hki
      cases hki
      exact hb o i x s B1 _ hx sb hs' p
  · rw [e]
    refine ⟨hs'.get List.mem_cons_self, ?_⟩
    exact hd s B1 _ sb hs'.set0 (by rw [← hlen]; exact p)
end
/-- a key of a locked dict -/
theorem x_dgF {H : Hp} {p : Addr} {kvs : List (Key × V)} {x : Str} {v : V} {o : Obj} {R : V → Prop} (hd : H p = some (.frz o (.dK kvs))) (e : valV kvs (.inr x) = some v) (h : R v) : ∃ a v, V.ref p = .ref a ∧ DGet H a (.str x) (some v) ∧ R v :=
  ⟨p, v, rfl, .inl ⟨kvs, .inr x, .inr ⟨o, hd⟩, rfl, e.symm⟩, h⟩
/-! ### copies -/
def lsM (al : List Addr) (done : List Str) (ws : Str → List Str) : List (Addr × HO) := (al.zip done).map fun q => (q.1, .lst ((ws q.2).map V.str))
theorem lsM_snoc {al : List Addr} {done : List Str} {ws : Str → List Str} {a : Addr} {x : Str} (h : al.length = done.length) : lsM (al ++ [a]) (done ++ [x]) ws = lsM al done ws ++ [(a, .lst ((ws x).map V.str))] := by
  unfold lsM
  rw [List.zip_append h, List.map_append]
  rfl
abbrev N__law_copy : List Str := ["_law_wishes_here", "_law_copy_here", "_law_a"]
def t__law_copy (K : PySem.W.Frag) (E : XK) : TS := (tSeq (tAsg tDNewK (gName 1))
  (tSeq (tLock (tFor (iKeys (tVar 0)) (gName 2) (sDPut (tVar 1) (tVar 2) (tCB (rListOf K) (tCons (tDGet (tVar 0) (tVar 2)) tNil)))))
  (tRet (tVar 1))))
def sp__law_copy (K : PySem.W.Frag) : Sp := fun vs H Q E => ∃ (d : Addr) (kvs : List (Key × V)) (done : List Str) (ws : Str → List Str) (B : Hp), vs = [.ref d] ∧ Same B H ∧ B d = none ∧ H d = some (.dK kvs) ∧ WAt B done kvs ws ∧ done.Nodup ∧ done.length ≤ 100 ∧
  ∀ B' H' c al, HS [d] B H B' H' ((d, .dK kvs) :: (c, .dK (zipK done al)) :: lsM al done ws) → al.length = done.length → Q (.ref c) H'
theorem pure__law_copy {K : PySem.W.Frag} {vs : List V} {H : Hp} {Q : VK} {E : XK} (h : sp__law_copy K vs H Q E) : t__law_copy K E { nx := fun _ H' => Q .non H', rt := Q } (start N__law_copy vs) H := by
  obtain ⟨d, kvs, done, ws, B, rfl, sB, bd, hd, hw, nd, hl, k⟩ := h
  have hs := HS.startS sB bd hd
  show t__law_copy K E _ [some (.ref d), none, none] H
  unfold t__law_copy
  ((with_reducible refine x_seq ?_); (with_reducible refine x_asg ?_); (with_reducible refine x_dnew ?_))
  refine new_M hs (fun c H1 hs1 _ => ?_)
  (((with_reducible refine x_gname ?_); try simp only [List.set_cons_zero, List.set_cons_succ]); (with_reducible refine x_seq ?_))
  refine l_keys (α := List Addr × Option V) (σf := fun s => [some (.ref d), some (.ref c), s.2]) (Mf := fun s => (c, .dK (zipK (done.take s.1.length) s.1)) :: lsM s.1 (done.take s.1.length) ws) (P := fun i s _ => s.1.length = i) (s0 := ([], none)) hw.keys hs1.swap rfl (fun H' Qv q => ⟨_, rfl, q⟩)
    (fun o i x s B1 H1 hx sb1 hs1 pp => ?_) (fun s B1 H1 sb1 hs1 pp => ?_)
  · obtain ⟨al, s2⟩ := s
    dsimp only at pp hs1 ⊢
    have hil : i < done.length := (List.getElem?_eq_some_iff.mp hx).1
    obtain ⟨a, e1, e2⟩ := (hw.mono sb1).get nd (List.mem_of_getElem? hx)
    (((with_reducible refine x_gname ?_); try simp only [List.set_cons_zero, List.set_cons_succ]); (with_reducible refine x_dputU ?_); (with_reducible refine x_cb ?_); (with_reducible refine x_cons ?_); (with_reducible refine x_dget ?_); ((with_reducible refine' x_var ?z95h ?_); case z95h => rfl); ((with_reducible refine' x_var ?z96h ?_); case z96h => rfl))
    refine x_dgF (hs1.get List.mem_cons_self) e1 ?_
    ((with_reducible refine x_nil ?_); ((with_reducible refine' x_listL ?z98h ?_); case z98h => walk_at "sl"))
    try refine x_listL (SqL.of (hs1.up e2)) ?_
    refine new_M hs1 (fun r H2 hs2 _ => ?_)
    (((with_reducible refine' x_var ?z99h ?_); case z99h => rfl); ((with_reducible refine' x_var ?z100h ?_); case z100h => rfl))
    have hs3 : HS [d] B H B1 H2 ((c, .dK (zipK (done.take al.length) al)) :: (r, .lst ((ws x).map V.str)) :: (d, .frz o (.dK kvs)) :: lsM al (done.take al.length) ws) := hs2.perm ((List.Perm.cons _ (List.Perm.swap _ _ _)).trans ((List.Perm.swap _ _ _)))
    refine x_dput hs3 (by have := zipK_len (done.take al.length) al; rw [List.length_take] at this; omega) (fun H3 hs4 => ?_)
    refine ⟨(al ++ [r], some _), B1, rfl, sb1, ?_, by simp [pp]⟩
    dsimp only
    have hz := zipK_put (c := r) nd hx pp
    rw [pp, hz] at hs4
    have e3 : (al ++ [r]).length = i + 1 := by simp [pp]
    rw [e3, take_snoc hx, lsM_snoc (by rw [List.length_take]; omega)]
    rw [take_snoc hx] at hs4
    refine hs4.perm ?_
    have p1 : ((r, HO.lst ((ws x).map V.str)) :: lsM al (done.take i) ws).Perm (lsM al (done.take i) ws ++ [(r, HO.lst ((ws x).map V.str))]) := (List.perm_append_singleton _ _).symm
    exact (List.Perm.cons _ ((List.Perm.swap _ _ _).trans (List.Perm.cons _ p1))).trans (List.Perm.swap _ _ _)
  · obtain ⟨al, s2⟩ := s
    dsimp only at pp hs1 ⊢
    rw [pp, List.take_length] at hs1
    ((with_reducible refine x_ret ?_); ((with_reducible refine' x_var ?z102h ?_); case z102h => rfl))
    exact k B1 H1 c al hs1 pp
end Q

set_option Elab.async false
set_option linter.all false
set_option maxRecDepth 100000
set_option maxHeartbeats 4000000
namespace Q
open PySem PySem.Spec PyProof.Rows L2
local macro_rules | `(tactic| walk_at "bf") => `(tactic| first | assumption | (refine' bstep (by assumption) ?r; case r => walk_at "bf") | fail)
local macro_rules | `(tactic| walk_at "rp") => `(tactic| first | assumption | exact Rep.int _ | exact Rep.bl _ | exact Rep.non | (refine' Rep.mono (by assumption) ?r; case r => walk_at "rp") | fail)
local macro_rules | `(tactic| walk_at "hf") => `(tactic| first | assumption | exact HS.up (by assumption) (by walk_at "bf") | exact HS.get (by assumption) List.mem_cons_self | exact HS.get (by assumption) (List.mem_cons_of_mem _ List.mem_cons_self) | exact HS.get (by assumption) (List.mem_cons_of_mem _ (List.mem_cons_of_mem _ List.mem_cons_self)) | exact HS.get (by assumption) (List.mem_cons_of_mem _ (List.mem_cons_of_mem _ (List.mem_cons_of_mem _ List.mem_cons_self))) | fail)
local macro_rules | `(tactic| walk_at "sl") => `(tactic| first | assumption | exact SqL.of (by walk_at "hf") | fail)
local macro_rules | `(tactic| walk_at "st") => `(tactic| first | assumption | exact SqT.of (by walk_at "hf") | fail)
local macro_rules | `(tactic| walk_at "sz") => `(tactic| first | assumption | (refine small_le ?_; first | assumption | omega | (simp; done) | (simp; omega)) | fail)
/-! ### methods of a group -/
def Grp.has (G : Grp) : D → Bool
  | .str x => decide (x ∈ G.names)
  | _ => false
theorem Thr.up {K : PySem.W.Frag} {B H B1 H1 : Hp} {E : XK} {c : Str} {fs : List (Str × V)} {M : List (Addr × HO)} (k : Thr K B H E c fs) (hs : HS [] B H B1 H1 M) : Thr K B1 H1 E c fs := fun B' H' d c h1 h2 => k B' H' d (hs.call c).all h1 h2
/-- an error in a caller's frame -/
def ThrW (K : PySem.W.Frag) (S : List Addr) (B0 H0 B : Hp) (M : List (Addr × HO)) (E : XK) (c : Str) (fs : List (Str × V)) : Prop := ∀ B' H' d, Same B B' → HS S B0 H0 B' H' M → B' d = none → H' d = some (.xd fs) → E (.ref (He.ga K c)) (some d) H'
theorem ThrW.thr {K : PySem.W.Frag} {S : List Addr} {B0 H0 B H : Hp} {M : List (Addr × HO)} {E : XK} {c : Str} {fs : List (Str × V)} (k : ThrW K S B0 H0 B M E c fs) (hs : HS S B0 H0 B H M) : Thr K B H E c fs := fun B' H' d c h1 h2 => k B' H' d c.bb (hs.call c) h1 h2
theorem Thr.w {K : PySem.W.Frag} {B H B1 : Hp} {E : XK} {c : Str} {fs : List (Str × V)} {M : List (Addr × HO)} (k : Thr K B H E c fs) : ThrW K [] B H B1 M E c fs := fun B' H' d _ c h1 h2 => k B' H' d c.all h1 h2
abbrev N_Group_check : List Str := ["self", "a"]
def t_Group_check (K : PySem.W.Frag) (E : XK) : TS := (tIfS (tOr (tNot (tB (tCB (rIsi K) (tCons (tVar 1) (tCons (tC (.ty "str")) tNil))))) (tB (tDNotIn (tVar 1) (tFld K (tVar 0) "lists")))) (tRz1 (He.ga K "NoPerson") "value" (tVar 1) (WE0 E)) tNext)
def sp_Group_check (K : PySem.W.Frag) : Sp := fun vs H Q E => ∃ p v B G d, vs = [.ref p, v] ∧ Same B H ∧ GAt K B p G ∧ Rep K B v d ∧ (G.has d = true → Ret B H Q fun _ r => r = .non) ∧ (G.has d = false → Thr K B H E "NoPerson" [("value", v)])
theorem pure_Group_check {K : PySem.W.Frag} (gk : GK K) {vs : List V} {H : Hp} {Q : VK} {E : XK} (h : sp_Group_check K vs H Q E) : t_Group_check K E { nx := fun _ H' => Q .non H', rt := Q } (start N_Group_check vs) H := by
  obtain ⟨p, v, B, G, d, rfl, sB, g, r, k, ke⟩ := h
  have hs := HS.start sB
  show t_Group_check K E _ [some (.ref p), some v] H
  unfold t_Group_check
  obtain ⟨⟨dx, n, l, m, q, h1, h2, h3, h4, h5⟩, ok⟩ := g
  ((with_reducible refine x_if ?_); (with_reducible refine x_or ?_); (with_reducible refine x_not ?_); (with_reducible refine x_tB ?_); (with_reducible refine x_cb ?_); (with_reducible refine x_cons ?_); ((with_reducible refine' x_var ?z7h ?_); case z7h => rfl); (with_reducible refine x_cons ?_); (with_reducible refine x_c ?_); (with_reducible refine x_nil ?_); ((with_reducible refine' x_isiD ?z11h1 ?z11h2 ?z11h3 ?_); (case z11h1 => assumption); (case z11h2 => walk_at "rp"); (case z11h3 => decide)); (with_reducible refine x_exb ?_))
  cases r with
  | @str x hx =>
    refine x_ite (fun h => by simp [D.isT] at h) (fun _ => ?_)
    ((with_reducible refine x_tB ?_); (with_reducible refine x_dnin ?_); ((with_reducible refine' x_var ?z15h ?_); case z15h => rfl); (with_reducible refine x_fldU ?_); ((with_reducible refine' x_var ?z17h ?_); case z17h => rfl))
    refine x_fld (hs.up h1) gk.cl gk.nl (gf_lists n l m q) ?_
    obtain ⟨kvs, el, hk⟩ := h3.has ok.nd x
    (((with_reducible refine' x_dinO ?z18h ?_); case z18h => walk_at "hf"); (with_reducible refine x_exb ?_))
    rw [hk]
    refine x_ite (fun h => ?_) (fun h => ?_)
    · ((with_reducible refine x_rz1 ?_); ((with_reducible refine' x_var ?z21h ?_); case z21h => rfl))
      exact x_thr hs (ke (by simpa [Grp.has] using h))
    · exact k (by simpa [Grp.has] using h) B H _ hs rfl
  | _ =>
    refine x_ite (fun h => ?_) (fun h => by simp [D.isT] at h)
    ((with_reducible refine x_tt _ _ ?_); (with_reducible refine x_rz1 ?_); ((with_reducible refine' x_var ?z24h ?_); case z24h => rfl))
    exact x_thr hs (ke rfl)
theorem use_check {K : PySem.W.Frag} {S : List Addr} {B0 H0 B H : Hp} {M : List (Addr × HO)} {Q : VK} {E : XK} {p : Addr} {v : V} {G : Grp} {d : D} (hs : HS S B0 H0 B H M) (g : GAt K B p G) (r : Rep K B v d)
    (k : G.has d = true → ∀ B' H', Same B B' → HS S B0 H0 B' H' M → Q .non H') (ke : G.has d = false → ThrW K S B0 H0 B M E "NoPerson" [("value", v)]) : sp_Group_check K [.ref p, v] H Q E :=
  ⟨p, v, B, G, d, rfl, hs.bh, g, r, fun h B' H' v' c e => by rw [e]; exact k h B' H' c.bb (hs.call c), fun h => (ke h).thr hs⟩
theorem has_str {G : Grp} {d : D} (h : G.has d = true) : ∃ x, d = .str x ∧ x ∈ G.names := by
  cases d with
  | str x => exact ⟨x, rfl, of_decide_eq_true h⟩
  | _ => cases h
theorem rep_str {K : PySem.W.Frag} {B : Hp} {v : V} {x : Str} (r : Rep K B v (.str x)) : v = .str x := by cases r; rfl
abbrev N_Group_wishes : List Str := ["self", "a"]
def t_Group_wishes (K : PySem.W.Frag) (E : XK) : TS := (tSeq (tDrop (tMt (He.ga K "Group") "check" (sp_Group_check K) (WE0 E) (tVar 0) (tCons (tVar 1) tNil)))
  (tRet (tCB (rListOf K) (tCons (tDGet (tFld K (tVar 0) "lists") (tVar 1)) tNil))))
def sp_Group_wishes (K : PySem.W.Frag) : Sp := fun vs H Q E => ∃ p v B G d, vs = [.ref p, v] ∧ Same B H ∧ GAt K B p G ∧ Rep K B v d ∧ (∀ x, d = .str x → x ∈ G.names → ∀ B' H' l, HS [] B H B' H' [(l, .lst ((G.wish x).map V.str))] → Q (.ref l) H') ∧ (G.has d = false → Thr K B H E "NoPerson" [("value", v)])
abbrev N_Group_open_to : List Str := ["self", "a"]
def t_Group_open_to (K : PySem.W.Frag) (E : XK) : TS := (tSeq (tDrop (tMt (He.ga K "Group") "check" (sp_Group_check K) (WE0 E) (tVar 0) (tCons (tVar 1) tNil)))
  (tRet (tCB (rListOf K) (tCons (tDGet (tFld K (tVar 0) "mutual") (tVar 1)) tNil))))
def sp_Group_open_to (K : PySem.W.Frag) : Sp := fun vs H Q E => ∃ p v B G d, vs = [.ref p, v] ∧ Same B H ∧ GAt K B p G ∧ Rep K B v d ∧ (∀ x, d = .str x → x ∈ G.names → ∀ B' H' l, HS [] B H B' H' [(l, .lst ((G.open x).map V.str))] → Q (.ref l) H') ∧ (G.has d = false → Thr K B H E "NoPerson" [("value", v)])
theorem pure_Group_open_to {K : PySem.W.Frag} (gk : GK K) {vs : List V} {H : Hp} {Q : VK} {E : XK} (h : sp_Group_open_to K vs H Q E) : t_Group_open_to K E { nx := fun _ H' => Q .non H', rt := Q } (start N_Group_open_to vs) H := by
  obtain ⟨p, v, B, G, d, rfl, sB, g, r, k, ke⟩ := h
  have hs := HS.start sB
  show t_Group_open_to K E _ [some (.ref p), some v] H
  unfold t_Group_open_to
  obtain ⟨dx0, n0, l0, m0, q0, hg0⟩ := g.ins
  ((with_reducible refine x_seq ?_); (with_reducible refine x_drop ?_); (with_reducible refine x_mtU ?_); ((with_reducible refine' x_var ?z45h ?_); case z45h => rfl))
  refine x_mt (hs.up hg0) (gf_no (by decide +kernel)) ?_
  ((with_reducible refine x_cons ?_); ((with_reducible refine' x_var ?z47h ?_); case z47h => rfl); (with_reducible refine x_nil ?_))
  refine use_check hs g r (fun hh B1 H1 sb1 hs1 => ?_) (fun hh => (ke hh).w)
  obtain ⟨x, rfl, hx⟩ := has_str hh
  cases rep_str r
  obtain ⟨⟨dx, n, l, m, q, h1, h2, h3, h4, h5⟩, ok⟩ := g.mono sb1
  obtain ⟨kvs, a, ed, ev, ea⟩ := h4.get ok.nd hx
  have ea : B1 a = some (.lst ((G.open x).map V.str)) := ea
  ((with_reducible refine x_ret ?_); (with_reducible refine x_cb ?_); (with_reducible refine x_cons ?_); (with_reducible refine x_dget ?_); (with_reducible refine x_fldU ?_); ((with_reducible refine' x_var ?z54h ?_); case z54h => rfl))
  refine x_fld (hs1.up h1) gk.cl gk.nm (gf_mutual n l m q) ?_
  (((with_reducible refine' x_var ?z55h ?_); case z55h => rfl); ((with_reducible refine' x_dgS ?z56h ?z56h2 ?_); (case z56h => walk_at "hf"); (case z56h2 => assumption)); (with_reducible refine x_nil ?_); ((with_reducible refine' x_listL ?z58h ?_); case z58h => walk_at "sl"))
  try refine x_listL (SqL.of (hs1.up ea)) ?_
  refine new_M hs1 (fun r H2 hs2 _ => k x rfl hx B1 H2 r hs2)
abbrev N_Group___getitem__ : List Str := ["self", "a"]
def t_Group___getitem__ (K : PySem.W.Frag) (E : XK) : TS := (tSeq (tIfS (tOr (tNot (tB (tCB (rIsi K) (tCons (tVar 1) (tCons (tC (.ty "str")) tNil))))) (tB (tDNotIn (tVar 1) (tFld K (tVar 0) "lists")))) (tRz1 (He.ga K "NoPerson") "value" (tVar 1) (WE0 E)) tNext)
  (tRet (tCB (rListOf K) (tCons (tDGet (tFld K (tVar 0) "mutual") (tVar 1)) tNil))))
def sp_Group___getitem__ (K : PySem.W.Frag) : Sp := sp_Group_open_to K
theorem use_open_to {K : PySem.W.Frag} {S : List Addr} {B0 H0 B H : Hp} {M : List (Addr × HO)} {Q : VK} {E : XK} {p : Addr} {v : V} {G : Grp} {d : D} (hs : HS S B0 H0 B H M) (g : GAt K B p G) (r : Rep K B v d)
    (k : ∀ x, d = .str x → x ∈ G.names → ∀ B' H' l, Same B B' → HS S B0 H0 B' H' ((l, .lst ((G.open x).map V.str)) :: M) → Q (.ref l) H') (ke : G.has d = false → ThrW K S B0 H0 B M E "NoPerson" [("value", v)]) : sp_Group_open_to K [.ref p, v] H Q E :=
  ⟨p, v, B, G, d, rfl, hs.bh, g, r, fun x e hx B' H' l c => k x e hx B' H' l c.bb (hs.callN c), fun h => (ke h).thr hs⟩
end Q

set_option Elab.async false
set_option linter.all false
set_option maxRecDepth 100000
set_option maxHeartbeats 4000000
namespace Q
open PySem PySem.Spec PyProof.Rows L2
local macro_rules | `(tactic| walk_at "bf") => `(tactic| first | assumption | (refine' bstep (by assumption) ?r; case r => walk_at "bf") | fail)
local macro_rules | `(tactic| walk_at "rp") => `(tactic| first | assumption | exact Rep.int _ | exact Rep.bl _ | exact Rep.non | (refine' Rep.mono (by assumption) ?r; case r => walk_at "rp") | fail)
local macro_rules | `(tactic| walk_at "hf") => `(tactic| first | assumption | exact HS.up (by assumption) (by walk_at "bf") | exact HS.get (by assumption) List.mem_cons_self | exact HS.get (by assumption) (List.mem_cons_of_mem _ List.mem_cons_self) | exact HS.get (by assumption) (List.mem_cons_of_mem _ (List.mem_cons_of_mem _ List.mem_cons_self)) | exact HS.get (by assumption) (List.mem_cons_of_mem _ (List.mem_cons_of_mem _ (List.mem_cons_of_mem _ List.mem_cons_self))) | fail)
local macro_rules | `(tactic| walk_at "sl") => `(tactic| first | assumption | exact SqL.of (by walk_at "hf") | fail)
local macro_rules | `(tactic| walk_at "st") => `(tactic| first | assumption | exact SqT.of (by walk_at "hf") | fail)
local macro_rules | `(tactic| walk_at "sz") => `(tactic| first | assumption | (refine small_le ?_; first | assumption | omega | (simp; done) | (simp; omega)) | fail)
/-! ### rank, pairs, in -/
theorem Grp.Ok.ond {G : Grp} (ok : G.Ok) {x : Str} (h : x ∈ G.names) : (G.open x).Nodup := (ok.wn x h).filter _
theorem Grp.Ok.oin {G : Grp} (ok : G.Ok) {x y : Str} (h : x ∈ G.names) (m : y ∈ G.open x) : y ∈ G.names := ok.wi x h y (List.mem_filter.mp m).1
abbrev N_Group_rank : List Str := ["self", "a", "b"]
def t_Group_rank (K : PySem.W.Frag) (E : XK) : TS := (tSeq (tDrop (tMt (He.ga K "Group") "check" (sp_Group_check K) (WE0 E) (tVar 0) (tCons (tVar 1) tNil)))
  (tSeq (tDrop (tMt (He.ga K "Group") "check" (sp_Group_check K) (WE0 E) (tVar 0) (tCons (tVar 2) tNil)))
  (tSeq (tIfS (tB (tDNotIn (tVar 2) (tDGet (tFld K (tVar 0) "places") (tVar 1)))) (tRz2 (He.ga K "NotOpen") "one" "other" (tVar 1) (tVar 2) (WE0 E)) tNext)
  (tRet (tDGet (tDGet (tFld K (tVar 0) "places") (tVar 1)) (tVar 2))))))
def sp_Group_rank (K : PySem.W.Frag) : Sp := fun vs H Q E => ∃ p v u B G d e, vs = [.ref p, v, u] ∧ Same B H ∧ GAt K B p G ∧ Rep K B v d ∧ Rep K B u e ∧ (G.has d = false → Thr K B H E "NoPerson" [("value", v)]) ∧ (G.has d = true → G.has e = false → Thr K B H E "NoPerson" [("value", u)]) ∧
  ∀ x y, d = .str x → x ∈ G.names → e = .str y → y ∈ G.names → (y ∉ G.open x → Thr K B H E "NotOpen" [("other", u), ("one", v)]) ∧ ∀ i : Nat, (G.open x)[i]? = some y → Ret B H Q fun _ r => r = .int (i : Nat)
/-! ### rows of tuples of texts -/
inductive TRs (B : Hp) : List V → List (List Str) → Prop
  | nil : TRs B [] []
  | cons {t : Addr} {k : List Str} {vs : List V} {ks : List (List Str)} : B t = some (.tup (k.map V.str)) → TRs B vs ks → TRs B (.ref t :: vs) (k :: ks)
theorem TRs.mono {B B' : Hp} (s : Same B B') : ∀ {vs : List V} {ks : List (List Str)}, TRs B vs ks → TRs B' vs ks
  | _, _, .nil => .nil
  | _, _, .cons h r => .cons (s _ _ h) (TRs.mono s r)
theorem TRs.snoc {B : Hp} {t : Addr} {k : List Str} (h : B t = some (.tup (k.map V.str))) : ∀ {vs : List V} {ks : List (List Str)}, TRs B vs ks → TRs B (vs ++ [.ref t]) (ks ++ [k])
  | _, _, .nil => .cons h .nil
  | _, _, .cons a r => .cons a (TRs.snoc h r)
theorem TRs.len {B : Hp} : ∀ {vs : List V} {ks : List (List Str)}, TRs B vs ks → vs.length = ks.length
  | _, _, .nil => rfl
  | _, _, .cons _ r => by simp [TRs.len r]
theorem TRs.dp {K : PySem.W.Frag} {B H : Hp} (s : Same B H) : ∀ {vs : List V} {ks : List (List Str)}, TRs B vs ks → DpAll K H vs (ks.map fun k => PyData.tuple (k.map PyData.str))
  | _, _, .nil => .nil
  | _, _, .cons h r => .cons (.tup (SqT.of (s _ _ h)) (dp_strs _)) (TRs.dp s r)
theorem TRs.get {B : Hp} : ∀ {vs : List V} {ks : List (List Str)} {v : V}, TRs B vs ks → v ∈ vs → ∃ t k, v = .ref t ∧ B t = some (.tup (k.map V.str)) ∧ k ∈ ks
  | _, _, _, .nil, m => nomatch m
  | _, _, _, .cons h r, m => by
    rcases List.mem_cons.mp m with rfl | m
    · exact ⟨_, _, rfl, h, List.mem_cons_self⟩
    · obtain ⟨t, k, e, h1, h2⟩ := TRs.get r m
      exact ⟨t, k, e, h1, List.mem_cons_of_mem _ h2⟩
def Grp.prs (G : Grp) (a : Str) : List (List Str) := ((sortS (G.open a)).filter fun b => decide (a.cps.toList < b.cps.toList)).map fun b => [a, b]
def Grp.pairs (G : Grp) : List (List Str) := (sortS G.names).flatMap G.prs
theorem flatMap_take {α β : Type} {l : List α} {i : Nat} {x : α} (f : α → List β) (h : l[i]? = some x) : (l.take (i + 1)).flatMap f = (l.take i).flatMap f ++ f x := by
  rw [List.take_succ, h]
  simp
theorem flat_len {α β : Type} {f : α → List β} {n : Nat} : ∀ {l : List α}, (∀ x ∈ l, (f x).length ≤ n) → (l.flatMap f).length ≤ l.length * n
  | [], _ => by simp
  | x :: r, h => by
    rw [List.flatMap_cons, List.length_append, List.length_cons]
    have h1 := h x List.mem_cons_self
    have h2 := flat_len (l := r) fun y m => h y (List.mem_cons_of_mem _ m)
    rw [Nat.add_mul]
    omega
abbrev N_Group_pairs : List Str := ["self", "rows", "a", "b"]
def t_Group_pairs (K : PySem.W.Frag) (E : XK) : TS := (tSeq (tAsg (tLst tNil) (gName 1))
  (tSeq (tFor (iList K (tCB (rSortL K) (tCons (tFld K (tVar 0) "names") tNil))) (gName 2) (tFor (iList K (tCB (rSortL K) (tCons (tDGet (tFld K (tVar 0) "mutual") (tVar 2)) tNil))) (gName 3) (tIfS (tTest (tOp rLtS (tVar 2) (tVar 3))) (tDrop (tBM K "list" rAppend (tVar 1) (tCons (tTup (tCons (tVar 2) (tCons (tVar 3) tNil))) tNil))) tNext)))
  (tRet (tVar 1))))
def sp_Group_pairs (K : PySem.W.Frag) : Sp := fun vs H Q E => ∃ p B G, vs = [.ref p] ∧ Same B H ∧ GAt K B p G ∧ ∀ B' H' l vs, HS [] B H B' H' [(l, .lst vs)] → TRs B' vs G.pairs → Q (.ref l) H'
/-! ### x in group -/
def Grp.isin (G : Grp) : D → Bool
  | .str x => decide (x ∈ G.names)
  | .tup [.str x, .str y] => decide (x ∈ G.names) && decide (y ∈ G.open x)
  | _ => false
abbrev N_Group___contains__ : List Str := ["self", "value", "one", "other"]
def t_Group___contains__ (K : PySem.W.Frag) (E : XK) : TS := (tSeq (tIfS (tB (tCB (rIsi K) (tCons (tVar 1) (tCons (tC (.ty "str")) tNil)))) (tRet (tDIn (tVar 1) (tFld K (tVar 0) "lists"))) tNext)
  (tSeq (tIfS (tOr (tNot (tB (tCB (rIsi K) (tCons (tVar 1) (tCons (tC (.ty "tuple")) tNil))))) (tTest (tOp rNe (tCB (rLenA K) (tCons (tVar 1) tNil)) (tC (.int 2))))) (tRet (tC (.bl false))) tNext)
  (tSeq (tAsg (tVar 1) (gTup K 2 (gCons (gName 2) (gCons (gName 3) gNil))))
  (tSeq (tIfS (tOr (tNot (tB (tCB (rIsi K) (tCons (tVar 2) (tCons (tC (.ty "str")) tNil))))) (tOr (tNot (tB (tCB (rIsi K) (tCons (tVar 3) (tCons (tC (.ty "str")) tNil))))) (tB (tDNotIn (tVar 2) (tFld K (tVar 0) "lists"))))) (tRet (tC (.bl false))) tNext)
  (tRet (tDIn (tVar 3) (tDGet (tFld K (tVar 0) "places") (tVar 2))))))))
def sp_Group___contains__ (K : PySem.W.Frag) : Sp := fun vs H Q E => ∃ p v B G d, vs = [.ref p, v] ∧ Same B H ∧ GAt K B p G ∧ Rep K B v d ∧ Ret B H Q fun _ r => r = .bl (G.isin d)
end Q

set_option Elab.async false
set_option linter.all false
set_option maxRecDepth 100000
set_option maxHeartbeats 4000000
namespace Q
open PySem PySem.Spec PyProof.Rows L2
/-! ### a group made of what was drawn -/
theorem HS.stillL {B0 H0 : Hp} {M : List (Addr × HO)} : ∀ {N : List (Addr × HO)} {B H : Hp}, HS [] B0 H0 B H (N ++ M) → ∃ B', HS [] B0 H0 B' H M ∧ Same B B' ∧ ∀ q ∈ N, B' q.1 = some q.2
  | [], B, H, h => ⟨B, h, Same.refl _, fun _ z => nomatch z⟩
  | (p, o) :: N, B, H, h => by
    obtain ⟨B1, h1, s1, e1⟩ := HS.still0 (M := N ++ M) h
    obtain ⟨B2, h2, s2, e2⟩ := HS.stillL h1
    refine ⟨B2, h2, s1.trans s2, fun q m => ?_⟩
    rcases List.mem_cons.mp m with rfl | m
    · exact s2 _ _ e1
    · exact e2 q m
theorem repK_zip {K : PySem.W.Frag} {B : Hp} {ws : Str → List Str} : ∀ {done : List Str} {al : List Addr}, al.length = done.length → (∀ q ∈ lsM al done ws, B q.1 = some q.2) → (∀ p ∈ done, (ws p).length ≤ 100000 ∧ ∀ x ∈ ws p, x.length ≤ 1000000) → RepK K B (zipK done al) (done.map fun p => (.inr p, D.strs (ws p)))
  | [], [], _, _, _ => .nil
  | p :: r, [], h, _, _ => by simp at h
  | [], _ :: _, h, _, _ => by simp at h
  | p :: r, a :: al, h, hl, hw => by
    have e : B a = some (.lst ((ws p).map V.str)) := hl (a, .lst ((ws p).map V.str)) List.mem_cons_self
    obtain ⟨h1, h2⟩ := hw p List.mem_cons_self
    exact .cons (rep_strs h2 h1 e) (repK_zip (by simpa using h) (fun q m => hl q (List.mem_cons_of_mem _ m)) fun q m => hw q (List.mem_cons_of_mem _ m))
def wsD (done : List Str) (ws : Str → List Str) : List (Key × D) := done.map fun p => (.inr p, D.strs (ws p))
theorem wsD_val {ws : Str → List Str} {p : Str} : ∀ {done : List Str}, p ∈ done → dval (wsD done ws) (.inr p) = some (D.strs (ws p))
  | [], m => nomatch m
  | y :: r, m => by
    by_cases e : y = p
    · simp [wsD, dval, e]
    · have m' : p ∈ r := by
        rcases List.mem_cons.mp m with z | z
        · exact absurd z.symm e
        · exact z
      have ih := wsD_val (ws := ws) m'
      unfold wsD dval at ih ⊢
      rw [List.map_cons, List.find?_cons, decide_eq_false (fun z => e (Sum.inr.inj z))]
      exact ih
theorem badAt_names : ∀ {xs : List Str} {i : Nat} {seen : List Str}, (∀ x ∈ xs, okName x = true ∧ x ∉ seen) → xs.Nodup → badAt i seen (xs.map D.str) = none
  | [], _, _, _, _ => rfl
  | x :: r, i, seen, h, nd => by
    rw [List.nodup_cons] at nd
    obtain ⟨h1, h2⟩ := h x List.mem_cons_self
    unfold badAt
    rw [List.map_cons]
    simp only [h1, decide_eq_false h2, Bool.not_false, Bool.and_self, if_true]
    refine badAt_names (fun y m => ⟨(h y (List.mem_cons_of_mem _ m)).1, fun z => ?_⟩) nd.2
    rcases List.mem_append.mp z with z | z
    · exact (h y (List.mem_cons_of_mem _ m)).2 z
    · have : y = x := by simpa using z
      exact nd.1 (by rw [← this]; exact m)
theorem fitsGo_row {xs : List Str} {p : Str} : ∀ {ws seen : List Str}, (∀ x ∈ ws, x ≠ p ∧ x ∈ xs ∧ x ∉ seen) → ws.Nodup → fitsGo xs p seen (ws.map D.str) = true
  | [], _, _, _ => rfl
  | x :: r, seen, h, nd => by
    rw [List.nodup_cons] at nd
    obtain ⟨h1, h2, h3⟩ := h x List.mem_cons_self
    unfold fitsGo
    rw [List.map_cons]
    simp only [decide_eq_false h1, decide_eq_true h2, decide_eq_false h3, Bool.not_false, Bool.true_and]
    refine fitsGo_row (fun y m => ?_) nd.2
    obtain ⟨g1, g2, g3⟩ := h y (List.mem_cons_of_mem _ m)
    refine ⟨g1, g2, fun z => ?_⟩
    rcases List.mem_append.mp z with z | z
    · exact g3 z
    · have : y = x := by simpa using z
      exact nd.1 (by rw [← this]; exact m)
theorem drawn_group {xs done : List Str} {ws : Str → List Str} (d : Drawn xs done ws) (hl : xs.length ≤ 16) : ∃ G, mkGroup (.tup (xs.map D.str)) (.dct (wsD done ws)) = .ok G ∧ G.names = xs ∧ ∀ p ∈ xs, G.wish p = ws p := by
  have ex : (D.tup (xs.map D.str)).asStrs = xs := strL_map xs
  have hv : ∀ p ∈ xs, vald (.dct (wsD done ws)) p = D.strs (ws p) := fun p m => by simp only [vald, wsD_val (d.pe.mem_iff.mpr m), Option.getD_some]
  have hbp : badPeople (.tup (xs.map D.str)) = none := by
    unfold badPeople
    have hb := badAt_names (i := 0) (seen := []) (fun x m => ⟨d.ok x m, by simp⟩) d.nd
    simp only [List.length_map, if_pos hl, hb, Option.map_none]
  have hsk : sameKeys (.dct (wsD done ws)) xs = true := by
    unfold sameKeys
    simp only [Bool.and_eq_true, decide_eq_true_eq, List.all_eq_true]
    refine ⟨?_, fun x m => ?_⟩
    · unfold wsD
      rw [List.length_map]
      exact d.pe.length_eq
    · rw [wsD_val (d.pe.mem_iff.mpr m)]
      rfl
  have hbw : badWishes (.dct (wsD done ws)) xs = none := by
    unfold badWishes
    rw [if_pos hsk, List.find?_eq_none]
    intro p m
    have m := mem_sortS.mp m
    rw [hv p m]
    obtain ⟨r1, r2, r3⟩ := d.row p m
    have : fitsW (D.strs (ws p)) xs p = true := fitsGo_row (fun x mx => ⟨fun e => r2 (e ▸ mx), r3 x mx, by simp⟩) r1
    simp [this]
  refine ⟨⟨xs, fun p => (vald (.dct (wsD done ws)) p).asStrs⟩, ?_, rfl, fun p m => ?_⟩
  · simp only [mkGroup, hbp, ex, hbw]
  · show (vald (.dct (wsD done ws)) p).asStrs = ws p
    rw [hv p m, asStrs_strs]
theorem use_copy {K : PySem.W.Frag} {S : List Addr} {B0 H0 B H : Hp} {M : List (Addr × HO)} {Q : VK} {E : XK} {d : Addr} {kvs : List (Key × V)} {done : List Str} {ws : Str → List Str} (hs : HS S B0 H0 B H ((d, .dK kvs) :: M)) (hw : WAt B done kvs ws) (nd : done.Nodup) (hl : done.length ≤ 100)
    (k : ∀ B' H' c al, Same B B' → HS S B0 H0 B' H' ((d, .dK kvs) :: (((c, .dK (zipK done al)) :: lsM al done ws) ++ M)) → al.length = done.length → Q (.ref c) H') : sp__law_copy K [.ref d] H Q E :=
  ⟨d, kvs, done, ws, B, rfl, hs.bh, (hs.mu _ List.mem_cons_self).1, hs.get List.mem_cons_self, hw, nd, hl, fun B' H' c al h e => k B' H' c al h.bb (hs.call1N h) e⟩
/-- the copy stands still from now on -/
theorem use_copyF {K : PySem.W.Frag} {B0 H0 B H : Hp} {M : List (Addr × HO)} {Q : VK} {E : XK} {d : Addr} {kvs : List (Key × V)} {xs done : List Str} {ws : Str → List Str} (hs : HS [] B0 H0 B H ((d, .dK kvs) :: M)) (hw : WAt B done kvs ws) (dr : Drawn xs done ws) (hl : xs.length ≤ 16)
    (k : ∀ B' H' c, Same B B' → HS [] B0 H0 B' H' ((d, .dK kvs) :: M) → Rep K B' (.ref c) (.dct (wsD done ws)) → Q (.ref c) H') : sp__law_copy K [.ref d] H Q E :=
  use_copy hs hw (dr.pe.nodup_iff.mpr dr.nd) (by have := dr.pe.length_eq; omega) fun B' H' c al sb h hal => by
    have h2 : HS [] B0 H0 B' H' (((c, .dK (zipK done al)) :: lsM al done ws) ++ ((d, .dK kvs) :: M)) := h.perm (List.perm_middle (a := (d, HO.dK kvs)) (l₁ := (c, .dK (zipK done al)) :: lsM al done ws) (l₂ := M)).symm
    obtain ⟨B2, h3, s2, e2⟩ := HS.stillL h2
    refine k B2 H' c (sb.trans s2) h3 (.dct (e2 _ List.mem_cons_self) (repK_zip hal (fun q m => e2 q (List.mem_cons_of_mem _ m)) fun p m => ?_))
    obtain ⟨r1, r2, r3⟩ := dr.row p (dr.pe.mem_iff.mp m)
    have := nodup_len r1 r3
    exact ⟨by omega, fun x mx => okName_len (dr.ok x (r3 x mx))⟩
theorem rep_names {K : PySem.W.Frag} {B : Hp} {T : Addr} {xs : List Str} (e : B T = some (.tup (xs.map V.str))) (h : ∀ x ∈ xs, okName x = true) : Rep K B (.ref T) (.tup (xs.map D.str)) := .tup e (reps_str fun x m => okName_len (h x m))
/-! ### open pairs, in order -/
def Grp.due (G : Grp) (a : Str) : List (List Str) := ((G.open a).filter fun b => decide (a.cps.toList < b.cps.toList)).map fun b => [a, b]
/-! ### rows of tuples of texts are equal -/
theorem shaped_tups {ks : List (List Str)} (h : ∀ k ∈ ks, ∀ x ∈ k, PyData.strOk x = true) : SeqAt.shaped (.list (ks.map fun k => PyData.tuple (k.map PyData.str))) = true := by
  have h1 : PyData.canLayAll0 (ks.map fun k => PyData.tuple (k.map PyData.str)) = true := by
    induction ks with
    | nil => rfl
    | cons k r ih =>
      simp only [List.map_cons, PyData.canLayAll0, PyData.canLay0, canLay_strs (h k List.mem_cons_self), ih fun k m => h k (List.mem_cons_of_mem _ m), Bool.and_self]
  have h2 : PyData.depthAll (ks.map fun k => PyData.tuple (k.map PyData.str)) ≤ 1 := by
    clear h h1
    induction ks with
    | nil => simp only [List.map_nil, PyData.depthAll]; omega
    | cons k r ih => simp only [List.map_cons, PyData.depthAll, PyData.depth, depth_strs]; omega
  unfold SeqAt.shaped
  simp only [PyData.canLay0, h1, PyData.depth, Bool.true_and]
  exact decide_eq_true (by omega)
theorem eqv_tups : ∀ ks ls : List (List Str), PyData.eqvAll (ks.map fun k => PyData.tuple (k.map PyData.str)) (ls.map fun k => PyData.tuple (k.map PyData.str)) = decide (ks = ls)
  | [], [] => by simp [PyData.eqvAll]
  | [], _ :: _ => by simp [PyData.eqvAll]
  | _ :: _, [] => by simp [PyData.eqvAll]
  | x :: xs, y :: ys => by
    simp only [List.map_cons, PyData.eqvAll, PyData.eqv, eqv_tups xs ys, eqv_strs]
    by_cases e : x = y <;> simp [e]
theorem row_tups {K : PySem.W.Frag} {H B : Hp} {Q : VK} {E : XK} {p q : Addr} {vs us : List V} {ks ls : List (List Str)} (sB : Same B H) (hp : H p = some (.lst vs)) (hq : H q = some (.lst us)) (t1 : TRs B vs ks) (t2 : TRs B us ls) (h1 : ∀ k ∈ ks, ∀ x ∈ k, PyData.strOk x = true) (h2 : ∀ k ∈ ls, ∀ x ∈ k, PyData.strOk x = true)
    (k : Q (.bl (decide (ks = ls))) H) : sp__law_row K [.ref p, .ref q] H Q E := ⟨p, q, _, _, _, B, rfl, sB, hp, .lst (SqL.of hp) (t1.dp sB), .lst (SqL.of hq) (t2.dp sB), shaped_tups h1, shaped_tups h2, by simp only [PyData.eqv, eqv_tups]; exact k⟩
end Q

set_option Elab.async false
set_option linter.all false
set_option maxRecDepth 100000
set_option maxHeartbeats 4000000
namespace Q
open PySem PySem.Spec PyProof.Rows L2
local macro_rules | `(tactic| walk_at "bf") => `(tactic| first | assumption | (refine' bstep (by assumption) ?r; case r => walk_at "bf") | fail)
local macro_rules | `(tactic| walk_at "rp") => `(tactic| first | assumption | exact Rep.int _ | exact Rep.bl _ | exact Rep.non | (refine' Rep.mono (by assumption) ?r; case r => walk_at "rp") | fail)
local macro_rules | `(tactic| walk_at "hf") => `(tactic| first | assumption | exact HS.up (by assumption) (by walk_at "bf") | exact HS.get (by assumption) List.mem_cons_self | exact HS.get (by assumption) (List.mem_cons_of_mem _ List.mem_cons_self) | exact HS.get (by assumption) (List.mem_cons_of_mem _ (List.mem_cons_of_mem _ List.mem_cons_self)) | exact HS.get (by assumption) (List.mem_cons_of_mem _ (List.mem_cons_of_mem _ (List.mem_cons_of_mem _ List.mem_cons_self))) | fail)
local macro_rules | `(tactic| walk_at "sl") => `(tactic| first | assumption | exact SqL.of (by walk_at "hf") | fail)
local macro_rules | `(tactic| walk_at "st") => `(tactic| first | assumption | exact SqT.of (by walk_at "hf") | fail)
local macro_rules | `(tactic| walk_at "sz") => `(tactic| first | assumption | (refine small_le ?_; first | assumption | omega | (simp; done) | (simp; omega)) | fail)
/-! ### who is open to whom, by the law; rows of persons and their wishes -/
def opn (ws : Str → List Str) (a : Str) : List Str := (ws a).filter fun b => decide (a ∈ ws b)
theorem WAt.nil {B : Hp} {ws : Str → List Str} : WAt B [] [] ws := ⟨[], rfl, rfl, by simp⟩
theorem WAt.snoc {B : Hp} {done : List Str} {kvs : List (Key × V)} {ws : Str → List Str} {x : Str} {a : Addr} (h : WAt B done kvs ws) (hx : x ∉ done) (e : B a = some (.lst ((ws x).map V.str))) : WAt B (done ++ [x]) (putK kvs (.inr x) (.ref a)) ws := by
  have hk := h.keys
  obtain ⟨al, h1, h2, h3⟩ := h
  refine ⟨al ++ [a], by simp [h1], ?_, fun j p b e1 e2 => ?_⟩
  · rw [putK_new (valV_none_keys ?_), h2, zipK_snoc h1]
    rw [hk]
    intro z
    obtain ⟨y, hy, q⟩ := List.mem_map.mp z
    have := Sum.inr.inj q
    subst this
    exact hx hy
  · by_cases hj : j < done.length
    · rw [List.getElem?_append_left hj] at e1
      rw [List.getElem?_append_left (by omega)] at e2
      exact h3 j p b e1 e2
    · rw [List.getElem?_append_right (by omega)] at e1 e2
      have hj0 : j - done.length = 0 := by
        by_cases z : j - done.length = 0
        · exact z
        · rw [List.getElem?_eq_none (by simp; omega)] at e1; cases e1
      rw [h1] at e2
      rw [hj0] at e1 e2
      cases e1
      cases e2
      exact e
theorem WAt.len {B : Hp} {done : List Str} {kvs : List (Key × V)} {ws : Str → List Str} (h : WAt B done kvs ws) : kvs.length = done.length := by
  have := congrArg List.length h.keys
  simpa using this
abbrev N__law_mutual : List Str := ["_law_names_here", "_law_wishes_here", "_law_mutual_here", "_law_a", "_law_b"]
def t__law_mutual (K : PySem.W.Frag) (E : XK) : TS := (tSeq (tAsg tDNewK (gName 2))
  (tSeq (tFor (iList K (tVar 0)) (gName 3) (sDPut (tVar 2) (tVar 3) (tLc (iList K (tDGet (tVar 1) (tVar 3))) (gName 4) (tTest (tOp (rIn K false) (tVar 3) (tDGet (tVar 1) (tVar 4)))) (tVar 4) [4])))
  (tRet (tVar 2))))
def sp__law_mutual (K : PySem.W.Frag) : Sp := fun vs H Q E => ∃ (n w : Addr) (xs done : List Str) (kvs : List (Key × V)) (ws : Str → List Str) (B : Hp), vs = [.ref n, .ref w] ∧ Same B H ∧ B n = some (.lst (xs.map V.str)) ∧ B w = some (.dK kvs) ∧ WAt B done kvs ws ∧ Drawn xs done ws ∧ xs.length ≤ 25 ∧
  ∀ B' H' m kvs', HS [] B H B' H' [(m, .dK kvs')] → WAt B' xs kvs' (opn ws) → Q (.ref m) H'
theorem pure__law_mutual {K : PySem.W.Frag} {vs : List V} {H : Hp} {Q : VK} {E : XK} (h : sp__law_mutual K vs H Q E) : t__law_mutual K E { nx := fun _ H' => Q .non H', rt := Q } (start N__law_mutual vs) H := by
  obtain ⟨n, w, xs, done, kvs, ws, B, rfl, sB, en, ew, hw, dr, hl, k⟩ := h
  have hs := HS.start sB
  have ndd : done.Nodup := dr.pe.nodup_iff.mpr dr.nd
  show t__law_mutual K E _ [some (.ref n), some (.ref w), none, none, none] H
  unfold t__law_mutual
  ((with_reducible refine x_seq ?_); (with_reducible refine x_asg ?_); (with_reducible refine x_dnew ?_))
  refine new_M hs (fun m H1 hs1 _ => ?_)
  (((with_reducible refine x_gname ?_); try simp only [List.set_cons_zero, List.set_cons_succ]); (with_reducible refine x_seq ?_); (with_reducible refine x_for ?_); (with_reducible refine x_iList ?_); ((with_reducible refine' x_var ?z8h ?_); case z8h => rfl))
  refine ⟨n, rfl, ⟨_, SqL.of (hs1.up en)⟩, ?_⟩
  refine l_list (α := List (Key × V) × Option V) (σf := fun s => [some (.ref n), some (.ref w), some (.ref m), s.2, none]) (Mf := fun s => [(m, .dK s.1)]) (P := fun i s B1 => WAt B1 (xs.take i) s.1 (opn ws)) (s0 := ([], none)) hs1 en .nil
    (fun i x s B2 H2 hi sb2 hs2 pp => ?_) (fun s B2 H2 sb2 hs2 pp => ?_)
  · obtain ⟨mk, s2⟩ := s
    dsimp only at pp hs2 ⊢
    obtain ⟨a, ha, rfl⟩ := strs_get hi
    have ham : a ∈ xs := List.mem_of_getElem? ha
    obtain ⟨wa, eva, ewa⟩ := (hw.mono sb2).get ndd (dr.pe.mem_iff.mpr ham)
    have ew2 := sb2 _ _ ew
    have hla := nodup_len (dr.row a ham).1 (dr.row a ham).2.2
    (((with_reducible refine x_gname ?_); try simp only [List.set_cons_zero, List.set_cons_succ]); (with_reducible refine x_dputU ?_); (with_reducible refine x_lc ?_); (with_reducible refine x_iList ?_); (with_reducible refine x_dget ?_); ((with_reducible refine' x_var ?z14h ?_); case z14h => rfl); ((with_reducible refine' x_var ?z15h ?_); case z15h => rfl); ((with_reducible refine' x_dgS ?z16h ?z16h2 ?_); (case z16h => walk_at "hf"); (case z16h2 => assumption)))
    refine ⟨wa, rfl, ⟨_, SqL.of (hs2.up ewa)⟩, fun D hD => ?_⟩
    refine c_list (α := Unit) (Mf := fun _ => [(m, .dK mk)]) (P := fun j _ acc _ => acc = (((ws a).take j).filter fun b => decide (a ∈ ws b)).map V.str) (s0 := ()) hs2 hD ewa rfl (fun j y _ acc B3 H3 hj hacc sb3 hs3 pp => ?_) (fun _ acc B3 H3 sb3 hs3 hacc pp => ?_)
    · obtain ⟨b, hb, rfl⟩ := strs_get hj
      have hjl : j < (ws a).length := (List.getElem?_eq_some_iff.mp hb).1
      have hbm : b ∈ xs := (dr.row a ham).2.2 b (List.mem_of_getElem? hb)
      obtain ⟨wb, evb, ewb⟩ := ((hw.mono sb2).mono sb3).get ndd (dr.pe.mem_iff.mpr hbm)
      have ew3 := sb3 _ _ ew2
      ((with_reducible refine x_gname ?_); try simp only [List.set_cons_zero, List.set_cons_succ])
      refine ⟨rfl, ?_⟩
      ((with_reducible refine x_test ?_); (with_reducible refine x_op ?_); ((with_reducible refine' x_var ?z20h ?_); case z20h => rfl); (with_reducible refine x_dget ?_); ((with_reducible refine' x_var ?z22h ?_); case z22h => rfl); ((with_reducible refine' x_var ?z23h ?_); case z23h => rfl); ((with_reducible refine' x_dgS ?z24h ?z24h2 ?_); (case z24h => walk_at "hf"); (case z24h2 => assumption)); ((with_reducible refine' x_inLS ?z25h ?_); case z25h => walk_at "sl"); (with_reducible refine x_exb ?_))
      refine x_ite (fun h => ?_) (fun h => ?_)
      · ((with_reducible refine' x_var ?z27h ?_); case z27h => rfl)
        refine c_keep (s := ()) sb3 hs3 hacc (by omega) ?_
        rw [filter_take _ hb, if_pos h, pp]
        simp
      · refine c_left (s := ()) sb3 hs3 hacc ?_
        rw [filter_take _ hb, if_neg (by rw [h]; decide), pp]
    · rw [List.length_map, List.take_length] at pp
      subst pp
      obtain ⟨hs4, sb4⟩ := hs3.still (by simp)
      have er : upd B3 D (.lst (((ws a).filter fun b => decide (a ∈ ws b)).map V.str)) D = some (.lst ((opn ws a).map V.str)) := upd_same
      generalize upd B3 D (.lst (((ws a).filter fun b => decide (a ∈ ws b)).map V.str)) = B4 at hs4 sb4 er
      have hlen := pp.len
      rw [List.length_take] at hlen
      (((with_reducible refine' x_var ?z28h ?_); case z28h => rfl); ((with_reducible refine' x_var ?z29h ?_); case z29h => rfl))
      refine x_dput hs4 (by omega) (fun H5 hs5 => ?_)
      refine ⟨(putK mk (.inr a) (.ref D), some _), B4, rfl, (sb2.trans sb3).trans sb4, hs5, ?_⟩
      dsimp only
      rw [take_snoc ha]
      exact ((pp.mono sb3).mono sb4).snoc (notin_take dr.nd ha) er
  · obtain ⟨mk, s2⟩ := s
    dsimp only at pp hs2 ⊢
    rw [List.length_map, List.take_length] at pp
    ((with_reducible refine x_ret ?_); ((with_reducible refine' x_var ?z31h ?_); case z31h => rfl))
    exact k B2 H2 m mk hs2 pp
/-! ### rows of a person and their wishes -/
inductive MRs (B : Hp) : List V → List (Str × List Str) → Prop
  | nil : MRs B [] []
  | cons {t l : Addr} {a : Str} {r : List Str} {vs : List V} {ks : List (Str × List Str)} : B t = some (.tup [.str a, .ref l]) → B l = some (.lst (r.map V.str)) → MRs B vs ks → MRs B (.ref t :: vs) ((a, r) :: ks)
theorem MRs.mono {B B' : Hp} (s : Same B B') : ∀ {vs : List V} {ks : List (Str × List Str)}, MRs B vs ks → MRs B' vs ks
  | _, _, .nil => .nil
  | _, _, .cons h h2 r => .cons (s _ _ h) (s _ _ h2) (MRs.mono s r)
theorem MRs.snoc {B : Hp} {t l : Addr} {a : Str} {r : List Str} (h : B t = some (.tup [.str a, .ref l])) (h2 : B l = some (.lst (r.map V.str))) : ∀ {vs : List V} {ks : List (Str × List Str)}, MRs B vs ks → MRs B (vs ++ [.ref t]) (ks ++ [(a, r)])
  | _, _, .nil => .cons h h2 .nil
  | _, _, .cons a b r => .cons a b (MRs.snoc h h2 r)
theorem MRs.len {B : Hp} : ∀ {vs : List V} {ks : List (Str × List Str)}, MRs B vs ks → vs.length = ks.length
  | _, _, .nil => rfl
  | _, _, .cons _ _ r => by simp [MRs.len r]
def mrD (q : Str × List Str) : PyData := .tuple [.str q.1, .list (q.2.map PyData.str)]
theorem MRs.dp {K : PySem.W.Frag} {B H : Hp} (s : Same B H) : ∀ {vs : List V} {ks : List (Str × List Str)}, MRs B vs ks → DpAll K H vs (ks.map mrD)
  | _, _, .nil => .nil
  | _, _, .cons h h2 r => .cons (.tup (SqT.of (s _ _ h)) (.cons (.str _) (.cons (.lst (SqL.of (s _ _ h2)) (dp_strs _)) .nil))) (MRs.dp s r)
def rowsOf (xs : List Str) (ws : Str → List Str) : List (Str × List Str) := xs.map fun a => (a, ws a)
abbrev N__law_model : List Str := ["_law_names_here", "_law_wishes_here", "_law_rows", "_law_a"]
def t__law_model (K : PySem.W.Frag) (E : XK) : TS := (tSeq (tAsg (tLst tNil) (gName 2))
  (tSeq (tFor (iList K (tVar 0)) (gName 3) (tDrop (tBM K "list" rAppend (tVar 2) (tCons (tTup (tCons (tVar 3) (tCons (tCB (rListOf K) (tCons (tDGet (tVar 1) (tVar 3)) tNil)) tNil))) tNil))))
  (tRet (tVar 2))))
def sp__law_model (K : PySem.W.Frag) : Sp := fun vs H Q E => ∃ (n w : Addr) (xs done : List Str) (kvs : List (Key × V)) (ws : Str → List Str) (B : Hp), vs = [.ref n, .ref w] ∧ Same B H ∧ B n = some (.lst (xs.map V.str)) ∧ B w = some (.dK kvs) ∧ WAt B done kvs ws ∧ done.Nodup ∧ (∀ x ∈ xs, x ∈ done) ∧ xs.length ≤ 100 ∧
  ∀ B' H' l vs, HS [] B H B' H' [(l, .lst vs)] → MRs B' vs (rowsOf xs ws) → Q (.ref l) H'
abbrev N__law_shows : List Str := ["_law_group_here", "_law_rows", "_law_a"]
def t__law_shows (K : PySem.W.Frag) (E : XK) : TS := (tSeq (tAsg (tLst tNil) (gName 1))
  (tSeq (tFor (iList K (tMt (He.ga K "Group") "people" (sp_Group_people K) (WE0 E) (tVar 0) tNil)) (gName 2) (tDrop (tBM K "list" rAppend (tVar 1) (tCons (tTup (tCons (tVar 2) (tCons (tMt (He.ga K "Group") "wishes" (sp_Group_wishes K) (WE0 E) (tVar 0) (tCons (tVar 2) tNil)) tNil))) tNil))))
  (tRet (tVar 1))))
def sp__law_shows (K : PySem.W.Frag) : Sp := fun vs H Q E => ∃ p B G, vs = [.ref p] ∧ Same B H ∧ GAt K B p G ∧ ∀ B' H' l vs, HS [] B H B' H' [(l, .lst vs)] → MRs B' vs (rowsOf G.names G.wish) → Q (.ref l) H'
abbrev N__law_truth : List Str := ["_law_actual", "_law_due"]
def t__law_truth (K : PySem.W.Frag) (E : XK) : TS := (tRet (tAndV (tCB (rIsi K) (tCons (tVar 0) (tCons (tC (.ty "bool")) tNil))) (tOp rEq (tVar 0) (tVar 1))))
def sp__law_truth (K : PySem.W.Frag) : Sp := fun vs H Q E => ∃ b c, vs = [.bl b, .bl c] ∧ Q (.bl (b == c)) H
end Q

set_option Elab.async false
set_option linter.all false
set_option maxRecDepth 100000
set_option maxHeartbeats 4000000
namespace Q
open PySem PySem.Spec PyProof.Rows L2
local macro_rules | `(tactic| walk_at "bf") => `(tactic| first | assumption | (refine' bstep (by assumption) ?r; case r => walk_at "bf") | fail)
local macro_rules | `(tactic| walk_at "rp") => `(tactic| first | assumption | exact Rep.int _ | exact Rep.bl _ | exact Rep.non | (refine' Rep.mono (by assumption) ?r; case r => walk_at "rp") | fail)
local macro_rules | `(tactic| walk_at "hf") => `(tactic| first | assumption | exact HS.up (by assumption) (by walk_at "bf") | exact HS.get (by assumption) List.mem_cons_self | exact HS.get (by assumption) (List.mem_cons_of_mem _ List.mem_cons_self) | exact HS.get (by assumption) (List.mem_cons_of_mem _ (List.mem_cons_of_mem _ List.mem_cons_self)) | exact HS.get (by assumption) (List.mem_cons_of_mem _ (List.mem_cons_of_mem _ (List.mem_cons_of_mem _ List.mem_cons_self))) | fail)
local macro_rules | `(tactic| walk_at "sl") => `(tactic| first | assumption | exact SqL.of (by walk_at "hf") | fail)
local macro_rules | `(tactic| walk_at "st") => `(tactic| first | assumption | exact SqT.of (by walk_at "hf") | fail)
local macro_rules | `(tactic| walk_at "sz") => `(tactic| first | assumption | (refine small_le ?_; first | assumption | omega | (simp; done) | (simp; omega)) | fail)
/-! ### parts of a group -/
def Grp.part (G : Grp) (ps : List Str) (x : Str) : List Str := (G.wish x).filter fun b => decide (b ∈ ps)
theorem Grp.Ok.part {G : Grp} (ok : G.Ok) {ps : List Str} (nd : ps.Nodup) (hin : ∀ x ∈ ps, x ∈ G.names) : Drawn ps ps (G.part ps) :=
  ⟨nd, fun x m => ok.nm x (hin x m), List.Perm.refl _, fun p m => ⟨(ok.wn p (hin p m)).filter _, fun z => ok.ws p (hin p m) (List.mem_filter.mp z).1, fun q z => by simpa using (List.mem_filter.mp z).2⟩⟩
abbrev N_Group_kept : List Str := ["self", "people", "lists", "person", "other"]
def t_Group_kept (K : PySem.W.Frag) (E : XK) : TS := (tSeq (tAsg tDNewK (gName 2))
  (tSeq (tFor (iList K (tVar 1)) (gName 3) (sDPut (tVar 2) (tVar 3) (tLc (iList K (tDGet (tFld K (tVar 0) "lists") (tVar 3))) (gName 4) (tTest (tOp (rIn K false) (tVar 4) (tVar 1))) (tVar 4) [4])))
  (tRet (tMk (He.ga K "Group") (sp_Group___init__ K) (WE0 E) (tCons (tCB (rTupOf K) (tCons (tVar 1) tNil)) (tCons (tVar 2) tNil))))))
def sp_Group_kept (K : PySem.W.Frag) : Sp := fun vs H Q E => ∃ (p l : Addr) (B : Hp) (G : Grp) (ps : List Str), vs = [.ref p, .ref l] ∧ Same B H ∧ GAt K B p G ∧ B l = some (.lst (ps.map V.str)) ∧ ps.Nodup ∧ (∀ x ∈ ps, x ∈ G.names) ∧
  ∀ B' H' g G', HS [] B H B' H' [] → GAt K B' g G' → G'.names = ps → (∀ x ∈ ps, G'.wish x = G.part ps x) → Q (.ref g) H'
end Q

set_option Elab.async false
set_option linter.all false
set_option maxRecDepth 100000
set_option maxHeartbeats 4000000
namespace Q
open PySem PySem.Spec PyProof.Rows L2
local macro_rules | `(tactic| walk_at "bf") => `(tactic| first | assumption | (refine' bstep (by assumption) ?r; case r => walk_at "bf") | fail)
local macro_rules | `(tactic| walk_at "rp") => `(tactic| first | assumption | exact Rep.int _ | exact Rep.bl _ | exact Rep.non | (refine' Rep.mono (by assumption) ?r; case r => walk_at "rp") | fail)
local macro_rules | `(tactic| walk_at "hf") => `(tactic| first | assumption | exact HS.up (by assumption) (by walk_at "bf") | exact HS.get (by assumption) List.mem_cons_self | exact HS.get (by assumption) (List.mem_cons_of_mem _ List.mem_cons_self) | exact HS.get (by assumption) (List.mem_cons_of_mem _ (List.mem_cons_of_mem _ List.mem_cons_self)) | exact HS.get (by assumption) (List.mem_cons_of_mem _ (List.mem_cons_of_mem _ (List.mem_cons_of_mem _ List.mem_cons_self))) | fail)
local macro_rules | `(tactic| walk_at "sl") => `(tactic| first | assumption | exact SqL.of (by walk_at "hf") | fail)
local macro_rules | `(tactic| walk_at "st") => `(tactic| first | assumption | exact SqT.of (by walk_at "hf") | fail)
local macro_rules | `(tactic| walk_at "sz") => `(tactic| first | assumption | (refine small_le ?_; first | assumption | omega | (simp; done) | (simp; omega)) | fail)
/-! ### lots; inside, outside, without -/
def lotAt (ns : List Str) : Nat → List Str → List D → Option Nat
  | _, _, [] => none
  | i, seen, .str x :: r => if decide (x ∈ ns) && !decide (x ∈ seen) then lotAt ns (i + 1) (seen ++ [x]) r else some i
  | i, _, _ :: _ => some i
def badLot (ns : List Str) : D → Option Int
  | .lst ds => (lotAt ns 0 [] ds).map fun (n : Nat) => (n : Int)
  | _ => some (-1)
abbrev N_Group_check_lot : List Str := ["self", "lot", "seen", "index", "item"]
def t_Group_check_lot (K : PySem.W.Frag) (E : XK) : TS := (tSeq (tIfS (tNot (tB (tCB (rIsi K) (tCons (tVar 1) (tCons (tC (.ty "list")) tNil))))) (tRz1 (He.ga K "BadLot") "index" (tUn rNegI (tC (.int 1))) (WE0 E)) tNext)
  (tSeq (tAsg (tLst tNil) (gName 2))
  (tFor (iEnum K (tCons (tVar 1) tNil)) (gTup K 2 (gCons (gName 3) (gCons (gName 4) gNil))) (tSeq (tIfS (tOr (tNot (tB (tCB (rIsi K) (tCons (tVar 4) (tCons (tC (.ty "str")) tNil))))) (tOr (tB (tDNotIn (tVar 4) (tFld K (tVar 0) "lists"))) (tTest (tOp (rIn K false) (tVar 4) (tVar 2))))) (tRz1 (He.ga K "BadLot") "index" (tVar 3) (WE0 E)) tNext)
  (tDrop (tBM K "list" rAppend (tVar 2) (tCons (tVar 4) tNil)))))))
def sp_Group_check_lot (K : PySem.W.Frag) : Sp := fun vs H Q E => ∃ p v B G d, vs = [.ref p, v] ∧ Same B H ∧ GAt K B p G ∧ Rep K B v d ∧ (badLot G.names d = none → Ret B H Q fun _ r => r = .non) ∧ ∀ i, badLot G.names d = some i → Thr K B H E "BadLot" [("index", .int i)]
/-- the people of the group that stay -/
def spPart (K : PySem.W.Frag) (f : List Str → Str → Bool) : Sp := fun vs H Q E => ∃ p v B G d, vs = [.ref p, v] ∧ Same B H ∧ GAt K B p G ∧ Rep K B v d ∧ (∀ i, badLot G.names d = some i → Thr K B H E "BadLot" [("index", .int i)]) ∧
  ∀ lot, d = D.strs lot → badLot G.names d = none → ∀ B' H' g G', HS [] B H B' H' [] → GAt K B' g G' → G'.names = G.names.filter (f lot) → (∀ x ∈ G'.names, G'.wish x = G.part (G.names.filter (f lot)) x) → Q (.ref g) H'
abbrev N_Group_inside : List Str := ["self", "lot", "person"]
def t_Group_inside (K : PySem.W.Frag) (E : XK) : TS := (tSeq (tDrop (tMt (He.ga K "Group") "check_lot" (sp_Group_check_lot K) (WE0 E) (tVar 0) (tCons (tVar 1) tNil)))
  (tRet (tMt (He.ga K "Group") "kept" (sp_Group_kept K) (WE0 E) (tVar 0) (tCons (tLc (iList K (tFld K (tVar 0) "names")) (gName 2) (tTest (tOp (rIn K false) (tVar 2) (tVar 1))) (tVar 2) [2]) tNil))))
def sp_Group_inside (K : PySem.W.Frag) : Sp := spPart K fun lot x => decide (x ∈ lot)
abbrev N_Group_outside : List Str := ["self", "lot", "person"]
def t_Group_outside (K : PySem.W.Frag) (E : XK) : TS := (tSeq (tDrop (tMt (He.ga K "Group") "check_lot" (sp_Group_check_lot K) (WE0 E) (tVar 0) (tCons (tVar 1) tNil)))
  (tRet (tMt (He.ga K "Group") "kept" (sp_Group_kept K) (WE0 E) (tVar 0) (tCons (tLc (iList K (tFld K (tVar 0) "names")) (gName 2) (tTest (tOp (rIn K true) (tVar 2) (tVar 1))) (tVar 2) [2]) tNil))))
def sp_Group_outside (K : PySem.W.Frag) : Sp := spPart K fun lot x => !decide (x ∈ lot)
end Q

set_option Elab.async false
set_option linter.all false
set_option maxRecDepth 100000
set_option maxHeartbeats 4000000
namespace Q
open PySem PySem.Spec PyProof.Rows L2
/-! ### != of two lists of the same things -/
def sameB : V → Bool
  | .ref _ => true
  | v => flatB v
def rNeL (K : PySem.W.Frag) : R2 := fun x y H Q => ∃ a b xs, x = .ref a ∧ y = .ref b ∧ SqL K H a xs ∧ SqL K H b xs ∧ xs.all sameB = true ∧ Q (.bl false) H
end Q

set_option Elab.async false
set_option linter.all false
set_option maxRecDepth 100000
set_option maxHeartbeats 4000000
namespace Q
open PySem PySem.Spec PyProof.Rows L2
local macro_rules | `(tactic| walk_at "bf") => `(tactic| first | assumption | (refine' bstep (by assumption) ?r; case r => walk_at "bf") | fail)
local macro_rules | `(tactic| walk_at "rp") => `(tactic| first | assumption | exact Rep.int _ | exact Rep.bl _ | exact Rep.non | (refine' Rep.mono (by assumption) ?r; case r => walk_at "rp") | fail)
local macro_rules | `(tactic| walk_at "hf") => `(tactic| first | assumption | exact HS.up (by assumption) (by walk_at "bf") | exact HS.get (by assumption) List.mem_cons_self | exact HS.get (by assumption) (List.mem_cons_of_mem _ List.mem_cons_self) | exact HS.get (by assumption) (List.mem_cons_of_mem _ (List.mem_cons_of_mem _ List.mem_cons_self)) | exact HS.get (by assumption) (List.mem_cons_of_mem _ (List.mem_cons_of_mem _ (List.mem_cons_of_mem _ List.mem_cons_self))) | fail)
local macro_rules | `(tactic| walk_at "sl") => `(tactic| first | assumption | exact SqL.of (by walk_at "hf") | fail)
local macro_rules | `(tactic| walk_at "st") => `(tactic| first | assumption | exact SqT.of (by walk_at "hf") | fail)
local macro_rules | `(tactic| walk_at "sz") => `(tactic| first | assumption | (refine small_le ?_; first | assumption | omega | (simp; done) | (simp; omega)) | fail)
/-! ### k10: lots by the law -/
abbrev N__law_is_lot : List Str := ["_law_names_here", "_law_lot", "_law_k"]
def t__law_is_lot (K : PySem.W.Frag) (E : XK) : TS := (tSeq (tIfS (tNot (tB (tCB (rIsi K) (tCons (tVar 1) (tCons (tC (.ty "list")) tNil))))) (tRet (tUn rNegI (tC (.int 1)))) tNext)
  (tSeq (tFor (iRng1 (tCons (tCB (rLenA K) (tCons (tVar 1) tNil)) tNil)) (gName 2) (tIfS (tOr (tNot (tB (tCB (rIsi K) (tCons (tOp (rIxL K) (tVar 1) (tVar 2)) (tCons (tC (.ty "str")) tNil))))) (tOr (tTest (tOp (rIn K true) (tOp (rIxL K) (tVar 1) (tVar 2)) (tVar 0))) (tTest (tOp (rIn K false) (tOp (rIxL K) (tVar 1) (tVar 2)) (tSl (rSlL K) (tVar 1) tNoPart (tPart (tVar 2))))))) (tRet (tVar 2)) tNext))
  (tRet (tC .non))))
def sp__law_is_lot (K : PySem.W.Frag) : Sp := fun vs H Q E => ∃ (n : Addr) (v : V) (B : Hp) (ns : List Str) (d : D), vs = [.ref n, v] ∧ Same B H ∧ B n = some (.lst (ns.map V.str)) ∧ Rep K B v d ∧ Ret B H Q fun _ r => r = dueV (badLot ns d)
abbrev N__law_part : List Str := ["_law_names_here", "_law_wishes_here", "_law_rest", "_law_rows", "_law_a", "_law_b"]
def t__law_part (K : PySem.W.Frag) (E : XK) : TS := (tSeq (tAsg (tLst tNil) (gName 3))
  (tSeq (tFor (iList K (tVar 0)) (gName 4) (tIfS (tTest (tOp (rIn K false) (tVar 4) (tVar 2))) (tDrop (tBM K "list" rAppend (tVar 3) (tCons (tTup (tCons (tVar 4) (tCons (tLc (iList K (tDGet (tVar 1) (tVar 4))) (gName 5) (tTest (tOp (rIn K false) (tVar 5) (tVar 2))) (tVar 5) [5]) tNil))) tNil))) tNext))
  (tRet (tVar 3))))
def partOf (xs rest : List Str) (ws : Str → List Str) : List (Str × List Str) := (xs.filter fun a => decide (a ∈ rest)).map fun a => (a, (ws a).filter fun b => decide (b ∈ rest))
def sp__law_part (K : PySem.W.Frag) : Sp := fun vs H Q E => ∃ (n w r : Addr) (xs done rest : List Str) (kvs : List (Key × V)) (ws : Str → List Str) (B : Hp), vs = [.ref n, .ref w, .ref r] ∧ Same B H ∧ B n = some (.lst (xs.map V.str)) ∧ B w = some (.dK kvs) ∧ B r = some (.lst (rest.map V.str)) ∧ WAt B done kvs ws ∧ done.Nodup ∧ (∀ x ∈ xs, x ∈ done ∧ (ws x).length ≤ 100) ∧ xs.length ≤ 100 ∧
  ∀ B' H' l vs, HS [] B H B' H' [(l, .lst vs)] → MRs B' vs (partOf xs rest ws) → Q (.ref l) H'
end Q

set_option Elab.async false
set_option linter.all false
set_option maxRecDepth 100000
set_option maxHeartbeats 4000000
namespace Q
open PySem PySem.Spec PyProof.Rows L2
/-! ### k10: asked for a part -/
/-- insert -/
def rInsert : V → List V → Hp → VK → Prop := fun x vs H Q => ∃ (l : Addr) (xs : List V) (i : Nat) (y : V), x = .ref l ∧ vs = [.int (i : Nat), y] ∧ H l = some (.lst xs) ∧ xs.length ≤ 1000000 ∧ i ≤ xs.length ∧ Q .non (upd H l (.lst (xs.take i ++ [y] ++ xs.drop i)))
theorem mtInsert {X : Cx} : MtR X "list.insert" rInsert := by
  intro pins s σ H x xs v us Q I rx rv h
  obtain ⟨l, ys, i, y, rfl, rfl, hH, hz, hi, q⟩ := h
  refine mt_insert pins s σ H _ _ v us Q I rx rv ⟨l, ys, (i : Nat), y, rfl, rfl, hH, small_lt hz, by omega, by omega, ?_⟩
  rw [Int.toNat_natCast]
  exact q
theorem x_insert {S : List Addr} {B0 H0 B H : Hp} {M : List (Addr × HO)} {Q : VK} {l : Addr} {xs : List V} {i : Nat} {y : V} (hs : HS S B0 H0 B H ((l, .lst xs) :: M)) (hz : xs.length ≤ 1000000) (hi : i ≤ xs.length) (h : ∀ H', HS S B0 H0 B H' ((l, .lst (xs.take i ++ [y] ++ xs.drop i)) :: M) → Q .non H') : rInsert (.ref l) [.int (i : Nat), y] H Q :=
  ⟨l, xs, i, y, rfl, rfl, hs.get List.mem_cons_self, hz, hi, h _ hs.set0⟩
theorem Reps.insert {K : PySem.W.Frag} {B : Hp} {v : V} {d : D} (h : Rep K B v d) : ∀ {vs : List V} {ds : List D} (i : Nat), Reps K B vs ds → Reps K B (vs.take i ++ [v] ++ vs.drop i) (ds.take i ++ [d] ++ ds.drop i)
  | _, _, 0, r => .cons h r
  | _, _, i + 1, .nil => .cons h .nil
  | _, _, i + 1, .cons a r => .cons a (Reps.insert h i r)
theorem Reps.sameB {K : PySem.W.Frag} {B : Hp} : ∀ {vs : List V} {ds : List D}, Reps K B vs ds → vs.all sameB = true
  | _, _, .nil => rfl
  | _, _, .cons a r => by
    rw [List.all_cons, Reps.sameB r, Bool.and_true]
    cases a <;> rfl
end Q

set_option Elab.async false
set_option linter.all false
set_option maxRecDepth 100000
set_option maxHeartbeats 4000000
namespace Q
open PySem PySem.Spec PyProof.Rows L2
/-! ### y = {..: .. for ..} -/
theorem sw_trueD {kx vx : Expr} {gs : List Comprehension} {scope : Scope} {pos py : Pos} {y : Str} {l : Nat} {env : Env} (hk : env.scope.kind = .function) (hy : env.scope.names.lookup y = some .local) (hl : (py.line == pos.line) = true)
    (ha : (scope.names.any fun (n, k) => n == y && (k == .local || k == .cell)) = false) : swapsWith (.DictComp kx vx gs scope pos) (some (.Name y py)) l env = pure true := by
  have ky : env.kindOf y = some .local := hy
  have hb : env.blockKind = .function := by unfold Env.blockKind; rw [hk]; rfl
  unfold swapsWith
  simp only [hb, ky, ha, Expr.pos, hl]
  rfl
theorem ps_setDc {X : Cx} {i : Nat} {y : Str} {py : Pos} {kx vx tg iter : Expr} {ifs : List Expr} {scope : Scope} {own : List (Str × Nat)} {pos spos : Pos} {wi : TI} {g : TG} {tt : TT} {tk tv : TE} (hc : X.calm = true) (hN : X.N.Nodup) (hy : X.N[i]? = some y) (hyl : X.env.scope.names.lookup y = some .local)
    (hsw : swapsWith (.DictComp kx vx [⟨tg, iter, ifs, 0⟩] scope pos) (some (.Name y py)) spos.line X.env = pure true) (hi : PI X tg iter wi) (ok : BlkOk X.N X.env.scope scope own)
    (hg : ∀ (s : Shared) (H : Hp) (C : Addr) (cl : List (Str × Addr)) (fp : List Addr), PG (X.blk s H scope (compEnvC scope cl C X.env) fp) tg g) (ht : ∀ (s : Shared) (H : Hp) (C : Addr) (cl : List (Str × Addr)) (fp : List Addr), PTs (X.blk s H scope (compEnvC scope cl C X.env) fp) ifs tt)
    (hk : ∀ (s : Shared) (H : Hp) (C : Addr) (cl : List (Str × Addr)) (fp : List Addr), PE (X.blk s H scope (compEnvC scope cl C X.env) fp) kx tk)
    (he : ∀ (s : Shared) (H : Hp) (C : Addr) (cl : List (Str × Addr)) (fp : List Addr), PE (X.blk s H scope (compEnvC scope cl C X.env) fp) vx tv) (hs : ∀ x, foldedSetIterable iter X.env x = pure x := by intro _; rfl) :
    PS X (.Assign [.Name y py] (.DictComp kx vx [⟨tg, iter, ifs, 0⟩] scope pos) spos) (tAsg (tDc wi g tt tk tv (own.map (·.2))) (gName i)) := by
  refine ⟨fun pins s σ H D I h => ?_⟩
  rw [exec_Assign_Name_used _ _ _ _ hsw]
  refine wpAny_bind (wpAny_standAt (wpAny_bind ?_))
  show wpAny _ X.A (do let _ ← comprehension (.DictComp kx vx [⟨tg, iter, ifs, 0⟩] scope pos) scope X.env (firstIterPos [⟨tg, iter, ifs, 0⟩] pos) newDict false (eval iter X.env) (some (assign (.Name y py) X.env))) _ _ s
  have h : tDc wi g tt tk tv (own.map (·.2)) σ H (fun x H1 => gName i x σ H1 D.nx) := h
  refine wpAny_bind (thn (dc_core (Qf := fun _ s' => SP X pins D .next s') hc hN I hi ok hg ht hk he hs h fun L C s' m H' I' q hn f => ?_) fun _ s' hq => wpAny_pure (wpAny_pure hq))
  show wpAny _ _ (assign (.Name y py) X.env (.ref L)) _ _ _
  refine wpAny_assign_Name (store_ok2 (v := V.ref L) I' hN hy (.inl hyl) rfl (fun s2 I2 ⟨a, sb, ha⟩ => ?_) (.inr hyl))
  obtain ⟨f0, f1, f2, f3, f4, f5⟩ := f
  have haC : C ≠ a := by
    rcases ha with z | z
    · rw [z]; exact f1
    · exact fun e => f4 y a z e.symm
  refine ⟨m, hn.sameBut sb haC, fun h3 sb3 => ?_⟩
  exact ⟨_, H', I2.turned (t' := s2.toks) (fun b o hb e => (sb3.2 b hb).trans e) f0 f1 f3 f4 f5, q⟩
end Q

set_option Elab.async false
set_option linter.all false
set_option maxRecDepth 100000
set_option maxHeartbeats 4000000
namespace Q
open PySem PySem.Spec PyProof.Rows L2
/-! ### try with several clauses `except X as e` -/
abbrev Clause := Value × Nat × (Addr → Value → Option Addr → TS)
/-- what the clauses wish, one after the other; the name is unbound behind its suite -/
def wCl (K : PySem.W.Frag) (Wout : WX) (D : Ends) : List Clause → WX
  | [] => Wout
  | (c, i, ts) :: r => fun cls d σ H => ∃ b, PySem.W.exmOne K cls c = some b ∧
      (b = true → ∀ a, H a = none → ts a cls d ⟨fun σ' H' => D.nx (σ'.set i none) H', D.rt, fun σ' H' => D.bk (σ'.set i none) H', fun σ' H' => D.ct (σ'.set i none) H'⟩ (σ.set i (some (.ref a))) H) ∧ (b = false → wCl K Wout D r cls d σ H)
def tTryCl (K : PySem.W.Frag) (cs : List Clause) (Wout : WX) (tb : WX → TS) : TS := fun D σ H => tb (wCl K Wout D cs) D σ H
inductive ClOk (X : Cx) : List ExceptHandler → List Clause → Prop
  | nil : ClOk X [] []
  | cons {x n : Str} {c : Value} {i : Nat} {ts : Addr → Value → Option Addr → TS} {b₀ : Stmt} {suite : List Stmt} {np pos' : Pos} {hds : List ExceptHandler} {l : List Clause} (hi : X.N[i]? = some n) (hln : X.env.kindOf n = some .local) (hc : Names X x c)
      (hsu : ∀ (a : Addr) (oe : Obj) (cls : Value) (d : Option Addr) (pn : List (Addr × Obj)), Zc cls d oe → (∃ vs, oe.data = .fields vs) → PSs (X.suite a ((a, oe) :: pn)) (b₀ :: suite) (ts a cls d)) (r : ClOk X hds l) :
      ClOk X (.ExceptHandler (some (.Name x np)) (some n) (b₀ :: suite) pos' :: hds) ((c, i, ts) :: l)
section
variable {X : Cx} {body : List Stmt} {hd0 : ExceptHandler} {hds : List ExceptHandler} {cs : List Clause} {pos : Pos} {tb : WX → TS} {Wout : WX}
end
end Q

set_option Elab.async false
set_option linter.all false
set_option maxRecDepth 100000
set_option maxHeartbeats 4000000
namespace Q
open PySem PySem.Spec PyProof.Rows L2
/-! ### names, wishes and the group that a law draws -/
structure Pre (K : PySem.W.Frag) (B : Hp) (n g : Addr) (xs done : List Str) (kvs : List (Key × V)) (ws : Str → List Str) (G : Grp) : Prop where
  en : B n = some (.lst (xs.map V.str))
  hw : WAt B done kvs ws
  dr : Drawn xs done ws
  xl : xs.length ≤ 16
  gat : GAt K B g G
  gn : G.names = xs
  gw : ∀ p ∈ xs, G.wish p = ws p
theorem Pre.mono {K : PySem.W.Frag} {B B' : Hp} {n g : Addr} {xs done : List Str} {kvs : List (Key × V)} {ws : Str → List Str} {G : Grp} (s : Same B B') (h : Pre K B n g xs done kvs ws G) : Pre K B' n g xs done kvs ws G :=
  ⟨s _ _ h.en, h.hw.mono s, h.dr, h.xl, h.gat.mono s, h.gn, h.gw⟩
theorem Pre.nd {K : PySem.W.Frag} {B : Hp} {n g : Addr} {xs done : List Str} {kvs : List (Key × V)} {ws : Str → List Str} {G : Grp} (h : Pre K B n g xs done kvs ws G) : done.Nodup := h.dr.pe.nodup_iff.mpr h.dr.nd
theorem Pre.dl {K : PySem.W.Frag} {B : Hp} {n g : Addr} {xs done : List Str} {kvs : List (Key × V)} {ws : Str → List Str} {G : Grp} (h : Pre K B n g xs done kvs ws G) : done.length ≤ 16 := by
  have := h.dr.pe.length_eq
  have := h.xl
  omega
end Q

set_option Elab.async false
set_option linter.all false
set_option maxRecDepth 100000
set_option maxHeartbeats 4000000
namespace Q
open PySem PySem.Spec PyProof.Rows L2
/-! ### == and != of nested data, both answers -/
/-- two rows, item by item -/
def EqS (F : V → V → Bool → Prop) (xs ys : List V) (b : Bool) : Prop := ∃ e : Nat → Bool, (∀ j u v, xs[j]? = some u → ys[j]? = some v → F u v (e j)) ∧ b = (decide (xs.length = ys.length) && (List.range xs.length).all e)
/-- an item compared with an item -/
def EqA (K : PySem.W.Frag) (H : Hp) : Nat → V → V → Bool → Prop
  | 0 => fun _ _ _ => False
  | n + 1 => fun x y b => (flatV x = true ∧ flatV y = true ∧ b = eqV x y) ∨ (∃ a, x = .ref a ∧ y = .ref a ∧ b = true) ∨
      ∃ a c xs ys, x = .ref a ∧ y = .ref c ∧ ((SqL K H a xs ∧ SqL K H c ys) ∨ (SqT K H a xs ∧ SqT K H c ys)) ∧ EqS (EqA K H n) xs ys b
/-- a whole compared with a whole -/
def EqW (K : PySem.W.Frag) (H : Hp) (n : Nat) (x y : V) (b : Bool) : Prop :=
  (∃ a c xs ys, x = .ref a ∧ y = .ref c ∧ ((SqL K H a xs ∧ SqL K H c ys) ∨ (SqT K H a xs ∧ SqT K H c ys)) ∧ EqS (EqA K H n) xs ys b) ∨
  ∃ a c ks ls, ∃ e : Key → Bool, x = .ref a ∧ y = .ref c ∧ H a = some (.dK ks) ∧ H c = some (.dK ls) ∧ (∀ k u v, (k, u) ∈ ks → valV ls k = some v → EqA K H n u v (e k)) ∧ b = (decide (ks.length = ls.length) && ks.all fun p => (valV ls p.1).isSome && e p.1)
section
variable {X : Cx} {pins : List (Addr × Obj)} {σ : L2.St} {H : Hp} {s : Shared}
end
def rEqE (K : PySem.W.Frag) : R2 := fun x y H Q => ∃ n b, n ≤ 60 ∧ EqW K H n x y b ∧ Q (.bl b) H
def rNeE (K : PySem.W.Frag) : R2 := fun x y H Q => ∃ n b, n ≤ 60 ∧ EqW K H n x y b ∧ Q (.bl (!b)) H
section
variable {X : Cx}
end
end Q

set_option Elab.async false
set_option linter.all false
set_option maxRecDepth 100000
set_option maxHeartbeats 4000000
namespace Q
open PySem PySem.Spec PyProof.Rows L2
/-! ### == and != by an own __eq__, two instances of one class -/
def rEqG (C : Addr) (sp : Sp) : R2 := fun x y H Q => ∃ a c dx fs dy gs, x = .ref a ∧ y = .ref c ∧ H a = some (.ins C dx fs) ∧ H c = some (.ins C dy gs) ∧ sp [.ref a, .ref c] H (fun v H' => ∃ b, v = .bl b ∧ Q (.bl b) H') fun _ _ _ => False
def rNeG (C : Addr) (sp : Sp) : R2 := fun x y H Q => ∃ a c dx fs dy gs, x = .ref a ∧ y = .ref c ∧ H a = some (.ins C dx fs) ∧ H c = some (.ins C dy gs) ∧ sp [.ref a, .ref c] H (fun v H' => ∃ b, v = .bl b ∧ Q (.bl (!b)) H') fun _ _ _ => False
section
variable {M : Model} {A : Around} {E : Value → Shared → Prop} {s : Shared} {K : PySem.W.Frag} {x C : Addr} {ox : Obj} {od : Option Obj}
end
section
variable {prog : Program} {w : World} {A : Around} {E : Value → Shared → Prop} {s : Shared} {K : PySem.W.Frag} {x y C f : Addr} {ox oy : Obj} {od oe : Option Obj}
end
section
variable {X : Cx} {k j : Nat} {c : Str} {ps : List Str} {sp : Sp}
end
end Q

set_option Elab.async false
set_option linter.all false
set_option maxRecDepth 100000
set_option maxHeartbeats 4000000
namespace Q
open PySem PySem.Spec PyProof.Rows L2
/-! ### isinstance(x, Group) -/
/-! ### == of lists and dicts of texts -/
theorem eqa_str {K : PySem.W.Frag} {H : Hp} {n : Nat} {x y : Str} : EqA K H (n + 1) (.str x) (.str y) (decide (x = y)) := .inl ⟨rfl, rfl, by
  show decide (x = y) = (x == y)
  by_cases h : x = y
  · subst h; simp
  · simp [h]⟩
theorem eqs_strs {K : PySem.W.Frag} {H : Hp} {n : Nat} (xs ys : List Str) : EqS (EqA K H (n + 1)) (xs.map V.str) (ys.map V.str) (decide (xs = ys)) := by
  refine ⟨fun j => decide (xs[j]? = ys[j]?), fun j u v h1 h2 => ?_, ?_⟩
  · obtain ⟨x, e1, rfl⟩ := strs_get h1
    obtain ⟨y, e2, rfl⟩ := strs_get h2
    dsimp only
    rw [e1, e2]
    have := eqa_str (K := K) (H := H) (n := n) (x := x) (y := y)
    simpa using this
  · rw [List.length_map, List.length_map]
    by_cases h : xs = ys
    · subst h
      simp
    · rw [decide_eq_false h]
      symm
      rw [Bool.and_eq_false_iff]
      by_cases hl : xs.length = ys.length
      · right
        rw [List.all_eq_false]
        have : ∃ j, xs[j]? ≠ ys[j]? := Classical.byContradiction fun z => h (List.ext_getElem? fun j => Classical.byContradiction fun w => z ⟨j, w⟩)
        obtain ⟨j, hj⟩ := this
        refine ⟨j, List.mem_range.mpr ?_, by simpa using hj⟩
        refine Classical.byContradiction fun z => hj ?_
        rw [List.getElem?_eq_none (by omega), List.getElem?_eq_none (by omega)]
      · exact .inl (decide_eq_false hl)
def keyB (f : Str → Bool) : Key → Bool
  | .inr p => f p
  | _ => false
/-! ### Group.__eq__ -/
def Grp.eq (G G2 : Grp) : Bool := decide (G.names = G2.names) && G.names.all fun p => decide (G.wish p = G2.wish p)
abbrev N_Group___eq__ : List Str := ["self", "other"]
def t_Group___eq__ (K : PySem.W.Frag) (E : XK) : TS := (tRet (tAndV (tCB (rIsi K) (tCons (tVar 1) (tCons (tC (.ref (He.ga K "Group"))) tNil))) (tAndV (tOp (rEqD K) (tFld K (tVar 0) "names") (tFld K (tVar 1) "names")) (tOp (rEqE K) (tFld K (tVar 0) "lists") (tFld K (tVar 1) "lists")))))
def sp_Group___eq__ (K : PySem.W.Frag) : Sp := fun vs H Q E => ∃ p q B G G2, vs = [.ref p, .ref q] ∧ Same B H ∧ GAt K B p G ∧ GAt K B q G2 ∧ Ret B H Q fun _ r => r = .bl (G.eq G2)
end Q

set_option Elab.async false
set_option linter.all false
set_option maxRecDepth 100000
set_option maxHeartbeats 4000000
namespace Q
open PySem PySem.Spec PyProof.Rows L2
local macro_rules | `(tactic| walk_at "bf") => `(tactic| first | assumption | (refine' bstep (by assumption) ?r; case r => walk_at "bf") | fail)
local macro_rules | `(tactic| walk_at "rp") => `(tactic| first | assumption | exact Rep.int _ | exact Rep.bl _ | exact Rep.non | (refine' Rep.mono (by assumption) ?r; case r => walk_at "rp") | fail)
local macro_rules | `(tactic| walk_at "hf") => `(tactic| first | assumption | exact HS.up (by assumption) (by walk_at "bf") | exact HS.get (by assumption) List.mem_cons_self | exact HS.get (by assumption) (List.mem_cons_of_mem _ List.mem_cons_self) | exact HS.get (by assumption) (List.mem_cons_of_mem _ (List.mem_cons_of_mem _ List.mem_cons_self)) | exact HS.get (by assumption) (List.mem_cons_of_mem _ (List.mem_cons_of_mem _ (List.mem_cons_of_mem _ List.mem_cons_self))) | fail)
local macro_rules | `(tactic| walk_at "sl") => `(tactic| first | assumption | exact SqL.of (by walk_at "hf") | fail)
local macro_rules | `(tactic| walk_at "st") => `(tactic| first | assumption | exact SqT.of (by walk_at "hf") | fail)
local macro_rules | `(tactic| walk_at "sz") => `(tactic| first | assumption | (refine small_le ?_; first | assumption | omega | (simp; done) | (simp; omega)) | fail)
/-! ### dicts by a function of the names -/
def zipF (rs : List Str) (f : Str → Addr) : List (Key × V) := rs.map fun p => (.inr p, .ref (f p))
def lsF (rs : List Str) (f : Str → Addr) (ws : Str → List Str) : List (Addr × HO) := rs.map fun p => (f p, .lst ((ws p).map V.str))
def updW {β : Type} (ws : Str → β) (a : Str) (row : β) : Str → β := fun p => if p = a then row else ws p
theorem updW_eq {β : Type} {ws : Str → β} {a : Str} {row : β} : updW ws a row a = row := if_pos rfl
theorem updW_ne {β : Type} {ws : Str → β} {a p : Str} {row : β} (h : p ≠ a) : updW ws a row p = ws p := if_neg h
theorem zipK_map (rs : List Str) (f : Str → Addr) : zipK rs (rs.map f) = zipF rs f := by
  induction rs with
  | nil => rfl
  | cons x r ih =>
    show ((Sum.inr x : Key), V.ref (f x)) :: zipK r (r.map f) = _
    rw [ih]
    rfl
/-! ### for x in reversed(list) -/
theorem x_listD {H : Hp} {Q : VK} {p : Addr} {kvs : List (Key × V)} (hp : H p = some (.dK kvs)) (h : New (.lst (kvs.map fun kv => kV kv.1)) Q H) : rListD [.ref p] H Q := ⟨p, kvs, rfl, hp, h⟩
section
variable {α : Type} {K : PySem.W.Frag} {S : List Addr} {B0 H0 B : Hp} {σf : α → L2.St} {Mf : α → List (Addr × HO)} {P : Nat → α → Hp → Prop} {a : Addr} {xs : List V} {g : TG} {tb : TS} {De : Ends} {H : Hp} {s0 : α}
end
abbrev N__law_turned : List Str := ["_law_x", "_law_turned_here", "_law_a"]
def t__law_turned (K : PySem.W.Frag) (E : XK) : TS := (tSeq (tAsg tDNewK (gName 1))
  (tSeq (tFor (iRev K (tCons (tCB (rSortL K) (tCons (tCB rListD (tCons (tVar 0) tNil)) tNil)) tNil)) (gName 2) (sDPut (tVar 1) (tVar 2) (tDGet (tVar 0) (tVar 2))))
  (tRet (tVar 1))))
def sp__law_turned (K : PySem.W.Frag) : Sp := fun vs H Q E => ∃ (d : Addr) (done : List Str) (f : Str → Addr) (B : Hp), vs = [.ref d] ∧ Same B H ∧ B d = some (.dK (zipF done f)) ∧ done.Nodup ∧ done.length < 64 ∧
  ∀ B' H' T rs, HS [] B H B' H' [(T, .dK (zipF rs f))] → rs.Perm done → Q (.ref T) H'
end Q

set_option Elab.async false
set_option linter.all false
set_option maxRecDepth 100000
set_option maxHeartbeats 4000000
namespace Q
open PySem PySem.Spec PyProof.Rows L2
/-! ### more of dicts by a function -/
theorem WAt.ofF {B : Hp} {rs : List Str} {f : Str → Addr} {ws : Str → List Str} (h : ∀ p ∈ rs, B (f p) = some (.lst ((ws p).map V.str))) : WAt B rs (zipF rs f) ws :=
  ⟨rs.map f, by rw [List.length_map], (zipK_map rs f).symm, fun j p a e1 e2 => by
    rw [List.getElem?_map, e1] at e2
    cases e2
    exact h p (List.mem_of_getElem? e1)⟩
/-! ### rows that change -/
theorem Drawn.upd {xs rs : List Str} {ws : Str → List Str} {a : Str} {row : List Str} (d : Drawn xs rs ws) (h : RowOk xs a row) : Drawn xs rs (updW ws a row) := ⟨d.nd, d.ok, d.pe, fun p m => by
  unfold updW
  split
  · rename_i e; subst e; exact h
  · exact d.row p m⟩
theorem RowOk.names {xs ys row : List Str} {p : Str} (h : RowOk xs p row) (s : ∀ q ∈ xs, q ∈ ys) : RowOk ys p row := ⟨h.1, h.2.1, fun q m => s q (h.2.2 q m)⟩
/-! ### one name becomes another -/
def ren (a b : Str) (c : Str) : Str := if c = a then b else c
end Q

set_option Elab.async false
set_option linter.all false
set_option maxRecDepth 100000
set_option maxHeartbeats 4000000
namespace Q
open PySem PySem.Spec PyProof.Rows L2
/-! ### != of any data with itself or a copy -/
def SameQ (K : PySem.W.Frag) (H : Hp) (x y : V) : Prop := ∃ a, x = .ref a ∧ y = .ref a ∧ ((∃ xs, SqL K H a xs) ∨ (∃ xs, SqT K H a xs) ∨ ∃ kvs, H a = some (.dK kvs))
def rNeU (K : PySem.W.Frag) : R2 := fun x y H Q => rNe x y H Q ∨ rNeE K x y H Q ∨ (SameQ K H x y ∧ Q (.bl false) H)
theorem Rep.flat {K : PySem.W.Frag} {B : Hp} {v : V} {d : D} (r : Rep K B v d) : flatV v = true ∨ ∃ a, v = .ref a := by
  cases r <;> first | exact .inl rfl | exact .inr ⟨_, rfl⟩
theorem Reps.flat {K : PySem.W.Frag} {B : Hp} : ∀ {vs : List V} {ds : List D}, Reps K B vs ds → ∀ x ∈ vs, flatV x = true ∨ ∃ a, x = .ref a
  | _, _, .nil, _, m => nomatch m
  | _, _, .cons h r, x, m => by
    rcases List.mem_cons.mp m with rfl | m
    · exact h.flat
    · exact Reps.flat r x m
/-- not an instance -/
def D.plain : D → Bool
  | .obj _ _ => false
  | _ => true
theorem neU_self {K : PySem.W.Frag} {S : List Addr} {B0 H0 B H : Hp} {M : List (Addr × HO)} {Q : VK} {v : V} {d : D} (hs : HS S B0 H0 B H M) (r : Rep K B v d) (hd : d.plain = true) (h : Q (.bl false) H) : rNeU K v v H Q := by
  cases r with
  | non => exact .inl ⟨rfl, by simpa using h⟩
  | bl b => exact .inl ⟨rfl, by simpa using h⟩
  | int i => exact .inl ⟨rfl, by simpa using h⟩
  | str _ => exact .inl ⟨rfl, by simpa using h⟩
  | lst e _ _ => exact .inr (.inr ⟨⟨_, rfl, rfl, .inl ⟨_, SqL.of (hs.up e)⟩⟩, h⟩)
  | tup e _ => exact .inr (.inr ⟨⟨_, rfl, rfl, .inr (.inl ⟨_, SqT.of (hs.up e)⟩)⟩, h⟩)
  | dct e _ => exact .inr (.inr ⟨⟨_, rfl, rfl, .inr (.inr ⟨_, hs.up e⟩)⟩, h⟩)
  | obj _ _ => cases hd
/-! ### rows of names and wishes -/
/-! ### a group of names and wishes that fit -/
/-! ### {person: list(self.lists[person]) for person in self.names} -/
end Q

set_option Elab.async false
set_option linter.all false
set_option maxRecDepth 100000
set_option maxHeartbeats 4000000
namespace Q
open PySem PySem.Spec PyProof.Rows L2
local macro_rules | `(tactic| walk_at "bf") => `(tactic| first | assumption | (refine' bstep (by assumption) ?r; case r => walk_at "bf") | fail)
local macro_rules | `(tactic| walk_at "rp") => `(tactic| first | assumption | exact Rep.int _ | exact Rep.bl _ | exact Rep.non | (refine' Rep.mono (by assumption) ?r; case r => walk_at "rp") | fail)
local macro_rules | `(tactic| walk_at "hf") => `(tactic| first | assumption | exact HS.up (by assumption) (by walk_at "bf") | exact HS.get (by assumption) List.mem_cons_self | exact HS.get (by assumption) (List.mem_cons_of_mem _ List.mem_cons_self) | exact HS.get (by assumption) (List.mem_cons_of_mem _ (List.mem_cons_of_mem _ List.mem_cons_self)) | exact HS.get (by assumption) (List.mem_cons_of_mem _ (List.mem_cons_of_mem _ (List.mem_cons_of_mem _ List.mem_cons_self))) | fail)
local macro_rules | `(tactic| walk_at "sl") => `(tactic| first | assumption | exact SqL.of (by walk_at "hf") | fail)
local macro_rules | `(tactic| walk_at "st") => `(tactic| first | assumption | exact SqT.of (by walk_at "hf") | fail)
local macro_rules | `(tactic| walk_at "sz") => `(tactic| first | assumption | (refine small_le ?_; first | assumption | omega | (simp; done) | (simp; omega)) | fail)
/-! ### [x for x in names if ..], [f(x) for x in names] -/
section
variable {K : PySem.W.Frag} {S : List Addr} {B0 H0 B H : Hp} {M : List (Addr × HO)} {Q : VK} {σ : L2.St} {i : Nat} {tl te : TE} {tt : TT} {l : Addr} {xs : List Str} {f : Str → Bool} {g : Str → Str}
end
/-! ### is_integer -/
abbrev N_is_integer : List Str := ["value"]
def t_is_integer (K : PySem.W.Frag) (E : XK) : TS := (tRet (tAndV (tCB (rIsi K) (tCons (tVar 0) (tCons (tC (.ty "int")) tNil))) (tNotV (tCB (rIsi K) (tCons (tVar 0) (tCons (tC (.ty "bool")) tNil))))))
def sp_is_integer (K : PySem.W.Frag) : Sp := sp__law_is_integer K
theorem Grp.Ok.drawn {G : Grp} (ok : G.Ok) : Drawn G.names G.names G.wish := ⟨ok.nd, ok.nm, List.Perm.refl _, fun p m => ⟨ok.wn p m, ok.ws p m, ok.wi p m⟩⟩
/-! ### Group.with_wishes -/
abbrev N_Group_with_wishes : List Str := ["self", "a", "wishes", "lists", "person"]
def t_Group_with_wishes (K : PySem.W.Frag) (E : XK) : TS := (tSeq (tDrop (tMt (He.ga K "Group") "check" (sp_Group_check K) (WE0 E) (tVar 0) (tCons (tVar 1) tNil)))
  (tSeq (tIfS (tNot (tB (tCl (sp_fits_wishes K) (WE0 E) (tCons (tVar 2) (tCons (tFld K (tVar 0) "names") (tCons (tVar 1) tNil)))))) (tRz1 (He.ga K "BadWishes") "person" (tVar 1) (WE0 E)) tNext)
  (tSeq (tAsg (tDc (iList K (tFld K (tVar 0) "names")) (gName 4) tYes (tVar 4) (tCB (rListOf K) (tCons (tDGet (tFld K (tVar 0) "lists") (tVar 4)) tNil)) [4]) (gName 3))
  (tSeq (sDPut (tVar 3) (tVar 1) (tCB (rListOf K) (tCons (tVar 2) tNil)))
  (tRet (tMk (He.ga K "Group") (sp_Group___init__ K) (WE0 E) (tCons (tCB (rTupOf K) (tCons (tFld K (tVar 0) "names") tNil)) (tCons (tVar 3) tNil))))))))
def sp_Group_with_wishes (K : PySem.W.Frag) : Sp := fun vs H Q E => ∃ p v u B G d e, vs = [.ref p, v, u] ∧ Same B H ∧ GAt K B p G ∧ Rep K B v d ∧ Rep K B u e ∧ (G.has d = false → Thr K B H E "NoPerson" [("value", v)]) ∧
  ∀ x, d = .str x → x ∈ G.names → (fitsW e G.names x = false → Thr K B H E "BadWishes" [("person", v)]) ∧
    ∀ ws, e = D.strs ws → RowOk G.names x ws → ∀ B' H' q G', HS [] B H B' H' [] → GAt K B' q G' → G'.names = G.names → (∀ y ∈ G.names, G'.wish y = updW G.wish x ws y) → Q (.ref q) H'
/-! ### Group.without -/
abbrev N_Group_without : List Str := ["self", "a", "person"]
def t_Group_without (K : PySem.W.Frag) (E : XK) : TS := (tSeq (tDrop (tMt (He.ga K "Group") "check" (sp_Group_check K) (WE0 E) (tVar 0) (tCons (tVar 1) tNil)))
  (tRet (tMt (He.ga K "Group") "kept" (sp_Group_kept K) (WE0 E) (tVar 0) (tCons (tLc (iList K (tFld K (tVar 0) "names")) (gName 2) (tTest (tOp rNe (tVar 2) (tVar 1))) (tVar 2) [2]) tNil))))
def sp_Group_without (K : PySem.W.Frag) : Sp := fun vs H Q E => ∃ p v B G d, vs = [.ref p, v] ∧ Same B H ∧ GAt K B p G ∧ Rep K B v d ∧ (G.has d = false → Thr K B H E "NoPerson" [("value", v)]) ∧
  ∀ x, d = .str x → x ∈ G.names → ∀ B' H' q G', HS [] B H B' H' [] → GAt K B' q G' → G'.names = (G.names.filter fun y => !decide (y = x)) → (∀ y ∈ G.names, y ≠ x → G'.wish y = (G.wish y).filter fun b => !decide (b = x)) → Q (.ref q) H'
end Q

set_option Elab.async false
set_option linter.all false
set_option maxRecDepth 100000
set_option maxHeartbeats 4000000
namespace Q
open PySem PySem.Spec PyProof.Rows L2
local macro_rules | `(tactic| walk_at "bf") => `(tactic| first | assumption | (refine' bstep (by assumption) ?r; case r => walk_at "bf") | fail)
local macro_rules | `(tactic| walk_at "rp") => `(tactic| first | assumption | exact Rep.int _ | exact Rep.bl _ | exact Rep.non | (refine' Rep.mono (by assumption) ?r; case r => walk_at "rp") | fail)
local macro_rules | `(tactic| walk_at "hf") => `(tactic| first | assumption | exact HS.up (by assumption) (by walk_at "bf") | exact HS.get (by assumption) List.mem_cons_self | exact HS.get (by assumption) (List.mem_cons_of_mem _ List.mem_cons_self) | exact HS.get (by assumption) (List.mem_cons_of_mem _ (List.mem_cons_of_mem _ List.mem_cons_self)) | exact HS.get (by assumption) (List.mem_cons_of_mem _ (List.mem_cons_of_mem _ (List.mem_cons_of_mem _ List.mem_cons_self))) | fail)
local macro_rules | `(tactic| walk_at "sl") => `(tactic| first | assumption | exact SqL.of (by walk_at "hf") | fail)
local macro_rules | `(tactic| walk_at "st") => `(tactic| first | assumption | exact SqT.of (by walk_at "hf") | fail)
local macro_rules | `(tactic| walk_at "sz") => `(tactic| first | assumption | (refine small_le ?_; first | assumption | omega | (simp; done) | (simp; omega)) | fail)
/-! ### Group.struck -/
abbrev N_Group_struck : List Str := ["self", "a", "b", "person"]
def t_Group_struck (K : PySem.W.Frag) (E : XK) : TS := (tSeq (tDrop (tMt (He.ga K "Group") "check" (sp_Group_check K) (WE0 E) (tVar 0) (tCons (tVar 1) tNil)))
  (tSeq (tDrop (tMt (He.ga K "Group") "check" (sp_Group_check K) (WE0 E) (tVar 0) (tCons (tVar 2) tNil)))
  (tSeq (tIfS (tB (tDNotIn (tVar 2) (tDGet (tFld K (tVar 0) "places") (tVar 1)))) (tRz2 (He.ga K "NotOpen") "one" "other" (tVar 1) (tVar 2) (WE0 E)) tNext)
  (tRet (tMt (He.ga K "Group") "with_wishes" (sp_Group_with_wishes K) (WE0 E) (tVar 0) (tCons (tVar 1) (tCons (tLc (iList K (tDGet (tFld K (tVar 0) "lists") (tVar 1))) (gName 3) (tTest (tOp rNe (tVar 3) (tVar 2))) (tVar 3) [3]) tNil)))))))
def sp_Group_struck (K : PySem.W.Frag) : Sp := fun vs H Q E => ∃ p v u B G d e, vs = [.ref p, v, u] ∧ Same B H ∧ GAt K B p G ∧ Rep K B v d ∧ Rep K B u e ∧ (G.has d = false → Thr K B H E "NoPerson" [("value", v)]) ∧ (G.has d = true → G.has e = false → Thr K B H E "NoPerson" [("value", u)]) ∧
  ∀ x y, d = .str x → x ∈ G.names → e = .str y → y ∈ G.names → (y ∉ G.open x → Thr K B H E "NotOpen" [("other", u), ("one", v)]) ∧
    (y ∈ G.open x → ∀ B' H' q G', HS [] B H B' H' [] → GAt K B' q G' → G'.names = G.names → (∀ z ∈ G.names, G'.wish z = updW G.wish x ((G.wish x).filter fun b => !decide (b = y)) z) → Q (.ref q) H')
/-! ### Group.exchanged -/
def swp (a b : Str) (c : Str) : Str := if c = a then b else if c = b then a else c
theorem x_index {K : PySem.W.Frag} {H : Hp} {Q : VK} {l : Addr} {row : List Str} {i : Nat} {b : Str} (hl : H l = some (.lst (row.map V.str))) (nd : row.Nodup) (hi : row[i]? = some b) (h : Q (.int (i : Nat)) H) : rIndex K (.ref l) [.str b] H Q := by
  refine ⟨l, _, .str b, i, .str b, rfl, rfl, SqL.of hl, rfl, flat_strs row, by rw [List.getElem?_map, hi]; rfl, by simp [eqV], fun m z hm hz => ?_, h⟩
  obtain ⟨c, hc, rfl⟩ := strs_get hz
  obtain ⟨l1, e1⟩ := List.getElem?_eq_some_iff.mp hi
  obtain ⟨l2, e2⟩ := List.getElem?_eq_some_iff.mp hc
  have : c ≠ b := fun e => by
    have := (List.getElem_inj nd).mp (e2.trans (e.trans e1.symm))
    omega
  show (c == b) = false
  exact beq_eq_false_iff_ne.mpr this
abbrev N_Group_exchanged : List Str := ["self", "a", "k", "one", "other", "row", "at", "behind"]
def t_Group_exchanged (K : PySem.W.Frag) (E : XK) : TS := (tSeq (tDrop (tMt (He.ga K "Group") "check" (sp_Group_check K) (WE0 E) (tVar 0) (tCons (tVar 1) tNil)))
  (tSeq (tIfS (tOr (tNot (tB (tCl (sp_is_integer K) (WE0 E) (tCons (tVar 2) tNil)))) (tOr (tTest (tOp rLtI (tVar 2) (tC (.int 0)))) (tTest (tOp rGtI (tVar 2) (tOp rSubI (tCB (rLenA K) (tCons (tDGet (tFld K (tVar 0) "mutual") (tVar 1)) tNil)) (tC (.int 2))))))) (tRz1 (He.ga K "BadPlace") "value" (tVar 2) (WE0 E)) tNext)
  (tSeq (tAsg (tOp (rIxL K) (tDGet (tFld K (tVar 0) "mutual") (tVar 1)) (tVar 2)) (gName 3))
  (tSeq (tAsg (tOp (rIxL K) (tDGet (tFld K (tVar 0) "mutual") (tVar 1)) (tOp rAddI (tVar 2) (tC (.int 1)))) (gName 4))
  (tSeq (tAsg (tCB (rListOf K) (tCons (tDGet (tFld K (tVar 0) "lists") (tVar 1)) tNil)) (gName 5))
  (tSeq (tAsg (tBM K "list" (rIndex K) (tVar 5) (tCons (tVar 3) tNil)) (gName 6))
  (tSeq (tAsg (tBM K "list" (rIndex K) (tVar 5) (tCons (tVar 4) tNil)) (gName 7))
  (tSeq (tAsg (tVar 4) (gSub (tVar 5) (tVar 6) rSetL))
  (tSeq (tAsg (tVar 3) (gSub (tVar 5) (tVar 7) rSetL))
  (tRet (tMt (He.ga K "Group") "with_wishes" (sp_Group_with_wishes K) (WE0 E) (tVar 0) (tCons (tVar 1) (tCons (tVar 5) tNil)))))))))))))
def okPlace (n : Nat) : D → Bool
  | .int k => decide (0 ≤ k) && decide (k ≤ (n : Int) - 2)
  | _ => false
def sp_Group_exchanged (K : PySem.W.Frag) : Sp := fun vs H Q E => ∃ p v u B G d e, vs = [.ref p, v, u] ∧ Same B H ∧ GAt K B p G ∧ Rep K B v d ∧ Rep K B u e ∧ (G.has d = false → Thr K B H E "NoPerson" [("value", v)]) ∧
  ∀ x, d = .str x → x ∈ G.names → (okPlace (G.open x).length e = false → Thr K B H E "BadPlace" [("value", u)]) ∧
    ∀ (k : Nat) (a b : Str), e = .int (k : Nat) → (G.open x)[k]? = some a → (G.open x)[k + 1]? = some b → ∀ B' H' q G', HS [] B H B' H' [] → GAt K B' q G' → G'.names = G.names → (∀ z ∈ G.names, G'.wish z = updW G.wish x ((G.wish x).map (swp a b)) z) → Q (.ref q) H'
end Q

set_option Elab.async false
set_option linter.all false
set_option maxRecDepth 100000
set_option maxHeartbeats 4000000
namespace Q
open PySem PySem.Spec PyProof.Rows L2
/-! ### a text among any data -/
section
variable {A : Around} {s : Shared}
end
/-- an item of plain data compared with a text -/
def eqTx (x : Str) : V → Bool
  | .str y => decide (y = x)
  | _ => false
/-- plain data: flat, or a list, a tuple, a dict -/
def Pln (K : PySem.W.Frag) (H : Hp) (v : V) : Prop := flatV v = true ∨ ∃ a, v = .ref a ∧ ((∃ xs, SqL K H a xs) ∨ (∃ xs, SqT K H a xs) ∨ ∃ kvs, H a = some (.dK kvs))
/-- the same of a value of the machine -/
def eqTu (x : Str) : Value → Bool
  | .str y _ => decide (y = x)
  | _ => false
/-- x in a list of plain data, x a text -/
def rInX (K : PySem.W.Frag) (neg : Bool) : R2 := fun x y H Q => ∃ (z : Str) (a : Addr) (xs : List V), x = .str z ∧ y = .ref a ∧ SqL K H a xs ∧ (∀ v ∈ xs, Pln K H v) ∧ Q (.bl (if neg then !xs.any (eqTx z) else xs.any (eqTx z))) H
theorem Pln.two {K : PySem.W.Frag} {H : Hp} {v : V} (p : Pln K H v) : flatV v = true ∨ ∃ a, v = .ref a := p.elim .inl fun ⟨a, e, _⟩ => .inr ⟨a, e⟩
section
variable {X : Cx}
end
end Q

set_option Elab.async false
set_option linter.all false
set_option maxRecDepth 100000
set_option maxHeartbeats 4000000
namespace Q
open PySem PySem.Spec PyProof.Rows L2
local macro_rules | `(tactic| walk_at "bf") => `(tactic| first | assumption | (refine' bstep (by assumption) ?r; case r => walk_at "bf") | fail)
local macro_rules | `(tactic| walk_at "rp") => `(tactic| first | assumption | exact Rep.int _ | exact Rep.bl _ | exact Rep.non | (refine' Rep.mono (by assumption) ?r; case r => walk_at "rp") | fail)
local macro_rules | `(tactic| walk_at "hf") => `(tactic| first | assumption | exact HS.up (by assumption) (by walk_at "bf") | exact HS.get (by assumption) List.mem_cons_self | exact HS.get (by assumption) (List.mem_cons_of_mem _ List.mem_cons_self) | exact HS.get (by assumption) (List.mem_cons_of_mem _ (List.mem_cons_of_mem _ List.mem_cons_self)) | exact HS.get (by assumption) (List.mem_cons_of_mem _ (List.mem_cons_of_mem _ (List.mem_cons_of_mem _ List.mem_cons_self))) | fail)
local macro_rules | `(tactic| walk_at "sl") => `(tactic| first | assumption | exact SqL.of (by walk_at "hf") | fail)
local macro_rules | `(tactic| walk_at "st") => `(tactic| first | assumption | exact SqT.of (by walk_at "hf") | fail)
local macro_rules | `(tactic| walk_at "sz") => `(tactic| first | assumption | (refine small_le ?_; first | assumption | omega | (simp; done) | (simp; omega)) | fail)
/-! ### a dict that stands still is walked through -/
theorem Same.del {B H : Hp} {d : Addr} (s : Same B H) : Same (del B d) H := fun b u e => by
  by_cases z : b = d
  · rw [z, del_same] at e; cases e
  · rw [del_ne z] at e; exact s b u e
theorem WAt.del {B : Hp} {done : List Str} {kvs : List (Key × V)} {ws : Str → List Str} {d : Addr} {ks : List (Key × V)} (h : WAt B done kvs ws) (ed : B d = some (.dK ks)) : WAt (del B d) done kvs ws := by
  obtain ⟨al, h1, h2, h3⟩ := h
  refine ⟨al, h1, h2, fun j p a e1 e2 => ?_⟩
  have := h3 j p a e1 e2
  unfold LAt at this ⊢
  rw [del_ne]
  · exact this
  · intro z
    rw [z, ed] at this
    cases this
/-! ### _law_are_wishes -/
def D.hasS (x : Str) : List D → Bool
  | [] => false
  | .str y :: r => decide (y = x) || D.hasS x r
  | _ :: r => D.hasS x r
theorem Rep.pln {K : PySem.W.Frag} {S : List Addr} {B0 H0 B H : Hp} {M : List (Addr × HO)} {v : V} {d : D} (hs : HS S B0 H0 B H M) (r : Rep K B v d) (h : d.plain = true) : Pln K H v := by
  cases r with
  | non => exact .inl rfl
  | bl b => exact .inl rfl
  | int i => exact .inl rfl
  | str _ => exact .inl rfl
  | lst e _ _ => exact .inr ⟨_, rfl, .inl ⟨_, SqL.of (hs.up e)⟩⟩
  | tup e _ => exact .inr ⟨_, rfl, .inr (.inl ⟨_, SqT.of (hs.up e)⟩)⟩
  | dct e _ => exact .inr ⟨_, rfl, .inr (.inr ⟨_, hs.up e⟩)⟩
  | obj _ _ => cases h
theorem Reps.pln {K : PySem.W.Frag} {S : List Addr} {B0 H0 B H : Hp} {M : List (Addr × HO)} (hs : HS S B0 H0 B H M) : ∀ {vs : List V} {ds : List D}, Reps K B vs ds → (∀ d ∈ ds, d.plain = true) → ∀ v ∈ vs, Pln K H v
  | _, _, .nil, _, _, m => nomatch m
  | _, _, .cons h r, p, v, m => by
    rcases List.mem_cons.mp m with rfl | m
    · exact h.pln hs (p _ List.mem_cons_self)
    · exact Reps.pln hs r (fun d md => p d (List.mem_cons_of_mem _ md)) v m
/-- what a list holds is plain -/
def D.plains : D → Prop
  | .lst ds => ∀ d ∈ ds, d.plain = true
  | _ => True
abbrev N__law_are_wishes : List Str := ["_law_names_here", "_law_a", "_law_row_here"]
def t__law_are_wishes (K : PySem.W.Frag) (E : XK) : TS := (tRet (tAndV (tCB (rIsi K) (tCons (tVar 2) (tCons (tC (.ty "list")) tNil))) (tAndV (tOp (rInX K true) (tVar 1) (tVar 2)) (tIsN (tCl (sp__law_is_lot K) (WE0 E) (tCons (tVar 0) (tCons (tVar 2) tNil)))))))
def sp__law_are_wishes (K : PySem.W.Frag) : Sp := fun vs H Q E => ∃ (n : Addr) (a : Str) (v : V) (B : Hp) (ns : List Str) (d : D), vs = [.ref n, .str a, v] ∧ Same B H ∧ B n = some (.lst (ns.map V.str)) ∧ Rep K B v d ∧ d.plains ∧ Ret B H Q fun _ r => r = .bl (fitsW d ns a)
/-! ### _law_with -/
abbrev N__law_with : List Str := ["_law_names_here", "_law_wishes_here", "_law_a", "_law_row_here", "_law_model_here"]
def t__law_with (K : PySem.W.Frag) (E : XK) : TS := (tSeq (tAsg (tCl (sp__law_copy K) (WE0 E) (tCons (tVar 1) tNil)) (gName 4))
  (tSeq (sDPut (tVar 4) (tVar 2) (tCB (rListOf K) (tCons (tVar 3) tNil)))
  (tRet (tCl (sp__law_model K) (WE0 E) (tCons (tVar 0) (tCons (tVar 4) tNil))))))
def sp__law_with (K : PySem.W.Frag) : Sp := fun vs H Q E => ∃ (n w r : Addr) (a : Str) (xs done row : List Str) (kvs : List (Key × V)) (ws : Str → List Str) (B : Hp), vs = [.ref n, .ref w, .str a, .ref r] ∧ Same B H ∧ B n = some (.lst (xs.map V.str)) ∧ B w = some (.dK kvs) ∧ B r = some (.lst (row.map V.str)) ∧ WAt B done kvs ws ∧ done.Nodup ∧ (∀ x ∈ xs, x ∈ done) ∧ a ∈ done ∧ xs.length ≤ 25 ∧ done.length ≤ 100 ∧
  ∀ B' H' l vs, HS [] B H B' H' [(l, .lst vs)] → MRs B' vs (rowsOf xs (updW ws a row)) → Q (.ref l) H'
/-! ### _law_exchange -/
abbrev N__law_exchange : List Str := ["_law_row_here", "_law_mutual_here", "_law_k", "_law_one", "_law_other", "_law_turned", "_law_b"]
def t__law_exchange (K : PySem.W.Frag) (E : XK) : TS := (tSeq (tAsg (tOp (rIxL K) (tVar 1) (tVar 2)) (gName 3))
  (tSeq (tAsg (tOp (rIxL K) (tVar 1) (tOp rAddI (tVar 2) (tC (.int 1)))) (gName 4))
  (tSeq (tAsg (tLst tNil) (gName 5))
  (tSeq (tFor (iList K (tVar 0)) (gName 6) (tIfS (tTest (tOp rEq (tVar 6) (tVar 3))) (tDrop (tBM K "list" rAppend (tVar 5) (tCons (tVar 4) tNil))) (tIfS (tTest (tOp rEq (tVar 6) (tVar 4))) (tDrop (tBM K "list" rAppend (tVar 5) (tCons (tVar 3) tNil))) (tDrop (tBM K "list" rAppend (tVar 5) (tCons (tVar 6) tNil))))))
  (tRet (tVar 5))))))
def sp__law_exchange (K : PySem.W.Frag) : Sp := fun vs H Q E => ∃ (r m : Addr) (k : Nat) (row mu : List Str) (a b : Str) (B : Hp), vs = [.ref r, .ref m, .int (k : Nat)] ∧ Same B H ∧ B r = some (.lst (row.map V.str)) ∧ B m = some (.lst (mu.map V.str)) ∧ row.length ≤ 1000 ∧ mu[k]? = some a ∧ mu[k + 1]? = some b ∧
  ∀ B' H' l, HS [] B H B' H' [(l, .lst ((row.map (swp a b)).map V.str))] → Q (.ref l) H'
end Q

set_option Elab.async false
set_option linter.all false
set_option maxRecDepth 100000
set_option maxHeartbeats 4000000
namespace Q
open PySem PySem.Spec PyProof.Rows L2
local macro_rules | `(tactic| walk_at "bf") => `(tactic| first | assumption | (refine' bstep (by assumption) ?r; case r => walk_at "bf") | fail)
local macro_rules | `(tactic| walk_at "rp") => `(tactic| first | assumption | exact Rep.int _ | exact Rep.bl _ | exact Rep.non | (refine' Rep.mono (by assumption) ?r; case r => walk_at "rp") | fail)
local macro_rules | `(tactic| walk_at "hf") => `(tactic| first | assumption | exact HS.up (by assumption) (by walk_at "bf") | exact HS.get (by assumption) List.mem_cons_self | exact HS.get (by assumption) (List.mem_cons_of_mem _ List.mem_cons_self) | exact HS.get (by assumption) (List.mem_cons_of_mem _ (List.mem_cons_of_mem _ List.mem_cons_self)) | exact HS.get (by assumption) (List.mem_cons_of_mem _ (List.mem_cons_of_mem _ (List.mem_cons_of_mem _ List.mem_cons_self))) | fail)
local macro_rules | `(tactic| walk_at "sl") => `(tactic| first | assumption | exact SqL.of (by walk_at "hf") | fail)
local macro_rules | `(tactic| walk_at "st") => `(tactic| first | assumption | exact SqT.of (by walk_at "hf") | fail)
local macro_rules | `(tactic| walk_at "sz") => `(tactic| first | assumption | (refine small_le ?_; first | assumption | omega | (simp; done) | (simp; omega)) | fail)
/-! ### _law_given, _law_exchanged -/
abbrev N__law_given : List Str := ["_law_group_here", "_law_a", "_law_row_here", "_law_told", "e"]
def t__law_given (K : PySem.W.Frag) (E : XK) : TS := (tSeq (tAsg (tC .non) (gName 3))
  (tSeq (tTryAs K (.ref (He.ga K "BadWishes")) 4 (fun a1 cls1 d1 => (tAsg (tXf a1 cls1 d1 (He.ga K "BadWishes") "person" (tVar 4)) (gName 3))) (WE0 E) (fun W1 => (tAsg (tCl (sp__law_shows K) W1 (tCons (tMt (He.ga K "Group") "with_wishes" (sp_Group_with_wishes K) W1 (tVar 0) (tCons (tVar 1) (tCons (tVar 2) tNil))) tNil)) (gName 3))))
  (tRet (tVar 3))))
def sp__law_given (K : PySem.W.Frag) : Sp := fun vs H Q E => ∃ (p : Addr) (a : Str) (v : V) (B : Hp) (G : Grp) (d : D), vs = [.ref p, .str a, v] ∧ Same B H ∧ GAt K B p G ∧ a ∈ G.names ∧ Rep K B v d ∧ (fitsW d G.names a = false → ∀ B' H', HS [] B H B' H' [] → Q (.str a) H') ∧
  ∀ ws, d = D.strs ws → RowOk G.names a ws → ∀ B' H' l vs, HS [] B H B' H' [] → B' l = some (.lst vs) → MRs B' vs (rowsOf G.names (updW G.wish a ws)) → Q (.ref l) H'
abbrev N__law_exchanged : List Str := ["_law_group_here", "_law_a", "_law_k", "_law_told", "e"]
def t__law_exchanged (K : PySem.W.Frag) (E : XK) : TS := (tSeq (tAsg (tC .non) (gName 3))
  (tSeq (tTryAs K (.ref (He.ga K "BadPlace")) 4 (fun a1 cls1 d1 => (tAsg (tTup (tCons (tXf a1 cls1 d1 (He.ga K "BadPlace") "value" (tVar 4)) tNil)) (gName 3))) (WE0 E) (fun W1 => (tAsg (tCl (sp__law_shows K) W1 (tCons (tMt (He.ga K "Group") "exchanged" (sp_Group_exchanged K) W1 (tVar 0) (tCons (tVar 1) (tCons (tVar 2) tNil))) tNil)) (gName 3))))
  (tRet (tVar 3))))
def sp__law_exchanged (K : PySem.W.Frag) : Sp := fun vs H Q E => ∃ (p : Addr) (a : Str) (v : V) (B : Hp) (G : Grp) (d : D), vs = [.ref p, .str a, v] ∧ Same B H ∧ GAt K B p G ∧ a ∈ G.names ∧ Rep K B v d ∧ (okPlace (G.open a).length d = false → ∀ B' H' t, HS [] B H B' H' [] → B' t = some (.tup [v]) → Q (.ref t) H') ∧
  ∀ (k : Nat) (x y : Str), d = .int (k : Nat) → (G.open a)[k]? = some x → (G.open a)[k + 1]? = some y → ∀ B' H' l vs, HS [] B H B' H' [] → B' l = some (.lst vs) → MRs B' vs (rowsOf G.names (updW G.wish a ((G.wish a).map (swp x y)))) → Q (.ref l) H'
/-! ### _law_new_wishes -/
abbrev N__law_new_wishes : List Str := ["_law_state", "_law_names_here", "_law_a", "_law_row_here", "_law_kind", "_law_items"]
def t__law_new_wishes (K : PySem.W.Frag) (E : XK) : TS := (tSeq (tAsg (tCl (sp__law_mixed K) (WE0 E) (tCons (tVar 0) (tCons (tCl (sp__law_others K) (WE0 E) (tCons (tVar 1) (tCons (tVar 2) tNil))) tNil))) (gName 3))
  (tSeq (tAsg (tSl (rSlL K) (tVar 3) tNoPart (tPart (tCl (sp__law_take K) (WE0 E) (tCons (tVar 0) (tCons (tOp rAddI (tCB (rLenA K) (tCons (tVar 3) tNil)) (tC (.int 1))) tNil))))) (gName 3))
  (tSeq (tAsg (tCl (sp__law_take K) (WE0 E) (tCons (tVar 0) (tCons (tC (.int 7)) tNil))) (gName 4))
  (tSeq (tAsg (tOp rCat (tLst (tCons (tCl (sp__law_value K) (WE0 E) (tCons (tVar 0) tNil)) (tCons (tVar 2) tNil))) (tVar 3)) (gName 5))
  (tSeq (tIfS (tTest (tOp rLtI (tVar 4) (tC (.int 3)))) (tDrop (tBM K "list" rInsert (tVar 3) (tCons (tCl (sp__law_take K) (WE0 E) (tCons (tVar 0) (tCons (tOp rAddI (tCB (rLenA K) (tCons (tVar 3) tNil)) (tC (.int 1))) tNil))) (tCons (tOp (rIxL K) (tVar 5) (tCl (sp__law_take K) (WE0 E) (tCons (tVar 0) (tCons (tCB (rLenA K) (tCons (tVar 5) tNil)) tNil)))) tNil)))) tNext)
  (tSeq (tIfS (tTest (tOp rEq (tVar 4) (tC (.int 3)))) (tRet (tCl (sp__law_value K) (WE0 E) (tCons (tVar 0) tNil))) tNext)
  (tRet (tVar 3))))))))
def sp__law_new_wishes (K : PySem.W.Frag) : Sp := fun vs H Q E => ∃ (p n : Addr) (a b : Int) (x : Str) (xs : List Str) (B : Hp), vs = [.ref p, .ref n, .str x] ∧ Same B H ∧ B p = none ∧ H p = some (stO a b) ∧ VSt a b ∧ B n = some (.lst (xs.map V.str)) ∧ xs.length ≤ 25 ∧ (∀ y ∈ xs, okName y = true) ∧ okName x = true ∧
  ∀ B' H' a' b' v d, HS [p] B H B' H' [(p, stO a' b')] → VSt a' b' → Rep K B' v d → d.plain = true → d.plains → Q v H'
theorem Pre.open {K : PySem.W.Frag} {B : Hp} {n g : Addr} {xs done : List Str} {kvs : List (Key × V)} {ws : Str → List Str} {G : Grp} (h : Pre K B n g xs done kvs ws G) {p : Str} (m : p ∈ xs) : G.open p = opn ws p := by
  unfold Grp.open opn
  rw [h.gw p m]
  refine List.filter_congr fun b mb => ?_
  rw [h.gw b ((h.dr.row p m).2.2 b mb)]
end Q

set_option Elab.async false
set_option linter.all false
set_option maxRecDepth 100000
set_option maxHeartbeats 4000000
namespace Q
open PySem PySem.Spec PyProof.Rows L2
theorem valV_of_mem {kvs : List (Key × V)} (nd : (kvs.map (·.1)).Nodup) {k : Key} {v : V} (m : (k, v) ∈ kvs) : valV kvs k = some v := by
  induction kvs with
  | nil => cases m
  | cons p r ih =>
    rw [List.map_cons, List.nodup_cons] at nd
    rcases List.mem_cons.mp m with e | m
    · subst e
      exact valV_pos rfl
    · rw [valV_neg]
      · exact ih nd.2 m
      · intro e
        exact nd.1 (List.mem_map.mpr ⟨(k, v), m, e.symm⟩)
/-! ### dict(d); != with more -/
def rDictOf : List V → Hp → VK → Prop := fun xs H Q => ∃ (a : Addr) (kvs : List (Key × V)), xs = [.ref a] ∧ Rd H a (.dK kvs) ∧ ∀ p, H p = none → Q (.ref p) (upd H p (.dK kvs))
theorem cDictOf {X : Cx} : CallR X (.type "dict") rDictOf := call_dictD
theorem x_dictOf {H : Hp} {Q : VK} {p : Addr} {kvs : List (Key × V)} (hp : H p = some (.dK kvs)) (h : New (.dK kvs) Q H) : rDictOf [.ref p] H Q := ⟨p, kvs, rfl, .inl hp, h⟩
/-- two dicts that hold the same -/
def SameD (H : Hp) (x y : V) : Prop := ∃ a c kvs, x = .ref a ∧ y = .ref c ∧ H a = some (.dK kvs) ∧ H c = some (.dK kvs) ∧ ∀ p ∈ kvs, flatV p.2 = true ∨ ∃ b, p.2 = .ref b
def rNeV (K : PySem.W.Frag) (C : Addr) (sp : Sp) : R2 := fun x y H Q => rNeU K x y H Q ∨ rNeG C sp x y H Q ∨ (SameD H x y ∧ Q (.bl false) H)
/-! ### new names -/
def nmGo (d : D) : List Str → List Str → Option Str
  | _, [] => none
  | taken, p :: r => match vald d p with
    | .str x => if okName x && !decide (x ∈ taken) then nmGo d (taken ++ [x]) r else some p
    | _ => some p
def badNames (xs : List Str) (d : D) : Option Str := if sameKeys d xs then nmGo d [] (sortS xs) else some ""
def dueS : Option Str → V
  | none => .non
  | some x => .str x
theorem vald_get {K : PySem.W.Frag} {B : Hp} {kvs : List (Key × V)} {ds : List (Key × D)} (r : RepK K B kvs ds) {p : Str} (h : (dval ds (.inr p)).isSome = true) : ∃ v, valV kvs (.inr p) = some v ∧ Rep K B v (vald (.dct ds) p) := by
  rcases repK_val r (.inr p) with ⟨v, d, e1, e2, e3⟩ | ⟨_, e2⟩
  · refine ⟨v, e1, ?_⟩
    unfold vald
    dsimp only
    rw [e2]
    exact e3
  · rw [e2] at h
    cases h
theorem inj_of_nd {xs : List Str} {f : Str → Str} (nd : (xs.map f).Nodup) {p q : Str} (mp : p ∈ xs) (mq : q ∈ xs) (e : f p = f q) : p = q := by
  induction xs with
  | nil => cases mp
  | cons x r ih =>
    rw [List.map_cons, List.nodup_cons] at nd
    rcases List.mem_cons.mp mp with e1 | mp2
    · rcases List.mem_cons.mp mq with e2 | mq2
      · rw [e1, e2]
      · exact absurd (List.mem_map.mpr ⟨q, mq2, by rw [← e, e1]⟩) nd.1
    · rcases List.mem_cons.mp mq with e2 | mq2
      · exact absurd (List.mem_map.mpr ⟨p, mp2, by rw [e, e2]⟩) nd.1
      · exact ih nd.2 mp2 mq2
/-- wishes under new names -/
def renW (xs : List Str) (f : Str → Str) (ws : Str → List Str) : Str → List Str := fun q => match xs.find? fun p => decide (f p = q) with
  | some p => (ws p).map f
  | none => []
theorem renW_at {xs : List Str} {f : Str → Str} {ws : Str → List Str} (nd : (xs.map f).Nodup) {p : Str} (m : p ∈ xs) : renW xs f ws (f p) = (ws p).map f := by
  unfold renW
  cases h : xs.find? fun q => decide (f q = f p) with
  | none => exact absurd (List.find?_eq_none.mp h p m) (by simp)
  | some q =>
    have h1 := List.find?_some h
    have e := inj_of_nd nd (List.mem_of_find?_eq_some h) m (of_decide_eq_true h1)
    dsimp only
    rw [e]
theorem rowOk_map {xs row : List Str} {f : Str → Str} {p : Str} (h : RowOk xs p row) (nd : (xs.map f).Nodup) (mp : p ∈ xs) : RowOk (xs.map f) (f p) (row.map f) :=
  ⟨List.pairwise_map.mpr (h.1.imp_of_mem fun {x y} mx my ne e => ne (inj_of_nd nd (h.2.2 x mx) (h.2.2 y my) e)), fun m => by
    obtain ⟨c, mc, e⟩ := List.mem_map.mp m
    exact h.2.1 (inj_of_nd nd (h.2.2 c mc) mp e ▸ mc), fun q m => by
    obtain ⟨c, mc, rfl⟩ := List.mem_map.mp m
    exact List.mem_map.mpr ⟨c, h.2.2 c mc, rfl⟩⟩
theorem Drawn.map {xs done : List Str} {ws : Str → List Str} {f : Str → Str} (d : Drawn xs done ws) (hok : ∀ p ∈ xs, okName (f p) = true) (nd : (xs.map f).Nodup) : Drawn (xs.map f) (xs.map f) (renW xs f ws) :=
  ⟨nd, fun q m => by obtain ⟨p, mp, rfl⟩ := List.mem_map.mp m; exact hok p mp, List.Perm.refl _, fun q m => by
    obtain ⟨p, mp, rfl⟩ := List.mem_map.mp m
    rw [renW_at nd mp]
    exact rowOk_map (d.row p mp) nd mp⟩
theorem RepK.put {K : PySem.W.Frag} {B : Hp} {k : Key} {v : V} {d : D} (h : Rep K B v d) : ∀ {kvs : List (Key × V)} {ds : List (Key × D)}, RepK K B kvs ds → ∃ ds', RepK K B (putK kvs k v) ds' := by
  have mp : ∀ {kvs : List (Key × V)} {ds : List (Key × D)}, RepK K B kvs ds → ∃ ds', RepK K B (kvs.map fun p => if p.1 = k then (p.1, v) else p) ds' := by
    intro kvs ds r
    induction kvs generalizing ds with
    | nil => exact ⟨[], .nil⟩
    | cons p r' ih =>
      cases r with
      | @cons k2 v2 _ d2 ds2 h2 r2 =>
        obtain ⟨ds', hd⟩ := ih r2
        rw [List.map_cons]
        by_cases e : k2 = k
        · dsimp only
          rw [if_pos e]
          exact ⟨_, .cons h hd⟩
        · dsimp only
          rw [if_neg e]
          exact ⟨_, .cons h2 hd⟩
  have ap : ∀ {kvs : List (Key × V)} {ds : List (Key × D)}, RepK K B kvs ds → ∃ ds', RepK K B (kvs ++ [(k, v)]) ds' := by
    intro kvs ds r
    induction kvs generalizing ds with
    | nil => exact ⟨_, .cons h .nil⟩
    | cons p r' ih =>
      cases r with
      | cons h2 r2 =>
        obtain ⟨ds', hd⟩ := ih r2
        exact ⟨_, .cons h2 hd⟩
  intro kvs ds r
  unfold putK
  split
  · exact mp r
  · exact ap r
theorem RepK.drop {K : PySem.W.Frag} {B : Hp} {k : Key} : ∀ {kvs : List (Key × V)} {ds : List (Key × D)}, RepK K B kvs ds → ∃ ds', RepK K B (dropK kvs k) ds' := by
  intro kvs ds r
  unfold dropK
  induction kvs generalizing ds with
  | nil => exact ⟨[], .nil⟩
  | cons p r' ih =>
    cases r with
    | cons h2 r2 =>
      obtain ⟨ds', hd⟩ := ih r2
      rw [List.filter_cons]
      split
      · exact ⟨_, .cons h2 hd⟩
      · exact ⟨_, hd⟩
theorem RepK.flat {K : PySem.W.Frag} {B : Hp} : ∀ {kvs : List (Key × V)} {ds : List (Key × D)}, RepK K B kvs ds → ∀ p ∈ kvs, flatV p.2 = true ∨ ∃ b, p.2 = .ref b
  | _, _, .nil, _, m => nomatch m
  | _, _, .cons h r, p, m => by
    rcases List.mem_cons.mp m with rfl | m
    · exact h.flat
    · exact RepK.flat r p m
end Q

set_option Elab.async false
set_option linter.all false
set_option maxRecDepth 100000
set_option maxHeartbeats 4000000
namespace Q
open PySem PySem.Spec PyProof.Rows L2
def plainW (d : D) (xs : List Str) : Prop := ∀ p ∈ xs, (vald d p).plains
/-! ### dicts of plain values, as they are changed -/
/-- of all values -/
def PlK (P : D → Prop) (ds : List (Key × D)) : Prop := ∀ q ∈ ds, P q.2
theorem dval_mem {ds : List (Key × D)} {k : Key} {d : D} (h : dval ds k = some d) : ∃ k', (k', d) ∈ ds := by
  unfold dval at h
  cases e : ds.find? fun kv => decide (kv.1 = k) with
  | none => rw [e] at h; cases h
  | some kv =>
    rw [e] at h
    cases h
    exact ⟨kv.1, List.mem_of_find?_eq_some e⟩
theorem PlK.vald {P : D → Prop} {ds : List (Key × D)} (p : PlK P ds) (hP : ∀ d, P d → d.plains) (xs : List Str) : plainW (.dct ds) xs := fun q _ => by
  unfold Q.vald
  dsimp only
  cases e : dval ds (.inr q) with
  | none => exact trivial
  | some d =>
    obtain ⟨k', m⟩ := dval_mem e
    exact hP _ (p _ m)
end Q

set_option Elab.async false
set_option linter.all false
set_option maxRecDepth 100000
set_option maxHeartbeats 4000000
namespace Q
open PySem PySem.Spec PyProof.Rows L2
local macro_rules | `(tactic| walk_at "bf") => `(tactic| first | assumption | (refine' bstep (by assumption) ?r; case r => walk_at "bf") | fail)
local macro_rules | `(tactic| walk_at "rp") => `(tactic| first | assumption | exact Rep.int _ | exact Rep.bl _ | exact Rep.non | (refine' Rep.mono (by assumption) ?r; case r => walk_at "rp") | fail)
local macro_rules | `(tactic| walk_at "hf") => `(tactic| first | assumption | exact HS.up (by assumption) (by walk_at "bf") | exact HS.get (by assumption) List.mem_cons_self | exact HS.get (by assumption) (List.mem_cons_of_mem _ List.mem_cons_self) | exact HS.get (by assumption) (List.mem_cons_of_mem _ (List.mem_cons_of_mem _ List.mem_cons_self)) | exact HS.get (by assumption) (List.mem_cons_of_mem _ (List.mem_cons_of_mem _ (List.mem_cons_of_mem _ List.mem_cons_self))) | fail)
local macro_rules | `(tactic| walk_at "sl") => `(tactic| first | assumption | exact SqL.of (by walk_at "hf") | fail)
local macro_rules | `(tactic| walk_at "st") => `(tactic| first | assumption | exact SqT.of (by walk_at "hf") | fail)
local macro_rules | `(tactic| walk_at "sz") => `(tactic| first | assumption | (refine small_le ?_; first | assumption | omega | (simp; done) | (simp; omega)) | fail)
/-! ### _law_pairs -/
def prsF (f : Str → List Str) (a : Str) : List (List Str) := ((sortS (f a)).filter fun b => decide (a.cps.toList < b.cps.toList)).map fun b => [a, b]
def prsOf (xs : List Str) (f : Str → List Str) : List (List Str) := (sortS xs).flatMap (prsF f)
abbrev N__law_pairs : List Str := ["_law_mutual_here", "_law_rows", "_law_a", "_law_b"]
def t__law_pairs (K : PySem.W.Frag) (E : XK) : TS := (tSeq (tAsg (tLst tNil) (gName 1))
  (tSeq (tFor (iList K (tCB (rSortL K) (tCons (tCB rListD (tCons (tVar 0) tNil)) tNil))) (gName 2) (tFor (iList K (tCB (rSortL K) (tCons (tDGet (tVar 0) (tVar 2)) tNil))) (gName 3) (tIfS (tTest (tOp rLtS (tVar 2) (tVar 3))) (tDrop (tBM K "list" rAppend (tVar 1) (tCons (tTup (tCons (tVar 2) (tCons (tVar 3) tNil))) tNil))) tNext)))
  (tRet (tVar 1))))
def sp__law_pairs (K : PySem.W.Frag) : Sp := fun vs H Q E => ∃ (m : Addr) (kvs : List (Key × V)) (xs : List Str) (f : Str → List Str) (B : Hp), vs = [.ref m] ∧ Same B H ∧ B m = some (.dK kvs) ∧ WAt B xs kvs f ∧ xs.Nodup ∧ xs.length ≤ 25 ∧ (∀ x ∈ xs, (f x).length ≤ 25) ∧
  ∀ B' H' l vs, HS [] B H B' H' [(l, .lst vs)] → TRs B' vs (prsOf xs f) → Q (.ref l) H'
theorem prsF_len (f : Str → List Str) (a : Str) : (prsF f a).length ≤ (f a).length := by
  unfold prsF
  rw [List.length_map]
  exact Nat.le_trans (List.length_filter_le _ _) (by rw [sortS_len]; exact Nat.le_refl _)
theorem WAt.zip {B : Hp} {xs : List Str} {kvs : List (Key × V)} {f : Str → List Str} (h : WAt B xs kvs f) : (kvs.map fun kv => kV kv.1) = xs.map V.str := by
  have := congrArg (List.map kV) h.keys
  rw [List.map_map, List.map_map] at this
  exact this
theorem pure__law_pairs {K : PySem.W.Frag} {vs : List V} {H : Hp} {Q : VK} {E : XK} (h : sp__law_pairs K vs H Q E) : t__law_pairs K E { nx := fun _ H' => Q .non H', rt := Q } (start N__law_pairs vs) H := by
  obtain ⟨m, kvs, xs, f, B, rfl, sB, em, hw, nd, few, hfl, k⟩ := h
  have hs := HS.start sB
  show t__law_pairs K E _ [some (.ref m), none, none, none] H
  unfold t__law_pairs
  ((with_reducible refine x_seq ?_); (with_reducible refine x_asg ?_); (with_reducible refine x_lst ?_); (with_reducible refine x_nil ?_); ((with_reducible refine' x_newL ?z5h ?_); case z5h => first | exact Nat.zero_le _ | (simp; done) | (simp; omega)))
  refine new_M hs (fun ro H1 hs1 _ => ?_)
  (((with_reducible refine x_gname ?_); try simp only [List.set_cons_zero, List.set_cons_succ]); (with_reducible refine x_seq ?_); (with_reducible refine x_for ?_); (with_reducible refine x_iList ?_); (with_reducible refine x_cb ?_); (with_reducible refine x_cons ?_); (with_reducible refine x_cb ?_); (with_reducible refine x_cons ?_); ((with_reducible refine' x_var ?z14h ?_); case z14h => rfl); (with_reducible refine x_nil ?_))
  refine x_listD (hs1.up em) ?_
  rw [hw.zip]
  refine new_F hs1 (fun kl B2 H2 hs2 sb2 ekl _ => ?_)
  ((with_reducible refine x_nil ?_); ((with_reducible refine' x_srtL ?z17h ?z17h2 ?_); (case z17h => walk_at "sl"); (case z17h2 => omega)))
  try refine x_srtL (SqL.of (hs2.up ekl)) (by omega) ?_
  refine new_F hs2 (fun so B3 H3 hs3 sb3 e3 _ => ?_)
  have s03 := sb2.trans sb3
  refine ⟨so, rfl, ⟨_, SqL.of (hs3.up e3)⟩, ?_⟩
  refine l_list (α := List V × Option V × Option V) (σf := fun s => [some (.ref m), some (.ref ro), s.2.1, s.2.2]) (Mf := fun s => [(ro, .lst s.1)]) (P := fun i s B1 => TRs B1 s.1 (((sortS xs).take i).flatMap (prsF f))) (s0 := ([], none, none)) hs3 e3 .nil
    (fun i x s B4 H4 hi sb4 hs4 pp => ?_) (fun s B4 H4 sb4 hs4 pp => ?_)
  · obtain ⟨rows, s2, s3⟩ := s
    dsimp only at pp hs4 ⊢
    obtain ⟨a, ha, rfl⟩ := strs_get hi
    have ham : a ∈ xs := mem_sortS.mp (List.mem_of_getElem? ha)
    obtain ⟨oa, ev, eo⟩ := ((hw.mono s03).mono sb4).get nd ham
    have ol := hfl a ham
    have em4 := sb4 _ _ (s03 _ _ em)
    (((with_reducible refine x_gname ?_); try simp only [List.set_cons_zero, List.set_cons_succ]); (with_reducible refine x_for ?_); (with_reducible refine x_iList ?_); (with_reducible refine x_cb ?_); (with_reducible refine x_cons ?_); (with_reducible refine x_dget ?_); ((with_reducible refine' x_var ?z24h ?_); case z24h => rfl); ((with_reducible refine' x_var ?z25h ?_); case z25h => rfl); ((with_reducible refine' x_dgS ?z26h ?z26h2 ?_); (case z26h => walk_at "hf"); (case z26h2 => assumption)); (with_reducible refine x_nil ?_); ((with_reducible refine' x_srtL ?z28h ?z28h2 ?_); (case z28h => walk_at "sl"); (case z28h2 => omega)))
    try (refine x_dgS (hs4.up em4) ev ?_; fail)
    try refine x_srtL (SqL.of (hs4.up eo)) (by omega) ?_
    refine new_F hs4 (fun so2 B5 H5 hs5 sb5 e5 _ => ?_)
    refine ⟨so2, rfl, ⟨_, SqL.of (hs5.up e5)⟩, ?_⟩
    refine l_list (α := List V × Option V) (σf := fun s => [some (.ref m), some (.ref ro), some (.str a), s.2]) (Mf := fun s => [(ro, .lst s.1)])
      (P := fun j s B1 => TRs B1 s.1 (((sortS xs).take i).flatMap (prsF f) ++ (((sortS (f a)).take j).filter fun b => decide (a.cps.toList < b.cps.toList)).map fun b => [a, b])) (s0 := (rows, s3)) hs5 e5 (by simpa using pp.mono sb5)
      (fun j y s B6 H6 hj sb6 hs6 pp => ?_) (fun s B6 H6 sb6 hs6 pp => ?_)
    · obtain ⟨rows, s3⟩ := s
      dsimp only at pp hs6 ⊢
      obtain ⟨b, hb, rfl⟩ := strs_get hj
      have hjl : j < (sortS (f a)).length := (List.getElem?_eq_some_iff.mp hb).1
      rw [sortS_len] at hjl
      (((with_reducible refine x_gname ?_); try simp only [List.set_cons_zero, List.set_cons_succ]); (with_reducible refine x_if ?_); (with_reducible refine x_test ?_); (with_reducible refine x_op ?_); ((with_reducible refine' x_var ?z33h ?_); case z33h => rfl); ((with_reducible refine' x_var ?z34h ?_); case z34h => rfl); (with_reducible refine x_ltS ?_); (with_reducible refine x_exb ?_))
      refine x_ite (fun h => ?_) (fun h => ?_)
      · ((with_reducible refine x_drop ?_); (with_reducible refine x_bm ?_); ((with_reducible refine' x_var ?z39h ?_); case z39h => rfl); ((with_reducible refine' x_tyL ?z40h ?_); case z40h => walk_at "sl"); (with_reducible refine x_cons ?_); (with_reducible refine x_tup ?_); (with_reducible refine x_cons ?_); ((with_reducible refine' x_var ?z44h ?_); case z44h => rfl); (with_reducible refine x_cons ?_); ((with_reducible refine' x_var ?z46h ?_); case z46h => rfl); (with_reducible refine x_nil ?_); ((with_reducible refine' x_newT ?z48h ?_); case z48h => first | exact Nat.zero_le _ | (simp; done) | (simp; omega)))
        try refine x_tyL (SqL.of (hs6.get List.mem_cons_self)) ?_
        skip
        refine new_F hs6 (fun t B7 H7 hs7 sb7 e7 _ => ?_)
        (with_reducible refine x_nil ?_)
        have hlen := pp.len
        rw [List.length_append] at hlen
        have l1 : (((sortS xs).take i).flatMap (prsF f)).length ≤ ((sortS xs).take i).length * 25 := flat_len fun z mz => Nat.le_trans (prsF_len f z) (hfl z (mem_sortS.mp (List.mem_of_mem_take mz)))
        have l2 : ((((sortS (f a)).take j).filter fun b => decide (a.cps.toList < b.cps.toList)).map fun b => [a, b]).length ≤ 25 := by
          rw [List.length_map]
          exact Nat.le_trans (List.length_filter_le _ _) (by rw [List.length_take]; omega)
        rw [List.length_take, sortS_len] at l1
        have l3 : min i xs.length * 25 ≤ 625 := by
          have : min i xs.length ≤ 25 := by omega
          omega
        refine x_append hs7 (by omega) (fun H8 hs8 => ?_)
        refine ⟨(rows ++ [.ref t], some _), B7, rfl, sb6.trans sb7, hs8, ?_⟩
        dsimp only
        rw [filter_take _ hb, if_pos h, List.map_append, ← List.append_assoc]
        exact (pp.mono sb7).snoc e7
      · (with_reducible refine x_next ?_)
        refine ⟨(rows, some _), B6, rfl, sb6, hs6, ?_⟩
        dsimp only
        rw [filter_take _ hb, if_neg (by rw [h]; decide)]
        exact pp
    · obtain ⟨rows, s3⟩ := s
      dsimp only at pp hs6 ⊢
      rw [List.length_map, List.take_length] at pp
      refine ⟨(rows, some _, s3), B6, rfl, (sb4.trans sb5).trans sb6, hs6, ?_⟩
      dsimp only
      rw [flatMap_take _ ha]
      exact pp
  · obtain ⟨rows, s2, s3⟩ := s
    dsimp only at pp hs4 ⊢
    rw [List.length_map, List.take_length] at pp
    ((with_reducible refine x_ret ?_); ((with_reducible refine' x_var ?z52h ?_); case z52h => rfl))
    exact k B4 H4 ro rows hs4 pp
/-! ### x in a list, by == of nested data -/
def rInE (K : PySem.W.Frag) : R2 := fun x y H Q => ∃ (a : Addr) (xs : List V) (e : V → Bool) (n : Nat), y = .ref a ∧ n ≤ 60 ∧ SqL K H a xs ∧ (∀ v ∈ xs, (∃ b, v = .ref b) ∧ EqA K H n v x (e v)) ∧ Q (.bl (xs.any e)) H
def refB (e : V → Bool) : Value → Bool
  | .ref a => e (.ref a)
  | _ => false
end Q

set_option Elab.async false
set_option linter.all false
set_option maxRecDepth 100000
set_option maxHeartbeats 4000000
namespace Q
open PySem PySem.Spec PyProof.Rows L2
/-! ### isinstance(x, Group) of any data -/
def swapL : List Str → List Str
  | [a, b] => [b, a]
  | l => l
theorem TRs.append {B : Hp} : ∀ {vs us : List V} {ks ls : List (List Str)}, TRs B vs ks → TRs B us ls → TRs B (vs ++ us) (ks ++ ls)
  | _, _, _, _, .nil, h => h
  | _, _, _, _, .cons h r, h2 => .cons h (TRs.append r h2)
theorem TRs.at {B : Hp} : ∀ {vs : List V} {ks : List (List Str)} {j : Nat} {v : V}, TRs B vs ks → vs[j]? = some v → ∃ t k, v = .ref t ∧ ks[j]? = some k ∧ B t = some (.tup (k.map V.str))
  | _, _, _, _, .nil, e => by simp at e
  | _, _, 0, v, .cons h _, e => by
    simp only [List.getElem?_cons_zero, Option.some.injEq] at e
    subst e
    exact ⟨_, _, rfl, rfl, h⟩
  | _, _, j + 1, v, .cons _ r, e => by
    obtain ⟨t, k, h1, h2, h3⟩ := TRs.at (j := j) (v := v) r (by simpa using e)
    exact ⟨t, k, h1, by simpa using h2, h3⟩
/-- by its names -/
theorem TRs.any {K : PySem.W.Frag} {B H : Hp} (s : Same B H) {a : Addr} {ks : List Str} (ha : H a = some (.tup (ks.map V.str))) : ∀ {vs : List V} {ps : List (List Str)}, TRs B vs ps → ∃ e : V → Bool, (∀ v ∈ vs, (∃ b, v = .ref b) ∧ EqA K H 2 v (.ref a) (e v)) ∧ vs.any e = decide (ks ∈ ps) := by
  intro vs ps t
  have hB : ∀ v ∈ vs, ∃ b k, v = .ref b ∧ B b = some (.tup (k.map V.str)) ∧ k ∈ ps := fun v m => t.get m
  let key : V → List Str := fun v => match v with | .ref b => (match B b with | some (.tup xs) => xs.filterMap (fun x => match x with | .str y => some y | _ => none) | _ => []) | _ => []
  have fm : ∀ k : List Str, (k.map V.str).filterMap (fun x => match x with | .str y => some y | _ => none) = k := fun k => by
    induction k with
    | nil => rfl
    | cons x r ih => rw [List.map_cons, List.filterMap_cons]; dsimp only; rw [ih]
  have hk : ∀ {b : Addr} {k : List Str}, B b = some (.tup (k.map V.str)) → key (.ref b) = k := fun {b k} e => by
    show (match B b with | some (.tup xs) => xs.filterMap _ | _ => []) = k
    rw [e]
    exact fm k
  refine ⟨fun v => decide (key v = ks), fun v m => ?_, ?_⟩
  · obtain ⟨b, k, rfl, eb, _⟩ := hB v m
    refine ⟨⟨b, rfl⟩, .inr (.inr ⟨b, a, _, _, rfl, rfl, .inr ⟨SqT.of (s _ _ eb), SqT.of ha⟩, ?_⟩)⟩
    dsimp only
    rw [hk eb]
    exact eqs_strs k ks
  · clear hB
    induction t with
    | nil => rfl
    | @cons b k vs' ps' h _ ih =>
      rw [List.any_cons, ih]
      rw [hk h]
      by_cases e : k = ks
      · simp [e]
      · have : ¬ ks = k := fun z => e z.symm
        simp [e, this]
theorem str_tri {x y : Str} (h : x ≠ y) : ltS x y ∨ ltS y x := by
  rcases Bool.or_eq_true _ _ ▸ leS_total x y with z | z
  · exact .inl (ltS_iff.mpr ⟨z, h⟩)
  · exact .inr (ltS_iff.mpr ⟨z, fun e => h e.symm⟩)
end Q

set_option Elab.async false
set_option linter.all false
set_option maxRecDepth 100000
set_option maxHeartbeats 4000000
namespace Q
open PySem PySem.Spec PyProof.Rows L2
/-! ### dicts as data, as they are changed -/
def putD (ds : List (Key × D)) (k : Key) (d : D) : List (Key × D) := if (ds.any fun kv => decide (kv.1 = k)) = true then ds.map (fun kv => if kv.1 = k then (kv.1, d) else kv) else ds ++ [(k, d)]
def dropD (ds : List (Key × D)) (k : Key) : List (Key × D) := ds.filter fun kv => decide (kv.1 ≠ k)
theorem RepK.anyK {K : PySem.W.Frag} {B : Hp} {k : Key} : ∀ {kvs : List (Key × V)} {ds : List (Key × D)}, RepK K B kvs ds → (kvs.any fun kv => decide (kv.1 = k)) = (ds.any fun kv => decide (kv.1 = k))
  | _, _, .nil => rfl
  | _, _, .cons _ r => by rw [List.any_cons, List.any_cons, RepK.anyK r]
theorem RepK.mapK {K : PySem.W.Frag} {B : Hp} {k : Key} {v : V} {d : D} (h : Rep K B v d) : ∀ {kvs : List (Key × V)} {ds : List (Key × D)}, RepK K B kvs ds → RepK K B (kvs.map fun kv => if kv.1 = k then (kv.1, v) else kv) (ds.map fun kv => if kv.1 = k then (kv.1, d) else kv)
  | _, _, .nil => .nil
  | _, _, @RepK.cons _ _ k2 _ _ _ _ h2 r => by
    rw [List.map_cons, List.map_cons]
    by_cases e : k2 = k
    · dsimp only
      rw [if_pos e, if_pos e]
      exact .cons h (RepK.mapK h r)
    · dsimp only
      rw [if_neg e, if_neg e]
      exact .cons h2 (RepK.mapK h r)
theorem RepK.append {K : PySem.W.Frag} {B : Hp} : ∀ {kvs kvs' : List (Key × V)} {ds ds' : List (Key × D)}, RepK K B kvs ds → RepK K B kvs' ds' → RepK K B (kvs ++ kvs') (ds ++ ds')
  | _, _, _, _, .nil, s => s
  | _, _, _, _, .cons h r, s => .cons h (RepK.append r s)
theorem RepK.putD {K : PySem.W.Frag} {B : Hp} {k : Key} {v : V} {d : D} {kvs : List (Key × V)} {ds : List (Key × D)} (r : RepK K B kvs ds) (h : Rep K B v d) : RepK K B (putK kvs k v) (Q.putD ds k d) := by
  unfold putK Q.putD
  rw [r.anyK]
  split
  · exact r.mapK h
  · exact r.append (.cons h .nil)
theorem RepK.dropD {K : PySem.W.Frag} {B : Hp} {k : Key} : ∀ {kvs : List (Key × V)} {ds : List (Key × D)}, RepK K B kvs ds → RepK K B (dropK kvs k) (Q.dropD ds k)
  | _, _, .nil => .nil
  | _, _, @RepK.cons _ _ k2 _ _ _ _ h2 r => by
    unfold dropK Q.dropD
    rw [List.filter_cons, List.filter_cons]
    dsimp only
    split
    · exact .cons h2 (RepK.dropD r)
    · exact RepK.dropD r
theorem RepK.keysE {K : PySem.W.Frag} {B : Hp} : ∀ {kvs : List (Key × V)} {ds : List (Key × D)}, RepK K B kvs ds → kvs.map (·.1) = ds.map (·.1)
  | _, _, .nil => rfl
  | _, _, .cons _ r => by rw [List.map_cons, List.map_cons, RepK.keysE r]
theorem dval_nil {k : Key} : dval ([] : List (Key × D)) k = none := rfl
theorem dval_pos {p : Key × D} {r : List (Key × D)} {k : Key} (e : p.1 = k) : dval (p :: r) k = some p.2 := by simp [dval, List.find?_cons, e]
theorem dval_neg {p : Key × D} {r : List (Key × D)} {k : Key} (e : ¬ p.1 = k) : dval (p :: r) k = dval r k := by simp [dval, List.find?_cons, e]
theorem dval_any (k : Key) : ∀ ds : List (Key × D), (ds.any fun kv => decide (kv.1 = k)) = (dval ds k).isSome
  | [] => rfl
  | p :: r => by
    rw [List.any_cons]
    by_cases e : p.1 = k
    · simp only [dval_pos e, decide_eq_true e, Bool.true_or, Option.isSome_some]
    · rw [dval_neg e, decide_eq_false e, Bool.false_or]; exact dval_any k r
theorem dval_put {ds : List (Key × D)} {k k' : Key} {d : D} : dval (putD ds k d) k' = if k' = k then some d else dval ds k' := by
  have mp : ∀ ds : List (Key × D), dval (ds.map fun p => if p.1 = k then (p.1, d) else p) k' = if k' = k then (if (dval ds k).isSome then some d else none) else dval ds k' := by
    intro ds
    induction ds with
    | nil => by_cases e : k' = k <;> simp [e, dval_nil]
    | cons p r ih =>
      rw [List.map_cons]
      by_cases ep : p.1 = k
      · rw [if_pos ep]
        by_cases e : k' = k
        · rw [dval_pos (by rw [ep, e]), if_pos e, dval_pos ep]
          rfl
        · rw [dval_neg (fun z => e (by rw [← z]; exact ep)), ih, if_neg e, if_neg e, dval_neg (fun z => e (by rw [← z]; exact ep))]
      · rw [if_neg ep]
        by_cases e2 : p.1 = k'
        · rw [dval_pos e2, if_neg (fun z => ep (e2.trans z)), dval_pos e2]
        · rw [dval_neg e2, ih, dval_neg e2, dval_neg ep]
  unfold putD
  split
  · rename_i h
    rw [mp]
    rw [dval_any] at h
    rw [if_pos h]
  · rename_i h
    rw [dval_any] at h
    have hn : dval ds k = none := by
      cases hv : dval ds k with
      | none => rfl
      | some _ => rw [hv] at h; exact absurd rfl h
    clear mp h
    induction ds with
    | nil =>
      by_cases e : k' = k
      · rw [if_pos e]
        exact dval_pos (p := (k, d)) e.symm
      · rw [if_neg e]
        exact dval_neg (p := (k, d)) (fun z => e z.symm)
    | cons p r ih =>
      have np : p.1 ≠ k := fun z => by rw [dval_pos z] at hn; cases hn
      rw [dval_neg np] at hn
      rw [List.cons_append]
      by_cases e2 : p.1 = k'
      · rw [dval_pos e2, if_neg (fun z => np (e2.trans z)), dval_pos e2]
      · rw [dval_neg e2, ih hn, dval_neg e2]
theorem keys_putD {ds : List (Key × D)} {k : Key} {d : D} : (k ∈ ds.map (·.1) ∧ (putD ds k d).map (·.1) = ds.map (·.1)) ∨ (k ∉ ds.map (·.1) ∧ (putD ds k d).map (·.1) = ds.map (·.1) ++ [k]) := by
  unfold putD
  have hc : (ds.any fun kv => decide (kv.1 = k)) = true ↔ k ∈ ds.map (·.1) := by
    rw [List.any_eq_true, List.mem_map]
    exact ⟨fun ⟨q, m, e⟩ => ⟨q, m, of_decide_eq_true e⟩, fun ⟨q, m, e⟩ => ⟨q, m, decide_eq_true e⟩⟩
  by_cases h : (ds.any fun kv => decide (kv.1 = k)) = true
  · rw [if_pos h, List.map_map]
    exact .inl ⟨hc.mp h, List.map_congr_left fun kv _ => by
      show (if kv.1 = k then (kv.1, d) else kv).1 = kv.1
      split <;> rfl⟩
  · rw [if_neg h, List.map_append]
    exact .inr ⟨fun z => h (hc.mpr z), rfl⟩
theorem ndD_put {ds : List (Key × D)} {k : Key} {d : D} (nd : (ds.map (·.1)).Nodup) : ((putD ds k d).map (·.1)).Nodup := by
  rcases keys_putD (ds := ds) (k := k) (d := d) with ⟨_, e⟩ | ⟨h, e⟩ <;> rw [e]
  · exact nd
  · rw [List.nodup_append]
    exact ⟨nd, by simp, fun a ma b mb e => h (by rw [← List.mem_singleton.mp mb, ← e]; exact ma)⟩
theorem ndD_drop {ds : List (Key × D)} {k : Key} (nd : (ds.map (·.1)).Nodup) : ((dropD ds k).map (·.1)).Nodup := nd.sublist ((List.filter_sublist (p := fun kv : Key × D => decide (kv.1 ≠ k))).map _)
theorem lenD_put {ds : List (Key × D)} {k : Key} {d : D} : (putD ds k d).length ≤ ds.length + 1 := by
  unfold putD
  split <;> simp
theorem lenD_drop {ds : List (Key × D)} {k : Key} : (dropD ds k).length ≤ ds.length := List.length_filter_le _ _
/-- all keys are texts, each once, at most m -/
structure StrK (ds : List (Key × D)) (m : Nat) : Prop where
  nd : (ds.map (·.1)).Nodup
  st : ∃ ks : List Str, ds.map (·.1) = ks.map Sum.inr
  le : ds.length ≤ m
theorem StrK.nil : StrK [] 0 := ⟨List.nodup_nil, ⟨[], rfl⟩, Nat.le_refl _⟩
theorem StrK.up {ds : List (Key × D)} {m m' : Nat} (h : StrK ds m) (hm : m ≤ m') : StrK ds m' := ⟨h.nd, h.st, Nat.le_trans h.le hm⟩
theorem StrK.put {ds : List (Key × D)} {m : Nat} {x : Str} {d : D} (h : StrK ds m) : StrK (putD ds (.inr x) d) (m + 1) :=
  ⟨ndD_put h.nd, by
    obtain ⟨ks, e⟩ := h.st
    rcases keys_putD (ds := ds) (k := .inr x) (d := d) with ⟨_, e2⟩ | ⟨_, e2⟩ <;> rw [e2]
    · exact ⟨ks, e⟩
    · exact ⟨ks ++ [x], by rw [e, List.map_append]; rfl⟩, Nat.le_trans lenD_put (by have := h.le; omega)⟩
theorem StrK.over {ds : List (Key × D)} {m : Nat} {x : Str} {d : D} (h : StrK ds m) (hx : (dval ds (.inr x)).isSome = true) : StrK (putD ds (.inr x) d) m :=
  ⟨ndD_put h.nd, by
    obtain ⟨ks, e⟩ := h.st
    rcases keys_putD (ds := ds) (k := .inr x) (d := d) with ⟨_, e2⟩ | ⟨_, e2⟩ <;> rw [e2]
    · exact ⟨ks, e⟩
    · exact ⟨ks ++ [x], by rw [e, List.map_append]; rfl⟩, by
    unfold putD
    rw [if_pos (by rw [dval_any]; exact hx), List.length_map]
    exact h.le⟩
theorem StrK.drop {ds : List (Key × D)} {m : Nat} {k : Key} (h : StrK ds m) : StrK (dropD ds k) m :=
  ⟨ndD_drop h.nd, by
    obtain ⟨ks, e⟩ := h.st
    have : ∀ {ds : List (Key × D)} {ks : List Str}, ds.map (·.1) = ks.map Sum.inr → ∃ ks' : List Str, (Q.dropD ds k).map (·.1) = ks'.map Sum.inr := by
      intro ds
      induction ds with
      | nil => intro _ _; exact ⟨[], rfl⟩
      | cons p r ih =>
        intro ks e
        cases ks with
        | nil => cases e
        | cons x ks =>
          rw [List.map_cons, List.map_cons] at e
          injection e with e1 e2
          obtain ⟨ks', e'⟩ := ih e2
          unfold Q.dropD at e' ⊢
          rw [List.filter_cons]
          split
          · exact ⟨x :: ks', by rw [List.map_cons, List.map_cons, e', e1]⟩
          · exact ⟨ks', e'⟩
    exact this e, Nat.le_trans lenD_drop h.le⟩
theorem dval_inK {k : Key} : ∀ {ds : List (Key × D)}, k ∈ ds.map (·.1) → (dval ds k).isSome = true
  | [], h => by simp at h
  | (k', d) :: r, h => by
    by_cases e : k' = k
    · rw [dval_pos (p := (k', d)) e]; rfl
    · rw [dval_neg (p := (k', d)) e]
      rcases List.mem_cons.mp h with z | z
      · exact absurd z.symm e
      · exact dval_inK z
theorem dval_mem' {ds : List (Key × D)} {k : Key} {d : D} (h : dval ds k = some d) : (k, d) ∈ ds := by
  unfold dval at h
  cases e : ds.find? fun kv => decide (kv.1 = k) with
  | none => rw [e] at h; cases h
  | some kv =>
    rw [e] at h
    cases h
    have e1 : kv.1 = k := of_decide_eq_true (List.find?_some (p := fun kv : Key × D => decide (kv.1 = k)) e)
    rw [← e1]
    exact List.mem_of_find?_eq_some e
/-! ### != of dicts that hold the same -/
/-- the same values under the same keys, in any order -/
def SameO (H : Hp) (x y : V) : Prop := ∃ a c ks ls, x = .ref a ∧ y = .ref c ∧ H a = some (.dK ks) ∧ H c = some (.dK ls) ∧ ks.length = ls.length ∧ ∀ p ∈ ks, valV ls p.1 = some p.2 ∧ (flatV p.2 = true ∨ ∃ b, p.2 = .ref b)
def rNeW (K : PySem.W.Frag) : R2 := fun x y H Q => rNeU K x y H Q ∨ (SameD H x y ∧ Q (.bl false) H) ∨ (SameO H x y ∧ Q (.bl false) H)
end Q

set_option Elab.async false
set_option linter.all false
set_option maxRecDepth 100000
set_option maxHeartbeats 4000000
namespace Q
open PySem PySem.Spec PyProof.Rows L2
/-! ### any data != a text -/
theorem str_ne_declines_dict (b : Str) (u : Tok) (l : Addr) (ob : Obj) (es : Array DictEntry) (ep : Nat) (hd : ob.data = .dict es ep) :
    Meets (Builtin.«str.__ne__» ⟨[.str b u, .ref l], []⟩) (fun _ R s => s.heap.get? l = some ob ∧ R (.ok (.ret .notImplemented)) s) :=
  .of_wp fun prog w A R s h => by
    obtain ⟨cls, dd, data, sl⟩ := ob
    dsimp only at hd
    subst hd
    obtain ⟨hp, g, d, tk, os⟩ := s
    obtain ⟨hl, h⟩ := h
    wp_walk using wpAny_loadPart' hl, wpAny_load hl
    exact ⟨_, rfl, h⟩
section
variable {A : Around} {s : Shared}
theorem rcne_dict_str {a : Addr} {o : Obj} {es : Array DictEntry} {ep : Nat} {b : Str} {u : Tok} (ho : s.heap.get? a = some o) (ht : s.TypeIs (.ref a) "dict") (hd : o.data = .dict es ep) (hu : A.units < cLine) : SeqAt.RcNeAt A s (.ref a) (.str b u) true := fun prog w E Q h => by
  refine SeqAt.rc_ne_decline_or (k := false) ht (typeIs_str s b u) (by decide) PySem.F.sub_str_dict PySem.F.slot_dict_ne PySem.F.slot_str_ne_refl
    (fun Q' hq => wpAny_call_entry PySem.F.slot_dict_ne ht PySem.F.entry_dict_ne ?_ (PySem.F.args_dict_ne_2 _ _))
    (fun Q' hq => call_meets PySem.F.slot_str_ne_refl (typeIs_str s b u) PySem.F.entry_str_ne (PySem.F.args_str_ne_2 _ _) (str_ne_declines_dict b u a o es ep hd) ⟨ho, hq⟩)
    (fun _ hq => wpAny_of_eq (rfl : isSame (.ref a) (.str b u) = pure false) hq) (.inr hu) h
  show wpAny _ _ (Builtin.Dict.dictSlotArgs "__ne__" ⟨[.ref a, .str b u], []⟩ >>= _) _ _ s
  refine wpAny_bind ?_
  unfold Builtin.Dict.dictSlotArgs
  refine wpAny_bind (wpAny_notOrdered_dict ht ?_)
  show wpAny _ _ (pure (Value.ref a, Value.str b u)) _ _ s
  refine wpAny_pure ?_
  refine wpAny_bind (wpAny_isInstance (T := "str") (typeIs_str s b u) PySem.F.sub_str_dict ?_)
  simp only [Bool.not_false, if_true]
  exact wpAny_bind (wpAny_rule (wpAny_pure ⟨_, rfl, hq⟩))
end
def rNeX (K : PySem.W.Frag) : R2 := fun x y H Q => ∃ z : Str, y = .str z ∧ Pln K H x ∧ Q (.bl (!eqTx z x)) H
theorem op_neX {X : Cx} (hu : X.A.units + 64 < cLine) : OpR X (compareOp .NotEq) (rNeX X.K) := by
  intro pins s σ H x y v u Q I rx ry h
  obtain ⟨z, rfl, p, q⟩ := h
  rcases p with f | ⟨a, rfl, h⟩
  · refine op_ne pins s σ H x (.str z) v u Q I rx ry ⟨?_, ?_⟩
    · cases x <;> first | rfl | cases f
    · have e : decide (x = V.str z) = eqTx z x := by
        cases x with
        | str y =>
          show decide (V.str y = V.str z) = decide (y = z)
          by_cases e : y = z
          · rw [e]; simp
          · rw [decide_eq_false e, decide_eq_false fun w => e (by injection w)]
        | _ => first | rfl | exact decide_eq_false nofun
      rw [e]
      exact q
  · cases (show v = Value.ref a from rx)
    obtain ⟨t, rfl⟩ := ry
    rcases h with ⟨xs, h⟩ | ⟨xs, h⟩ | ⟨kvs, h⟩
    · obtain ⟨us, _, p1, _⟩ := I.list h
      exact PySem.W.cmp_ofNotEq (SeqAt.RcNeAt.list_str z t p1.isList (by omega) X.prog X.w X.xe (EP X pins σ Q) ⟨.bl true, H, I, rfl, q⟩)
    · obtain ⟨us, _, p1, _⟩ := I.tuple h
      exact PySem.W.cmp_ofNotEq (SeqAt.RcNeAt.tuple_str z t p1 (by omega) X.prog X.w X.xe (EP X pins σ Q) ⟨.bl true, H, I, rfl, q⟩)
    · obtain ⟨_, ya, va, ra, da⟩ := (show ObjOk X.prog X.w H s.heap a (.dK kvs) from I.hok a _ h)
      obtain ⟨o, es, ep, ho, hx, hd, _⟩ := id da
      exact PySem.W.cmp_ofNotEq (rcne_dict_str ho da.typeIs hd (by omega) X.prog X.w X.xe (EP X pins σ Q) ⟨.bl true, H, I, rfl, q⟩)
end Q

set_option Elab.async false
set_option linter.all false
set_option maxRecDepth 100000
set_option maxHeartbeats 4000000
namespace Q
open PySem PySem.Spec PyProof.Rows L2
/-! ### raise X() of an own class without __init__ -/
def ErZ (K : PySem.W.Frag) (mg : Str → Option Value) (c : Str) : Prop := mg c = some (.ref (He.ga K c)) ∧ PySem.W.excIn K (He.ga K c) He.veBase "ValueError.__new__" = true ∧ PySem.W.keepIn K (.ref (He.ga K c)) = true ∧ PySem.W.subIn K (.ref (He.ga K c)) (.type "BaseException") = some true ∧ PySem.W.typeIn K (.ref (He.ga K c)) = some (.type "type")
def tRz0 (C : Addr) (W : WX) : TS := fun _ σ H => W (.ref C) none σ H
section
variable {X : Cx} {W : WX} {x : Str} {p pos pos' : Pos}
end
/-- an error without fields in a caller's frame -/
def Thr0W (K : PySem.W.Frag) (S : List Addr) (B0 H0 B : Hp) (M : List (Addr × HO)) (E : XK) (c : Str) : Prop := ∀ B' H', Same B B' → HS S B0 H0 B' H' M → E (.ref (He.ga K c)) none H'
theorem Thr0W.thr {K : PySem.W.Frag} {S : List Addr} {B0 H0 B H : Hp} {M : List (Addr × HO)} {E : XK} {c : Str} (k : Thr0W K S B0 H0 B M E c) (hs : HS S B0 H0 B H M) : Thr0 K B H E c := fun B' H' c => k B' H' c.bb (hs.call c)
theorem Thr0.w {K : PySem.W.Frag} {B H B1 : Hp} {E : XK} {c : Str} {M : List (Addr × HO)} (k : Thr0 K B H E c) : Thr0W K [] B H B1 M E c := fun B' H' _ c => k B' H' c.all
end Q

set_option Elab.async false
set_option linter.all false
set_option maxRecDepth 100000
set_option maxHeartbeats 4000000
namespace Q
open PySem PySem.Spec PyProof.Rows L2
local macro_rules | `(tactic| walk_at "bf") => `(tactic| first | assumption | (refine' bstep (by assumption) ?r; case r => walk_at "bf") | fail)
local macro_rules | `(tactic| walk_at "rp") => `(tactic| first | assumption | exact Rep.int _ | exact Rep.bl _ | exact Rep.non | (refine' Rep.mono (by assumption) ?r; case r => walk_at "rp") | fail)
local macro_rules | `(tactic| walk_at "hf") => `(tactic| first | assumption | exact HS.up (by assumption) (by walk_at "bf") | exact HS.get (by assumption) List.mem_cons_self | exact HS.get (by assumption) (List.mem_cons_of_mem _ List.mem_cons_self) | exact HS.get (by assumption) (List.mem_cons_of_mem _ (List.mem_cons_of_mem _ List.mem_cons_self)) | exact HS.get (by assumption) (List.mem_cons_of_mem _ (List.mem_cons_of_mem _ (List.mem_cons_of_mem _ List.mem_cons_self))) | fail)
local macro_rules | `(tactic| walk_at "sl") => `(tactic| first | assumption | exact SqL.of (by walk_at "hf") | fail)
local macro_rules | `(tactic| walk_at "st") => `(tactic| first | assumption | exact SqT.of (by walk_at "hf") | fail)
local macro_rules | `(tactic| walk_at "sz") => `(tactic| first | assumption | (refine small_le ?_; first | assumption | omega | (simp; done) | (simp; omega)) | fail)
/-! ### dealings -/
def eqS (d : D) (a : Str) : Bool := match d with
  | .str x => decide (x = a)
  | _ => false
def okVal (op : Str → List Str) (d : D) (a : Str) : D → Bool
  | .non => true
  | .str b => decide (b ∈ op a) && eqS (vald d b) a
  | _ => false
def okPart (op : Str → List Str) (d : D) (a : Str) : Bool := okVal op d a (vald d a)
def isDeal (xs : List Str) (op : Str → List Str) (d : D) : Bool := sameKeys d xs && xs.all (okPart op d)
structure Deal (xs : List Str) (op : Str → List Str) (d : D) : Prop where
  sk : sameKeys d xs = true
  ok : ∀ a ∈ xs, vald d a = .non ∨ ∃ b, vald d a = .str b ∧ b ∈ op a ∧ vald d b = .str a
theorem okPart_true {op : Str → List Str} {d : D} {a : Str} : okPart op d a = true ↔ (vald d a = .non ∨ ∃ b, vald d a = .str b ∧ b ∈ op a ∧ vald d b = .str a) := by
  unfold okPart
  cases h : vald d a with
  | non => simp [okVal]
  | str b =>
    show (decide (b ∈ op a) && eqS (vald d b) a) = true ↔ _
    constructor
    · intro z
      obtain ⟨z1, z2⟩ := Bool.and_eq_true_iff.mp z
      refine .inr ⟨b, rfl, of_decide_eq_true z1, ?_⟩
      unfold eqS at z2
      cases h2 : vald d b with
      | str x => rw [h2] at z2; rw [of_decide_eq_true z2]
      | _ => rw [h2] at z2; cases z2
    · rintro (z | ⟨b', z1, z2, z3⟩)
      · cases z
      · injection z1 with z1
        subst z1
        rw [decide_eq_true z2, z3]
        show (true && decide (a = a)) = true
        simp
  | _ => simp [okVal]
theorem isDeal_true {xs : List Str} {op : Str → List Str} {d : D} : isDeal xs op d = true ↔ Deal xs op d := by
  unfold isDeal
  rw [Bool.and_eq_true_iff, List.all_eq_true]
  exact ⟨fun h => ⟨h.1, fun a m => okPart_true.mp (h.2 a m)⟩, fun h => ⟨h.sk, fun a m => okPart_true.mpr (h.ok a m)⟩⟩
def plainV (d : D) : Prop := ∀ p, (vald d p).plain = true
theorem plainV_dct {ds : List (Key × D)} (h : PlK (fun e => e.plain = true) ds) : plainV (.dct ds) := fun p => by
  unfold vald
  dsimp only
  cases e : dval ds (.inr p) with
  | none => rfl
  | some d =>
    obtain ⟨k', m⟩ := dval_mem e
    exact h _ m
theorem eqTx_rep {K : PySem.W.Frag} {B : Hp} {v : V} {d : D} {a : Str} (r : Rep K B v d) : eqTx a v = eqS d a := by cases r <;> rfl
theorem x_neX {K : PySem.W.Frag} {S : List Addr} {B0 H0 B H : Hp} {M : List (Addr × HO)} {Q : VK} {v : V} {d : D} {a : Str} (hs : HS S B0 H0 B H M) (r : Rep K B v d) (p : d.plain = true) (h : Q (.bl (!eqS d a)) H) : rNeX K v (.str a) H Q :=
  ⟨a, rfl, r.pln hs p, by rw [eqTx_rep r]; exact h⟩
theorem rep_dct {K : PySem.W.Frag} {B : Hp} {v : V} {ds : List (Key × D)} (r : Rep K B v (.dct ds)) : ∃ a kvs, v = .ref a ∧ B a = some (.dK kvs) ∧ RepK K B kvs ds := by
  cases r with
  | dct e r => exact ⟨_, _, rfl, e, r⟩
theorem names_len {G : Grp} (ok : G.Ok) {x : Str} (m : x ∈ G.names) : x.length ≤ 1000000 := okName_len (ok.nm x m)
abbrev N_is_dealing : List Str := ["group", "x", "a", "b"]
def t_is_dealing (K : PySem.W.Frag) (E : XK) : TS := (tSeq (tIfS (tNot (tB (tCl (sp_same_keys K) (WE0 E) (tCons (tVar 1) (tCons (tMt (He.ga K "Group") "people" (sp_Group_people K) (WE0 E) (tVar 0) tNil) tNil))))) (tRet (tC (.bl false))) tNext)
  (tSeq (tFor (iList K (tMt (He.ga K "Group") "people" (sp_Group_people K) (WE0 E) (tVar 0) tNil)) (gName 2) (tSeq (tAsg (tDGet (tVar 1) (tVar 2)) (gName 3))
  (tSeq (tIfS (tB (tIsN (tVar 3))) tCont tNext)
  (tIfS (tOr (tNot (tB (tCB (rIsi K) (tCons (tVar 3) (tCons (tC (.ty "str")) tNil))))) (tOr (tTest (tOp (rNotInG (He.ga K "Group") (sp_Group___contains__ K)) (tTup (tCons (tVar 2) (tCons (tVar 3) tNil))) (tVar 0))) (tTest (tOp (rNeX K) (tDGet (tVar 1) (tVar 3)) (tVar 2))))) (tRet (tC (.bl false))) tNext))))
  (tRet (tC (.bl true)))))
def sp_is_dealing (K : PySem.W.Frag) : Sp := fun vs H Q E => ∃ (p : Addr) (v : V) (B : Hp) (G : Grp) (d : D), vs = [.ref p, v] ∧ Same B H ∧ GAt K B p G ∧ Rep K B v d ∧ plainV d ∧ Ret B H Q fun _ r => r = .bl (isDeal G.names G.open d)
abbrev N_check_dealing : List Str := ["group", "x"]
def t_check_dealing (K : PySem.W.Frag) (E : XK) : TS := (tIfS (tNot (tB (tCl (sp_is_dealing K) (WE0 E) (tCons (tVar 0) (tCons (tVar 1) tNil))))) (tRz0 (He.ga K "NoDealing") (WE0 E)) tNext)
def sp_check_dealing (K : PySem.W.Frag) : Sp := fun vs H Q E => ∃ (p : Addr) (v : V) (B : Hp) (G : Grp) (d : D), vs = [.ref p, v] ∧ Same B H ∧ GAt K B p G ∧ Rep K B v d ∧ plainV d ∧ (isDeal G.names G.open d = true → Ret B H Q fun _ r => r = .non) ∧ (isDeal G.names G.open d = false → Thr0 K B H E "NoDealing")
/-! ### who would rather have whom -/
def part (d : D) (a : Str) : Option Str := match vald d a with
  | .str b => some b
  | _ => none
def strV : V → Option Str
  | .str c => some c
  | _ => none
def ratherO (row : List Str) (b : Str) : Option Str → Bool
  | none => true
  | some c => decide (row.idxOf b < row.idxOf c)
def rather (op : Str → List Str) (d : D) (a b : Str) : Bool := ratherO (op a) b (part d a)
def quarB (op : Str → List Str) (d : D) (a b : Str) : Bool := !decide (part d a = some b) && (rather op d a b && rather op d b a)
def quarF (op : Str → List Str) (d : D) : List Str → Bool
  | [a, b] => quarB op d a b
  | _ => false
def quars (xs : List Str) (op : Str → List Str) (d : D) : List (List Str) := (prsOf xs op).filter (quarF op d)
def isCalm (xs : List Str) (op : Str → List Str) (d : D) : Bool := isDeal xs op d && (quars xs op d).isEmpty
theorem get_idx {l : List Str} {x : Str} (m : x ∈ l) : l[l.idxOf x]? = some x := by
  have h := List.idxOf_lt_length_of_mem m
  rw [List.getElem?_eq_getElem h]
  exact congrArg some (List.getElem_idxOf h)
theorem vald_of {ds : List (Key × D)} {a : Str} {d : D} (h : dval ds (.inr a) = some d) : vald (.dct ds) a = d := by unfold vald; dsimp only; rw [h]; rfl
abbrev N_would_rather : List Str := ["group", "x", "a", "b"]
def t_would_rather (K : PySem.W.Frag) (E : XK) : TS := (tRet (tOrV (tIsN (tDGet (tVar 1) (tVar 2))) (tOp rLtI (tMt (He.ga K "Group") "rank" (sp_Group_rank K) (WE0 E) (tVar 0) (tCons (tVar 2) (tCons (tVar 3) tNil))) (tMt (He.ga K "Group") "rank" (sp_Group_rank K) (WE0 E) (tVar 0) (tCons (tVar 2) (tCons (tDGet (tVar 1) (tVar 2)) tNil))))))
def sp_would_rather (K : PySem.W.Frag) : Sp := fun vs H Q E => ∃ (p : Addr) (v : V) (B : Hp) (G : Grp) (ds : List (Key × D)) (a b : Str), vs = [.ref p, v, .str a, .str b] ∧ Same B H ∧ GAt K B p G ∧ Rep K B v (.dct ds) ∧ a ∈ G.names ∧ b ∈ G.open a ∧ (dval ds (.inr a) = some .non ∨ ∃ c, dval ds (.inr a) = some (.str c) ∧ c ∈ G.open a) ∧ Ret B H Q fun _ r => r = .bl (rather G.open (.dct ds) a b)
theorem Deal.dvals {xs : List Str} {op : Str → List Str} {ds : List (Key × D)} (h : Deal xs op (.dct ds)) {a : Str} (m : a ∈ xs) : dval ds (.inr a) = some .non ∨ ∃ c, dval ds (.inr a) = some (.str c) ∧ c ∈ op a := by
  obtain ⟨ds', e, _, hsome⟩ := sameKeys_dct h.sk
  cases e
  obtain ⟨d, hd⟩ := Option.isSome_iff_exists.mp (hsome a m)
  rcases h.ok a m with z | ⟨b, z, mb, _⟩
  · rw [vald_of hd] at z; rw [hd, z]; exact .inl rfl
  · rw [vald_of hd] at z; rw [hd, z]; exact .inr ⟨b, rfl, mb⟩
theorem mem_open' {G : Grp} {a b : Str} : b ∈ G.open a ↔ b ∈ G.wish a ∧ a ∈ G.wish b := by
  unfold Grp.open
  rw [List.mem_filter, decide_eq_true_iff]
theorem open_symm {G : Grp} (ok : G.Ok) {a b : Str} (h : b ∈ G.open a) : a ∈ G.open b := mem_open'.mpr ⟨(mem_open'.mp h).2, (mem_open'.mp h).1⟩
abbrev N_quarrels : List Str := ["group", "x", "rows", "a", "b"]
def t_quarrels (K : PySem.W.Frag) (E : XK) : TS := (tSeq (tDrop (tCl (sp_check_dealing K) (WE0 E) (tCons (tVar 0) (tCons (tVar 1) tNil))))
  (tSeq (tAsg (tLst tNil) (gName 2))
  (tSeq (tFor (iList K (tMt (He.ga K "Group") "pairs" (sp_Group_pairs K) (WE0 E) (tVar 0) tNil)) (gTup K 2 (gCons (gName 3) (gCons (gName 4) gNil))) (tIfS (tAnd (tTest (tOp rNe (tDGet (tVar 1) (tVar 3)) (tVar 4))) (tAnd (tB (tCl (sp_would_rather K) (WE0 E) (tCons (tVar 0) (tCons (tVar 1) (tCons (tVar 3) (tCons (tVar 4) tNil)))))) (tB (tCl (sp_would_rather K) (WE0 E) (tCons (tVar 0) (tCons (tVar 1) (tCons (tVar 4) (tCons (tVar 3) tNil)))))))) (tDrop (tBM K "list" rAppend (tVar 2) (tCons (tTup (tCons (tVar 3) (tCons (tVar 4) tNil))) tNil))) tNext))
  (tRet (tVar 2)))))
def sp_quarrels (K : PySem.W.Frag) : Sp := fun vs H Q E => ∃ (p : Addr) (v : V) (B : Hp) (G : Grp) (d : D), vs = [.ref p, v] ∧ Same B H ∧ GAt K B p G ∧ Rep K B v d ∧ plainV d ∧ (isDeal G.names G.open d = true → ∀ B' H' l vs, HS [] B H B' H' [(l, .lst vs)] → TRs B' vs (quars G.names G.open d) → Q (.ref l) H') ∧ (isDeal G.names G.open d = false → Thr0 K B H E "NoDealing")
theorem prsOf_get {xs : List Str} {f : Str → List Str} {k : List Str} (h : k ∈ prsOf xs f) : ∃ a b, k = [a, b] ∧ a ∈ xs ∧ b ∈ f a ∧ ltS a b := by
  unfold prsOf at h
  obtain ⟨a, ma, h⟩ := List.mem_flatMap.mp h
  unfold prsF at h
  obtain ⟨b, mb, rfl⟩ := List.mem_map.mp h
  obtain ⟨m1, m2⟩ := List.mem_filter.mp mb
  exact ⟨a, b, rfl, mem_sortS.mp ma, mem_sortS.mp m1, of_decide_eq_true m2⟩
theorem filter_snoc {α : Type} {p : α → Bool} {l : List α} {i : Nat} {x : α} (h : l[i]? = some x) : (l.take (i + 1)).filter p = (l.take i).filter p ++ (if p x = true then [x] else []) := by
  rw [take_snoc h, List.filter_append]
  congr 1
  rw [List.filter_cons, List.filter_nil]
end Q

set_option Elab.async false
set_option linter.all false
set_option maxRecDepth 100000
set_option maxHeartbeats 4000000
namespace Q
open PySem PySem.Spec PyProof.Rows L2
local macro_rules | `(tactic| walk_at "bf") => `(tactic| first | assumption | (refine' bstep (by assumption) ?r; case r => walk_at "bf") | fail)
local macro_rules | `(tactic| walk_at "rp") => `(tactic| first | assumption | exact Rep.int _ | exact Rep.bl _ | exact Rep.non | (refine' Rep.mono (by assumption) ?r; case r => walk_at "rp") | fail)
local macro_rules | `(tactic| walk_at "hf") => `(tactic| first | assumption | exact HS.up (by assumption) (by walk_at "bf") | exact HS.get (by assumption) List.mem_cons_self | exact HS.get (by assumption) (List.mem_cons_of_mem _ List.mem_cons_self) | exact HS.get (by assumption) (List.mem_cons_of_mem _ (List.mem_cons_of_mem _ List.mem_cons_self)) | exact HS.get (by assumption) (List.mem_cons_of_mem _ (List.mem_cons_of_mem _ (List.mem_cons_of_mem _ List.mem_cons_self))) | fail)
local macro_rules | `(tactic| walk_at "sl") => `(tactic| first | assumption | exact SqL.of (by walk_at "hf") | fail)
local macro_rules | `(tactic| walk_at "st") => `(tactic| first | assumption | exact SqT.of (by walk_at "hf") | fail)
local macro_rules | `(tactic| walk_at "sz") => `(tactic| first | assumption | (refine small_le ?_; first | assumption | omega | (simp; done) | (simp; omega)) | fail)
theorem eqD_tups {K : PySem.W.Frag} {H B : Hp} {Q : VK} {p q : Addr} {vs us : List V} {ks ls : List (List Str)} (sB : Same B H) (hp : H p = some (.lst vs)) (hq : H q = some (.lst us)) (t1 : TRs B vs ks) (t2 : TRs B us ls) (h1 : ∀ k ∈ ks, ∀ x ∈ k, PyData.strOk x = true) (h2 : ∀ k ∈ ls, ∀ x ∈ k, PyData.strOk x = true)
    (k : Q (.bl (decide (ks = ls))) H) : rEqD K (.ref p) (.ref q) H Q := ⟨_, _, .lst (SqL.of hp) (t1.dp sB), .lst (SqL.of hq) (t2.dp sB), shaped_tups h1, shaped_tups h2, by simp only [PyData.eqv, eqv_tups]; exact k⟩
theorem quars_sub {xs : List Str} {op : Str → List Str} {d : D} {k : List Str} (h : k ∈ quars xs op d) : ∃ a b, k = [a, b] ∧ a ∈ xs ∧ b ∈ op a ∧ ltS a b := prsOf_get (List.mem_filter.mp h).1
theorem decide_nil {α : Type} [DecidableEq α] (l : List α) : decide (l = []) = l.isEmpty := by cases l <;> simp
abbrev N_is_calm : List Str := ["group", "x"]
def t_is_calm (K : PySem.W.Frag) (E : XK) : TS := (tRet (tAndV (tCl (sp_is_dealing K) (WE0 E) (tCons (tVar 0) (tCons (tVar 1) tNil))) (tOp (rEqD K) (tCl (sp_quarrels K) (WE0 E) (tCons (tVar 0) (tCons (tVar 1) tNil))) (tLst tNil))))
def sp_is_calm (K : PySem.W.Frag) : Sp := fun vs H Q E => ∃ (p : Addr) (v : V) (B : Hp) (G : Grp) (d : D), vs = [.ref p, v] ∧ Same B H ∧ GAt K B p G ∧ Rep K B v d ∧ plainV d ∧ Ret B H Q fun _ r => r = .bl (isCalm G.names G.open d)
/-! ### the same by the law -/
/-- who is open to whom, as a law finds it -/
structure Mut (xs : List Str) (f : Str → List Str) : Prop where
  nd : xs.Nodup
  few : xs.length ≤ 16
  nm : ∀ x ∈ xs, okName x = true
  fn : ∀ a ∈ xs, (f a).Nodup
  fi : ∀ a ∈ xs, ∀ b ∈ f a, b ∈ xs ∧ a ∈ f b
  fs : ∀ a ∈ xs, a ∉ f a
theorem Mut.len {xs : List Str} {f : Str → List Str} (h : Mut xs f) {a : Str} (m : a ∈ xs) : (f a).length ≤ 16 := by
  have := nodup_len (h.fn a m) (fun b mb => (h.fi a m b mb).1)
  have := h.few
  omega
theorem HS.unS {B H B' H' : Hp} {p : Addr} {o : HO} {N : List (Addr × HO)} (hp : H p = some o) (c : HS [p] B H B' H' ((p, o) :: N)) : HS [] B H B' H' N := by
  obtain ⟨c1, c2, _⟩ := c.mu (p, o) List.mem_cons_self
  dsimp only at c1 c2
  have nd := c.nd
  rw [List.map_cons, List.nodup_cons] at nd
  refine ⟨c.bb, c.bh, fun b u _ n2 e => ?_, fun q m => ?_, nd.2⟩
  · by_cases z : b = p
    · subst z; rw [hp] at e; cases e; exact ⟨c1, c2⟩
    · exact c.fr b u (by simpa using z) n2 e
  · obtain ⟨x, y, z⟩ := c.mu q (List.mem_cons_of_mem _ m)
    refine ⟨x, y, z.elim .inl fun z => ?_⟩
    exact absurd (List.mem_map.mpr ⟨q, m, by simpa using z⟩) nd.1
theorem HS.unB {B H B' H' : Hp} {m : Addr} {o : HO} {N : List (Addr × HO)} (hb : B m = none) (hm : H m = some o) (c : HS [] (upd B m o) H B' H' N) : HS [] B H (del B' m) H' N := by
  have hm' : B' m = some o := c.bb _ _ upd_same
  refine ⟨fun b u e => ?_, fun b u e => ?_, fun b u n1 n2 e => ?_, fun q mq => ?_, c.nd⟩
  · have z : b ≠ m := fun z => by rw [z, hb] at e; cases e
    rw [del_ne z]
    exact c.bb _ _ (by rw [upd_ne z]; exact e)
  · by_cases z : b = m
    · rw [z, del_same] at e; cases e
    · rw [del_ne z] at e; exact c.bh _ _ e
  · by_cases z : b = m
    · subst z
      rw [hm] at e
      cases e
      exact ⟨del_same, c.bh _ _ hm'⟩
    · obtain ⟨x, y⟩ := c.fr b u (by simp) (by rw [upd_ne z]; exact n2) e
      exact ⟨by rw [del_ne z]; exact x, y⟩
  · obtain ⟨x, y, z⟩ := c.mu q mq
    refine ⟨?_, y, z⟩
    by_cases e : q.1 = m
    · rw [e]; exact del_same
    · rw [del_ne e]; exact x
theorem TRs.del {B : Hp} {m : Addr} {kvs : List (Key × V)} (hm : B m = some (.dK kvs)) : ∀ {vs : List V} {ks : List (List Str)}, TRs B vs ks → TRs (L2.del B m) vs ks
  | _, _, .nil => .nil
  | _, _, .cons h r => .cons (by rw [del_ne fun z => by rw [z, hm] at h; cases h]; exact h) (TRs.del hm r)
theorem upd_same' {B : Hp} {m : Addr} {o : HO} (hb : B m = none) : Same B (upd B m o) := fun b u e => by rw [upd_ne fun z => by rw [z, hb] at e; cases e]; exact e
theorem Same.updH {B H : Hp} {m : Addr} {o : HO} (s : Same B H) (hm : H m = some o) : Same (upd B m o) H := fun b u e => by
  by_cases z : b = m
  · subst z; rw [upd_same] at e; cases e; exact hm
  · rw [upd_ne z] at e; exact s _ _ e
def optV : Option Str → V
  | none => .non
  | some x => .str x
abbrev N__law_rather : List Str := ["_law_mutual_here", "_law_a", "_law_b", "_law_held"]
def t__law_rather (K : PySem.W.Frag) (E : XK) : TS := (tRet (tOrV (tIsN (tVar 3)) (tOp rLtI (tBM K "list" (rIndex K) (tDGet (tVar 0) (tVar 1)) (tCons (tVar 2) tNil)) (tBM K "list" (rIndex K) (tDGet (tVar 0) (tVar 1)) (tCons (tVar 3) tNil)))))
def sp__law_rather (K : PySem.W.Frag) : Sp := fun vs H Q E => ∃ (m : Addr) (kvs : List (Key × V)) (row : List Str) (l : Addr) (a b : Str) (h : Option Str), vs = [.ref m, .str a, .str b, optV h] ∧ H m = some (.dK kvs) ∧ valV kvs (.inr a) = some (.ref l) ∧ H l = some (.lst (row.map V.str)) ∧ row.Nodup ∧ b ∈ row ∧ (∀ c, h = some c → c ∈ row) ∧ Q (.bl (ratherO row b h)) H
theorem pure__law_rather {K : PySem.W.Frag} {vs : List V} {H : Hp} {Q : VK} {E : XK} (h : sp__law_rather K vs H Q E) : t__law_rather K E { nx := fun _ H' => Q .non H', rt := Q } (start N__law_rather vs) H := by
  obtain ⟨m, kvs, row, l, a, b, h, rfl, hm, ev, hl, nd, mb, mc, k⟩ := h
  show t__law_rather K E _ [some (.ref m), some (.str a), some (.str b), some (optV h)] H
  unfold t__law_rather
  cases h with
  | none =>
    refine x_ret (x_orV (x_isN (x_var rfl (x_exb ?_))))
    refine x_ite (fun _ => ?_) (fun z => by simp [optV] at z)
    exact k
  | some c =>
    have mc := mc c rfl
    refine x_ret (x_orV (x_isN (x_var rfl (x_exb ?_))))
    refine x_ite (fun z => by simp [optV] at z) (fun _ => ?_)
    refine x_op (x_bm (x_dget (x_var rfl (x_var rfl ?_))))
    refine x_dgS hm ev ?_
    refine x_tyL (SqL.of hl) (x_cons (x_var rfl (x_nil ?_)))
    refine x_index hl nd (get_idx mb) ?_
    refine x_bm (x_dget (x_var rfl (x_var rfl ?_)))
    refine x_dgS hm ev ?_
    refine x_tyL (SqL.of hl) (x_cons (x_var rfl (x_nil ?_)))
    refine x_index hl nd (get_idx mc) ?_
    refine x_ltI ?_
    have e : decide (((row.idxOf b : Nat) : Int) < (row.idxOf c : Nat)) = ratherO row b (some c) := decide_eq_decide.mpr (by omega)
    rw [e]
    exact k
abbrev N__law_quarrels : List Str := ["_law_mutual_here", "_law_x", "_law_rows", "_law_pair", "_law_a", "_law_b"]
def t__law_quarrels (K : PySem.W.Frag) (E : XK) : TS := (tSeq (tAsg (tLst tNil) (gName 2))
  (tSeq (tFor (iList K (tCl (sp__law_pairs K) (WE0 E) (tCons (tVar 0) tNil))) (gName 3) (tSeq (tAsg (tOp (rIxT K) (tVar 3) (tC (.int 0))) (gName 4))
  (tSeq (tAsg (tOp (rIxT K) (tVar 3) (tC (.int 1))) (gName 5))
  (tIfS (tAnd (tTest (tOp rNe (tDGet (tVar 1) (tVar 4)) (tVar 5))) (tAnd (tB (tCl (sp__law_rather K) (WE0 E) (tCons (tVar 0) (tCons (tVar 4) (tCons (tVar 5) (tCons (tDGet (tVar 1) (tVar 4)) tNil)))))) (tB (tCl (sp__law_rather K) (WE0 E) (tCons (tVar 0) (tCons (tVar 5) (tCons (tVar 4) (tCons (tDGet (tVar 1) (tVar 5)) tNil)))))))) (tDrop (tBM K "list" rAppend (tVar 2) (tCons (tTup (tCons (tVar 4) (tCons (tVar 5) tNil))) tNil))) tNext))))
  (tRet (tVar 2))))
def sp__law_quarrels (K : PySem.W.Frag) : Sp := fun vs H Q E => ∃ (m : Addr) (v : V) (kvs : List (Key × V)) (xs : List Str) (f : Str → List Str) (ds : List (Key × D)) (B : Hp), vs = [.ref m, v] ∧ Same B H ∧ B m = some (.dK kvs) ∧ WAt B xs kvs f ∧ Mut xs f ∧ Rep K B v (.dct ds) ∧ (∀ a ∈ xs, dval ds (.inr a) = some .non ∨ ∃ c, dval ds (.inr a) = some (.str c) ∧ c ∈ f a) ∧
  ∀ B' H' l vs, HS [] B H B' H' [(l, .lst vs)] → TRs B' vs (quars xs f (.dct ds)) → Q (.ref l) H'
theorem prsOf_lenM {xs : List Str} {f : Str → List Str} (h : Mut xs f) : (prsOf xs f).length ≤ 256 := by
  unfold prsOf
  have h1 := flat_len (f := prsF f) (n := 16) (l := sortS xs) fun x m => Nat.le_trans (prsF_len f x) (h.len (mem_sortS.mp m))
  have := (sortS_perm xs).length_eq
  have := h.few
  omega
theorem optV_rep {K : PySem.W.Frag} {B : Hp} {v : V} {ds : List (Key × D)} {a : Str} {row : List Str} (r : Rep K B v (vald (.dct ds) a)) (h : dval ds (.inr a) = some .non ∨ ∃ c, dval ds (.inr a) = some (.str c) ∧ c ∈ row) : v = optV (part (.dct ds) a) ∧ ∀ c, part (.dct ds) a = some c → c ∈ row := by
  unfold part
  rcases h with h | ⟨c, h, m⟩
  · rw [vald_of h] at r ⊢
    cases r
    exact ⟨rfl, fun c e => by cases e⟩
  · rw [vald_of h] at r ⊢
    cases r
    exact ⟨rfl, fun c' e => by cases e; exact m⟩
theorem scal_opt (o : Option Str) (b : Str) : scal (optV o) (.str b) = true ∧ decide (optV o = .str b) = decide (o = some b) := by
  cases o with
  | none => exact ⟨rfl, by simp [optV]⟩
  | some c =>
    refine ⟨rfl, ?_⟩
    by_cases e : c = b
    · simp [optV, e]
    · simp [optV, e]
theorem pure__law_quarrels {K : PySem.W.Frag} {vs : List V} {H : Hp} {Q : VK} {E : XK} (h : sp__law_quarrels K vs H Q E) : t__law_quarrels K E { nx := fun _ H' => Q .non H', rt := Q } (start N__law_quarrels vs) H := by
  obtain ⟨m, v, kvs, xs, f, ds, B, rfl, sB, em, hw, mu, r, hds, k⟩ := h
  have hs := HS.start sB
  obtain ⟨a0, kx, rfl, ea, rk⟩ := rep_dct r
  show t__law_quarrels K E _ [some (.ref m), some (.ref a0), none, none, none, none] H
  unfold t__law_quarrels
  ((with_reducible refine x_seq ?_); (with_reducible refine x_asg ?_); (with_reducible refine x_lst ?_); (with_reducible refine x_nil ?_); ((with_reducible refine' x_newL ?z24h ?_); case z24h => first | exact Nat.zero_le _ | (simp; done) | (simp; omega)))
  refine new_M hs (fun ro H1 hs1 _ => ?_)
  (((with_reducible refine x_gname ?_); try simp only [List.set_cons_zero, List.set_cons_succ]); (with_reducible refine x_seq ?_); (with_reducible refine x_for ?_); (with_reducible refine x_iList ?_); (with_reducible refine x_cl ?_); (with_reducible refine x_cons ?_); ((with_reducible refine' x_var ?z31h ?_); case z31h => rfl); (with_reducible refine x_nil ?_))
  refine ⟨m, kvs, xs, f, B, rfl, hs1.bh, em, hw, mu.nd, by have := mu.few; omega, fun x mx => by have := mu.len mx; omega, fun B2 H2 pl pv c2 tr => ?_⟩
  have hs2 := hs1.callN c2
  obtain ⟨B3, hs3, sb3, epl⟩ := hs2.still0
  have tr := tr.mono sb3
  have s3 := c2.bb.trans sb3
  have hl2 := prsOf_lenM mu
  refine ⟨pl, rfl, ⟨_, SqL.of (hs3.up epl)⟩, ?_⟩
  refine l_list (α := List V × Option V × Option V × Option V) (σf := fun z => [some (.ref m), some (.ref a0), some (.ref ro), z.2.1, z.2.2.1, z.2.2.2]) (Mf := fun z => [(ro, .lst z.1)]) (P := fun i z B' => TRs B' z.1 (((prsOf xs f).take i).filter (quarF f (.dct ds)))) (s0 := ([], none, none, none)) hs3 epl .nil (fun i y z B5 H5 hi sb5 hs5 pp => ?_) (fun z B5 H5 sb5 hs5 pp => ?_)
  · obtain ⟨rv, z3, z4, z5⟩ := z
    dsimp only at pp hs5 ⊢
    obtain ⟨t, kk, rfl, hk, et⟩ := tr.at hi
    obtain ⟨a, b, rfl, ma, mb, _⟩ := prsOf_get (List.mem_of_getElem? hk)
    obtain ⟨mbn, mab⟩ := mu.fi a ma b mb
    have s5 := s3.trans sb5
    have et5 : B5 t = some (.tup [.str a, .str b]) := sb5 _ _ et
    have hrl := pp.len
    have hrl2 : rv.length ≤ 256 := by
      rw [hrl]
      refine Nat.le_trans (List.length_filter_le _ _) ?_
      rw [List.length_take]
      omega
    have stay : ∀ {B6 H6 : Hp}, Same B5 B6 → HS [] B H B6 H6 [(ro, .lst rv)] → quarB f (.dct ds) a b = false → LI [] B H B3 (fun z : List V × Option V × Option V × Option V => [some (.ref m), some (.ref a0), some (.ref ro), z.2.1, z.2.2.1, z.2.2.2]) (fun z => [(ro, .lst z.1)]) (fun i z B' => TRs B' z.1 (((prsOf xs f).take i).filter (quarF f (.dct ds)))) (i + 1) [some (.ref m), some (.ref a0), some (.ref ro), some (.ref t), some (.str a), some (.str b)] H6 := fun sb6 hs6 hq =>
      ⟨(rv, some (.ref t), some (.str a), some (.str b)), _, rfl, sb5.trans sb6, hs6, by
        dsimp only
        rw [filter_snoc hk, show quarF f (.dct ds) [a, b] = false from hq, if_neg (by decide), List.append_nil]
        exact pp.mono sb6⟩
    obtain ⟨va, eva, rva⟩ := vald_get (rk.mono s5) (p := a) (by rcases hds a ma with z | ⟨c, z, _⟩ <;> rw [z] <;> rfl)
    obtain ⟨vb, evb, rvb⟩ := vald_get (rk.mono s5) (p := b) (by rcases hds b mbn with z | ⟨c, z, _⟩ <;> rw [z] <;> rfl)
    obtain ⟨rfl, hpa⟩ := optV_rep rva (hds a ma)
    obtain ⟨rfl, hpb⟩ := optV_rep rvb (hds b mbn)
    obtain ⟨sc1, sc2⟩ := scal_opt (part (.dct ds) a) b
    obtain ⟨la, eva2, ela⟩ := (hw.mono s5).get mu.nd ma
    obtain ⟨lb, evb2, elb⟩ := (hw.mono s5).get mu.nd mbn
    have ea5 := s5 _ _ ea
    have em5 := s5 _ _ em
    (((with_reducible refine x_gname ?_); try simp only [List.set_cons_zero, List.set_cons_succ]); (with_reducible refine x_seq ?_); (with_reducible refine x_asg ?_); (with_reducible refine x_op ?_); ((with_reducible refine' x_var ?z37h ?_); case z37h => rfl); (with_reducible refine x_c ?_); ((with_reducible refine' x_ixT ?z39h ?z39h2 ?_); (case z39h => walk_at "st"); (case z39h2 => first | rfl | assumption)); ((with_reducible refine x_gname ?_); try simp only [List.set_cons_zero, List.set_cons_succ]); (with_reducible refine x_seq ?_); (with_reducible refine x_asg ?_); (with_reducible refine x_op ?_); ((with_reducible refine' x_var ?z44h ?_); case z44h => rfl); (with_reducible refine x_c ?_); ((with_reducible refine' x_ixT ?z46h ?z46h2 ?_); (case z46h => walk_at "st"); (case z46h2 => first | rfl | assumption)); ((with_reducible refine x_gname ?_); try simp only [List.set_cons_zero, List.set_cons_succ]); (with_reducible refine x_if ?_); (with_reducible refine x_and ?_); (with_reducible refine x_test ?_); (with_reducible refine x_op ?_); (with_reducible refine x_dget ?_); ((with_reducible refine' x_var ?z53h ?_); case z53h => rfl); ((with_reducible refine' x_var ?z54h ?_); case z54h => rfl); ((with_reducible refine' x_dgS ?z55h ?z55h2 ?_); (case z55h => walk_at "hf"); (case z55h2 => assumption)); ((with_reducible refine' x_var ?z56h ?_); case z56h => rfl))
    try (refine x_ixT (SqT.of (hs5.up et5)) rfl ?_; fail)
    try (refine x_ixT (SqT.of (hs5.up et5)) rfl ?_; fail)
    try (refine x_dgS (hs5.up ea5) eva ?_; fail)
    refine x_ne sc1 ?_
    rw [sc2]
    (with_reducible refine x_exb ?_)
    refine x_ite (fun h1 => ?_) (fun h1 => ?_)
    · ((with_reducible refine x_and ?_); (with_reducible refine x_tB ?_); (with_reducible refine x_cl ?_); (with_reducible refine x_cons ?_); ((with_reducible refine' x_var ?z62h ?_); case z62h => rfl); (with_reducible refine x_cons ?_); ((with_reducible refine' x_var ?z64h ?_); case z64h => rfl); (with_reducible refine x_cons ?_); ((with_reducible refine' x_var ?z66h ?_); case z66h => rfl); (with_reducible refine x_cons ?_); (with_reducible refine x_dget ?_); ((with_reducible refine' x_var ?z69h ?_); case z69h => rfl); ((with_reducible refine' x_var ?z70h ?_); case z70h => rfl); ((with_reducible refine' x_dgS ?z71h ?z71h2 ?_); (case z71h => walk_at "hf"); (case z71h2 => assumption)); (with_reducible refine x_nil ?_))
      try (refine x_dgS (hs5.up ea5) eva ?_; fail)
      refine ⟨m, kvs, f a, la, a, b, part (.dct ds) a, rfl, hs5.up em5, eva2, hs5.up ela, mu.fn a ma, mb, hpa, ?_⟩
      (with_reducible refine x_exb ?_)
      refine x_ite (fun h2 => ?_) (fun h2 => ?_)
      · ((with_reducible refine x_tB ?_); (with_reducible refine x_cl ?_); (with_reducible refine x_cons ?_); ((with_reducible refine' x_var ?z77h ?_); case z77h => rfl); (with_reducible refine x_cons ?_); ((with_reducible refine' x_var ?z79h ?_); case z79h => rfl); (with_reducible refine x_cons ?_); ((with_reducible refine' x_var ?z81h ?_); case z81h => rfl); (with_reducible refine x_cons ?_); (with_reducible refine x_dget ?_); ((with_reducible refine' x_var ?z84h ?_); case z84h => rfl); ((with_reducible refine' x_var ?z85h ?_); case z85h => rfl); ((with_reducible refine' x_dgS ?z86h ?z86h2 ?_); (case z86h => walk_at "hf"); (case z86h2 => assumption)); (with_reducible refine x_nil ?_))
        try (refine x_dgS (hs5.up ea5) evb ?_; fail)
        refine ⟨m, kvs, f b, lb, b, a, part (.dct ds) b, rfl, hs5.up em5, evb2, hs5.up elb, mu.fn b mbn, mab, hpb, ?_⟩
        (with_reducible refine x_exb ?_)
        refine x_ite (fun h3 => ?_) (fun h3 => ?_)
        · ((with_reducible refine x_drop ?_); (with_reducible refine x_bm ?_); ((with_reducible refine' x_var ?z91h ?_); case z91h => rfl); ((with_reducible refine' x_tyL ?z92h ?_); case z92h => walk_at "sl"); (with_reducible refine x_cons ?_); (with_reducible refine x_tup ?_); (with_reducible refine x_cons ?_); ((with_reducible refine' x_var ?z96h ?_); case z96h => rfl); (with_reducible refine x_cons ?_); ((with_reducible refine' x_var ?z98h ?_); case z98h => rfl); (with_reducible refine x_nil ?_); ((with_reducible refine' x_newT ?z100h ?_); case z100h => first | exact Nat.zero_le _ | (simp; done) | (simp; omega)))
          try (refine x_tyL (SqL.of (hs5.get List.mem_cons_self)) ?_; fail)
          refine new_F hs5 (fun T B8 H8 hs8 sb8 eT _ => ?_)
          (with_reducible refine x_nil ?_)
          refine x_append hs8 (by omega) (fun H9 hs9 => ?_)
          refine ⟨(rv ++ [.ref T], some (.ref t), some (.str a), some (.str b)), B8, rfl, sb5.trans sb8, hs9, ?_⟩
          dsimp only
          have hq : quarF f (.dct ds) [a, b] = true := by
            show quarB _ _ _ _ = true
            unfold quarB rather
            rw [h1, h2, h3]
            rfl
          rw [filter_snoc hk, if_pos hq]
          exact (pp.mono sb8).snoc (k := [a, b]) eT
        · (with_reducible refine x_next ?_)
          exact stay (Same.refl _) hs5 (by unfold quarB rather; rw [h3, Bool.and_false, Bool.and_false])
      · ((with_reducible refine x_ff _ _ ?_); (with_reducible refine x_next ?_))
        exact stay (Same.refl _) hs5 (by unfold quarB rather; rw [h2, Bool.false_and, Bool.and_false])
    · ((with_reducible refine x_ff _ _ ?_); (with_reducible refine x_next ?_))
      exact stay (Same.refl _) hs5 (by unfold quarB; rw [h1, Bool.false_and])
  · obtain ⟨rv, z3, z4, z5⟩ := z
    dsimp only at pp hs5 ⊢
    have hlen2 := tr.len
    rw [hlen2, List.take_length] at pp
    ((with_reducible refine x_ret ?_); ((with_reducible refine' x_var ?z108h ?_); case z108h => rfl))
    exact k B5 H5 ro rv hs5 pp
/-- in a frame in which the dict of the open people may still change -/
theorem use__law_quarrels {K : PySem.W.Frag} {S : List Addr} {B0 H0 B H : Hp} {M : List (Addr × HO)} {Q : VK} {E : XK} {m : Addr} {v : V} {kvs : List (Key × V)} {xs : List Str} {f : Str → List Str} {ds : List (Key × D)} (hs : HS S B0 H0 B H M) (hb : B m = none) (hm : H m = some (.dK kvs)) (hw : WAt B xs kvs f) (mu : Mut xs f) (r : Rep K B v (.dct ds)) (hds : ∀ a ∈ xs, dval ds (.inr a) = some .non ∨ ∃ c, dval ds (.inr a) = some (.str c) ∧ c ∈ f a)
    (k : ∀ B' H' l vs, Same B B' → HS S B0 H0 B' H' ((l, .lst vs) :: M) → TRs B' vs (quars xs f (.dct ds)) → Q (.ref l) H') : sp__law_quarrels K [.ref m, v] H Q E :=
  ⟨m, v, kvs, xs, f, ds, upd B m (.dK kvs), rfl, _root_.Q.Same.updH hs.bh hm, upd_same, hw.mono (upd_same' hb), mu, r.mono (upd_same' hb), hds, fun B' H' l vs c t => by
    have c2 := HS.unB hb hm c
    exact k (del B' m) H' l vs c2.bb (hs.callN c2) (t.del (c.bb _ _ upd_same))⟩
abbrev N__law_is_dealing : List Str := ["_law_mutual_here", "_law_x", "_law_a"]
def t__law_is_dealing (K : PySem.W.Frag) (E : XK) : TS := (tSeq (tIfS (tOr (tNot (tB (tCB (rIsi K) (tCons (tVar 1) (tCons (tC (.ty "dict")) tNil))))) (tTest (tOp rNe (tCB rLenD (tCons (tVar 1) tNil)) (tCB rLenD (tCons (tVar 0) tNil))))) (tRet (tC (.bl false))) tNext)
  (tSeq (tLock (tFor (iKeys (tVar 0)) (gName 2) (tIfS (tB (tDNotIn (tVar 2) (tVar 1))) (tRet (tC (.bl false))) tNext)))
  (tSeq (tLock (tFor (iKeys (tVar 0)) (gName 2) (tIfS (tB (tNotN (tDGet (tVar 1) (tVar 2)))) (tIfS (tOr (tNot (tB (tCB (rIsi K) (tCons (tDGet (tVar 1) (tVar 2)) (tCons (tC (.ty "str")) tNil))))) (tOr (tTest (tOp (rIn K true) (tDGet (tVar 1) (tVar 2)) (tDGet (tVar 0) (tVar 2)))) (tTest (tOp (rNeX K) (tDGet (tVar 1) (tDGet (tVar 1) (tVar 2))) (tVar 2))))) (tRet (tC (.bl false))) tNext) tNext)))
  (tRet (tC (.bl true))))))
def sp__law_is_dealing (K : PySem.W.Frag) : Sp := fun vs H Q E => ∃ (m : Addr) (v : V) (kvs : List (Key × V)) (xs : List Str) (f : Str → List Str) (d : D) (B : Hp), vs = [.ref m, v] ∧ Same B H ∧ B m = none ∧ H m = some (.dK kvs) ∧ WAt B xs kvs f ∧ Mut xs f ∧ Rep K B v d ∧ plainV d ∧ Ret B H Q fun _ r => r = .bl (isDeal xs f d)
theorem pure__law_is_dealing {K : PySem.W.Frag} {vs : List V} {H : Hp} {Q : VK} {E : XK} (h : sp__law_is_dealing K vs H Q E) : t__law_is_dealing K E { nx := fun _ H' => Q .non H', rt := Q } (start N__law_is_dealing vs) H := by
  obtain ⟨m, v, kvs, xs, f, d, B, rfl, sB, bm, hm, hw, mu, r, hpl, k⟩ := h
  have hs := HS.startS sB bm hm
  have hkl := hw.len
  show t__law_is_dealing K E _ [some (.ref m), some v, none] H
  unfold t__law_is_dealing
  have r0 := r
  have notd : isDeal xs f d = false → ∀ {B' H' : Hp}, HS [m] B H B' H' [(m, .dK kvs)] → Q (.bl false) H' := fun h B' H' hs' => k B' H' _ (HS.unS hm hs') (by rw [h])
  cases r with
  | @dct a0 kx ds ea rk =>
    have hlr := rk.length
    ((with_reducible refine x_seq ?_); (with_reducible refine x_if ?_); (with_reducible refine x_or ?_); (with_reducible refine x_not ?_); (with_reducible refine x_tB ?_); (with_reducible refine x_cb ?_); (with_reducible refine x_cons ?_); ((with_reducible refine' x_var ?z116h ?_); case z116h => rfl); (with_reducible refine x_cons ?_); (with_reducible refine x_c ?_); (with_reducible refine x_nil ?_); ((with_reducible refine' x_isiD ?z120h1 ?z120h2 ?z120h3 ?_); (case z120h1 => assumption); (case z120h2 => walk_at "rp"); (case z120h3 => decide)); (with_reducible refine x_exb ?_))
    refine x_ite (fun h => by simp [D.isT] at h) (fun _ => ?_)
    ((with_reducible refine x_test ?_); (with_reducible refine x_op ?_); (with_reducible refine x_cb ?_); (with_reducible refine x_cons ?_); ((with_reducible refine' x_var ?z126h ?_); case z126h => rfl); (with_reducible refine x_nil ?_); ((with_reducible refine' x_lenD ?z128h ?_); case z128h => walk_at "hf"); (with_reducible refine x_cb ?_); (with_reducible refine x_cons ?_); ((with_reducible refine' x_var ?z131h ?_); case z131h => rfl); (with_reducible refine x_nil ?_); ((with_reducible refine' x_lenD ?z133h ?_); case z133h => walk_at "hf"); ((with_reducible refine' x_ne ?z134h ?_); case z134h => rfl); (with_reducible refine x_exb ?_))
    try (refine x_lenD (hs.up ea) ?_; fail)
    try (refine x_lenD (hs.get List.mem_cons_self) ?_; fail)
    refine x_ite (fun h => ?_) (fun h => ?_)
    · ((with_reducible refine x_ret ?_); (with_reducible refine x_c ?_))
      refine notd ?_ hs
      unfold isDeal sameKeys
      dsimp only
      rw [show decide (ds.length = xs.length) = false from decide_eq_false fun z => by rw [hlr, hkl, z] at h; simp at h]
      rfl
    have hds : ds.length = xs.length := by
      have h2 := of_decide_eq_true (Bool.not_eq_false' .. ▸ h)
      injection h2 with h2
      omega
    refine x_next ?_
    refine x_seq ?_
    refine l_keys (α := Option V) (σf := fun z => [some (.ref m), some (.ref a0), z]) (Mf := fun _ => []) (P := fun i _ _ => ∀ x ∈ xs.take i, (dval ds (.inr x)).isSome = true) (s0 := none) hw.keys hs (by simp) (fun H' Qv q => ⟨_, rfl, q⟩) (fun o i x z B1 H1 hx sb1 hs1 pp => ?_) (fun z B1 H1 sb1 hs1 pp => ?_)
    · have ea1 := sb1 _ _ ea
      (((with_reducible refine x_gname ?_); try simp only [List.set_cons_zero, List.set_cons_succ]); (with_reducible refine x_if ?_); (with_reducible refine x_tB ?_); (with_reducible refine x_dnin ?_); ((with_reducible refine' x_var ?z142h ?_); case z142h => rfl); ((with_reducible refine' x_var ?z143h ?_); case z143h => rfl); ((with_reducible refine' x_dinO ?z144h ?_); case z144h => walk_at "hf"); (with_reducible refine x_exb ?_))
      rw [repK_some rk]
      refine x_ite (fun h => ?_) (fun h => ?_)
      · ((with_reducible refine x_ret ?_); (with_reducible refine x_c ?_))
        refine ⟨hs1.get List.mem_cons_self, notd ?_ hs1.set0⟩
        unfold isDeal sameKeys
        dsimp only
        rw [show (xs.all fun x => (dval ds (.inr x)).isSome) = false from List.all_eq_false.mpr ⟨x, List.mem_of_getElem? hx, by simpa using h⟩, Bool.and_false]
        rfl
      · (with_reducible refine x_next ?_)
        refine ⟨some _, B1, rfl, sb1, hs1, fun y my => ?_⟩
        rw [take_snoc hx] at my
        rcases List.mem_append.mp my with my | my
        · exact pp y my
        · rw [List.mem_singleton.mp my]; simpa using h
    rw [List.take_length] at pp
    have hsome := pp
    have hsk : sameKeys (.dct ds) xs = true := by
      unfold sameKeys
      dsimp only
      rw [decide_eq_true hds, List.all_eq_true.mpr pp]
      rfl
    refine x_seq ?_
    refine l_keys (α := Option V) (σf := fun z => [some (.ref m), some (.ref a0), z]) (Mf := fun _ => []) (P := fun i _ _ => ∀ x ∈ xs.take i, okPart f (.dct ds) x = true) (s0 := z) hw.keys hs1 (by simp) (fun H' Qv q => ⟨_, rfl, q⟩) (fun o i x z B2 H2 hx sb2 hs2 pp => ?_) (fun z B2 H2 sb2 hs2 pp => ?_)
    · have mx : x ∈ xs := List.mem_of_getElem? hx
      have s2 := sb1.trans sb2
      have ea2 := s2 _ _ ea
      have bad : okPart f (.dct ds) x = false → isDeal xs f (.dct ds) = false := fun z => by
        unfold isDeal
        rw [Bool.and_eq_false_iff]
        exact .inr (List.all_eq_false.mpr ⟨x, mx, by rw [z]; decide⟩)
      have next : okPart f (.dct ds) x = true → LI [m] B H B1 (fun z : Option V => [some (.ref m), some (.ref a0), z]) (fun _ => [(m, .frz o (.dK kvs))]) (fun i _ _ => ∀ x ∈ xs.take i, okPart f (.dct ds) x = true) (i + 1) [some (.ref m), some (.ref a0), some (.str x)] H2 := fun ok =>
        ⟨some (.str x), B2, rfl, sb2, hs2, fun c mc => by
          rw [take_snoc hx] at mc
          rcases List.mem_append.mp mc with mc | mc
          · exact pp c mc
          · rw [List.mem_singleton.mp mc]; exact ok⟩
      obtain ⟨vb, evb, rvb⟩ := vald_get (rk.mono s2) (hsome x mx)
      obtain ⟨la, eva2, ela⟩ := (hw.mono s2).get mu.nd mx
      generalize hda : vald (.dct ds) x = da at rvb
      have rvb0 := rvb
      have hokp : okPart f (.dct ds) x = okVal f (.dct ds) x da := by unfold okPart; rw [hda]
      refine x_gname (x_if (x_tB (x_notN (x_dget (x_var rfl (x_var rfl ?_))))))
      refine x_dgS (hs2.up ea2) evb ?_
      refine x_exb ?_
      cases rvb with
      | non =>
        refine x_ite (fun h => by simp at h) (fun _ => ?_)
        refine x_next ?_
        exact next hokp
      | @str b hb =>
        refine x_ite (fun _ => ?_) (fun h => by simp at h)
        refine x_if (x_or (x_not (x_tB (x_cb (x_cons (x_dget (x_var rfl (x_var rfl ?_))))))))
        refine x_dgS (hs2.up ea2) evb ?_
        refine x_cons (x_c (x_nil ?_))
        refine x_isiD hs2 rvb0 (by decide) ?_
        refine x_exb ?_
        refine x_ite (fun h => by simp [D.isT] at h) (fun _ => ?_)
        refine x_or (x_test (x_op (x_dget (x_var rfl (x_var rfl ?_)))))
        refine x_dgS (hs2.up ea2) evb ?_
        refine x_dget (x_var rfl (x_var rfl ?_))
        refine x_dgF (hs2.get List.mem_cons_self) eva2 ?_
        refine x_ninLS (SqL.of (hs2.up ela)) ?_
        refine x_exb ?_
        refine x_ite (fun h => ?_) (fun h => ?_)
        · refine x_tt _ _ ?_
          refine x_ret (x_c ?_)
          refine ⟨hs2.get List.mem_cons_self, notd (bad ?_) hs2.set0⟩
          rw [hokp]
          show (decide (b ∈ f x) && _) = false
          rw [show decide (b ∈ f x) = false by simpa using h]
          rfl
        have hbo : b ∈ f x := by simpa using h
        have mb : b ∈ xs := (mu.fi x mx b hbo).1
        obtain ⟨vc, evc, rvc⟩ := vald_get (rk.mono s2) (hsome b mb)
        refine x_test (x_op (x_dget (x_var rfl (x_dget (x_var rfl (x_var rfl ?_))))))
        refine x_dgS (hs2.up ea2) evb ?_
        refine x_dgS (hs2.up ea2) evc ?_
        refine x_var rfl ?_
        refine x_neX hs2 rvc (hpl b) ?_
        refine x_exb ?_
        refine x_ite (fun h => ?_) (fun h => ?_)
        · refine x_ret (x_c ?_)
          refine ⟨hs2.get List.mem_cons_self, notd (bad ?_) hs2.set0⟩
          rw [hokp]
          show (_ && eqS (vald (.dct ds) b) x) = false
          rw [show eqS (vald (.dct ds) b) x = false by simpa using h, Bool.and_false]
        · refine x_next ?_
          refine next ?_
          rw [hokp]
          show (decide (b ∈ f x) && eqS (vald (.dct ds) b) x) = true
          rw [show eqS (vald (.dct ds) b) x = true by simpa using h, decide_eq_true hbo]
          rfl
      | _ =>
        refine x_ite (fun _ => ?_) (fun h => by simp at h)
        refine x_if (x_or (x_not (x_tB (x_cb (x_cons (x_dget (x_var rfl (x_var rfl ?_))))))))
        refine x_dgS (hs2.up ea2) evb ?_
        refine x_cons (x_c (x_nil ?_))
        refine x_isiD hs2 rvb0 (by decide) ?_
        refine x_exb ?_
        refine x_ite (fun _ => ?_) (fun h => by simp [D.isT] at h)
        refine x_tt _ _ ?_
        refine x_ret (x_c ?_)
        exact ⟨hs2.get List.mem_cons_self, notd (bad hokp) hs2.set0⟩
    · rw [List.take_length] at pp
      ((with_reducible refine x_ret ?_); (with_reducible refine x_c ?_))
      refine k B2 H2 _ (HS.unS hm hs2) ?_
      unfold isDeal
      rw [hsk, List.all_eq_true.mpr pp]
      rfl
  | _ =>
    ((with_reducible refine x_seq ?_); (with_reducible refine x_if ?_); (with_reducible refine x_or ?_); (with_reducible refine x_not ?_); (with_reducible refine x_tB ?_); (with_reducible refine x_cb ?_); (with_reducible refine x_cons ?_); ((with_reducible refine' x_var ?z158h ?_); case z158h => rfl); (with_reducible refine x_cons ?_); (with_reducible refine x_c ?_); (with_reducible refine x_nil ?_); ((with_reducible refine' x_isiD ?z162h1 ?z162h2 ?z162h3 ?_); (case z162h1 => assumption); (case z162h2 => walk_at "rp"); (case z162h3 => decide)); (with_reducible refine x_exb ?_))
    refine x_ite (fun _ => ?_) (fun h => by simp [D.isT] at h)
    ((with_reducible refine x_tt _ _ ?_); (with_reducible refine x_ret ?_); (with_reducible refine x_c ?_))
    exact notd rfl hs
theorem use__law_is_dealing {K : PySem.W.Frag} {S : List Addr} {B0 H0 B H : Hp} {M : List (Addr × HO)} {Q : VK} {E : XK} {m : Addr} {v : V} {kvs : List (Key × V)} {xs : List Str} {f : Str → List Str} {d : D} (hs : HS S B0 H0 B H M) (hb : B m = none) (hm : H m = some (.dK kvs)) (hw : WAt B xs kvs f) (mu : Mut xs f) (r : Rep K B v d) (hp : plainV d)
    (k : ∀ B' H', Same B B' → HS S B0 H0 B' H' M → Q (.bl (isDeal xs f d)) H') : sp__law_is_dealing K [.ref m, v] H Q E := ⟨m, v, kvs, xs, f, d, B, rfl, hs.bh, hb, hm, hw, mu, r, hp, fun B' H' v' c e => by rw [e]; exact k B' H' c.bb (hs.call c)⟩
abbrev N__law_is_calm : List Str := ["_law_mutual_here", "_law_x"]
def t__law_is_calm (K : PySem.W.Frag) (E : XK) : TS := (tRet (tAndV (tCl (sp__law_is_dealing K) (WE0 E) (tCons (tVar 0) (tCons (tVar 1) tNil))) (tOp (rEqD K) (tCl (sp__law_quarrels K) (WE0 E) (tCons (tVar 0) (tCons (tVar 1) tNil))) (tLst tNil))))
def sp__law_is_calm (K : PySem.W.Frag) : Sp := fun vs H Q E => ∃ (m : Addr) (v : V) (kvs : List (Key × V)) (xs : List Str) (f : Str → List Str) (d : D) (B : Hp), vs = [.ref m, v] ∧ Same B H ∧ B m = none ∧ H m = some (.dK kvs) ∧ WAt B xs kvs f ∧ Mut xs f ∧ Rep K B v d ∧ plainV d ∧ Ret B H Q fun _ r => r = .bl (isCalm xs f d)
theorem pure__law_is_calm {K : PySem.W.Frag} {vs : List V} {H : Hp} {Q : VK} {E : XK} (h : sp__law_is_calm K vs H Q E) : t__law_is_calm K E { nx := fun _ H' => Q .non H', rt := Q } (start N__law_is_calm vs) H := by
  obtain ⟨m, v, kvs, xs, f, d, B, rfl, sB, bm, hm, hw, mu, r, hpl, k⟩ := h
  have hs := HS.start sB
  show t__law_is_calm K E _ [some (.ref m), some v] H
  unfold t__law_is_calm
  ((with_reducible refine x_ret ?_); (with_reducible refine x_andV ?_); (with_reducible refine x_cl ?_); (with_reducible refine x_cons ?_); ((with_reducible refine' x_var ?z171h ?_); case z171h => rfl); (with_reducible refine x_cons ?_); ((with_reducible refine' x_var ?z173h ?_); case z173h => rfl); (with_reducible refine x_nil ?_))
  refine use__law_is_dealing hs bm hm hw mu r hpl (fun B1 H1 sb1 hs1 => ?_)
  (with_reducible refine x_exb ?_)
  refine x_ite (fun h => ?_) (fun h => ?_)
  · obtain ⟨b1, h1⟩ := hs1.fr m _ (by simp) bm hm
    have dl := isDeal_true.mp h
    obtain ⟨ds, rfl, _, _⟩ := sameKeys_dct dl.sk
    ((with_reducible refine x_op ?_); (with_reducible refine x_cl ?_); (with_reducible refine x_cons ?_); ((with_reducible refine' x_var ?z179h ?_); case z179h => rfl); (with_reducible refine x_cons ?_); ((with_reducible refine' x_var ?z181h ?_); case z181h => rfl); (with_reducible refine x_nil ?_))
    refine use__law_quarrels hs1 b1 h1 (hw.mono sb1) mu (r.mono sb1) (fun a ma => dl.dvals ma) (fun B2 H2 l vs sb2 hs2 tr => ?_)
    ((with_reducible refine x_lst ?_); (with_reducible refine x_nil ?_); ((with_reducible refine' x_newL ?z185h ?_); case z185h => first | exact Nat.zero_le _ | (simp; done) | (simp; omega)))
    refine new_F hs2 (fun e B3 H3 hs3 sb3 ee _ => ?_)
    refine eqD_tups hs3.bh (hs3.get List.mem_cons_self) (hs3.up ee) (tr.mono sb3) (ls := []) .nil (fun k mk x mx => ?_) (by simp) ?_
    · obtain ⟨a, b, rfl, ma, mb, _⟩ := quars_sub mk
      simp only [List.mem_cons, List.not_mem_nil, or_false] at mx
      rcases mx with rfl | rfl
      · exact okName_strOk (mu.nm _ ma)
      · exact okName_strOk (mu.nm _ (mu.fi _ ma _ mb).1)
    · refine k B3 H3 _ hs3.drop ?_
      unfold isCalm
      rw [h, decide_nil]
      rfl
  · refine k B1 H1 _ hs1 ?_
    unfold isCalm
    rw [h]
    rfl
theorem use__law_is_calm {K : PySem.W.Frag} {S : List Addr} {B0 H0 B H : Hp} {M : List (Addr × HO)} {Q : VK} {E : XK} {m : Addr} {v : V} {kvs : List (Key × V)} {xs : List Str} {f : Str → List Str} {d : D} (hs : HS S B0 H0 B H M) (hb : B m = none) (hm : H m = some (.dK kvs)) (hw : WAt B xs kvs f) (mu : Mut xs f) (r : Rep K B v d) (hp : plainV d)
    (k : ∀ B' H', Same B B' → HS S B0 H0 B' H' M → Q (.bl (isCalm xs f d)) H') : sp__law_is_calm K [.ref m, v] H Q E := ⟨m, v, kvs, xs, f, d, B, rfl, hs.bh, hb, hm, hw, mu, r, hp, fun B' H' v' c e => by rw [e]; exact k B' H' c.bb (hs.call c)⟩
end Q

set_option Elab.async false
set_option linter.all false
set_option maxRecDepth 100000
set_option maxHeartbeats 4000000
namespace Q
open PySem PySem.Spec PyProof.Rows L2
local macro_rules | `(tactic| walk_at "bf") => `(tactic| first | assumption | (refine' bstep (by assumption) ?r; case r => walk_at "bf") | fail)
local macro_rules | `(tactic| walk_at "rp") => `(tactic| first | assumption | exact Rep.int _ | exact Rep.bl _ | exact Rep.non | (refine' Rep.mono (by assumption) ?r; case r => walk_at "rp") | fail)
local macro_rules | `(tactic| walk_at "hf") => `(tactic| first | assumption | exact HS.up (by assumption) (by walk_at "bf") | exact HS.get (by assumption) List.mem_cons_self | exact HS.get (by assumption) (List.mem_cons_of_mem _ List.mem_cons_self) | exact HS.get (by assumption) (List.mem_cons_of_mem _ (List.mem_cons_of_mem _ List.mem_cons_self)) | exact HS.get (by assumption) (List.mem_cons_of_mem _ (List.mem_cons_of_mem _ (List.mem_cons_of_mem _ List.mem_cons_self))) | fail)
local macro_rules | `(tactic| walk_at "sl") => `(tactic| first | assumption | exact SqL.of (by walk_at "hf") | fail)
local macro_rules | `(tactic| walk_at "st") => `(tactic| first | assumption | exact SqT.of (by walk_at "hf") | fail)
local macro_rules | `(tactic| walk_at "sz") => `(tactic| first | assumption | (refine small_le ?_; first | assumption | omega | (simp; done) | (simp; omega)) | fail)
/-! ### dealings that a law draws -/
theorem x_filtM {K : PySem.W.Frag} {S : List Addr} {B0 H0 B H : Hp} {M : List (Addr × HO)} {Q : VK} {σ : L2.St} {i : Nat} {tl : TE} {tt : TT} {l : Addr} {xs : List Str} {f : Str → Bool} (hs : HS S B0 H0 B H M) (ev : ∀ R : VK, R (.ref l) H → tl σ H R) (el : B l = some (.lst (xs.map V.str))) (hz : xs.length ≤ 100000) (e2 : ∀ x : Option V, ((wipe σ [i]).set i x)[i]? = some x) (e3 : ∀ x : Option V, wipe ((wipe σ [i]).set i x) [i] = wipe σ [i])
    (ht : ∀ x ∈ xs, ∀ B1 H1 c acc Qb, HS S B0 H0 B1 H1 ((c, .lst acc) :: M) → Same B B1 → Qb (f x) H1 → tt ((wipe σ [i]).set i (some (.str x))) H1 Qb)
    (k : ∀ B' H' c, HS S B0 H0 B' H' ((c, .lst ((xs.filter f).map V.str)) :: M) → Same B B' → Q (.ref c) H') : tLc (iList K tl) (gName i) tt (tVar i) [i] σ H Q := by
  refine x_lc (x_iList (ev _ ⟨l, rfl, ⟨_, SqL.of (hs.up el)⟩, fun c hD => ?_⟩))
  refine c_list (α := Unit) (Mf := fun _ => M) (P := fun j _ acc _ => acc = ((xs.take j).filter f).map V.str) (s0 := ()) hs hD el rfl (fun j y _ acc B3 H3 hj hacc sb3 hs3 pp => ?_) (fun _ acc B3 H3 sb3 hs3 hacc pp => ?_)
  · obtain ⟨b, hb, rfl⟩ := strs_get hj
    have hjl := (List.getElem?_eq_some_iff.mp hb).1
    refine x_gname ⟨e3 _, ht b (List.mem_of_getElem? hb) B3 H3 c acc _ hs3 sb3 ?_⟩
    refine x_ite (fun h => ?_) (fun h => ?_)
    · refine x_var (e2 _) ?_
      refine c_keep (s := ()) sb3 hs3 hacc (by omega) ?_
      rw [filter_take _ hb, if_pos h, pp]
      simp
    · refine c_left (s := ()) sb3 hs3 hacc ?_
      rw [filter_take _ hb, if_neg (by rw [h]; decide), pp]
  · rw [List.length_map, List.take_length] at pp
    subst pp
    exact k B3 H3 c hs3 sb3
/-- a dealing of some of the people -/
structure PDeal (xs : List Str) (f : Str → List Str) (ds : List (Key × D)) : Prop where
  st : StrK ds 16
  ok : ∀ a d, dval ds (.inr a) = some d → a ∈ xs ∧ (d = .non ∨ ∃ b, d = .str b ∧ b ∈ f a ∧ dval ds (.inr b) = some (.str a))
theorem keys_of {ds : List (Key × D)} {a : Str} (h : (Sum.inr a : Key) ∈ ds.map (·.1)) : ∃ d, dval ds (.inr a) = some d := Option.isSome_iff_exists.mp (dval_inK h)
theorem StrK.sub {ds : List (Key × D)} {m : Nat} {xs : List Str} (h : StrK ds m) (hx : ∀ a d, dval ds (.inr a) = some d → a ∈ xs) : ds.length ≤ xs.length := by
  obtain ⟨ks, e⟩ := h.st
  have nd := h.nd
  rw [e] at nd
  have ndk : ks.Nodup := (List.pairwise_map.mp nd).imp fun {a b} ne z => ne (by rw [z])
  have := nodup_len ndk (ys := xs) fun a ma => by
    obtain ⟨d, hd⟩ := keys_of (ds := ds) (a := a) (by rw [e]; exact List.mem_map.mpr ⟨a, ma, rfl⟩)
    exact hx a d hd
  have hl := congrArg List.length e
  rw [List.length_map, List.length_map] at hl
  omega
theorem StrK.sup {ds : List (Key × D)} {m : Nat} {xs : List Str} (h : StrK ds m) (nd : xs.Nodup) (hx : ∀ a ∈ xs, (dval ds (.inr a)).isSome = true) : xs.length ≤ ds.length := by
  have := nodup_len (xs := xs.map (Sum.inr : Str → Key)) (ys := ds.map (·.1)) (List.pairwise_map.mpr (nd.imp fun {a b} ne e => ne (Sum.inr.inj e))) fun k mk => by
    obtain ⟨a, ma, rfl⟩ := List.mem_map.mp mk
    obtain ⟨d, hd⟩ := Option.isSome_iff_exists.mp (hx a ma)
    exact List.mem_map.mpr ⟨(.inr a, d), dval_mem' hd, rfl⟩
  rw [List.length_map, List.length_map] at this
  exact this
theorem PDeal.deal {xs : List Str} {f : Str → List Str} {ds : List (Key × D)} (h : PDeal xs f ds) (nd : xs.Nodup) (hx : ∀ a ∈ xs, (dval ds (.inr a)).isSome = true) : Deal xs f (.dct ds) := by
  have h1 := h.st.sub fun a d e => (h.ok a d e).1
  have h2 := h.st.sup nd hx
  refine ⟨?_, fun a ma => ?_⟩
  · unfold sameKeys
    dsimp only
    rw [decide_eq_true (by omega : ds.length = xs.length), List.all_eq_true.mpr hx]
    rfl
  · obtain ⟨d, hd⟩ := Option.isSome_iff_exists.mp (hx a ma)
    rw [vald_of hd]
    rcases (h.ok a d hd).2 with rfl | ⟨b, rfl, mb, e⟩
    · exact .inl rfl
    · exact .inr ⟨b, rfl, mb, vald_of e⟩
theorem PDeal.nil {xs : List Str} {f : Str → List Str} : PDeal xs f [] := ⟨StrK.nil.up (by omega), fun a d e => by cases e⟩
theorem strK_of {ds : List (Key × D)} {m : Nat} {xs : List Str} (h : StrK ds m) (hx : ∀ a d, dval ds (.inr a) = some d → a ∈ xs) (hl : xs.length ≤ 16) : StrK ds 16 := ⟨h.nd, h.st, Nat.le_trans (h.sub hx) hl⟩
theorem PDeal.one {xs : List Str} {f : Str → List Str} {ds : List (Key × D)} {a : Str} (h : PDeal xs f ds) (hl : xs.length ≤ 16) (ma : a ∈ xs) (na : dval ds (.inr a) = none) : PDeal xs f (putD ds (.inr a) .non) := by
  have ok : ∀ c d, dval (putD ds (.inr a) .non) (.inr c) = some d → c ∈ xs ∧ (d = .non ∨ ∃ b, d = .str b ∧ b ∈ f c ∧ dval (putD ds (.inr a) .non) (.inr b) = some (.str c)) := fun c d e => by
    rw [dval_put] at e
    by_cases z : (Sum.inr c : Key) = .inr a
    · rw [if_pos z] at e
      cases e
      rw [Sum.inr.inj z]
      exact ⟨ma, .inl rfl⟩
    · rw [if_neg z] at e
      obtain ⟨h1, h2⟩ := h.ok c d e
      refine ⟨h1, h2.imp id fun ⟨b, e1, e2, e3⟩ => ⟨b, e1, e2, ?_⟩⟩
      rw [dval_put, if_neg fun z2 => by rw [z2, na] at e3; cases e3]
      exact e3
  exact ⟨strK_of h.st.put (fun c d e => (ok c d e).1) hl, ok⟩
theorem PDeal.two {xs : List Str} {f : Str → List Str} {ds : List (Key × D)} {a b : Str} (h : PDeal xs f ds) (mu : Mut xs f) (ma : a ∈ xs) (mb : b ∈ f a) (na : dval ds (.inr a) = none) (nb : dval ds (.inr b) = none) : PDeal xs f (putD (putD (putD ds (.inr a) .non) (.inr a) (.str b)) (.inr b) (.str a)) := by
  have hab : a ≠ b := fun z => mu.fs a ma (z ▸ mb)
  have hv : ∀ c, dval (putD (putD (putD ds (.inr a) .non) (.inr a) (.str b)) (.inr b) (.str a)) (.inr c) = if c = b then some (.str a) else if c = a then some (.str b) else dval ds (.inr c) := fun c => by
    rw [dval_put, dval_put, dval_put]
    by_cases e1 : c = b
    · rw [if_pos (by rw [e1]), if_pos e1]
    · rw [if_neg (fun z => e1 (Sum.inr.inj z)), if_neg e1]
      by_cases e2 : c = a
      · rw [if_pos (by rw [e2]), if_pos e2]
      · rw [if_neg (fun z => e2 (Sum.inr.inj z)), if_neg e2, if_neg (fun z => e2 (Sum.inr.inj z))]
  have ok : ∀ c d, dval (putD (putD (putD ds (.inr a) .non) (.inr a) (.str b)) (.inr b) (.str a)) (.inr c) = some d → c ∈ xs ∧ (d = .non ∨ ∃ b', d = .str b' ∧ b' ∈ f c ∧ dval (putD (putD (putD ds (.inr a) .non) (.inr a) (.str b)) (.inr b) (.str a)) (.inr b') = some (.str c)) := fun c d e => by
    rw [hv] at e
    by_cases e1 : c = b
    · rw [if_pos e1] at e
      cases e
      subst e1
      refine ⟨(mu.fi a ma c mb).1, .inr ⟨a, rfl, (mu.fi a ma c mb).2, ?_⟩⟩
      rw [hv, if_neg hab, if_pos rfl]
    · rw [if_neg e1] at e
      by_cases e2 : c = a
      · rw [if_pos e2] at e
        cases e
        subst e2
        refine ⟨ma, .inr ⟨b, rfl, mb, ?_⟩⟩
        rw [hv, if_pos rfl]
      · rw [if_neg e2] at e
        obtain ⟨h1, h2⟩ := h.ok c d e
        refine ⟨h1, h2.imp id fun ⟨b', e3, e4, e5⟩ => ⟨b', e3, e4, ?_⟩⟩
        rw [hv, if_neg (fun z => by rw [z, nb] at e5; cases e5), if_neg (fun z => by rw [z, na] at e5; cases e5)]
        exact e5
  exact ⟨strK_of h.st.put.put.put (fun c d e => (ok c d e).1) mu.few, ok⟩
/-- a dict of names to names or None shows the same in every heap -/
def SclK (K : PySem.W.Frag) (kvs : List (Key × V)) (ds : List (Key × D)) : Prop := ∀ B, RepK K B kvs ds
abbrev N__law_any_dealing : List Str := ["_law_state", "_law_mutual_here", "_law_x", "_law_a", "_law_free", "_law_at", "_law_b"]
def t__law_any_dealing (K : PySem.W.Frag) (E : XK) : TS := (tSeq (tAsg tDNewK (gName 2))
  (tSeq (tFor (iList K (tCl (sp__law_mixed K) (WE0 E) (tCons (tVar 0) (tCons (tCB (rSortL K) (tCons (tCB rListD (tCons (tVar 1) tNil)) tNil)) tNil)))) (gName 3) (tIfS (tB (tDNotIn (tVar 3) (tVar 2))) (tSeq (tAsg (tLc (iList K (tDGet (tVar 1) (tVar 3))) (gName 6) (tB (tDNotIn (tVar 6) (tVar 2))) (tVar 6) [6]) (gName 4))
  (tSeq (tAsg (tCl (sp__law_take K) (WE0 E) (tCons (tVar 0) (tCons (tOp rAddI (tCB (rLenA K) (tCons (tVar 4) tNil)) (tC (.int 1))) tNil))) (gName 5))
  (tSeq (sDPut (tVar 2) (tVar 3) (tC .non))
  (tIfS (tTest (tOp rLtI (tVar 5) (tCB (rLenA K) (tCons (tVar 4) tNil)))) (tSeq (sDPut (tVar 2) (tVar 3) (tOp (rIxL K) (tVar 4) (tVar 5)))
  (sDPut (tVar 2) (tOp (rIxL K) (tVar 4) (tVar 5)) (tVar 3))) tNext)))) tNext))
  (tRet (tVar 2))))
def sp__law_any_dealing (K : PySem.W.Frag) : Sp := fun vs H Q E => ∃ (p m : Addr) (a b : Int) (kvs : List (Key × V)) (xs : List Str) (f : Str → List Str) (B : Hp), vs = [.ref p, .ref m] ∧ Same B H ∧ B p = none ∧ H p = some (stO a b) ∧ VSt a b ∧ B m = some (.dK kvs) ∧ WAt B xs kvs f ∧ Mut xs f ∧
  ∀ B' H' a' b' xd kx ds, HS [p] B H B' H' [(p, stO a' b'), (xd, .dK kx)] → VSt a' b' → SclK K kx ds → Deal xs f (.dct ds) → StrK ds 16 → Q (.ref xd) H'
end Q

set_option Elab.async false
set_option linter.all false
set_option maxRecDepth 100000
set_option maxHeartbeats 4000000
namespace Q
open PySem PySem.Spec PyProof.Rows L2
local macro_rules | `(tactic| walk_at "bf") => `(tactic| first | assumption | (refine' bstep (by assumption) ?r; case r => walk_at "bf") | fail)
local macro_rules | `(tactic| walk_at "rp") => `(tactic| first | assumption | exact Rep.int _ | exact Rep.bl _ | exact Rep.non | (refine' Rep.mono (by assumption) ?r; case r => walk_at "rp") | fail)
local macro_rules | `(tactic| walk_at "hf") => `(tactic| first | assumption | exact HS.up (by assumption) (by walk_at "bf") | exact HS.get (by assumption) List.mem_cons_self | exact HS.get (by assumption) (List.mem_cons_of_mem _ List.mem_cons_self) | exact HS.get (by assumption) (List.mem_cons_of_mem _ (List.mem_cons_of_mem _ List.mem_cons_self)) | exact HS.get (by assumption) (List.mem_cons_of_mem _ (List.mem_cons_of_mem _ (List.mem_cons_of_mem _ List.mem_cons_self))) | fail)
local macro_rules | `(tactic| walk_at "sl") => `(tactic| first | assumption | exact SqL.of (by walk_at "hf") | fail)
local macro_rules | `(tactic| walk_at "st") => `(tactic| first | assumption | exact SqT.of (by walk_at "hf") | fail)
local macro_rules | `(tactic| walk_at "sz") => `(tactic| first | assumption | (refine small_le ?_; first | assumption | omega | (simp; done) | (simp; omega)) | fail)
/-! ### a dealing that is spoilt -/
def PlainK (ds : List (Key × D)) : Prop := PlK (fun e => e.plain = true) ds
theorem PlainK.put {ds : List (Key × D)} {k : Key} {d : D} (h : PlainK ds) (hd : d.plain = true) : PlainK (putD ds k d) := fun q m => by
  unfold putD at m
  split at m
  · obtain ⟨q', mq, rfl⟩ := List.mem_map.mp m
    split
    · exact hd
    · exact h q' mq
  · rcases List.mem_append.mp m with m | m
    · exact h q m
    · rw [List.mem_singleton.mp m]; exact hd
theorem PlainK.drop {ds : List (Key × D)} {k : Key} (h : PlainK ds) : PlainK (dropD ds k) := fun q m => h q (List.mem_filter.mp m).1
/-- a value that may be a dealing: plain, and a dict has texts as keys -/
def MayDeal (m : Nat) (d : D) : Prop := d.plain = true ∧ ∀ ds, d = .dct ds → StrK ds m ∧ PlainK ds
theorem MayDeal.plainV {m : Nat} {d : D} (h : MayDeal m d) : plainV d := by
  cases d with
  | dct ds => exact plainV_dct (h.2 ds rfl).2
  | _ => exact fun _ => rfl
abbrev N__law_spoilt : List Str := ["_law_state", "_law_names_here", "_law_x", "_law_kind", "_law_value_here", "_law_y", "_law_a", "_law_b"]
def t__law_spoilt (K : PySem.W.Frag) (E : XK) : TS := (tSeq (tAsg (tCl (sp__law_take K) (WE0 E) (tCons (tVar 0) (tCons (tC (.int 7)) tNil))) (gName 3))
  (tSeq (tAsg (tCl (sp__law_value K) (WE0 E) (tCons (tVar 0) tNil)) (gName 4))
  (tSeq (tIfS (tTest (tOp rEq (tVar 3) (tC (.int 5)))) (tRet (tVar 4)) tNext)
  (tSeq (tAsg (tCB rDictOf (tCons (tVar 2) tNil)) (gName 5))
  (tSeq (tIfS (tTr K (tVar 1)) (tSeq (tAsg (tOp (rIxL K) (tVar 1) (tCl (sp__law_take K) (WE0 E) (tCons (tVar 0) (tCons (tCB (rLenA K) (tCons (tVar 1) tNil)) tNil)))) (gName 6))
  (tSeq (tAsg (tOp (rIxL K) (tVar 1) (tCl (sp__law_take K) (WE0 E) (tCons (tVar 0) (tCons (tCB (rLenA K) (tCons (tVar 1) tNil)) tNil)))) (gName 7))
  (tSeq (tIfS (tTest (tOp rEq (tVar 3) (tC (.int 1)))) (sDPut (tVar 5) (tVar 6) (tVar 4)) tNext)
  (tSeq (tIfS (tOr (tTest (tOp rEq (tVar 3) (tC (.int 2)))) (tTest (tOp rEq (tVar 3) (tC (.int 6))))) (sDPut (tVar 5) (tVar 6) (tVar 7)) tNext)
  (tSeq (tIfS (tTest (tOp rEq (tVar 3) (tC (.int 6)))) (sDPut (tVar 5) (tVar 7) (tVar 6)) tNext)
  (tIfS (tAnd (tTest (tOp rEq (tVar 3) (tC (.int 3)))) (tB (tDIn (tVar 6) (tVar 5)))) (tDrop (tDPop1 (tVar 5) (tVar 6))) tNext)))))) tNext)
  (tSeq (tIfS (tTest (tOp rEq (tVar 3) (tC (.int 4)))) (sDPut (tVar 5) (tCl (sp__law_name K) (WE0 E) (tCons (tVar 0) (tCons (tVar 1) tNil))) (tC .non)) tNext)
  (tRet (tVar 5))))))))
def sp__law_spoilt (K : PySem.W.Frag) : Sp := fun vs H Q E => ∃ (p n x : Addr) (a b : Int) (xs : List Str) (kx : List (Key × V)) (ds : List (Key × D)) (m : Nat) (B : Hp), vs = [.ref p, .ref n, .ref x] ∧ Same B H ∧ B p = none ∧ H p = some (stO a b) ∧ VSt a b ∧ B n = some (.lst (xs.map V.str)) ∧ xs.length ≤ 25 ∧ (∀ x ∈ xs, okName x = true) ∧ B x = some (.dK kx) ∧ RepK K B kx ds ∧ StrK ds m ∧ PlainK ds ∧ 2 ≤ m ∧ m ≤ 1000 ∧
  ∀ B' H' a' b' v d, HS [p] B H B' H' [(p, stO a' b')] → VSt a' b' → Rep K B' v d → MayDeal (m + 4) d → Q v H'
/-! ### the same with its keys turned around -/
def turnV (kvs : List (Key × V)) (rs : List Str) : List (Key × V) := rs.map fun p => (.inr p, (valV kvs (.inr p)).getD .non)
def turnD (d : D) (rs : List Str) : List (Key × D) := rs.map fun p => (.inr p, vald d p)
theorem dval_map {g : Str → D} {x : Str} : ∀ {rs : List Str}, x ∈ rs → dval (rs.map fun p => ((.inr p : Key), g p)) (.inr x) = some (g x)
  | y :: r, h => by
    rw [List.map_cons]
    by_cases e : y = x
    · rw [e]; exact dval_pos rfl
    · rw [dval_neg fun z => e (Sum.inr.inj z)]
      exact dval_map ((List.mem_cons.mp h).resolve_left fun z => e z.symm)
abbrev N__law_turnedO : List Str := ["_law_x", "_law_turned_here", "_law_a"]
def t__law_turnedO (K : PySem.W.Frag) (E : XK) : TS := (tSeq (tAsg tDNewK (gName 1))
  (tSeq (tFor (iRev K (tCons (tCB (rSortL K) (tCons (tCB rListD (tCons (tVar 0) tNil)) tNil)) tNil)) (gName 2) (sDPut (tVar 1) (tVar 2) (tDGet (tVar 0) (tVar 2))))
  (tRet (tVar 1))))
def sp__law_turnedO (K : PySem.W.Frag) : Sp := fun vs H Q E => ∃ (d : Addr) (kvs : List (Key × V)) (ks : List Str) (B : Hp), vs = [.ref d] ∧ Same B H ∧ B d = some (.dK kvs) ∧ kvs.map (·.1) = ks.map Sum.inr ∧ ks.Nodup ∧ ks.length < 64 ∧
  ∀ B' H' T rs, HS [] B H B' H' [(T, .dK (turnV kvs rs))] → rs.Perm ks → Q (.ref T) H'
/-- what is turned around shows the same -/
structure Alike (d e : D) : Prop where
  va : ∀ p, vald d p = vald e p
  sk : ∀ xs, sameKeys d xs = sameKeys e xs
theorem Pre.mut {K : PySem.W.Frag} {B : Hp} {n g : Addr} {xs done : List Str} {kvs : List (Key × V)} {ws : Str → List Str} {G : Grp} (h : Pre K B n g xs done kvs ws G) : Mut xs (opn ws) :=
  ⟨h.dr.nd, h.xl, h.dr.ok, fun a m => (h.dr.row a m).1.filter _, fun a m b mb => by
    unfold opn at mb
    obtain ⟨m1, m2⟩ := List.mem_filter.mp mb
    have m2 := of_decide_eq_true m2
    refine ⟨(h.dr.row a m).2.2 b m1, ?_⟩
    unfold opn
    exact List.mem_filter.mpr ⟨m2, decide_eq_true m1⟩, fun a m z => by
    unfold opn at z
    exact (h.dr.row a m).2.1 (List.mem_filter.mp z).1⟩
end Q

set_option Elab.async false
set_option linter.all false
set_option maxRecDepth 100000
set_option maxHeartbeats 4000000
namespace Q
open PySem PySem.Spec PyProof.Rows L2
/-! ### more of dealings -/
theorem SclK.plain {K : PySem.W.Frag} {kvs : List (Key × V)} {ds : List (Key × D)} (h : SclK K kvs ds) : PlainK ds := by
  have : ∀ {kvs : List (Key × V)} {ds : List (Key × D)}, RepK K (fun _ => none) kvs ds → PlainK ds := by
    intro kvs
    induction kvs with
    | nil => intro ds r; cases r; exact fun q m => nomatch m
    | cons q r ih =>
      intro ds rr
      cases rr with
      | cons h1 h2 =>
        intro q m
        rcases List.mem_cons.mp m with rfl | m
        · cases h1 with
          | obj e _ => cases e
          | lst e _ _ => cases e
          | tup e _ => cases e
          | dct e _ => cases e
          | _ => rfl
        · exact ih h2 q m
  exact this (h _)
/-- two values that are not told apart by != -/
def NeNo (B : Hp) (u v : V) : Prop := u = v ∨ ∃ a c ks ls, u = .ref a ∧ v = .ref c ∧ B a = some (.dK ks) ∧ B c = some (.dK ls) ∧ ks.length = ls.length ∧ ∀ p ∈ ks, valV ls p.1 = some p.2 ∧ (flatV p.2 = true ∨ ∃ b, p.2 = .ref b)
theorem NeNo.mono {B B' : Hp} {u v : V} (s : Same B B') (h : NeNo B u v) : NeNo B' u v := h.imp id fun ⟨a, c, ks, ls, e1, e2, e3, e4, r⟩ => ⟨a, c, ks, ls, e1, e2, s _ _ e3, s _ _ e4, r⟩
theorem NeNo.ne {K : PySem.W.Frag} {S : List Addr} {B0 H0 B H : Hp} {M : List (Addr × HO)} {Q : VK} {u v : V} {d : D} (h : NeNo B u v) (hs : HS S B0 H0 B H M) (r : Rep K B v d) (hp : d.plain = true) (q : Q (.bl false) H) : rNeW K u v H Q := by
  rcases h with rfl | ⟨a, c, ks, ls, rfl, rfl, e1, e2, hl, hh⟩
  · exact .inl (neU_self hs r hp q)
  · exact .inr (.inr ⟨⟨a, c, ks, ls, rfl, rfl, hs.up e1, hs.up e2, hl, hh⟩, q⟩)
theorem NeNo.copy {K : PySem.W.Frag} {B : Hp} {a c : Addr} {kvs : List (Key × V)} {ds : List (Key × D)} {m : Nat} (ea : B a = some (.dK kvs)) (ec : B c = some (.dK kvs)) (rk : RepK K B kvs ds) (sk : StrK ds m) : NeNo B (.ref a) (.ref c) :=
  .inr ⟨a, c, kvs, kvs, rfl, rfl, ea, ec, rfl, fun p mp => ⟨valV_of_mem (by rw [rk.keysE]; exact sk.nd) mp, rk.flat p mp⟩⟩
theorem Alike.refl (d : D) : Alike d d := ⟨fun _ => rfl, fun _ => rfl⟩
end Q

set_option Elab.async false
set_option linter.all false
set_option maxRecDepth 100000
set_option maxHeartbeats 4000000
namespace Q
open PySem PySem.Spec PyProof.Rows L2
/-! ### sorted of tuples of tuples of texts -/
def lexTT : List (List Str) → List (List Str) → Bool
  | [], [] => false
  | [], _ :: _ => true
  | _ :: _, [] => false
  | x :: xs, y :: ys => if x = y then lexTT xs ys else lexT x y
def leTT (a b : List (List Str)) : Bool := !lexTT b a
def sortTT (l : List (List (List Str))) : List (List (List Str)) := l.mergeSort leTT
inductive IsTxs (h : Heap) : List Value → List (List Str) → Prop
  | nil : IsTxs h [] []
  | cons {u : Value} {us : List Value} {k : List Str} {ks : List (List Str)} : IsTx h u k → IsTxs h us ks → IsTxs h (u :: us) (k :: ks)
theorem IsTxs.length {h : Heap} : ∀ {us : List Value} {ks : List (List Str)}, IsTxs h us ks → us.length = ks.length
  | _, _, .nil => rfl
  | _, _, .cons _ r => by simp [IsTxs.length r]
theorem IsTxs.keeps {h h' : Heap} (k : ∀ b o, h.get? b = some o → o.cls = .type "tuple" → h'.get? b = some o) : ∀ {us : List Value} {ks : List (List Str)}, IsTxs h us ks → IsTxs h' us ks
  | _, _, .nil => .nil
  | _, _, .cons p r => .cons (p.keeps k) (IsTxs.keeps k r)
def IsTT (h : Heap) (v : Value) (ks : List (List Str)) : Prop := ∃ a o n us, v = .ref a ∧ h.get? a = some o ∧ o.cls = .type "tuple" ∧ o.data = .seq (List.toArray us) n ∧ IsTxs h us ks
theorem IsTT.keeps {h h' : Heap} {v : Value} {ks : List (List Str)} (p : IsTT h v ks) (k : ∀ b o, h.get? b = some o → o.cls = .type "tuple" → h'.get? b = some o) : IsTT h' v ks := by
  obtain ⟨a, o, n, us, e, ho, hc, hd, r⟩ := p
  exact ⟨a, o, n, us, e, k _ _ ho hc, hc, hd, r.keeps k⟩
section
variable {prog : Program} {w : World} {A : Around} {E : Value → Shared → Prop} {s : Shared}
end
/-- texts in tuples, in tuples -/
inductive TxS (H : Hp) : List V → List (List Str) → Prop
  | nil : TxS H [] []
  | cons {t : Addr} {k : List Str} {vs : List V} {ks : List (List Str)} : H t = some (.tup (k.map V.str)) → TxS H vs ks → TxS H (.ref t :: vs) (k :: ks)
def rSortX (K : PySem.W.Frag) : List V → Hp → VK → Prop := fun vs H Q => ∃ (a : Addr) (xs : List V) (k : V → List (List Str)), vs = [V.ref a] ∧ SqL K H a xs ∧ (∀ x ∈ xs, ∃ t us, x = V.ref t ∧ H t = some (.tup us) ∧ TxS H us (k x)) ∧ (2 ≤ xs.length → ∀ x ∈ xs, k x ≠ []) ∧
  ∀ ys p, ys.Perm xs → ys.map k = sortTT (xs.map k) → H p = none → Q (.ref p) (upd H p (.lst ys))
end Q

set_option Elab.async false
set_option linter.all false
set_option maxRecDepth 100000
set_option maxHeartbeats 4000000
namespace Q
open PySem PySem.Spec PyProof.Rows L2
/-! ### all calm dealings, found person by person (plain) -/
abbrev PM := Str → Option (Option Str)
def setP (m : PM) (a : Str) : Option Str → PM
  | none => fun c => if c = a then some none else m c
  | some b => fun c => if c = b then some (some a) else if c = a then some (some b) else m c
def waitL (xs : List Str) (m : PM) : List Str := (sortS xs).filter fun a => (m a).isNone
def freeP (m : PM) : Option Str → Bool
  | none => true
  | some b => (m b).isNone
/-- the choices of a person -/
def choP (op : Str → List Str) (a : Str) : List (Option Str) := none :: (op a).map some
def growG (xs : List Str) (op : Str → List Str) (tst : PM → Str → Option Str → Bool) : Nat → PM → List PM
  | 0, _ => []
  | n + 1, m => match waitL xs m with
    | [] => [m]
    | a :: _ => (choP op a).flatMap fun b => if (freeP m b && tst (setP m a b) a b) = true then growG xs op tst n (setP m a b) else []
def leaves (xs : List Str) (op : Str → List Str) : Nat → PM → List PM := growG xs op fun _ _ _ => true
def qP (op : Str → List Str) (m : PM) (a b : Str) : Bool := match m a, m b with
  | some va, some vb => !decide (va = some b) && (ratherO (op a) b va && ratherO (op b) a vb)
  | _, _ => false
def clashP (op : Str → List Str) (m : PM) (a : Str) : Bool := (op a).any fun c => qP op m a c
def calmM (xs : List Str) (op : Str → List Str) (m : PM) : Bool := xs.all fun a => (op a).all fun b => !qP op m a b
structure PMOk (xs : List Str) (op : Str → List Str) (m : PM) : Prop where
  dom : ∀ a v, m a = some v → a ∈ xs
  mu2 : ∀ a b, m a = some (some b) → b ∈ op a ∧ m b = some (some a)
theorem calmM_true {xs : List Str} {op : Str → List Str} {m : PM} : calmM xs op m = true ↔ ∀ a ∈ xs, ∀ b ∈ op a, qP op m a b = false := by
  unfold calmM
  rw [List.all_eq_true]
  refine ⟨fun h a ma b mb => ?_, fun h a ma => List.all_eq_true.mpr fun b mb => by rw [h a ma b mb]; rfl⟩
  have := List.all_eq_true.mp (h a ma) b mb
  simpa using this
theorem mem_wait {xs : List Str} {m : PM} {a : Str} : a ∈ waitL xs m ↔ a ∈ xs ∧ m a = none := by
  unfold waitL
  rw [List.mem_filter, mem_sortS, Option.isNone_iff_eq_none]
/-- a choice that may be made -/
def Can (op : Str → List Str) (m : PM) (a : Str) (b : Option Str) : Prop := m a = none ∧ ∀ b', b = some b' → b' ∈ op a ∧ m b' = none
theorem can_of {xs : List Str} {op : Str → List Str} {m : PM} {a : Str} {r : List Str} {b : Option Str} (hw : waitL xs m = a :: r) (mb : b ∈ choP op a) (hf : freeP m b = true) : Can op m a b := by
  have ha : a ∈ waitL xs m := by rw [hw]; exact List.mem_cons_self
  refine ⟨(mem_wait.mp ha).2, fun b' e => ?_⟩
  subst e
  unfold choP at mb
  rcases List.mem_cons.mp mb with z | z
  · cases z
  · obtain ⟨c, mc, e⟩ := List.mem_map.mp z
    cases e
    exact ⟨mc, Option.isNone_iff_eq_none.mp hf⟩
theorem setP_self {m : PM} {a : Str} {b : Option Str} (h : b ≠ some a) : setP m a b a = some b := by
  cases b with
  | none => unfold setP; exact if_pos rfl
  | some c =>
    unfold setP
    dsimp only
    rw [if_neg fun z => h (by rw [z]), if_pos rfl]
theorem setP_other {m : PM} {a b : Str} : setP m a (some b) b = some (some a) := by unfold setP; exact if_pos rfl
theorem setP_old {op : Str → List Str} {m : PM} {a c : Str} {b v : Option Str} (h : Can op m a b) (hc : m c = some v) : setP m a b c = some v := by
  have ha : c ≠ a := fun z => by rw [z, h.1] at hc; cases hc
  cases b with
  | none => unfold setP; dsimp only; rw [if_neg ha]; exact hc
  | some b' =>
    have hb : c ≠ b' := fun z => by rw [z, (h.2 b' rfl).2] at hc; cases hc
    unfold setP
    dsimp only
    rw [if_neg hb, if_neg ha]
    exact hc
theorem setP_cases {m : PM} {a c : Str} {b v : Option Str} (h : setP m a b c = some v) : (c = a ∧ v = b) ∨ (b = some c ∧ v = some a) ∨ m c = some v := by
  cases b with
  | none =>
    unfold setP at h
    dsimp only at h
    by_cases e : c = a
    · rw [if_pos e] at h; exact .inl ⟨e, by cases h; rfl⟩
    · rw [if_neg e] at h; exact .inr (.inr h)
  | some b' =>
    unfold setP at h
    dsimp only at h
    by_cases e1 : c = b'
    · rw [if_pos e1] at h; exact .inr (.inl ⟨by rw [e1], by cases h; rfl⟩)
    · rw [if_neg e1] at h
      by_cases e : c = a
      · rw [if_pos e] at h; exact .inl ⟨e, by cases h; rfl⟩
      · rw [if_neg e] at h; exact .inr (.inr h)
theorem PMOk.set {xs : List Str} {op : Str → List Str} {m : PM} {a : Str} {b : Option Str} (h : PMOk xs op m) (mu : Mut xs op) (ma : a ∈ xs) (hc : Can op m a b) : PMOk xs op (setP m a b) := by
  refine ⟨fun c v e => ?_, fun c d e => ?_⟩
  · rcases setP_cases e with ⟨rfl, _⟩ | ⟨rfl, _⟩ | e
    · exact ma
    · exact (mu.fi a ma c (hc.2 c rfl).1).1
    · exact h.dom c v e
  · rcases setP_cases e with ⟨rfl, rfl⟩ | ⟨rfl, e2⟩ | e
    · exact ⟨(hc.2 d rfl).1, setP_other⟩
    · cases e2
      refine ⟨(mu.fi a ma c (hc.2 c rfl).1).2, setP_self fun z => ?_⟩
      have : c = a := Option.some.inj z
      subst this
      exact mu.fs c ma (hc.2 c rfl).1
    · obtain ⟨h1, h2⟩ := h.mu2 c d e
      exact ⟨h1, setP_old hc h2⟩
/-- how the program looks for clashes -/
def tstP (op : Str → List Str) (m : PM) (a : Str) : Option Str → Bool
  | none => !clashP op m a
  | some b => !clashP op m a && !clashP op m b
theorem qP_symm {xs : List Str} {op : Str → List Str} {m : PM} (ok : PMOk xs op m) {a b : Str} (h : qP op m a b = true) : qP op m b a = true := by
  unfold qP at h ⊢
  cases e1 : m a with
  | none => rw [e1] at h; cases h
  | some va =>
    cases e2 : m b with
    | none => rw [e1, e2] at h; cases h
    | some vb =>
      rw [e1, e2] at h
      dsimp only at h ⊢
      obtain ⟨h1, h2⟩ := Bool.and_eq_true_iff.mp h
      obtain ⟨h2, h3⟩ := Bool.and_eq_true_iff.mp h2
      have : vb ≠ some a := fun z => by
        subst z
        have := (ok.mu2 b a e2).2
        rw [e1] at this
        cases this
        simp at h1
      rw [h2, h3, decide_eq_false this]
      rfl
/-- all calm ones, in the order in which they are found -/
def calms (xs : List Str) (op : Str → List Str) : List PM := (leaves xs op 18 fun _ => none).filter (calmM xs op)
theorem PMOk.nil {xs : List Str} {op : Str → List Str} : PMOk xs op fun _ => none := ⟨fun _ _ e => (nomatch e), fun _ _ e => (nomatch e)⟩
/-! ### how many -/
def invN : Nat → Nat
  | 0 => 1
  | 1 => 1
  | n + 2 => invN (n + 1) + (n + 1) * invN n
/-! ### what is found -/
/-- everybody has a partner or is alone -/
def FullP (xs : List Str) (m : PM) : Prop := ∀ a ∈ xs, ∃ v, m a = some v
theorem leaves_ok {xs : List Str} {op : Str → List Str} {tst : PM → Str → Option Str → Bool} (mu : Mut xs op) : ∀ {n : Nat} {m l : PM}, PMOk xs op m → l ∈ growG xs op tst n m → PMOk xs op l ∧ FullP xs l
  | 0, _, _, _, h => by cases h
  | n + 1, m, l, ok, h => by
    unfold growG at h
    split at h
    · rename_i hw
      rw [List.mem_singleton.mp h]
      refine ⟨ok, fun a ma => ?_⟩
      cases e : m a with
      | some v => exact ⟨v, rfl⟩
      | none =>
        have : a ∈ waitL xs m := mem_wait.mpr ⟨ma, e⟩
        rw [hw] at this
        cases this
    · rename_i a r hw
      obtain ⟨b, mb, h⟩ := List.mem_flatMap.mp h
      split at h
      · rename_i ht
        obtain ⟨hf, _⟩ := Bool.and_eq_true_iff.mp ht
        have ma : a ∈ xs := (mem_wait.mp (by rw [hw]; exact List.mem_cons_self)).1
        exact leaves_ok mu (ok.set mu ma (can_of hw mb hf)) h
      · cases h
theorem calms_mem {xs : List Str} {op : Str → List Str} (mu : Mut xs op) {m : PM} (h : m ∈ calms xs op) : PMOk xs op m ∧ FullP xs m ∧ calmM xs op m = true := by
  obtain ⟨h1, h2⟩ := List.mem_filter.mp h
  obtain ⟨h3, h4⟩ := leaves_ok mu PMOk.nil h1
  exact ⟨h3, h4, h2⟩
end Q

set_option Elab.async false
set_option linter.all false
set_option maxRecDepth 100000
set_option maxHeartbeats 4000000
namespace Q
open PySem PySem.Spec PyProof.Rows L2
local macro_rules | `(tactic| walk_at "bf") => `(tactic| first | assumption | (refine' bstep (by assumption) ?r; case r => walk_at "bf") | fail)
local macro_rules | `(tactic| walk_at "rp") => `(tactic| first | assumption | exact Rep.int _ | exact Rep.bl _ | exact Rep.non | (refine' Rep.mono (by assumption) ?r; case r => walk_at "rp") | fail)
local macro_rules | `(tactic| walk_at "hf") => `(tactic| first | assumption | exact HS.up (by assumption) (by walk_at "bf") | exact HS.get (by assumption) List.mem_cons_self | exact HS.get (by assumption) (List.mem_cons_of_mem _ List.mem_cons_self) | exact HS.get (by assumption) (List.mem_cons_of_mem _ (List.mem_cons_of_mem _ List.mem_cons_self)) | exact HS.get (by assumption) (List.mem_cons_of_mem _ (List.mem_cons_of_mem _ (List.mem_cons_of_mem _ List.mem_cons_self))) | fail)
local macro_rules | `(tactic| walk_at "sl") => `(tactic| first | assumption | exact SqL.of (by walk_at "hf") | fail)
local macro_rules | `(tactic| walk_at "st") => `(tactic| first | assumption | exact SqT.of (by walk_at "hf") | fail)
local macro_rules | `(tactic| walk_at "sz") => `(tactic| first | assumption | (refine small_le ?_; first | assumption | omega | (simp; done) | (simp; omega)) | fail)
/-! ### the program's search for calm dealings -/
abbrev N_Group___len__ : List Str := ["self"]
def t_Group___len__ (K : PySem.W.Frag) (E : XK) : TS := (tRet (tCB (rLenA K) (tCons (tFld K (tVar 0) "names") tNil)))
def sp_Group___len__ (K : PySem.W.Frag) : Sp := fun vs H Q E => ∃ (p : Addr) (B : Hp) (G : Grp), vs = [.ref p] ∧ Same B H ∧ GAt K B p G ∧ Ret B H Q fun _ r => r = .int (G.names.length : Nat)
abbrev N_check_size : List Str := ["group", "most"]
def t_check_size (K : PySem.W.Frag) (E : XK) : TS := (tIfS (tTest (tOp rGtI (tCB (rLenO (He.ga K "Group") (sp_Group___len__ K)) (tCons (tVar 0) tNil)) (tVar 1))) (tRz1 (He.ga K "TooMany") "most" (tVar 1) (WE0 E)) tNext)
def sp_check_size (K : PySem.W.Frag) : Sp := fun vs H Q E => ∃ (p : Addr) (i : Int) (B : Hp) (G : Grp), vs = [.ref p, .int i] ∧ Same B H ∧ GAt K B p G ∧ ((G.names.length : Int) ≤ i → Ret B H Q fun _ r => r = .non) ∧ (i < (G.names.length : Int) → Thr K B H E "TooMany" [("most", .int i)])
/-! ### written as pairs -/
def wrG (f : Str → Option Str) (a : Str) : Option (List Str) := match f a with
  | some b => if decide (a.cps.toList < b.cps.toList) = true then some [a, b] else none
  | none => none
def wrF (ks : List Str) (f : Str → Option Str) : List (List Str) := (sortS ks).filterMap (wrG f)
def SclD (ds : List (Key × D)) : Prop := ∀ a d, dval ds (.inr a) = some d → d = .non ∨ ∃ b, d = .str b
abbrev N_written : List Str := ["x", "a"]
def t_written (K : PySem.W.Frag) (E : XK) : TS := (tRet (tCB (rTupOf K) (tCons (tLc (iList K (tCB rSortD (tCons (tVar 0) tNil))) (gName 1) (tAnd (tB (tNotN (tDGet (tVar 0) (tVar 1)))) (tTest (tOp rLtS (tVar 1) (tDGet (tVar 0) (tVar 1))))) (tTup (tCons (tVar 1) (tCons (tDGet (tVar 0) (tVar 1)) tNil))) [1]) tNil)))
def sp_written (K : PySem.W.Frag) : Sp := fun vs H Q E => ∃ (x : Addr) (B : Hp) (kx : List (Key × V)) (ds : List (Key × D)) (ks : List Str), vs = [.ref x] ∧ Same B H ∧ B x = some (.dK kx) ∧ RepK K B kx ds ∧ SclD ds ∧ ds.map (·.1) = ks.map Sum.inr ∧ ks.length < 64 ∧
  ∀ B' H' t us, HS [] B H B' H' [] → B' t = some (.tup us) → TRs B' us (wrF ks (part (.dct ds))) → Q (.ref t) H'
/-! ### what is chosen so far, as a dict -/
def optD : Option Str → D
  | none => .non
  | some b => .str b
def RepM (ds : List (Key × D)) (m : PM) : Prop := ∀ a, dval ds (.inr a) = (m a).map optD
theorem RepM.part {ds : List (Key × D)} {m : PM} (h : RepM ds m) {a : Str} {v : Option Str} (e : m a = some v) : part (.dct ds) a = v := by
  have : dval ds (.inr a) = some (optD v) := by rw [h a, e]; rfl
  unfold Q.part
  rw [vald_of this]
  cases v <;> rfl
theorem RepM.scl {ds : List (Key × D)} {m : PM} (h : RepM ds m) : SclD ds := fun a d e => by
  rw [h a] at e
  cases e2 : m a with
  | none => rw [e2] at e; cases e
  | some v =>
    rw [e2] at e
    cases v with
    | none => cases e; exact .inl rfl
    | some b => cases e; exact .inr ⟨b, rfl⟩
theorem RepM.hasK {ds : List (Key × D)} {m : PM} (h : RepM ds m) (a : Str) : (dval ds (.inr a)).isSome = (m a).isSome := by rw [h a]; cases m a <;> rfl
theorem RepM.one {ds : List (Key × D)} {m : PM} (h : RepM ds m) {a : Str} : RepM (putD ds (.inr a) .non) (setP m a none) := fun c => by
  rw [dval_put]
  unfold setP
  dsimp only
  by_cases e : c = a
  · rw [if_pos (by rw [e]), if_pos e]; rfl
  · rw [if_neg fun z => e (Sum.inr.inj z), if_neg e]; exact h c
theorem RepM.two {ds : List (Key × D)} {m : PM} (h : RepM ds m) {a b : Str} : RepM (putD (putD ds (.inr a) (.str b)) (.inr b) (.str a)) (setP m a (some b)) := fun c => by
  rw [dval_put, dval_put]
  unfold setP
  dsimp only
  by_cases e1 : c = b
  · rw [if_pos (by rw [e1]), if_pos e1]; rfl
  · rw [if_neg fun z => e1 (Sum.inr.inj z), if_neg e1]
    by_cases e : c = a
    · rw [if_pos (by rw [e]), if_pos e]; rfl
    · rw [if_neg fun z => e (Sum.inr.inj z), if_neg e]; exact h c
/-- a dict of what is chosen -/
structure DictM (K : PySem.W.Frag) (kx : List (Key × V)) (ds : List (Key × D)) (m : PM) : Prop where
  scl : SclK K kx ds
  rep : RepM ds m
  st : StrK ds 16
theorem DictM.len {K : PySem.W.Frag} {kx : List (Key × V)} {ds : List (Key × D)} {m : PM} (h : DictM K kx ds m) : kx.length ≤ 16 := by
  have := (h.scl (fun _ => none)).length
  have := h.st.le
  omega
theorem DictM.get {K : PySem.W.Frag} {kx : List (Key × V)} {ds : List (Key × D)} {m : PM} (h : DictM K kx ds m) {a : Str} {v : Option Str} (e : m a = some v) : valV kx (.inr a) = some (optV v) := by
  have hd : dval ds (.inr a) = some (optD v) := by rw [h.rep a, e]; rfl
  obtain ⟨u, eu, ru⟩ := vald_get (h.scl (fun _ => none)) (p := a) (by rw [hd]; rfl)
  rw [vald_of hd] at ru
  rw [eu]
  cases v <;> (cases ru; rfl)
theorem DictM.has {K : PySem.W.Frag} {kx : List (Key × V)} {ds : List (Key × D)} {m : PM} (h : DictM K kx ds m) (a : Str) : (valV kx (.inr a)).isSome = (m a).isSome := by
  rw [repK_some (h.scl (fun _ => none)), h.rep.hasK]
theorem DictM.nil {K : PySem.W.Frag} : DictM K [] [] fun _ => none := ⟨fun _ => .nil, fun _ => rfl, StrK.nil.up (by omega)⟩
theorem DictM.put {K : PySem.W.Frag} {xs : List Str} {op : Str → List Str} {kx : List (Key × V)} {ds : List (Key × D)} {m : PM} (h : DictM K kx ds m) (mu : Mut xs op) (ok : PMOk xs op m) {a : Str} {b : Option Str} (ma : a ∈ xs) (can : Can op m a b) :
    (b = none → DictM K (putK kx (.inr a) .non) (putD ds (.inr a) .non) (setP m a b)) ∧ ∀ b', b = some b' → DictM K (putK (putK kx (.inr a) (.str b')) (.inr b') (.str a)) (putD (putD ds (.inr a) (.str b')) (.inr b') (.str a)) (setP m a b) := by
  have ok2 := ok.set mu ma can
  have al := okName_len (mu.nm a ma)
  refine ⟨fun e => ?_, fun b' e => ?_⟩
  · subst e
    have r := h.rep.one (a := a)
    exact ⟨fun B => (h.scl B).putD .non, r, strK_of h.st.put (fun c d e => by
      rw [r c] at e
      cases e2 : setP m a none c with
      | none => rw [e2] at e; cases e
      | some v => exact ok2.dom c v e2) mu.few⟩
  · subst e
    have bl := okName_len (mu.nm b' (mu.fi a ma b' (can.2 b' rfl).1).1)
    have r := h.rep.two (a := a) (b := b')
    exact ⟨fun B => ((h.scl B).putD (.str bl)).putD (.str al), r, strK_of h.st.put.put (fun c d e => by
      rw [r c] at e
      cases e2 : setP m a (some b') c with
      | none => rw [e2] at e; cases e
      | some v => exact ok2.dom c v e2) mu.few⟩
theorem Grp.Ok.mut {G : Grp} (ok : G.Ok) : Mut G.names G.open :=
  ⟨ok.nd, ok.few, ok.nm, fun a m => ok.ond m, fun a m b mb => ⟨ok.oin m mb, open_symm ok mb⟩, fun a m z => ok.ws a m (mem_open'.mp z).1⟩
abbrev N_clashes : List Str := ["group", "x", "a", "c"]
def t_clashes (K : PySem.W.Frag) (E : XK) : TS := (tSeq (tFor (iList K (tMt (He.ga K "Group") "open_to" (sp_Group_open_to K) (WE0 E) (tVar 0) (tCons (tVar 2) tNil))) (gName 3) (tIfS (tAnd (tB (tDIn (tVar 3) (tVar 1))) (tAnd (tTest (tOp rNe (tDGet (tVar 1) (tVar 2)) (tVar 3))) (tAnd (tB (tCl (sp_would_rather K) (WE0 E) (tCons (tVar 0) (tCons (tVar 1) (tCons (tVar 2) (tCons (tVar 3) tNil)))))) (tB (tCl (sp_would_rather K) (WE0 E) (tCons (tVar 0) (tCons (tVar 1) (tCons (tVar 3) (tCons (tVar 2) tNil))))))))) (tRet (tC (.bl true))) tNext))
  (tRet (tC (.bl false))))
def sp_clashes (K : PySem.W.Frag) : Sp := fun vs H Q E => ∃ (p x : Addr) (a : Str) (B : Hp) (G : Grp) (kx : List (Key × V)) (ds : List (Key × D)) (m : PM), vs = [.ref p, .ref x, .str a] ∧ Same B H ∧ GAt K B p G ∧ B x = some (.dK kx) ∧ DictM K kx ds m ∧ PMOk G.names G.open m ∧ (m a).isSome = true ∧ Ret B H Q fun _ r => r = .bl (clashP G.open m a)
end Q

set_option Elab.async false
set_option linter.all false
set_option maxRecDepth 100000
set_option maxHeartbeats 4000000
namespace Q
open PySem PySem.Spec PyProof.Rows L2
local macro_rules | `(tactic| walk_at "bf") => `(tactic| first | assumption | (refine' bstep (by assumption) ?r; case r => walk_at "bf") | fail)
local macro_rules | `(tactic| walk_at "rp") => `(tactic| first | assumption | exact Rep.int _ | exact Rep.bl _ | exact Rep.non | (refine' Rep.mono (by assumption) ?r; case r => walk_at "rp") | fail)
local macro_rules | `(tactic| walk_at "hf") => `(tactic| first | assumption | exact HS.up (by assumption) (by walk_at "bf") | exact HS.get (by assumption) List.mem_cons_self | exact HS.get (by assumption) (List.mem_cons_of_mem _ List.mem_cons_self) | exact HS.get (by assumption) (List.mem_cons_of_mem _ (List.mem_cons_of_mem _ List.mem_cons_self)) | exact HS.get (by assumption) (List.mem_cons_of_mem _ (List.mem_cons_of_mem _ (List.mem_cons_of_mem _ List.mem_cons_self))) | fail)
local macro_rules | `(tactic| walk_at "sl") => `(tactic| first | assumption | exact SqL.of (by walk_at "hf") | fail)
local macro_rules | `(tactic| walk_at "st") => `(tactic| first | assumption | exact SqT.of (by walk_at "hf") | fail)
local macro_rules | `(tactic| walk_at "sz") => `(tactic| first | assumption | (refine small_le ?_; first | assumption | omega | (simp; done) | (simp; omega)) | fail)
/-! ### grow, calm -/
def wrM (xs : List Str) (m : PM) : List (List Str) := wrF xs fun a => (m a).join
/-- rows of dealings written as pairs -/
inductive WRs (B : Hp) : List V → List (List (List Str)) → Prop
  | nil : WRs B [] []
  | cons {t : Addr} {us vs : List V} {k : List (List Str)} {ks : List (List (List Str))} : B t = some (.tup us) → TRs B us k → WRs B vs ks → WRs B (.ref t :: vs) (k :: ks)
theorem WRs.mono {B B' : Hp} (s : Same B B') : ∀ {vs : List V} {ks : List (List (List Str))}, WRs B vs ks → WRs B' vs ks
  | _, _, .nil => .nil
  | _, _, .cons h t r => .cons (s _ _ h) (t.mono s) (WRs.mono s r)
theorem WRs.append {B : Hp} : ∀ {vs us : List V} {ks ls : List (List (List Str))}, WRs B vs ks → WRs B us ls → WRs B (vs ++ us) (ks ++ ls)
  | _, _, _, _, .nil, q => q
  | _, _, _, _, .cons h t r, q => .cons h t (WRs.append r q)
theorem WRs.len {B : Hp} : ∀ {vs : List V} {ks : List (List (List Str))}, WRs B vs ks → vs.length = ks.length
  | _, _, .nil => rfl
  | _, _, .cons _ _ r => by rw [List.length_cons, List.length_cons, WRs.len r]
theorem sortS_congr {xs ys : List Str} (h : xs.Perm ys) : sortS xs = sortS ys := List.Perm.eq_of_pairwise (fun _ _ _ _ h1 h2 => leS_anti h1 h2) (sortS_pw xs) (sortS_pw ys) (((sortS_perm xs).trans h).trans (sortS_perm ys).symm)
theorem wrF_congr {ks xs : List Str} {f g : Str → Option Str} (pe : ks.Perm xs) (h : ∀ a ∈ xs, f a = g a) : wrF ks f = wrF xs g := by
  unfold wrF
  rw [sortS_congr pe]
  have : ∀ {l : List Str}, (∀ a ∈ l, f a = g a) → l.filterMap (wrG f) = l.filterMap (wrG g) := by
    intro l
    induction l with
    | nil => intro _; rfl
    | cons x r ih =>
      intro hl
      rw [List.filterMap_cons, List.filterMap_cons, ih fun a m => hl a (List.mem_cons_of_mem _ m)]
      have : wrG f x = wrG g x := by unfold wrG; rw [hl x List.mem_cons_self]
      rw [this]
  exact this fun a m => h a (mem_sortS.mp m)
theorem StrK.perm {ds : List (Key × D)} {m : Nat} {ks xs : List Str} (h : StrK ds m) (hk : ds.map (·.1) = ks.map Sum.inr) (nd : xs.Nodup) (h1 : ∀ a ∈ xs, (dval ds (.inr a)).isSome = true) (h2 : ∀ a d, dval ds (.inr a) = some d → a ∈ xs) : ks.Perm xs := by
  have ndk := h.nd
  rw [hk] at ndk
  have ndk : ks.Nodup := (List.pairwise_map.mp ndk).imp fun {a b} ne z => ne (by rw [z])
  refine (List.perm_ext_iff_of_nodup ndk nd).mpr fun a => ⟨fun m => ?_, fun m => ?_⟩
  · obtain ⟨d, hd⟩ := keys_of (ds := ds) (a := a) (by rw [hk]; exact List.mem_map.mpr ⟨a, m, rfl⟩)
    exact h2 a d hd
  · obtain ⟨d, hd⟩ := Option.isSome_iff_exists.mp (h1 a m)
    have : (Sum.inr a : Key) ∈ ds.map (·.1) := List.mem_map.mpr ⟨_, dval_mem' hd, rfl⟩
    rw [hk] at this
    obtain ⟨q, mq, e⟩ := List.mem_map.mp this
    rw [← Sum.inr.inj e]
    exact mq
theorem DictM.full {K : PySem.W.Frag} {xs : List Str} {op : Str → List Str} {kx : List (Key × V)} {ds : List (Key × D)} {m : PM} (h : DictM K kx ds m) (nd : xs.Nodup) (ok : PMOk xs op m) (fl : FullP xs m) : ∃ ks, ds.map (·.1) = ks.map Sum.inr ∧ ks.length < 64 ∧ ks.Perm xs ∧ wrF ks (part (.dct ds)) = wrM xs m := by
  obtain ⟨ks, hk⟩ := h.st.st
  have pe : ks.Perm xs := h.st.perm hk nd (fun a ma => by obtain ⟨v, e⟩ := fl a ma; rw [h.rep.hasK, e]; rfl) (fun a d e => by
    rw [h.rep a] at e
    cases e2 : m a with
    | none => rw [e2] at e; cases e
    | some v => exact ok.dom a v e2)
  have hl := congrArg List.length hk
  rw [List.length_map, List.length_map] at hl
  have := h.st.le
  refine ⟨ks, hk, by omega, pe, wrF_congr pe fun a ma => ?_⟩
  obtain ⟨v, e⟩ := fl a ma
  rw [h.rep.part e, e]
  rfl
abbrev growP (G : Grp) : Nat → PM → List PM := growG G.names G.open fun m a b => tstP G.open m a b
def spr_grow (K : PySem.W.Frag) : Nat → Sp
  | 0 => fun _ _ _ _ => False
  | n + 1 => fun vs H Q _ => ∃ (p x fo : Addr) (B : Hp) (G : Grp) (kx : List (Key × V)) (ds : List (Key × D)) (m : PM) (rows : List V), vs = [.ref p, .ref x, .ref fo] ∧ Same B H ∧ GAt K B p G ∧ B x = some (.dK kx) ∧ DictM K kx ds m ∧ PMOk G.names G.open m ∧ B fo = none ∧ H fo = some (.lst rows) ∧ (waitL G.names m).length ≤ n ∧ rows.length + (growP G (n + 1) m).length ≤ 100000 ∧
    ∀ B' H' rows', HS [fo] B H B' H' [(fo, .lst (rows ++ rows'))] → WRs B' rows' ((growP G (n + 1) m).map (wrM G.names)) → Q .non H'
abbrev N_grow : List Str := ["group", "x", "found", "waiting", "a", "b", "y"]
def t_grow (n : Nat) (K : PySem.W.Frag) (E : XK) : TS := (tSeq (tAsg (tLc (iList K (tCB (rSortL K) (tCons (tMt (He.ga K "Group") "people" (sp_Group_people K) (WE0 E) (tVar 0) tNil) tNil))) (gName 4) (tB (tDNotIn (tVar 4) (tVar 1))) (tVar 4) [4]) (gName 3))
  (tSeq (tIfS (tNot (tTr K (tVar 3))) (tSeq (tDrop (tBM K "list" rAppend (tVar 2) (tCons (tCl (sp_written K) (WE0 E) (tCons (tVar 1) tNil)) tNil)))
  tRetN) tNext)
  (tSeq (tAsg (tOp (rIxL K) (tVar 3) (tC (.int 0))) (gName 4))
  (tFor (iList K (tOp rCat (tLst (tCons (tC .non) tNil)) (tMt (He.ga K "Group") "open_to" (sp_Group_open_to K) (WE0 E) (tVar 0) (tCons (tVar 4) tNil)))) (gName 5) (tSeq (tIfS (tAnd (tB (tNotN (tVar 5))) (tB (tDIn (tVar 5) (tVar 1)))) tCont tNext)
  (tSeq (tAsg (tCB rDictOf (tCons (tVar 1) tNil)) (gName 6))
  (tSeq (sDPut (tVar 6) (tVar 4) (tVar 5))
  (tSeq (tIfS (tB (tNotN (tVar 5))) (sDPut (tVar 6) (tVar 5) (tVar 4)) tNext)
  (tIfS (tAnd (tNot (tB (tCl (sp_clashes K) (WE0 E) (tCons (tVar 0) (tCons (tVar 6) (tCons (tVar 4) tNil)))))) (tOr (tB (tIsN (tVar 5))) (tNot (tB (tCl (sp_clashes K) (WE0 E) (tCons (tVar 0) (tCons (tVar 6) (tCons (tVar 5) tNil)))))))) (tDrop (tCl (spr_grow K n) (WE0 E) (tCons (tVar 0) (tCons (tVar 6) (tCons (tVar 2) tNil))))) tNext)))))))))
def sp_grow (K : PySem.W.Frag) : Sp := spr_grow K 18
end Q

set_option Elab.async false
set_option linter.all false
set_option maxRecDepth 100000
set_option maxHeartbeats 4000000
namespace Q
open PySem PySem.Spec PyProof.Rows L2
/-! ### calm -/
theorem WRs.mem {B : Hp} : ∀ {vs : List V} {ks : List (List (List Str))}, WRs B vs ks → ∀ v ∈ vs, ∃ t us k, v = .ref t ∧ B t = some (.tup us) ∧ TRs B us k ∧ k ∈ ks
  | _, _, .nil, _, m => nomatch m
  | _, _, .cons h t r, v, m => by
    rcases List.mem_cons.mp m with rfl | m
    · exact ⟨_, _, _, rfl, h, t, List.mem_cons_self⟩
    · obtain ⟨t', us, k, e1, e2, e3, e4⟩ := WRs.mem r v m
      exact ⟨t', us, k, e1, e2, e3, List.mem_cons_of_mem _ e4⟩
theorem TRs.inj {B : Hp} : ∀ {us : List V} {k k' : List (List Str)}, TRs B us k → TRs B us k' → k = k'
  | _, _, _, .nil, h => by cases h; rfl
  | _, _, _, .cons h r, q => by
    cases q with
    | cons h' r' =>
      rw [h] at h'
      have e := HO.tup.inj (Option.some.inj h')
      have : ∀ {a b : List Str}, a.map V.str = b.map V.str → a = b := fun {a b} z => by
        have := congrArg (List.map fun v : V => match v with | .str x => x | _ => Str.empty) z
        rw [List.map_map, List.map_map] at this
        have idm : ∀ l : List Str, l.map ((fun v : V => match v with | .str x => x | _ => Str.empty) ∘ V.str) = l := fun l => by
          conv => rhs; rw [← List.map_id l]
          rfl
        rw [idm, idm] at this
        exact this
      rw [this e, TRs.inj r r']
open Classical in
/-- what a value shows -/
noncomputable def keyW (B : Hp) (v : V) : List (List Str) := if h : ∃ k, ∃ t us, v = .ref t ∧ B t = some (.tup us) ∧ TRs B us k then Classical.choose h else []
theorem keyW_eq {B : Hp} {t : Addr} {us : List V} {k : List (List Str)} (e : B t = some (.tup us)) (tr : TRs B us k) : keyW B (.ref t) = k := by
  unfold keyW
  have h : ∃ k, ∃ t' us, V.ref t = .ref t' ∧ B t' = some (.tup us) ∧ TRs B us k := ⟨k, t, us, rfl, e, tr⟩
  rw [dif_pos h]
  obtain ⟨t', us', e1, e2, e3⟩ := Classical.choose_spec h
  cases e1
  rw [e] at e2
  cases e2
  exact e3.inj tr
theorem WRs.keys {B : Hp} : ∀ {vs : List V} {ks : List (List (List Str))}, WRs B vs ks → vs.map (keyW B) = ks
  | _, _, .nil => rfl
  | _, _, .cons h t r => by rw [List.map_cons, keyW_eq h t, WRs.keys r]
/-- the calm dealings, written as pairs, in sorted order -/
def calmW (xs : List Str) (op : Str → List Str) : List (List (List Str)) := sortTT ((calms xs op).map (wrM xs))
abbrev N_calm : List Str := ["group", "found"]
def t_calm (K : PySem.W.Frag) (E : XK) : TS := (tSeq (tDrop (tCl (sp_check_size K) (WE0 E) (tCons (tVar 0) (tCons (tC (.int 10)) tNil))))
  (tSeq (tAsg (tLst tNil) (gName 1))
  (tSeq (tDrop (tCl (sp_grow K) (WE0 E) (tCons (tVar 0) (tCons tDNewK (tCons (tVar 1) tNil)))))
  (tRet (tCB (rSortX K) (tCons (tVar 1) tNil))))))
def sp_calm (K : PySem.W.Frag) : Sp := fun vs H Q E => ∃ (p : Addr) (B : Hp) (G : Grp), vs = [.ref p] ∧ Same B H ∧ GAt K B p G ∧ (G.names.length ≤ 10 → ∀ B' H' l ys, HS [] B H B' H' [(l, .lst ys)] → WRs B' ys (calmW G.names G.open) → Q (.ref l) H') ∧ (10 < G.names.length → Thr K B H E "TooMany" [("most", .int 10)])
end Q

set_option Elab.async false
set_option linter.all false
set_option maxRecDepth 100000
set_option maxHeartbeats 4000000
namespace Q
open PySem PySem.Spec PyProof.Rows L2
local macro_rules | `(tactic| walk_at "bf") => `(tactic| first | assumption | (refine' bstep (by assumption) ?r; case r => walk_at "bf") | fail)
local macro_rules | `(tactic| walk_at "rp") => `(tactic| first | assumption | exact Rep.int _ | exact Rep.bl _ | exact Rep.non | (refine' Rep.mono (by assumption) ?r; case r => walk_at "rp") | fail)
local macro_rules | `(tactic| walk_at "hf") => `(tactic| first | assumption | exact HS.up (by assumption) (by walk_at "bf") | exact HS.get (by assumption) List.mem_cons_self | exact HS.get (by assumption) (List.mem_cons_of_mem _ List.mem_cons_self) | exact HS.get (by assumption) (List.mem_cons_of_mem _ (List.mem_cons_of_mem _ List.mem_cons_self)) | exact HS.get (by assumption) (List.mem_cons_of_mem _ (List.mem_cons_of_mem _ (List.mem_cons_of_mem _ List.mem_cons_self))) | fail)
local macro_rules | `(tactic| walk_at "sl") => `(tactic| first | assumption | exact SqL.of (by walk_at "hf") | fail)
local macro_rules | `(tactic| walk_at "st") => `(tactic| first | assumption | exact SqT.of (by walk_at "hf") | fail)
local macro_rules | `(tactic| walk_at "sz") => `(tactic| first | assumption | (refine small_le ?_; first | assumption | omega | (simp; done) | (simp; omega)) | fail)
/-! ### the law's search -/
theorem mem_prsOf {xs : List Str} {f : Str → List Str} {a b : Str} (ma : a ∈ xs) (mb : b ∈ f a) (h : ltS a b) : [a, b] ∈ prsOf xs f := by
  unfold prsOf
  refine List.mem_flatMap.mpr ⟨a, mem_sortS.mpr ma, ?_⟩
  unfold prsF
  exact List.mem_map.mpr ⟨b, List.mem_filter.mpr ⟨mem_sortS.mpr mb, decide_eq_true h⟩, rfl⟩
theorem quarB_qP {op : Str → List Str} {ds : List (Key × D)} {m : PM} (h : RepM ds m) {a b : Str} {va vb : Option Str} (ea : m a = some va) (eb : m b = some vb) : quarB op (.dct ds) a b = qP op m a b := by
  unfold quarB rather qP
  rw [h.part ea, h.part eb, ea, eb]
theorem quars_calm {xs : List Str} {op : Str → List Str} {ds : List (Key × D)} {m : PM} (mu : Mut xs op) (h : RepM ds m) (ok : PMOk xs op m) (fl : FullP xs m) : (quars xs op (.dct ds)).isEmpty = calmM xs op m := by
  rw [Bool.eq_iff_iff, List.isEmpty_iff, calmM_true]
  unfold quars
  rw [List.filter_eq_nil_iff]
  constructor
  · intro z a ma b mb
    obtain ⟨mbx, mab⟩ := mu.fi a ma b mb
    obtain ⟨va, ea⟩ := fl a ma
    obtain ⟨vb, eb⟩ := fl b mbx
    have hab : a ≠ b := fun e => mu.fs a ma (e ▸ mb)
    cases hq : qP op m a b with
    | false => rfl
    | true =>
      rcases str_tri hab with l | l
      · have := z _ (mem_prsOf ma mb l)
        exact absurd (show quarB op (.dct ds) a b = true by rw [quarB_qP h ea eb]; exact hq) this
      · have := z _ (mem_prsOf mbx mab l)
        exact absurd (show quarB op (.dct ds) b a = true by rw [quarB_qP h eb ea]; exact qP_symm ok hq) this
  · intro z k mk hk
    obtain ⟨a, b, rfl, ma, mb, _⟩ := prsOf_get mk
    obtain ⟨va, ea⟩ := fl a ma
    obtain ⟨vb, eb⟩ := fl b (mu.fi a ma b mb).1
    have hk : quarB op (.dct ds) a b = true := hk
    rw [quarB_qP h ea eb, z a ma b mb] at hk
    cases hk
def lcal (xs : List Str) (f : Str → List Str) (n : Nat) (m : PM) : List PM := (leaves xs f n m).filter (calmM xs f)
/-- dealings as dicts -/
inductive DRs (K : PySem.W.Frag) (B : Hp) : List V → List PM → Prop
  | nil : DRs K B [] []
  | cons {t : Addr} {kx : List (Key × V)} {ds : List (Key × D)} {m : PM} {vs : List V} {ms : List PM} : B t = some (.dK kx) → DictM K kx ds m → DRs K B vs ms → DRs K B (.ref t :: vs) (m :: ms)
theorem DRs.mono {K : PySem.W.Frag} {B B' : Hp} (s : Same B B') : ∀ {vs : List V} {ms : List PM}, DRs K B vs ms → DRs K B' vs ms
  | _, _, .nil => .nil
  | _, _, .cons h d r => .cons (s _ _ h) d (DRs.mono s r)
theorem DRs.append {K : PySem.W.Frag} {B : Hp} : ∀ {vs us : List V} {ms ls : List PM}, DRs K B vs ms → DRs K B us ls → DRs K B (vs ++ us) (ms ++ ls)
  | _, _, _, _, .nil, q => q
  | _, _, _, _, .cons h d r, q => .cons h d (DRs.append r q)
theorem DRs.len {K : PySem.W.Frag} {B : Hp} : ∀ {vs : List V} {ms : List PM}, DRs K B vs ms → vs.length = ms.length
  | _, _, .nil => rfl
  | _, _, .cons _ _ r => by rw [List.length_cons, List.length_cons, DRs.len r]
theorem DRs.at {K : PySem.W.Frag} {B : Hp} : ∀ {vs : List V} {ms : List PM} {j : Nat} {v : V}, DRs K B vs ms → vs[j]? = some v → ∃ t kx ds m, v = .ref t ∧ ms[j]? = some m ∧ B t = some (.dK kx) ∧ DictM K kx ds m
  | _, _, _, _, .nil, e => by simp at e
  | _, _, 0, _, .cons h d _, e => by simp at e; subst e; exact ⟨_, _, _, _, rfl, rfl, h, d⟩
  | _, _, j + 1, v, .cons _ _ r, e => by
    obtain ⟨t, kx, ds, m, e1, e2, e3, e4⟩ := DRs.at r (j := j) (v := v) (by simpa using e)
    exact ⟨t, kx, ds, m, e1, by simpa using e2, e3, e4⟩
def spr__law_grow (K : PySem.W.Frag) : Nat → Sp
  | 0 => fun _ _ _ _ => False
  | n + 1 => fun vs H Q _ => ∃ (mu or x fo : Addr) (B : Hp) (xs : List Str) (f : Str → List Str) (kvm kx : List (Key × V)) (ds : List (Key × D)) (m : PM) (rows : List V), vs = [.ref mu, .ref or, .ref x, .ref fo] ∧ Same B H ∧ B mu = some (.dK kvm) ∧ WAt B xs kvm f ∧ Mut xs f ∧ B or = some (.lst ((sortS xs).map V.str)) ∧ B x = some (.dK kx) ∧ DictM K kx ds m ∧ PMOk xs f m ∧ B fo = none ∧ H fo = some (.lst rows) ∧ (waitL xs m).length ≤ n ∧ rows.length + (lcal xs f (n + 1) m).length ≤ 100000 ∧
    ∀ B' H' rows', HS [fo] B H B' H' [(fo, .lst (rows ++ rows'))] → DRs K B' rows' (lcal xs f (n + 1) m) → Q .non H'
abbrev N__law_grow : List Str := ["_law_mutual_here", "_law_order", "_law_x", "_law_found", "_law_waiting", "_law_a", "_law_b", "_law_y"]
def t__law_grow (n : Nat) (K : PySem.W.Frag) (E : XK) : TS := (tSeq (tAsg (tLc (iList K (tVar 1)) (gName 5) (tB (tDNotIn (tVar 5) (tVar 2))) (tVar 5) [5]) (gName 4))
  (tSeq (tIfS (tNot (tTr K (tVar 4))) (tSeq (tIfS (tTest (tOp (rEqD K) (tCl (sp__law_quarrels K) (WE0 E) (tCons (tVar 0) (tCons (tVar 2) tNil))) (tLst tNil))) (tDrop (tBM K "list" rAppend (tVar 3) (tCons (tVar 2) tNil))) tNext)
  tRetN) tNext)
  (tSeq (tAsg (tOp (rIxL K) (tVar 4) (tC (.int 0))) (gName 5))
  (tFor (iList K (tOp rCat (tLst (tCons (tC .non) tNil)) (tDGet (tVar 0) (tVar 5)))) (gName 6) (tIfS (tOr (tB (tIsN (tVar 6))) (tB (tDNotIn (tVar 6) (tVar 2)))) (tSeq (tAsg (tCB rDictOf (tCons (tVar 2) tNil)) (gName 7))
  (tSeq (sDPut (tVar 7) (tVar 5) (tVar 6))
  (tSeq (tIfS (tB (tNotN (tVar 6))) (sDPut (tVar 7) (tVar 6) (tVar 5)) tNext)
  (tDrop (tCl (spr__law_grow K n) (WE0 E) (tCons (tVar 0) (tCons (tVar 1) (tCons (tVar 7) (tCons (tVar 3) tNil))))))))) tNext)))))
def sp__law_grow (K : PySem.W.Frag) : Sp := spr__law_grow K 18
abbrev N__law_all_calm : List Str := ["_law_mutual_here", "_law_found"]
def t__law_all_calm (K : PySem.W.Frag) (E : XK) : TS := (tSeq (tAsg (tLst tNil) (gName 1))
  (tSeq (tDrop (tCl (sp__law_grow K) (WE0 E) (tCons (tVar 0) (tCons (tCB (rSortL K) (tCons (tCB rListD (tCons (tVar 0) tNil)) tNil)) (tCons tDNewK (tCons (tVar 1) tNil))))))
  (tRet (tVar 1))))
def sp__law_all_calm (K : PySem.W.Frag) : Sp := fun vs H Q E => ∃ (mu : Addr) (B : Hp) (xs : List Str) (f : Str → List Str) (kvm : List (Key × V)), vs = [.ref mu] ∧ Same B H ∧ B mu = some (.dK kvm) ∧ WAt B xs kvm f ∧ Mut xs f ∧ xs.length ≤ 10 ∧
  ∀ B' H' l rows, HS [] B H B' H' [(l, .lst rows)] → DRs K B' rows (calms xs f) → Q (.ref l) H'
abbrev N__law_written : List Str := ["_law_x", "_law_a"]
def t__law_written (K : PySem.W.Frag) (E : XK) : TS := (tRet (tCB (rTupOf K) (tCons (tLc (iList K (tCB (rSortL K) (tCons (tCB rListD (tCons (tVar 0) tNil)) tNil))) (gName 1) (tAnd (tB (tNotN (tDGet (tVar 0) (tVar 1)))) (tTest (tOp rLtS (tVar 1) (tDGet (tVar 0) (tVar 1))))) (tTup (tCons (tVar 1) (tCons (tDGet (tVar 0) (tVar 1)) tNil))) [1]) tNil)))
def sp__law_written (K : PySem.W.Frag) : Sp := sp_written K
/-! ### rows of written dealings are equal -/
def wrD (k : List (List Str)) : PyData := .tuple (k.map fun p => PyData.tuple (p.map PyData.str))
theorem WRs.dp {K : PySem.W.Frag} {B H : Hp} (s : Same B H) : ∀ {vs : List V} {ks : List (List (List Str))}, WRs B vs ks → DpAll K H vs (ks.map wrD)
  | _, _, .nil => .nil
  | _, _, .cons h t r => .cons (.tup (SqT.of (s _ _ h)) (t.dp s)) (WRs.dp s r)
end Q

set_option Elab.async false
set_option linter.all false
set_option maxRecDepth 100000
set_option maxHeartbeats 4000000
namespace Q
open PySem PySem.Spec PyProof.Rows L2
/-! ### more of the order of texts -/
def rLeS : R2 := fun x y H Q => ∃ i j, x = .str i ∧ y = .str j ∧ Q (.bl (!decide (j.cps.toList < i.cps.toList))) H
def rGtS : R2 := fun x y H Q => ∃ i j, x = .str i ∧ y = .str j ∧ Q (.bl (decide (j.cps.toList < i.cps.toList))) H
def rGeS : R2 := fun x y H Q => ∃ i j, x = .str i ∧ y = .str j ∧ Q (.bl (!decide (i.cps.toList < j.cps.toList))) H
section
variable {X : Cx} {x y : Str} {H : Hp} {Q : VK}
def rLenX (K : PySem.W.Frag) : List V → Hp → VK → Prop := fun xs H Q => rLenA K xs H Q ∨ rLenD xs H Q
end
end Q

set_option Elab.async false
set_option linter.all false
set_option maxRecDepth 100000
set_option maxHeartbeats 4000000
namespace Q
open PySem PySem.Spec PyProof.Rows L2
/-! ### y = [..], the name a cell -/
end Q

set_option Elab.async false
set_option linter.all false
set_option maxRecDepth 100000
set_option maxHeartbeats 4000000
namespace Q
open PySem PySem.Spec PyProof.Rows L2
local macro_rules | `(tactic| walk_at "bf") => `(tactic| first | assumption | (refine' bstep (by assumption) ?r; case r => walk_at "bf") | fail)
local macro_rules | `(tactic| walk_at "rp") => `(tactic| first | assumption | exact Rep.int _ | exact Rep.bl _ | exact Rep.non | (refine' Rep.mono (by assumption) ?r; case r => walk_at "rp") | fail)
local macro_rules | `(tactic| walk_at "hf") => `(tactic| first | assumption | exact HS.up (by assumption) (by walk_at "bf") | exact HS.get (by assumption) List.mem_cons_self | exact HS.get (by assumption) (List.mem_cons_of_mem _ List.mem_cons_self) | exact HS.get (by assumption) (List.mem_cons_of_mem _ (List.mem_cons_of_mem _ List.mem_cons_self)) | exact HS.get (by assumption) (List.mem_cons_of_mem _ (List.mem_cons_of_mem _ (List.mem_cons_of_mem _ List.mem_cons_self))) | fail)
local macro_rules | `(tactic| walk_at "sl") => `(tactic| first | assumption | exact SqL.of (by walk_at "hf") | fail)
local macro_rules | `(tactic| walk_at "st") => `(tactic| first | assumption | exact SqT.of (by walk_at "hf") | fail)
local macro_rules | `(tactic| walk_at "sz") => `(tactic| first | assumption | (refine small_le ?_; first | assumption | omega | (simp; done) | (simp; omega)) | fail)
/-! ### a dealing that is written as pairs -/
def updO (m : Str → Option Str) (a : Str) (v : Option Str) : Str → Option Str := fun c => if c = a then v else m c
def zipO (xs : List Str) (m : Str → Option Str) : List (Key × V) := xs.map fun a => (.inr a, optV (m a))
def zipOD (xs : List Str) (m : Str → Option Str) : List (Key × D) := xs.map fun a => (.inr a, optD (m a))
theorem zipO_rep {K : PySem.W.Frag} {m : Str → Option Str} {xs : List Str} (h : ∀ a ∈ xs, ∀ b, m a = some b → b.length ≤ 1000000) : SclK K (zipO xs m) (zipOD xs m) := fun B => by
  induction xs with
  | nil => exact .nil
  | cons x r ih =>
    refine .cons ?_ (ih fun a ma => h a (List.mem_cons_of_mem _ ma))
    cases e : m x with
    | none => exact .non
    | some b => exact .str (h x List.mem_cons_self b e)
theorem zipOD_val {m : Str → Option Str} {x : Str} {xs : List Str} (h : x ∈ xs) : dval (zipOD xs m) (.inr x) = some (optD (m x)) := dval_map (g := fun a => optD (m a)) h
def fromGo (G : Grp) : List D → Str → (Str → Option Str) → Option (Str → Option Str)
  | [], _, m => some m
  | .tup [.str a, .str b] :: r, last, m => if (decide (a ∈ G.names) && decide (b ∈ G.open a)) && (!decide (b.cps.toList < a.cps.toList) && (decide (last.cps.toList < a.cps.toList) && (decide (m a = none) && decide (m b = none)))) then fromGo G r a (updO (updO m a (some b)) b (some a)) else none
  | _ :: _, _, _ => none
def fromP (G : Grp) : D → Option (Str → Option Str)
  | .tup ds => fromGo G ds "" fun _ => none
  | _ => none
abbrev N_from_pairs : List Str := ["group", "pairs", "x", "last", "row", "a", "b"]
def t_from_pairs (K : PySem.W.Frag) (E : XK) : TS := (tSeq (tIfS (tNot (tB (tCB (rIsi K) (tCons (tVar 1) (tCons (tC (.ty "tuple")) tNil))))) (tRz0 (He.ga K "NoDealing") (WE0 E)) tNext)
  (tSeq (tAsg (tDc (iList K (tMt (He.ga K "Group") "people" (sp_Group_people K) (WE0 E) (tVar 0) tNil)) (gName 5) tYes (tVar 5) (tC .non) [5]) (gName 2))
  (tSeq (tAsg (tC (.str "")) (gName 3))
  (tSeq (tFor (iTup K (tVar 1)) (gName 4) (tSeq (tIfS (tOr (tNot (tB (tCB (rIsi K) (tCons (tVar 4) (tCons (tC (.ty "tuple")) tNil))))) (tTest (tOp (rNotInG (He.ga K "Group") (sp_Group___contains__ K)) (tVar 4) (tVar 0)))) (tRz0 (He.ga K "NoDealing") (WE0 E)) tNext)
  (tSeq (tAsg (tVar 4) (gTup K 2 (gCons (gName 5) (gCons (gName 6) gNil))))
  (tSeq (tIfS (tOr (tTest (tOp rGtS (tVar 5) (tVar 6))) (tOr (tTest (tOp rLeS (tVar 5) (tVar 3))) (tOr (tB (tNotN (tDGet (tVar 2) (tVar 5)))) (tB (tNotN (tDGet (tVar 2) (tVar 6))))))) (tRz0 (He.ga K "NoDealing") (WE0 E)) tNext)
  (tSeq (sDPut (tVar 2) (tVar 5) (tVar 6))
  (tSeq (sDPut (tVar 2) (tVar 6) (tVar 5))
  (tAsg (tVar 5) (gName 3))))))))
  (tRet (tVar 2))))))
def sp_from_pairs (K : PySem.W.Frag) : Sp := fun vs H Q E => ∃ (p : Addr) (v : V) (B : Hp) (G : Grp) (d : D), vs = [.ref p, v] ∧ Same B H ∧ GAt K B p G ∧ Rep K B v d ∧ (∀ m, fromP G d = some m → ∀ B' H' x, HS [] B H B' H' [(x, .dK (zipO G.names m))] → Q (.ref x) H') ∧ (fromP G d = none → Thr0 K B H E "NoDealing")
/-! ### what was written is read back -/
def pairD : List Str → D := fun k => .tup (k.map D.str)
def wrT (k : List (List Str)) : D := .tup (k.map pairD)
end Q

set_option Elab.async false
set_option linter.all false
set_option maxRecDepth 100000
set_option maxHeartbeats 4000000
namespace Q
open PySem PySem.Spec PyProof.Rows L2
local macro_rules | `(tactic| walk_at "bf") => `(tactic| first | assumption | (refine' bstep (by assumption) ?r; case r => walk_at "bf") | fail)
local macro_rules | `(tactic| walk_at "rp") => `(tactic| first | assumption | exact Rep.int _ | exact Rep.bl _ | exact Rep.non | (refine' Rep.mono (by assumption) ?r; case r => walk_at "rp") | fail)
local macro_rules | `(tactic| walk_at "hf") => `(tactic| first | assumption | exact HS.up (by assumption) (by walk_at "bf") | exact HS.get (by assumption) List.mem_cons_self | exact HS.get (by assumption) (List.mem_cons_of_mem _ List.mem_cons_self) | exact HS.get (by assumption) (List.mem_cons_of_mem _ (List.mem_cons_of_mem _ List.mem_cons_self)) | exact HS.get (by assumption) (List.mem_cons_of_mem _ (List.mem_cons_of_mem _ (List.mem_cons_of_mem _ List.mem_cons_self))) | fail)
local macro_rules | `(tactic| walk_at "sl") => `(tactic| first | assumption | exact SqL.of (by walk_at "hf") | fail)
local macro_rules | `(tactic| walk_at "st") => `(tactic| first | assumption | exact SqT.of (by walk_at "hf") | fail)
local macro_rules | `(tactic| walk_at "sz") => `(tactic| first | assumption | (refine small_le ?_; first | assumption | omega | (simp; done) | (simp; omega)) | fail)
/-! ### the law's own comparison -/
theorem x_iteT {A B : Prop} {b : Bool} (hb : b = true) (h : A) : if b = true then A else B := by rw [if_pos hb]; exact h
theorem x_iteF {A B : Prop} {b : Bool} (hb : b = false) (h : B) : if b = true then A else B := by rw [if_neg (by rw [hb]; decide)]; exact h

def sameD : Nat → D → D → Bool
  | 0, _, _ => false
  | _ + 1, a, .non => match a with | .non => true | _ => false
  | _ + 1, a, .bl b => match a with | .bl c => decide (c = b) | _ => false
  | _ + 1, a, .int i => match a with | .int j => decide (j = i) | _ => false
  | _ + 1, a, .str x => match a with | .str y => decide (y = x) | _ => false
  | n + 1, a, .tup ds => match a with | .tup es => decide (es.length = ds.length) && (es.zip ds).all fun p => sameD n p.1 p.2 | _ => false
  | n + 1, a, .lst ds => match a with | .lst es => decide (es.length = ds.length) && (es.zip ds).all fun p => sameD n p.1 p.2 | _ => false
  | n + 1, a, .dct ds => match a with | .dct es => decide (es.length = ds.length) && ds.all (fun p => match dval es p.1 with | some e => sameD n e p.2 | none => false) | _ => false
  | _ + 1, _, .obj _ _ => false
/-- no dict within -/
def D.dfree (d : D) : Prop := ∀ (K : PySem.W.Frag) (B : Hp) (v : V) (x : Addr) (kvs : List (Key × V)), B x = some (.dK kvs) → Rep K B v d → Rep K (del B x) v d
/-- what may be due: at most n deep, dicts only of what has no dict within -/
def OkS : Nat → D → Prop
  | 0, _ => False
  | _ + 1, .non => True
  | _ + 1, .bl _ => True
  | _ + 1, .int _ => True
  | _ + 1, .str _ => True
  | n + 1, .tup ds => ds.length ≤ 100000 ∧ ∀ d ∈ ds, OkS n d
  | n + 1, .lst ds => ds.length ≤ 100000 ∧ ∀ d ∈ ds, OkS n d
  | n + 1, .dct ds => (∃ ks : List Str, ds.map (·.1) = ks.map Sum.inr) ∧ (ds.map (·.1)).Nodup ∧ ∀ q ∈ ds, q.2.dfree ∧ OkS n q.2
  | _ + 1, .obj _ _ => False
/-- what may be told against it -/
def OkT : Nat → D → D → Prop
  | 0, _, _ => True
  | n + 1, d, e => match d, e with
    | .tup es, .tup ds => ∀ (j : Nat) d e, es[j]? = some e → ds[j]? = some d → OkT n e d
    | .lst es, .lst ds => ∀ (j : Nat) d e, es[j]? = some e → ds[j]? = some d → OkT n e d
    | .dct es, .dct ds => ∀ (k : Key) d e, (k, d) ∈ ds → dval es k = some e → e.dfree ∧ OkT n e d
    | _, _ => True
def spr__law_same (K : PySem.W.Frag) : Nat → Sp
  | 0 => fun _ _ _ _ => False
  | n + 1 => fun vs H Q _ => ∃ (v u : V) (B : Hp) (d e : D), vs = [v, u] ∧ Same B H ∧ Rep K B v d ∧ Rep K B u e ∧ OkS (n + 1) e ∧ OkT (n + 1) d e ∧ Ret B H Q fun _ r => r = .bl (sameD (n + 1) d e)
abbrev N__law_same : List Str := ["_law_actual", "_law_due_here", "_law_k", "_law_key"]
def t__law_same (n : Nat) (K : PySem.W.Frag) (E : XK) : TS := (tSeq (tIfS (tB (tIsN (tVar 1))) (tRet (tIsN (tVar 0))) tNext)
  (tSeq (tIfS (tB (tCB (rIsi K) (tCons (tVar 1) (tCons (tC (.ty "bool")) tNil)))) (tRet (tAndV (tCB (rIsi K) (tCons (tVar 0) (tCons (tC (.ty "bool")) tNil))) (tOp rEq (tVar 0) (tVar 1)))) tNext)
  (tSeq (tIfS (tB (tCB (rIsi K) (tCons (tVar 1) (tCons (tC (.ty "int")) tNil)))) (tRet (tAndV (tCl (sp__law_is_integer K) (WE0 E) (tCons (tVar 0) tNil)) (tOp rEq (tVar 0) (tVar 1)))) tNext)
  (tSeq (tIfS (tB (tCB (rIsi K) (tCons (tVar 1) (tCons (tC (.ty "str")) tNil)))) (tRet (tAndV (tCB (rIsi K) (tCons (tVar 0) (tCons (tC (.ty "str")) tNil))) (tOp rEq (tVar 0) (tVar 1)))) tNext)
  (tSeq (tIfS (tAnd (tB (tCB (rIsi K) (tCons (tVar 1) (tCons (tC (.ty "tuple")) tNil)))) (tNot (tB (tCB (rIsi K) (tCons (tVar 0) (tCons (tC (.ty "tuple")) tNil)))))) (tRet (tC (.bl false))) tNext)
  (tSeq (tIfS (tAnd (tB (tCB (rIsi K) (tCons (tVar 1) (tCons (tC (.ty "list")) tNil)))) (tNot (tB (tCB (rIsi K) (tCons (tVar 0) (tCons (tC (.ty "list")) tNil)))))) (tRet (tC (.bl false))) tNext)
  (tSeq (tIfS (tOr (tB (tCB (rIsi K) (tCons (tVar 1) (tCons (tC (.ty "tuple")) tNil)))) (tB (tCB (rIsi K) (tCons (tVar 1) (tCons (tC (.ty "list")) tNil))))) (tSeq (tIfS (tTest (tOp rNe (tCB (rLenX K) (tCons (tVar 0) tNil)) (tCB (rLenX K) (tCons (tVar 1) tNil)))) (tRet (tC (.bl false))) tNext)
  (tSeq (tFor (iRng1 (tCons (tCB (rLenX K) (tCons (tVar 1) tNil)) tNil)) (gName 2) (tIfS (tNot (tB (tCl (spr__law_same K n) (WE0 E) (tCons (tOp (rIx K) (tVar 0) (tVar 2)) (tCons (tOp (rIx K) (tVar 1) (tVar 2)) tNil))))) (tRet (tC (.bl false))) tNext))
  (tRet (tC (.bl true))))) tNext)
  (tSeq (tIfS (tB (tCB (rIsi K) (tCons (tVar 1) (tCons (tC (.ty "dict")) tNil)))) (tSeq (tIfS (tOr (tNot (tB (tCB (rIsi K) (tCons (tVar 0) (tCons (tC (.ty "dict")) tNil))))) (tTest (tOp rNe (tCB (rLenX K) (tCons (tVar 0) tNil)) (tCB (rLenX K) (tCons (tVar 1) tNil))))) (tRet (tC (.bl false))) tNext)
  (tSeq (tLock (tFor (iKeys (tVar 1)) (gName 3) (tIfS (tOr (tB (tDNotIn (tVar 3) (tVar 0))) (tNot (tB (tCl (spr__law_same K n) (WE0 E) (tCons (tDGet (tVar 0) (tVar 3)) (tCons (tDGet (tVar 1) (tVar 3)) tNil)))))) (tRet (tC (.bl false))) tNext)))
  (tRet (tC (.bl true))))) tNext)
  (tRet (tOp rEq (tVar 0) (tVar 1)))))))))))
theorem atI_natE {xs : List V} {i : Nat} {x : V} (h : xs[i]? = some x) : atI xs (i : Nat) = some x := by
  obtain ⟨hi, e⟩ := List.getElem?_eq_some_iff.mp h
  rw [atI_nat hi, e]
def sp__law_same (K : PySem.W.Frag) : Sp := spr__law_same K 90
end Q

set_option Elab.async false
set_option linter.all false
set_option maxRecDepth 100000
set_option maxHeartbeats 4000000
namespace Q
open PySem PySem.Spec PyProof.Rows L2
/-! ### the plain law: what the law would have read, and what is read -/
theorem sortS_lt {xs : List Str} (nd : xs.Nodup) : (sortS xs).Pairwise ltS := by
  have h1 := sortS_pw xs
  have h2 : (sortS xs).Pairwise fun a b => a ≠ b := sortS_nodup nd
  exact (h1.and h2).imp fun z => ltS_iff.mpr z
def dueGo (xs : List Str) (f : Str → List Str) : List D → (Str → Option Str) → Option (Str → Option Str)
  | [], m => some m
  | .tup [.str a, .str b] :: r, m => if (decide (a ∈ xs) && decide (b ∈ f a)) && (decide (m a = none) && decide (m b = none)) then dueGo xs f r (updO (updO m a (some b)) b (some a)) else none
  | _ :: _, _ => none
theorem dueGo_step {xs : List Str} {f : Str → List Str} {a b : Str} {r : List D} {m : Str → Option Str} : dueGo xs f (.tup [.str a, .str b] :: r) m = if (decide (a ∈ xs) && decide (b ∈ f a)) && (decide (m a = none) && decide (m b = none)) then dueGo xs f r (updO (updO m a (some b)) b (some a)) else none := by
  conv => lhs; unfold dueGo
def isPr : D → Bool
  | .tup [.str _, .str _] => true
  | _ => false
theorem isPr_true {d : D} (h : isPr d = true) : ∃ a b, d = .tup [.str a, .str b] := by
  unfold isPr at h
  split at h
  · exact ⟨_, _, rfl⟩
  · cases h
theorem dueGo_bad {xs : List Str} {f : Str → List Str} {d : D} {r : List D} {m : Str → Option Str} (h : isPr d = false) : dueGo xs f (d :: r) m = none := by
  unfold dueGo
  split
  · rename_i e; cases e
  · rename_i e; cases e; cases h
  · rfl
def InvD (xs : List Str) (f : Str → List Str) (m : Str → Option Str) : Prop := ∀ a b, m a = some b → a ∈ xs ∧ b ∈ f a ∧ m b = some a
def hdLt (k l : List Str) : Prop := ltS (k.headD "") (l.headD "")
/-- what the law would have read of a row of pairs -/
def DueOk (xs : List Str) (f : Str → List Str) (d : D) (m : Str → Option Str) : Prop := ∃ ds, d = .tup ds ∧ dueGo xs f ds (fun _ => none) = some m ∧ (wrF xs m).map pairD = ds
theorem dueGo_congr {xs : List Str} {f g : Str → List Str} (h : ∀ a ∈ xs, f a = g a) : ∀ {ds : List D} {m : Str → Option Str}, dueGo xs f ds m = dueGo xs g ds m
  | [], _ => rfl
  | d :: r, m => by
    cases hp : isPr d with
    | false => rw [dueGo_bad hp, dueGo_bad hp]
    | true =>
      obtain ⟨a, b, rfl⟩ := isPr_true hp
      rw [dueGo_step, dueGo_step]
      by_cases ma : a ∈ xs
      · rw [h a ma, dueGo_congr h]
      · rw [decide_eq_false ma, Bool.false_and, Bool.false_and]
        rfl
theorem DueOk.congr {xs : List Str} {f g : Str → List Str} (h : ∀ a ∈ xs, f a = g a) {d : D} {m : Str → Option Str} (k : DueOk xs f d m) : DueOk xs g d m := by
  obtain ⟨ds, e, h1, h2⟩ := k
  exact ⟨ds, e, by rw [← dueGo_congr h]; exact h1, h2⟩
end Q

set_option Elab.async false
set_option linter.all false
set_option maxRecDepth 100000
set_option maxHeartbeats 4000000
namespace Q
open PySem PySem.Spec PyProof.Rows L2
local macro_rules | `(tactic| walk_at "bf") => `(tactic| first | assumption | (refine' bstep (by assumption) ?r; case r => walk_at "bf") | fail)
local macro_rules | `(tactic| walk_at "rp") => `(tactic| first | assumption | exact Rep.int _ | exact Rep.bl _ | exact Rep.non | (refine' Rep.mono (by assumption) ?r; case r => walk_at "rp") | fail)
local macro_rules | `(tactic| walk_at "hf") => `(tactic| first | assumption | exact HS.up (by assumption) (by walk_at "bf") | exact HS.get (by assumption) List.mem_cons_self | exact HS.get (by assumption) (List.mem_cons_of_mem _ List.mem_cons_self) | exact HS.get (by assumption) (List.mem_cons_of_mem _ (List.mem_cons_of_mem _ List.mem_cons_self)) | exact HS.get (by assumption) (List.mem_cons_of_mem _ (List.mem_cons_of_mem _ (List.mem_cons_of_mem _ List.mem_cons_self))) | fail)
local macro_rules | `(tactic| walk_at "sl") => `(tactic| first | assumption | exact SqL.of (by walk_at "hf") | fail)
local macro_rules | `(tactic| walk_at "st") => `(tactic| first | assumption | exact SqT.of (by walk_at "hf") | fail)
local macro_rules | `(tactic| walk_at "sz") => `(tactic| first | assumption | (refine small_le ?_; first | assumption | omega | (simp; done) | (simp; omega)) | fail)
theorem Deal.keys {xs : List Str} {op : Str → List Str} {ds : List (Key × D)} {m : Nat} (dl : Deal xs op (.dct ds)) (nd : xs.Nodup) (st : StrK ds m) : ∃ ks : List Str, ds.map (·.1) = ks.map Sum.inr ∧ ks.Perm xs ∧ SclD ds := by
  obtain ⟨ks, hk⟩ := st.st
  obtain ⟨ds', e, hlen, hsome⟩ := sameKeys_dct dl.sk
  cases e
  have ndk := st.nd
  rw [hk] at ndk
  have ndk : ks.Nodup := (List.pairwise_map.mp ndk).imp fun {a b} ne z => ne (by rw [z])
  have hl := congrArg List.length hk
  rw [List.length_map, List.length_map] at hl
  have inK : ∀ {a : Str} {d : D}, dval ds (.inr a) = some d → a ∈ ks := fun {a d} e => by
    have : (Sum.inr a : Key) ∈ ds.map (·.1) := List.mem_map.mpr ⟨_, dval_mem' e, rfl⟩
    rw [hk] at this
    obtain ⟨y, my, e⟩ := List.mem_map.mp this
    rw [← Sum.inr.inj e]
    exact my
  have h1 : ∀ x ∈ xs, x ∈ ks := fun x mx => by
    obtain ⟨d, hd⟩ := Option.isSome_iff_exists.mp (hsome x mx)
    exact inK hd
  have h2 : ∀ x ∈ ks, x ∈ xs := fun x mx => Classical.byContradiction fun z => by
    have := nodup_len (xs := x :: xs) (ys := ks) (List.nodup_cons.mpr ⟨z, nd⟩) fun y my => by
      rcases List.mem_cons.mp my with rfl | my
      · exact mx
      · exact h1 y my
    rw [List.length_cons] at this
    omega
  refine ⟨ks, hk, (List.perm_ext_iff_of_nodup ndk nd).mpr fun a => ⟨h2 a, h1 a⟩, fun a d e => ?_⟩
  rcases dl.dvals (h2 a (inK e)) with z | ⟨c, z, _⟩
  · rw [z] at e; exact .inl (Option.some.inj e).symm
  · rw [z] at e; exact .inr ⟨c, (Option.some.inj e).symm⟩
theorem Deal.mate {xs : List Str} {op : Str → List Str} {d : D} (dl : Deal xs op d) {a b : Str} (ma : a ∈ xs) (e : part d a = some b) : b ∈ op a ∧ part d b = some a := by
  rcases dl.ok a ma with z | ⟨c, z1, z2, z3⟩
  · unfold part at e; rw [z] at e; cases e
  · unfold part at e ⊢
    rw [z1] at e
    cases e
    exact ⟨z2, by rw [z3]⟩
abbrev N_as_pairs : List Str := ["group", "x"]
def t_as_pairs (K : PySem.W.Frag) (E : XK) : TS := (tSeq (tDrop (tCl (sp_check_dealing K) (WE0 E) (tCons (tVar 0) (tCons (tVar 1) tNil))))
  (tRet (tCl (sp_written K) (WE0 E) (tCons (tVar 1) tNil))))
def sp_as_pairs (K : PySem.W.Frag) : Sp := fun vs H Q E => ∃ (p : Addr) (v : V) (B : Hp) (G : Grp) (d : D) (m : Nat), vs = [.ref p, v] ∧ Same B H ∧ GAt K B p G ∧ Rep K B v d ∧ MayDeal m d ∧ m < 64 ∧
  (isDeal G.names G.open d = true → ∀ B' H' t us, HS [] B H B' H' [] → B' t = some (.tup us) → TRs B' us (wrF G.names (part d)) → Q (.ref t) H') ∧ (isDeal G.names G.open d = false → Thr0 K B H E "NoDealing")
abbrev N__law_written_back : List Str := ["_law_group_here", "_law_x", "_law_told"]
def t__law_written_back (K : PySem.W.Frag) (E : XK) : TS := (tSeq (tAsg (tC .non) (gName 2))
  (tSeq (tTryOnly K (.ref (He.ga K "NoDealing")) (fun a1 cls1 d1 => (tAsg (tC (.str "refused")) (gName 2))) (WE0 E) (fun W1 => (tAsg (tCl (sp_as_pairs K) W1 (tCons (tVar 0) (tCons (tVar 1) tNil))) (gName 2))))
  (tRet (tVar 2))))
def sp__law_written_back (K : PySem.W.Frag) : Sp := fun vs H Q E => ∃ (p : Addr) (v : V) (B : Hp) (G : Grp) (d : D) (m : Nat), vs = [.ref p, v] ∧ Same B H ∧ GAt K B p G ∧ Rep K B v d ∧ MayDeal m d ∧ m < 64 ∧
  (isDeal G.names G.open d = true → ∀ B' H' t us, HS [] B H B' H' [] → B' t = some (.tup us) → TRs B' us (wrF G.names (part d)) → Q (.ref t) H') ∧ (isDeal G.names G.open d = false → Ret B H Q fun _ r => r = .str "refused")
abbrev N__law_read14 : List Str := ["_law_group_here", "_law_row", "_law_told"]
def t__law_read14 (K : PySem.W.Frag) (E : XK) : TS := (tSeq (tAsg (tC .non) (gName 2))
  (tSeq (tTryOnly K (.ref (He.ga K "NoDealing")) (fun a1 cls1 d1 => (tAsg (tC (.str "refused")) (gName 2))) (WE0 E) (fun W1 => (tAsg (tCl (sp_from_pairs K) W1 (tCons (tVar 0) (tCons (tVar 1) tNil))) (gName 2))))
  (tRet (tVar 2))))
def sp__law_read14 (K : PySem.W.Frag) : Sp := fun vs H Q E => ∃ (p : Addr) (v : V) (B : Hp) (G : Grp) (d : D), vs = [.ref p, v] ∧ Same B H ∧ GAt K B p G ∧ Rep K B v d ∧
  (∀ m, fromP G d = some m → ∀ B' H' x, HS [] B H B' H' [] → B' x = some (.dK (zipO G.names m)) → Q (.ref x) H') ∧ (fromP G d = none → Ret B H Q fun _ r => r = .str "refused")
abbrev N__law_due14 : List Str := ["_law_mutual_here", "_law_row", "_law_x", "_law_a", "_law_pair", "_law_b"]
def t__law_due14 (K : PySem.W.Frag) (E : XK) : TS := (tSeq (tIfS (tNot (tB (tCB (rIsi K) (tCons (tVar 1) (tCons (tC (.ty "tuple")) tNil))))) (tRet (tC (.str "refused"))) tNext)
  (tSeq (tAsg tDNewK (gName 2))
  (tSeq (tLock (tFor (iKeys (tVar 0)) (gName 3) (sDPut (tVar 2) (tVar 3) (tC .non))))
  (tSeq (tFor (iTup K (tVar 1)) (gName 4) (tSeq (tIfS (tOr (tNot (tB (tCB (rIsi K) (tCons (tVar 4) (tCons (tC (.ty "tuple")) tNil))))) (tTest (tOp rNe (tCB (rLenA K) (tCons (tVar 4) tNil)) (tC (.int 2))))) (tRet (tC (.str "refused"))) tNext)
  (tSeq (tAsg (tOp (rIxT K) (tVar 4) (tC (.int 0))) (gName 3))
  (tSeq (tAsg (tOp (rIxT K) (tVar 4) (tC (.int 1))) (gName 5))
  (tSeq (tIfS (tOr (tNot (tB (tCB (rIsi K) (tCons (tVar 3) (tCons (tC (.ty "str")) tNil))))) (tOr (tNot (tB (tCB (rIsi K) (tCons (tVar 5) (tCons (tC (.ty "str")) tNil))))) (tOr (tB (tDNotIn (tVar 3) (tVar 0))) (tTest (tOp (rIn K true) (tVar 5) (tDGet (tVar 0) (tVar 3))))))) (tRet (tC (.str "refused"))) tNext)
  (tSeq (tIfS (tOr (tB (tNotN (tDGet (tVar 2) (tVar 3)))) (tB (tNotN (tDGet (tVar 2) (tVar 5))))) (tRet (tC (.str "refused"))) tNext)
  (tSeq (sDPut (tVar 2) (tVar 3) (tVar 5))
  (sDPut (tVar 2) (tVar 5) (tVar 3)))))))))
  (tSeq (tIfS (tTest (tOp (rNeD K) (tCl (sp__law_written K) (WE0 E) (tCons (tVar 2) tNil)) (tVar 1))) (tRet (tC (.str "refused"))) tNext)
  (tRet (tVar 2)))))))
def sp__law_due14 (K : PySem.W.Frag) : Sp := fun vs H Q E => ∃ (m : Addr) (v : V) (kvs : List (Key × V)) (xs : List Str) (f : Str → List Str) (d : D) (B : Hp), vs = [.ref m, v] ∧ Same B H ∧ B m = none ∧ H m = some (.dK kvs) ∧ WAt B xs kvs f ∧ Mut xs f ∧ Rep K B v d ∧
  (∀ g, DueOk xs f d g → ∀ B' H' x, HS [] B H B' H' [] → B' x = some (.dK (zipO xs g)) → Q (.ref x) H') ∧ ((∀ g, ¬ DueOk xs f d g) → Ret B H Q fun _ r => r = .str "refused")
end Q

set_option Elab.async false
set_option linter.all false
set_option maxRecDepth 100000
set_option maxHeartbeats 4000000
namespace Q
open PySem PySem.Spec PyProof.Rows L2
local macro_rules | `(tactic| walk_at "bf") => `(tactic| first | assumption | (refine' bstep (by assumption) ?r; case r => walk_at "bf") | fail)
local macro_rules | `(tactic| walk_at "rp") => `(tactic| first | assumption | exact Rep.int _ | exact Rep.bl _ | exact Rep.non | (refine' Rep.mono (by assumption) ?r; case r => walk_at "rp") | fail)
local macro_rules | `(tactic| walk_at "hf") => `(tactic| first | assumption | exact HS.up (by assumption) (by walk_at "bf") | exact HS.get (by assumption) List.mem_cons_self | exact HS.get (by assumption) (List.mem_cons_of_mem _ List.mem_cons_self) | exact HS.get (by assumption) (List.mem_cons_of_mem _ (List.mem_cons_of_mem _ List.mem_cons_self)) | exact HS.get (by assumption) (List.mem_cons_of_mem _ (List.mem_cons_of_mem _ (List.mem_cons_of_mem _ List.mem_cons_self))) | fail)
local macro_rules | `(tactic| walk_at "sl") => `(tactic| first | assumption | exact SqL.of (by walk_at "hf") | fail)
local macro_rules | `(tactic| walk_at "st") => `(tactic| first | assumption | exact SqT.of (by walk_at "hf") | fail)
local macro_rules | `(tactic| walk_at "sz") => `(tactic| first | assumption | (refine small_le ?_; first | assumption | omega | (simp; done) | (simp; omega)) | fail)
abbrev N__law_spoilt_row : List Str := ["_law_state", "_law_names_here", "_law_row", "_law_kind", "_law_value_here", "_law_pairs", "_law_at", "_law_other"]
def t__law_spoilt_row (K : PySem.W.Frag) (E : XK) : TS := (tSeq (tAsg (tCl (sp__law_take K) (WE0 E) (tCons (tVar 0) (tCons (tC (.int 8)) tNil))) (gName 3))
  (tSeq (tAsg (tCl (sp__law_value K) (WE0 E) (tCons (tVar 0) tNil)) (gName 4))
  (tSeq (tIfS (tTest (tOp rEq (tVar 3) (tC (.int 1)))) (tRet (tVar 4)) tNext)
  (tSeq (tIfS (tTest (tOp rEq (tVar 3) (tC (.int 2)))) (tRet (tCB (rListOf K) (tCons (tVar 2) tNil))) tNext)
  (tSeq (tAsg (tCB (rListOf K) (tCons (tVar 2) tNil)) (gName 5))
  (tSeq (tAsg (tCl (sp__law_take K) (WE0 E) (tCons (tVar 0) (tCons (tOp rAddI (tCB (rLenA K) (tCons (tVar 5) tNil)) (tC (.int 1))) tNil))) (gName 6))
  (tSeq (tAsg (tCl (sp__law_take K) (WE0 E) (tCons (tVar 0) (tCons (tOp rAddI (tCB (rLenA K) (tCons (tVar 5) tNil)) (tC (.int 1))) tNil))) (gName 7))
  (tSeq (tIfS (tTest (tOp rEq (tVar 3) (tC (.int 3)))) (tDrop (tBM K "list" rInsert (tVar 5) (tCons (tVar 6) (tCons (tVar 4) tNil)))) tNext)
  (tSeq (tIfS (tAnd (tTest (tOp rEq (tVar 3) (tC (.int 4)))) (tTest (tOp rGtI (tCB (rLenA K) (tCons (tVar 1) tNil)) (tC (.int 1))))) (tDrop (tBM K "list" rInsert (tVar 5) (tCons (tVar 6) (tCons (tTup (tCons (tOp (rIxL K) (tVar 1) (tCl (sp__law_take K) (WE0 E) (tCons (tVar 0) (tCons (tCB (rLenA K) (tCons (tVar 1) tNil)) tNil)))) (tCons (tOp (rIxL K) (tVar 1) (tCl (sp__law_take K) (WE0 E) (tCons (tVar 0) (tCons (tCB (rLenA K) (tCons (tVar 1) tNil)) tNil)))) tNil))) tNil)))) tNext)
  (tSeq (tIfS (tAnd (tTest (tOp rLtI (tVar 6) (tCB (rLenA K) (tCons (tVar 2) tNil)))) (tTest (tOp rLtI (tVar 7) (tCB (rLenA K) (tCons (tVar 2) tNil))))) (tSeq (tIfS (tTest (tOp rEq (tVar 3) (tC (.int 5)))) (tSeq (tAsg (tOp (rIxT K) (tVar 2) (tVar 7)) (gSub (tVar 5) (tVar 6) rSetL))
  (tAsg (tOp (rIxT K) (tVar 2) (tVar 6)) (gSub (tVar 5) (tVar 7) rSetL))) tNext)
  (tSeq (tIfS (tTest (tOp rEq (tVar 3) (tC (.int 6)))) (tAsg (tTup (tCons (tOp (rIxT K) (tOp (rIxT K) (tVar 2) (tVar 6)) (tC (.int 1))) (tCons (tOp (rIxT K) (tOp (rIxT K) (tVar 2) (tVar 6)) (tC (.int 0))) tNil))) (gSub (tVar 5) (tVar 6) rSetL)) tNext)
  (tIfS (tTest (tOp rEq (tVar 3) (tC (.int 7)))) (tDrop (tBM K "list" rInsert (tVar 5) (tCons (tVar 7) (tCons (tOp (rIxT K) (tVar 2) (tVar 6)) tNil)))) tNext))) tNext)
  (tRet (tCB (rTupOf K) (tCons (tVar 5) tNil)))))))))))))
def sp__law_spoilt_row (K : PySem.W.Frag) : Sp := fun vs H Q E => ∃ (p n t : Addr) (a b : Int) (xs : List Str) (us : List V) (ks : List (List Str)) (B : Hp), vs = [.ref p, .ref n, .ref t] ∧ Same B H ∧ B p = none ∧ H p = some (stO a b) ∧ VSt a b ∧ B n = some (.lst (xs.map V.str)) ∧ xs.length ≤ 25 ∧ (∀ x ∈ xs, okName x = true) ∧ B t = some (.tup us) ∧ TRs B us ks ∧ (∀ k ∈ ks, ∃ a b : Str, k = [a, b] ∧ a.length ≤ 1000000 ∧ b.length ≤ 1000000) ∧ us.length ≤ 64 ∧
  ∀ B' H' a' b' v d, HS [p] B H B' H' [(p, stO a' b')] → VSt a' b' → Rep K B' v d → Q v H'
end Q

set_option Elab.async false
set_option linter.all false
set_option maxRecDepth 100000
set_option maxHeartbeats 4000000
namespace Q
open PySem PySem.Spec PyProof.Rows L2
/-! ### seats that ask and seats that hold: plain theory -/
abbrev OF := Str → Option Str
theorem ra_some {row : List Str} {b c : Str} : ratherO row b (some c) = true ↔ row.idxOf b < row.idxOf c := decide_eq_true_iff
theorem idx_inj {row : List Str} {a b : Str} (ha : a ∈ row) (hb : b ∈ row) (h : row.idxOf a = row.idxOf b) : a = b := by
  have h1 := get_idx ha
  have h2 := get_idx hb
  rw [h, h2] at h1
  exact (Option.some.inj h1).symm
structure SM (xs : List Str) (f : Str → List Str) (A H : OF) : Prop where
  inv : ∀ a ∈ xs, ∀ b ∈ xs, A a = some b ↔ H b = some a
  oa : ∀ a ∈ xs, ∀ b, A a = some b → b ∈ f a
  oh : ∀ a ∈ xs, ∀ b, H a = some b → b ∈ f a
  st : ∀ a ∈ xs, ∀ b ∈ f a, ratherO (f a) b (A a) = true → ratherO (f b) a (H b) = true → False
theorem SM.dual {xs : List Str} {f : Str → List Str} {A H : OF} (mu : Mut xs f) (h : SM xs f A H) : SM xs f H A :=
  ⟨fun a ma b mb => (h.inv b mb a ma).symm, h.oh, h.oa, fun a ma b mb r1 r2 => h.st b (mu.fi a ma b mb).1 a (mu.fi a ma b mb).2 r2 r1⟩
theorem SM.ah {xs : List Str} {f : Str → List Str} {A H : OF} (mu : Mut xs f) (h : SM xs f A H) {a b : Str} (ma : a ∈ xs) (e : A a = some b) : b ∈ xs ∧ H b = some a := by
  have mb := (mu.fi a ma b (h.oa a ma b e)).1
  exact ⟨mb, (h.inv a ma b mb).mp e⟩
theorem SM.ha {xs : List Str} {f : Str → List Str} {A H : OF} (mu : Mut xs f) (h : SM xs f A H) {a b : Str} (ma : a ∈ xs) (e : H a = some b) : b ∈ xs ∧ A b = some a := (h.dual mu).ah mu ma e
/-- everybody likes the asked one at least as much as the holder -/
def IOr (xs : List Str) (f : Str → List Str) (A H : OF) : Prop := ∀ a ∈ xs, ∀ c, H a = some c → ∃ b, A a = some b ∧ (f a).idxOf b ≤ (f a).idxOf c
def DomE (xs : List Str) (A H : OF) : Prop := ∀ a ∈ xs, (A a).isSome = (H a).isSome
theorem SM.domE {xs : List Str} {f : Str → List Str} {A H : OF} (mu : Mut xs f) (h : SM xs f A H) (io : IOr xs f A H) : DomE xs A H := fun a ma => by
  cases eh : H a with
  | some c =>
    obtain ⟨b, eb, _⟩ := io a ma c eh
    rw [eb]
    rfl
  | none =>
    cases ea : A a with
    | none => rfl
    | some b =>
      exfalso
      have l1 : (xs.filter fun a => (A a).isSome).length ≤ (xs.filter fun a => (H a).isSome).length := by
        have nd : ((xs.filter fun a => (A a).isSome).map fun a => (A a).getD "").Nodup := by
          refine List.pairwise_map.mpr ((mu.nd.filter _).imp_of_mem fun {x y} mx my ne e => ne ?_)
          obtain ⟨mx, hx⟩ := List.mem_filter.mp mx
          obtain ⟨my, hy⟩ := List.mem_filter.mp my
          obtain ⟨u, eu⟩ := Option.isSome_iff_exists.mp hx
          obtain ⟨v, ev⟩ := Option.isSome_iff_exists.mp hy
          rw [eu, ev] at e
          have e : u = v := e
          subst e
          have h1 := (h.ah mu mx eu).2
          rw [(h.ah mu my ev).2] at h1
          exact (Option.some.inj h1).symm
        have := nodup_len nd (ys := xs.filter fun a => (H a).isSome) fun y my => by
          obtain ⟨x, mx, rfl⟩ := List.mem_map.mp my
          obtain ⟨mx, hx⟩ := List.mem_filter.mp mx
          obtain ⟨u, eu⟩ := Option.isSome_iff_exists.mp hx
          obtain ⟨mu1, hu⟩ := h.ah mu mx eu
          rw [eu]
          exact List.mem_filter.mpr ⟨mu1, by show (H u).isSome = true; rw [hu]; rfl⟩
        rw [List.length_map] at this
        exact this
      have l2 := nodup_len (xs := a :: xs.filter fun a => (H a).isSome) (ys := xs.filter fun a => (A a).isSome) (List.nodup_cons.mpr ⟨fun m => (by
        have := (List.mem_filter.mp m).2
        rw [eh] at this
        cases this), mu.nd.filter _⟩) fun y my => by
        rcases List.mem_cons.mp my with rfl | my
        · exact List.mem_filter.mpr ⟨ma, by show (A _).isSome = true; rw [ea]; rfl⟩
        · obtain ⟨m1, m2⟩ := List.mem_filter.mp my
          obtain ⟨c, ec⟩ := Option.isSome_iff_exists.mp m2
          obtain ⟨b', eb, _⟩ := io y m1 c ec
          exact List.mem_filter.mpr ⟨m1, by show (A y).isSome = true; rw [eb]; rfl⟩
      rw [List.length_cons] at l2
      omega
/-! ### the first one behind the asked one who would take a -/
theorem find_drop {l : List Str} (nd : l.Nodup) {n : Nat} {p : Str → Bool} {c : Str} (h : (l.drop n).find? p = some c) : c ∈ l ∧ n ≤ l.idxOf c ∧ p c = true ∧ ∀ d ∈ l, n ≤ l.idxOf d → l.idxOf d < l.idxOf c → p d = false := by
  obtain ⟨hp, i, hi, e, hmin⟩ := List.find?_eq_some_iff_getElem.mp h
  have hl : n + i < l.length := by rw [List.length_drop] at hi; omega
  rw [List.getElem_drop] at e
  have ei : l.idxOf c = n + i := by rw [← e]; exact nd.idxOf_getElem _ hl
  refine ⟨by rw [← e]; exact List.getElem_mem _, by omega, hp, fun d md h1 h2 => ?_⟩
  have hd := get_idx md
  have hj : l.idxOf d - n < i := by omega
  have := hmin (l.idxOf d - n) hj
  rw [List.getElem_drop] at this
  have e2 : l[n + (l.idxOf d - n)]'(by omega) = d := by
    have e3 : n + (l.idxOf d - n) = l.idxOf d := by omega
    have := (List.getElem?_eq_some_iff.mp hd).2
    simp only [e3]
    exact this
  rw [e2] at this
  simpa using this
theorem find_drop_ex {l : List Str} {n : Nat} {p : Str → Bool} {d : Str} (md : d ∈ l) (h1 : n ≤ l.idxOf d) (hp : p d = true) : ∃ c, (l.drop n).find? p = some c := by
  have hd := get_idx md
  have hm : d ∈ l.drop n := by
    refine List.mem_of_getElem? (i := l.idxOf d - n) ?_
    rw [List.getElem?_drop, show n + (l.idxOf d - n) = l.idxOf d by omega]
    exact hd
  exact Option.isSome_iff_exists.mp (List.find?_isSome.mpr ⟨d, hm, hp⟩)
def lowO (f : Str → List Str) (A H : OF) (a : Str) : Option Str := match A a with
  | none => none
  | some b => ((f a).drop ((f a).idxOf b + 1)).find? fun c => ratherO (f c) a (H c)
theorem low_spec {f : Str → List Str} {A H : OF} {a b c : Str} (nd : (f a).Nodup) (e : A a = some b) (h : lowO f A H a = some c) : c ∈ f a ∧ (f a).idxOf b < (f a).idxOf c ∧ ratherO (f c) a (H c) = true ∧ ∀ d ∈ f a, (f a).idxOf b < (f a).idxOf d → (f a).idxOf d < (f a).idxOf c → ratherO (f d) a (H d) = false := by
  unfold lowO at h
  rw [e] at h
  obtain ⟨h1, h2, h3, h4⟩ := find_drop nd h
  exact ⟨h1, h2, h3, h4⟩
theorem low_ask {f : Str → List Str} {A H : OF} {a c : Str} (h : lowO f A H a = some c) : ∃ b, A a = some b := by
  unfold lowO at h
  cases e : A a with
  | none => rw [e] at h; cases h
  | some b => exact ⟨b, rfl⟩
theorem low_ex {f : Str → List Str} {A H : OF} {a b d : Str} (nd : (f a).Nodup) (e : A a = some b) (md : d ∈ f a) (h1 : (f a).idxOf b < (f a).idxOf d) (h2 : ratherO (f d) a (H d) = true) : ∃ c, lowO f A H a = some c ∧ (f a).idxOf c ≤ (f a).idxOf d := by
  obtain ⟨c, hc⟩ := find_drop_ex (n := (f a).idxOf b + 1) (p := fun c => ratherO (f c) a (H c)) md h1 h2
  have hc' : lowO f A H a = some c := by unfold lowO; rw [e]; exact hc
  refine ⟨c, hc', ?_⟩
  obtain ⟨_, _, _, h4⟩ := low_spec nd e hc'
  refine Nat.le_of_not_lt fun h => ?_
  have := h4 d md h1 h
  rw [h2] at this
  cases this
def stepO (f : Str → List Str) (A H : OF) (a : Str) : Option Str := (lowO f A H a).bind H
theorem step_low {f : Str → List Str} {A H : OF} {a e : Str} (h : stepO f A H a = some e) : ∃ c, lowO f A H a = some c ∧ H c = some e := Option.bind_eq_some_iff.mp h
/-! ### a cycle is passed on -/
structure CycP (step : OF) (cyc : List Str) : Prop where
  nd : cyc.Nodup
  nx : ∀ a ∈ cyc, ∃ b ∈ cyc, step a = some b
  pv : ∀ b ∈ cyc, ∃ a ∈ cyc, step a = some b
  inj : ∀ a ∈ cyc, ∀ b ∈ cyc, step a = step b → a = b
  ind : ∀ P : Str → Prop, (∃ a ∈ cyc, P a) → (∀ a ∈ cyc, ∀ b ∈ cyc, step a = some b → P b → P a) → ∀ a ∈ cyc, P a
def nAs (low A : OF) (cyc : List Str) : OF := fun a => if a ∈ cyc then low a else A a
def nHo (low H : OF) (cyc : List Str) : OF := fun b => match cyc.find? fun a => decide (low a = some b) with
  | some a => some a
  | none => H b
section
variable {xs : List Str} {f : Str → List Str} {A H : OF} {cyc : List Str}
theorem cyc_low (mu : Mut xs f) (h : SM xs f A H) (cp : CycP (stepO f A H) cyc) (cx : ∀ a ∈ cyc, a ∈ xs) {a : Str} (ma : a ∈ cyc) : ∃ c e, lowO f A H a = some c ∧ c ∈ xs ∧ H c = some e ∧ e ∈ cyc ∧ A e = some c ∧ stepO f A H a = some e := by
  obtain ⟨e, me, hs⟩ := cp.nx a ma
  obtain ⟨c, h1, h2⟩ := step_low hs
  obtain ⟨b, eb⟩ := low_ask h1
  have mc := (low_spec (mu.fn a (cx a ma)) eb h1).1
  have mcx := (mu.fi a (cx a ma) c mc).1
  exact ⟨c, e, h1, mcx, h2, me, (h.ha mu mcx h2).2, hs⟩
theorem low_inj (cp : CycP (stepO f A H) cyc) {a b c : Str} (ma : a ∈ cyc) (mb : b ∈ cyc) (h1 : lowO f A H a = some c) (h2 : lowO f A H b = some c) : a = b :=
  cp.inj a ma b mb (by unfold stepO; rw [h1, h2])
theorem nHo_low (cp : CycP (stepO f A H) cyc) {a c : Str} (ma : a ∈ cyc) (h1 : lowO f A H a = some c) : nHo (lowO f A H) H cyc c = some a := by
  unfold nHo
  cases e : cyc.find? fun a => decide (lowO f A H a = some c) with
  | none =>
    have := List.find?_eq_none.mp e a ma
    rw [decide_eq_true h1] at this
    exact absurd rfl this
  | some b =>
    have h2 := List.find?_some e
    have mb := List.mem_of_find?_eq_some e
    exact congrArg some (low_inj cp mb ma (of_decide_eq_true h2) h1)
theorem nHo_old {b : Str} (h : ∀ a ∈ cyc, lowO f A H a ≠ some b) : nHo (lowO f A H) H cyc b = H b := by
  unfold nHo
  rw [List.find?_eq_none.mpr fun a ma => by rw [decide_eq_false (h a ma)]; decide]
theorem nHo_cases {b e : Str} (h : nHo (lowO f A H) H cyc b = some e) : (e ∈ cyc ∧ lowO f A H e = some b) ∨ ((∀ a ∈ cyc, lowO f A H a ≠ some b) ∧ H b = some e) := by
  unfold nHo at h
  cases e' : cyc.find? fun a => decide (lowO f A H a = some b) with
  | none =>
    rw [e'] at h
    exact .inr ⟨fun a ma z => by
      have := List.find?_eq_none.mp e' a ma
      rw [decide_eq_true z] at this
      exact absurd rfl this, h⟩
  | some a =>
    rw [e'] at h
    have h2 := List.find?_some e'
    have mb := List.mem_of_find?_eq_some e'
    cases h
    exact .inl ⟨mb, of_decide_eq_true h2⟩
theorem nHo_less (cp : CycP (stepO f A H) cyc) (mu : Mut xs f) (cx : ∀ a ∈ cyc, a ∈ xs) {a b : Str} (h : ratherO (f b) a (nHo (lowO f A H) H cyc b) = true) : ratherO (f b) a (H b) = true := by
  by_cases hx : ∃ e ∈ cyc, lowO f A H e = some b
  · obtain ⟨e, me, he⟩ := hx
    rw [nHo_low cp me he] at h
    obtain ⟨b0, eb⟩ := low_ask he
    have h3 := (low_spec (mu.fn e (cx e me)) eb he).2.2.1
    cases z : H b with
    | none => rfl
    | some c =>
      rw [z] at h3
      rw [ra_some] at h h3 ⊢
      omega
  · rw [nHo_old fun a ma z => hx ⟨a, ma, z⟩] at h
    exact h
theorem SM.pass (mu : Mut xs f) (h : SM xs f A H) (cp : CycP (stepO f A H) cyc) (cx : ∀ a ∈ cyc, a ∈ xs) : SM xs f (nAs (lowO f A H) A cyc) (nHo (lowO f A H) H cyc) := by
  have oa : ∀ a ∈ xs, ∀ b, nAs (lowO f A H) A cyc a = some b → b ∈ f a := fun a ma b e => by
    unfold nAs at e
    split at e
    · obtain ⟨b0, eb⟩ := low_ask e
      exact (low_spec (mu.fn a ma) eb e).1
    · exact h.oa a ma b e
  have inv : ∀ a ∈ xs, ∀ b ∈ xs, nAs (lowO f A H) A cyc a = some b ↔ nHo (lowO f A H) H cyc b = some a := fun a ma b mb => by
    constructor
    · intro e
      unfold nAs at e
      split at e
      · rename_i mc
        exact nHo_low cp mc e
      · rename_i mc
        have hb := (h.inv a ma b mb).mp e
        rw [nHo_old fun x mx z => mc ?_]
        · exact hb
        obtain ⟨c, e1, h1, _, h2, h3, _, _⟩ := cyc_low mu h cp cx mx
        rw [z] at h1
        cases h1
        rw [hb] at h2
        cases h2
        exact h3
    · intro e
      rcases nHo_cases e with ⟨mc, hl⟩ | ⟨hn, hb⟩
      · unfold nAs
        rw [if_pos mc]
        exact hl
      · have ha := (h.inv a ma b mb).mpr hb
        unfold nAs
        rw [if_neg fun mc => ?_]
        · exact ha
        obtain ⟨x, mx, hs⟩ := cp.pv a mc
        obtain ⟨c, h1, h2⟩ := step_low hs
        obtain ⟨c', e1, h1', mc', _⟩ := cyc_low mu h cp cx mx
        rw [h1] at h1'
        cases h1'
        have := (h.ha mu mc' h2).2
        rw [ha] at this
        cases this
        exact hn x mx h1
  refine ⟨inv, oa, fun b mb a e => ?_, fun a ma b mb r1 r2 => ?_⟩
  · have ma : a ∈ xs := by
      rcases nHo_cases e with ⟨mc, _⟩ | ⟨_, hb⟩
      · exact cx a mc
      · exact (h.ha mu mb hb).1
    exact (mu.fi a ma b (oa a ma b ((inv a ma b mb).mpr e))).2
  · have r3 := nHo_less cp mu cx r2
    unfold nAs at r1
    split at r1
    · rename_i mc
      obtain ⟨c, e1, hl, _⟩ := cyc_low mu h cp cx mc
      obtain ⟨d, ed⟩ := low_ask hl
      obtain ⟨_, l2, _, l4⟩ := low_spec (mu.fn a ma) ed hl
      rw [hl, ra_some] at r1
      have hna : ¬ ratherO (f a) b (A a) = true := fun z => h.st a ma b mb z r3
      rw [ed, ra_some] at hna
      by_cases hbd : b = d
      · subst hbd
        have := (h.ah mu ma ed).2
        rw [this, ra_some] at r3
        omega
      · have : (f a).idxOf d ≠ (f a).idxOf b := fun z => hbd (idx_inj (h.oa a ma d ed) mb z).symm
        have := l4 b mb (by omega) r1
        rw [r3] at this
        cases this
    · exact h.st a ma b mb r1 r3
theorem DomE.pass (mu : Mut xs f) (h : SM xs f A H) (dm : DomE xs A H) (cp : CycP (stepO f A H) cyc) (cx : ∀ a ∈ cyc, a ∈ xs) : DomE xs (nAs (lowO f A H) A cyc) (nHo (lowO f A H) H cyc) := fun a ma => by
  have e1 : (nAs (lowO f A H) A cyc a).isSome = (A a).isSome := by
    unfold nAs
    split
    · rename_i mc
      obtain ⟨c, e1, hl, _⟩ := cyc_low mu h cp cx mc
      obtain ⟨d, ed⟩ := low_ask hl
      rw [hl, ed]
      rfl
    · rfl
  have e2 : (nHo (lowO f A H) H cyc a).isSome = (H a).isSome := by
    by_cases hx : ∃ e ∈ cyc, lowO f A H e = some a
    · obtain ⟨e, me, he⟩ := hx
      rw [nHo_low cp me he]
      obtain ⟨c, e1, hl, _, h2, _⟩ := cyc_low mu h cp cx me
      rw [he] at hl
      cases hl
      rw [h2]
      rfl
    · rw [nHo_old fun x mx z => hx ⟨x, mx, z⟩]
  rw [e1, e2]
  exact dm a ma
end
end Q

set_option Elab.async false
set_option linter.all false
set_option maxRecDepth 100000
set_option maxHeartbeats 4000000
namespace Q
open PySem PySem.Spec PyProof.Rows L2
/-! ### cycles of steps -/
def cyF (step : OF) : Nat → List Str → Option Str → List Str × Option Str
  | 0, acc, o => (acc, o)
  | _ + 1, acc, none => (acc, none)
  | n + 1, acc, some a => if a ∈ acc then (acc, some a) else cyF step n (acc ++ [a]) (step a)
def cyO (step : OF) (s : Str) : Option (List Str) := if (cyF step 17 [s] (step s)).2 = some s then some (cyF step 17 [s] (step s)).1 else none
def itO (step : OF) (s : Str) : Nat → Option Str
  | 0 => some s
  | n + 1 => (itO step s n).bind step
structure OrbI (step : OF) (s : Str) (acc : List Str) (o : Option Str) : Prop where
  at_ : ∀ i, i < acc.length → acc[i]? = itO step s i
  nx : o = itO step s acc.length
  nd : acc.Nodup
  ne : 0 < acc.length
theorem cyF_spec {step : OF} {s : Str} {xs : List Str} (hx : ∀ i a, itO step s i = some a → a ∈ xs) : ∀ {n : Nat} {acc : List Str} {o : Option Str}, OrbI step s acc o → xs.length < n + acc.length → OrbI step s (cyF step n acc o).1 (cyF step n acc o).2 ∧ ((cyF step n acc o).2 = none ∨ ∃ a ∈ (cyF step n acc o).1, (cyF step n acc o).2 = some a)
  | 0, acc, o, h, hf => by
    exfalso
    have := nodup_len h.nd (ys := xs) fun a ma => by
      obtain ⟨i, hi⟩ := List.mem_iff_getElem?.mp ma
      have hl := (List.getElem?_eq_some_iff.mp hi).1
      exact hx i a (by rw [← h.at_ i hl]; exact hi)
    omega
  | n + 1, acc, none, h, _ => ⟨h, .inl rfl⟩
  | n + 1, acc, some a, h, hf => by
    unfold cyF
    split
    · rename_i ma
      exact ⟨h, .inr ⟨a, ma, rfl⟩⟩
    · rename_i ma
      refine cyF_spec hx ⟨fun i hi => ?_, ?_, ?_, by rw [List.length_append]; exact Nat.lt_of_lt_of_le h.ne (Nat.le_add_right _ _)⟩ (by rw [List.length_append, List.length_singleton]; omega)
      · rw [List.length_append, List.length_singleton] at hi
        by_cases hl : i < acc.length
        · rw [List.getElem?_append_left hl]
          exact h.at_ i hl
        · have e : i = acc.length := by omega
          subst e
          rw [List.getElem?_append_right (Nat.le_refl _), Nat.sub_self, ← h.nx]
          rfl
      · rw [List.length_append, List.length_singleton]
        show step a = (itO step s acc.length).bind step
        rw [← h.nx]
        rfl
      · rw [List.nodup_append]
        exact ⟨h.nd, by simp, fun x mx y my e => ma (by
          have := List.mem_singleton.mp my
          rw [← this, ← e]
          exact mx)⟩
theorem OrbI.init {step : OF} {s : Str} : OrbI step s [s] (step s) := ⟨fun i hi => by
  have : i = 0 := by simpa using hi
  subst this
  rfl, rfl, by simp, by simp⟩
theorem nd_at {l : List Str} (nd : l.Nodup) {i j : Nat} {a : Str} (h1 : l[i]? = some a) (h2 : l[j]? = some a) : i = j := by
  obtain ⟨l1, e1⟩ := List.getElem?_eq_some_iff.mp h1
  obtain ⟨l2, e2⟩ := List.getElem?_eq_some_iff.mp h2
  have := nd.idxOf_getElem i l1
  rw [e1] at this
  have h3 := nd.idxOf_getElem j l2
  rw [e2] at h3
  omega
theorem OrbI.cyc {step : OF} {s : Str} {acc : List Str} (h : OrbI step s acc (some s)) : CycP step acc ∧ s ∈ acc := by
  have a0 : acc[0]? = some s := h.at_ 0 h.ne
  have stp : ∀ {i : Nat} {a : Str}, acc[i]? = some a → step a = itO step s (i + 1) := fun {i a} hi => by
    have hl := (List.getElem?_eq_some_iff.mp hi).1
    show _ = (itO step s i).bind step
    rw [← h.at_ i hl, hi]
    rfl
  have lst : itO step s acc.length = some s := h.nx.symm
  have nxt : ∀ {i : Nat} {a : Str}, acc[i]? = some a → (i + 1 < acc.length ∧ step a = acc[i + 1]?) ∨ (i + 1 = acc.length ∧ step a = some s) := fun {i a} hi => by
    have hl := (List.getElem?_eq_some_iff.mp hi).1
    by_cases e : i + 1 < acc.length
    · exact .inl ⟨e, by rw [stp hi, h.at_ _ e]⟩
    · have e : i + 1 = acc.length := by omega
      exact .inr ⟨e, by rw [stp hi, e, lst]⟩
  have hpos := h.ne
  refine ⟨⟨h.nd, fun a ma => ?_, fun b mb => ?_, fun a ma b mb e => ?_, fun P ⟨a, ma, pa⟩ cl b mb => ?_⟩, List.mem_of_getElem? a0⟩
  · obtain ⟨i, hi⟩ := List.mem_iff_getElem?.mp ma
    rcases nxt hi with ⟨hl, e⟩ | ⟨_, e⟩
    · exact ⟨acc[i + 1], List.getElem_mem _, by rw [e]; exact List.getElem?_eq_getElem hl⟩
    · exact ⟨s, List.mem_of_getElem? a0, e⟩
  · obtain ⟨i, hi⟩ := List.mem_iff_getElem?.mp mb
    have hl := (List.getElem?_eq_some_iff.mp hi).1
    cases i with
    | zero =>
      rw [a0] at hi
      cases hi
      have hm : acc[acc.length - 1]? = some (acc[acc.length - 1]'(by omega)) := List.getElem?_eq_getElem _
      refine ⟨_, List.mem_of_getElem? hm, ?_⟩
      rcases nxt hm with ⟨hl, _⟩ | ⟨_, e⟩
      · omega
      · exact e
    | succ j =>
      have hm : acc[j]? = some (acc[j]'(by omega)) := List.getElem?_eq_getElem _
      refine ⟨_, List.mem_of_getElem? hm, ?_⟩
      rcases nxt hm with ⟨_, e⟩ | ⟨hl, _⟩
      · rw [e, hi]
      · omega
  · obtain ⟨i, hi⟩ := List.mem_iff_getElem?.mp ma
    obtain ⟨j, hj⟩ := List.mem_iff_getElem?.mp mb
    have key : i = j := by
      rcases nxt hi with ⟨l1, e1⟩ | ⟨l1, e1⟩ <;> rcases nxt hj with ⟨l2, e2⟩ | ⟨l2, e2⟩
      · rw [e1, e2, List.getElem?_eq_getElem l2] at e
        have := nd_at h.nd e (List.getElem?_eq_getElem l2)
        omega
      · rw [e1, e2] at e
        have := nd_at h.nd e a0
        omega
      · rw [e1, e2] at e
        have := nd_at h.nd e.symm a0
        omega
      · omega
    subst key
    rw [hi] at hj
    exact Option.some.inj hj
  · have down : ∀ (j i : Nat), i ≤ j → ∀ {x y : Str}, acc[i]? = some x → acc[j]? = some y → P y → P x := by
      intro j
      induction j with
      | zero =>
        intro i hi x y hx hy py
        have : i = 0 := by omega
        subst this
        rw [hx] at hy
        cases hy
        exact py
      | succ j ih =>
        intro i hi x y hx hy py
        by_cases e : i = j + 1
        · subst e
          rw [hx] at hy
          cases hy
          exact py
        · have hl := (List.getElem?_eq_some_iff.mp hy).1
          have hm : acc[j]? = some (acc[j]'(by omega)) := List.getElem?_eq_getElem _
          refine ih i (by omega) hx hm (cl _ (List.mem_of_getElem? hm) y (List.mem_of_getElem? hy) ?_ py)
          rcases nxt hm with ⟨_, e⟩ | ⟨hl, _⟩
          · rw [e, hy]
          · omega
    obtain ⟨i, hi⟩ := List.mem_iff_getElem?.mp ma
    obtain ⟨j, hj⟩ := List.mem_iff_getElem?.mp mb
    have p0 : P s := down i 0 (Nat.zero_le _) a0 hi pa
    have hm : acc[acc.length - 1]? = some (acc[acc.length - 1]'(by omega)) := List.getElem?_eq_getElem _
    have pm := cl _ (List.mem_of_getElem? hm) s (List.mem_of_getElem? a0) (by
      rcases nxt hm with ⟨hl, _⟩ | ⟨_, e⟩
      · omega
      · exact e) p0
    have hl := (List.getElem?_eq_some_iff.mp hj).1
    exact down (acc.length - 1) j (by omega) hj hm pm
theorem cyO_cyc {step : OF} {s : Str} {xs cyc : List Str} (hx : ∀ i a, itO step s i = some a → a ∈ xs) (hl : xs.length ≤ 16) (h : cyO step s = some cyc) : CycP step cyc ∧ (∀ a ∈ cyc, a ∈ xs) ∧ s ∈ cyc ∧ ∀ a ∈ cyc, ∃ n, itO step s n = some a := by
  obtain ⟨o, _⟩ := cyF_spec hx (n := 17) OrbI.init (by simp; omega)
  unfold cyO at h
  split at h
  · rename_i e
    cases h
    rw [e] at o
    have orb : ∀ a ∈ (cyF step 17 [s] (step s)).1, ∃ n, itO step s n = some a := fun a ma => by
      obtain ⟨i, hi⟩ := List.mem_iff_getElem?.mp ma
      exact ⟨i, by rw [← o.at_ i (List.getElem?_eq_some_iff.mp hi).1]; exact hi⟩
    exact ⟨o.cyc.1, fun a ma => (orb a ma).elim fun n hn => hx n a hn, o.cyc.2, orb⟩
  · cases h
theorem it_none {step : OF} {s : Str} {m : Nat} (h : itO step s m = none) : ∀ t, itO step s (m + t) = none
  | 0 => h
  | t + 1 => by
    show (itO step s (m + t)).bind step = none
    rw [it_none h t]
    rfl
theorem it_det {step : OF} {s : Str} {m i : Nat} (h : itO step s m = itO step s i) : ∀ t, itO step s (m + t) = itO step s (i + t)
  | 0 => h
  | t + 1 => by
    show (itO step s (m + t)).bind step = (itO step s (i + t)).bind step
    rw [it_det h t]
theorem it_mul {step : OF} {s : Str} {k : Nat} (h : itO step s k = some s) : ∀ (j n : Nat), itO step s (k * j + n) = itO step s n
  | 0, n => by rw [Nat.mul_zero, Nat.zero_add]
  | j + 1, n => by
    rw [Nat.mul_add, Nat.mul_one, Nat.add_assoc, it_mul h j]
    have : itO step s k = itO step s 0 := h
    rw [it_det this n, Nat.zero_add]
theorem cyO_ex {step : OF} {s : Str} {xs : List Str} (hx : ∀ i a, itO step s i = some a → a ∈ xs) (hl : xs.length ≤ 16) {k : Nat} (hk : 0 < k) (h : itO step s k = some s) : ∃ cyc, cyO step s = some cyc := by
  obtain ⟨o, e⟩ := cyF_spec hx (n := 17) OrbI.init (by simp; omega)
  unfold cyO
  generalize cyF step 17 [s] (step s) = r at o e
  obtain ⟨acc, q⟩ := r
  dsimp only at o e ⊢
  have hm : ∀ m : Nat, m ≤ k * m := fun m => Nat.le_mul_of_pos_left m hk
  rcases e with rfl | ⟨a, ma, rfl⟩
  · exfalso
    have h1 := it_none o.nx.symm (k * acc.length - acc.length)
    rw [show acc.length + (k * acc.length - acc.length) = k * acc.length + 0 by have := hm acc.length; omega, it_mul h] at h1
    cases h1
  · obtain ⟨i, hi⟩ := List.mem_iff_getElem?.mp ma
    have hl := (List.getElem?_eq_some_iff.mp hi).1
    have h1 : itO step s acc.length = itO step s i := by rw [← o.nx, ← o.at_ i hl, hi]
    have h2 := it_det h1 (k * i - i)
    rw [show i + (k * i - i) = k * i + 0 by have := hm i; omega, it_mul h, show acc.length + (k * i - i) = k * i + (acc.length - i) by have := hm i; omega, it_mul h] at h2
    have hi0 : i = 0 := by
      refine Nat.eq_zero_of_not_pos fun hp => ?_
      have h3 := o.at_ (acc.length - i) (by omega)
      rw [h2] at h3
      have := nd_at o.nd h3 (o.at_ 0 o.ne)
      omega
    subst hi0
    rw [o.at_ 0 o.ne] at hi
    have : a = s := (Option.some.inj hi).symm
    rw [this, if_pos rfl]
    exact ⟨_, rfl⟩
/-! ### where two would rather have each other, a cycle can be passed on -/
def ioB (xs : List Str) (f : Str → List Str) (A H : OF) : Bool := xs.all fun a => match A a, H a with
  | some b, some c => decide ((f a).idxOf b ≤ (f a).idxOf c)
  | _, _ => true
structure SSt (xs : List Str) (f : Str → List Str) (A H : OF) : Prop where
  sm : SM xs f A H
  dm : DomE xs A H
  io : IOr xs f A H
theorem ioB_io {xs : List Str} {f : Str → List Str} {A H : OF} (dm : DomE xs A H) (h : ioB xs f A H = true) : IOr xs f A H := fun a ma c hc => by
  have := dm a ma
  rw [hc] at this
  obtain ⟨b, hb⟩ := Option.isSome_iff_exists.mp this
  have h2 := List.all_eq_true.mp h a ma
  rw [hb, hc] at h2
  exact ⟨b, hb, of_decide_eq_true h2⟩
section
variable {xs : List Str} {f : Str → List Str} {A H : OF}
theorem D_low (mu : Mut xs f) (s : SSt xs f A H) {a b c : Str} (ma : a ∈ xs) (ea : A a = some b) (eh : H a = some c) (ne : b ≠ c) :
    ∃ l e, lowO f A H a = some l ∧ l ∈ xs ∧ H l = some e ∧ e ∈ xs ∧ A e = some l ∧ (f a).idxOf l ≤ (f a).idxOf c ∧ ∃ c', H e = some c' ∧ l ≠ c' := by
  have mb := s.sm.oa a ma b ea
  have mc := s.sm.oh a ma c eh
  obtain ⟨mcx, hac⟩ := s.sm.ha mu ma eh
  have nda := mu.fn a ma
  obtain ⟨b', eb', hle⟩ := s.io a ma c eh
  rw [ea] at eb'
  cases eb'
  have hlt : (f a).idxOf b < (f a).idxOf c := by
    have : (f a).idxOf b ≠ (f a).idxOf c := fun z => ne (idx_inj mb mc z)
    omega
  have hcacc : ratherO (f c) a (H c) = true := by
    cases ehc : H c with
    | none => rfl
    | some e =>
      obtain ⟨a', ea', hle2⟩ := s.io c mcx e ehc
      rw [hac] at ea'
      cases ea'
      rw [ra_some]
      have hne : a ≠ e := fun z => by
        subst z
        have := (s.sm.ha mu mcx ehc).2
        rw [ea] at this
        exact ne (Option.some.inj this)
      have : (f c).idxOf a ≠ (f c).idxOf e := fun z => hne (idx_inj (mu.fi a ma c mc).2 (s.sm.oh c mcx e ehc) z)
      omega
  obtain ⟨l, hl, hll⟩ := low_ex nda ea mc hlt hcacc
  obtain ⟨ml, l1, l2, l3⟩ := low_spec nda ea hl
  obtain ⟨mlx, mal⟩ := mu.fi a ma l ml
  have two : l = c ∨ ratherO (f a) l (H a) = true := by
    by_cases e : l = c
    · exact .inl e
    · have : (f a).idxOf l ≠ (f a).idxOf c := fun z => e (idx_inj ml mc z)
      rw [eh, ra_some]
      exact .inr (by omega)
  have nl : ¬ (ratherO (f a) l (H a) = true ∧ ratherO (f l) a (A l) = true) := fun ⟨h1, h2⟩ => s.sm.st l mlx a mal h2 h1
  have hsome : ∃ e, H l = some e := by
    cases ehl : H l with
    | some e => exact ⟨e, rfl⟩
    | none =>
      exfalso
      have hd := s.dm l mlx
      rw [ehl] at hd
      have hal : A l = none := by
        cases z : A l with
        | none => rfl
        | some y => rw [z] at hd; cases hd
      rcases two with rfl | h1
      · rw [hac] at hal
        cases hal
      · exact nl ⟨h1, by rw [hal]; rfl⟩
  obtain ⟨e, ehl⟩ := hsome
  obtain ⟨mex, hae⟩ := s.sm.ha mu mlx ehl
  have hde := s.dm e mex
  rw [hae] at hde
  obtain ⟨c', ec'⟩ := Option.isSome_iff_exists.mp hde.symm
  refine ⟨l, e, hl, mlx, ehl, mex, hae, hll, c', ec', fun z => ?_⟩
  subst z
  have hal := (s.sm.ha mu mex ec').2
  rcases two with rfl | h1
  · rw [hac] at hal
    cases hal
    rw [hae] at ea
    cases ea
    exact ne rfl
  · refine nl ⟨h1, ?_⟩
    rw [hal]
    rw [ehl] at l2
    exact l2
theorem quarrel_low (mu : Mut xs f) (s : SSt xs f A H) {a b : Str} (ma : a ∈ xs) (mb : b ∈ f a) (h1 : ratherO (f a) b (H a) = true) (h2 : ratherO (f b) a (H b) = true) : ∃ d c, A a = some d ∧ H a = some c ∧ d ≠ c ∧ lowO f A H a ≠ H a := by
  have hna : ¬ ratherO (f a) b (A a) = true := fun z => s.sm.st a ma b mb z h2
  cases ea : A a with
  | none => rw [ea] at hna; exact absurd rfl hna
  | some d =>
    rw [ea, ra_some] at hna
    have hd := s.dm a ma
    rw [ea] at hd
    obtain ⟨c, ec⟩ := Option.isSome_iff_exists.mp hd.symm
    rw [ec, ra_some] at h1
    have md := s.sm.oa a ma d ea
    have hbd : b ≠ d := fun z => by
      subst z
      rw [(s.sm.ah mu ma ea).2, ra_some] at h2
      omega
    have : (f a).idxOf d ≠ (f a).idxOf b := fun z => hbd (idx_inj md mb z).symm
    obtain ⟨l, hl, hll⟩ := low_ex (mu.fn a ma) ea mb (by omega) h2
    refine ⟨d, c, rfl, ec, fun z => ?_, fun z => ?_⟩
    · subst z
      omega
    · rw [hl, ec] at z
      cases z
      omega
variable {cyc : List Str}
/-- what is wrong where everybody stays in order no longer -/
theorem viol_bad (mu : Mut xs f) (s : SSt xs f A H) (cp : CycP (stepO f A H) cyc) (cx : ∀ a ∈ cyc, a ∈ xs) (cd : ∀ a ∈ cyc, ∃ b c, A a = some b ∧ H a = some c ∧ b ≠ c) (h : ioB xs f (nAs (lowO f A H) A cyc) (nHo (lowO f A H) H cyc) ≠ true) :
    ∀ r ∈ cyc, lowO f A H r = H r ∧ ∃ r' ∈ cyc, A r = some r' := by
  let Vi : Str → Prop := fun p => p ∈ xs ∧ ∃ b c, nAs (lowO f A H) A cyc p = some b ∧ nHo (lowO f A H) H cyc p = some c ∧ (f p).idxOf c < (f p).idxOf b
  have vex : ∃ p, Vi p := by
    have h := Bool.eq_false_iff.mpr h
    rw [ioB, List.all_eq_false] at h
    obtain ⟨p, mp, hp⟩ := h
    refine ⟨p, mp, ?_⟩
    cases e1 : nAs (lowO f A H) A cyc p with
    | none => rw [e1] at hp; exact absurd rfl hp
    | some b =>
      cases e2 : nHo (lowO f A H) H cyc p with
      | none => rw [e1, e2] at hp; exact absurd rfl hp
      | some c =>
        rw [e1, e2] at hp
        exact ⟨b, c, rfl, rfl, Nat.lt_of_not_le fun z => hp (decide_eq_true z)⟩
  have main : ∀ p, Vi p → p ∈ cyc ∧ ∃ e ∈ cyc, A p = some e ∧ lowO f A H e = some p ∧ H e = some p := by
    rintro p ⟨mp, b, c, e1, e2, lt⟩
    rcases nHo_cases e2 with ⟨mc, hl⟩ | ⟨hn, hb⟩
    · -- c asks p anew
      have mcx := cx c mc
      obtain ⟨b0, c0, ea0, eh0, ne0⟩ := cd c mc
      obtain ⟨l, e, hl', mlx, _, _, _, hle, _⟩ := D_low mu s mcx ea0 eh0 ne0
      rw [hl] at hl'
      cases hl'
      obtain ⟨mpc, _, hacc, _⟩ := low_spec (mu.fn c mcx) ea0 hl
      have mcp := (mu.fi c mcx p mpc).2
      have key : A p = some c ∨ (∃ d, A p = some d ∧ (f p).idxOf d < (f p).idxOf c ∧ ratherO (f c) p (H c) = true) := by
        by_cases z : H c = some p
        · exact .inl (s.sm.ha mu mcx z).2
        · have hr : ratherO (f c) p (H c) = true := by
            rw [eh0, ra_some]
            rw [eh0] at z
            have : (f c).idxOf p ≠ (f c).idxOf c0 := fun w => z (by rw [idx_inj mpc (s.sm.oh c mcx c0 eh0) w])
            omega
          have hna : ¬ ratherO (f p) c (A p) = true := fun w => s.sm.st p mp c mcp w hr
          cases eap : A p with
          | none => rw [eap] at hna; exact absurd rfl hna
          | some d =>
            rw [eap, ra_some] at hna
            by_cases w : d = c
            · subst w; exact .inl rfl
            · have : (f p).idxOf d ≠ (f p).idxOf c := fun q => w (idx_inj (s.sm.oa p mp d eap) mcp q)
              exact .inr ⟨d, rfl, by omega, hr⟩
      have mpcy : p ∈ cyc := Classical.byContradiction fun np => by
        unfold nAs at e1
        rw [if_neg np] at e1
        rcases key with z | ⟨d, z, z2, _⟩
        · rw [z] at e1
          cases e1
          omega
        · rw [z] at e1
          cases e1
          omega
      refine ⟨mpcy, c, mc, ?_⟩
      rcases key with z | ⟨d, z, z2, z3⟩
      · exact ⟨z, hl, (s.sm.ah mu mp z).2⟩
      · exfalso
        unfold nAs at e1
        rw [if_pos mpcy] at e1
        obtain ⟨_, _, _, l4⟩ := low_spec (mu.fn p mp) z e1
        have := l4 c mcp z2 lt
        rw [z3] at this
        cases this
    · exfalso
      unfold nAs at e1
      split at e1
      · rename_i mc
        obtain ⟨b0, c0, ea0, eh0, ne0⟩ := cd p mc
        obtain ⟨l, e, hl', _, _, _, _, hle, _⟩ := D_low mu s mp ea0 eh0 ne0
        rw [e1] at hl'
        cases hl'
        rw [hb] at eh0
        cases eh0
        omega
      · obtain ⟨b', eb', hle⟩ := s.io p mp c hb
        rw [e1] at eb'
        cases eb'
        omega
  have nextV : ∀ p, Vi p → ∃ e ∈ cyc, A p = some e ∧ lowO f A H e = some p ∧ H e = some p ∧ Vi e := by
    intro p vp
    obtain ⟨mpc, e, me, ae, le, he⟩ := main p vp
    refine ⟨e, me, ae, le, he, cx e me, ?_⟩
    obtain ⟨x, mx, hs⟩ := cp.pv p mpc
    obtain ⟨c, hl, hc⟩ := step_low hs
    obtain ⟨c', e', hl', mcx, _⟩ := cyc_low mu s.sm cp cx mx
    rw [hl] at hl'
    cases hl'
    have := (s.sm.ha mu mcx hc).2
    rw [ae] at this
    cases this
    obtain ⟨b0, c0, ea0, _, _⟩ := cd x mx
    have hacc := (low_spec (mu.fn x (cx x mx)) ea0 hl).2.2.1
    rw [he, ra_some] at hacc
    exact ⟨p, x, by unfold nAs; rw [if_pos me]; exact le, nHo_low cp mx hl, hacc⟩
  have all : ∀ r ∈ cyc, Vi r := by
    obtain ⟨p, vp⟩ := vex
    refine cp.ind Vi ⟨p, (main p vp).1, vp⟩ fun a ma b mb hs vb => ?_
    obtain ⟨e, me, ae, le, he, ve⟩ := nextV b vb
    obtain ⟨e2, me2, ae2, le2, he2, ve2⟩ := nextV e ve
    obtain ⟨c, hl, hc⟩ := step_low hs
    obtain ⟨c', e', hl', mcx, _⟩ := cyc_low mu s.sm cp cx ma
    rw [hl] at hl'
    cases hl'
    have := (s.sm.ha mu mcx hc).2
    rw [ae] at this
    cases this
    rw [low_inj cp ma me2 hl le2]
    exact ve2
  intro r mr
  obtain ⟨_, r', mr', ar, _⟩ := main r (all r mr)
  refine ⟨?_, r', mr', ar⟩
  obtain ⟨r2, mr2, hs⟩ := cp.nx r mr
  obtain ⟨e, me, ae, le, he, ve⟩ := nextV r2 (all r2 mr2)
  obtain ⟨e2, me2, ae2, le2, he2, ve2⟩ := nextV e ve
  obtain ⟨c, hl, hc⟩ := step_low hs
  obtain ⟨c', e', hl', mcx, _⟩ := cyc_low mu s.sm cp cx mr
  rw [hl] at hl'
  cases hl'
  have := (s.sm.ha mu mcx hc).2
  rw [ae] at this
  cases this
  have e3 := low_inj cp mr me2 hl le2
  subst e3
  rw [le2, he2]
/-- nobody comes from outside into a bad cycle -/
theorem bad_closed (mu : Mut xs f) (s : SSt xs f A H) (cx : ∀ a ∈ cyc, a ∈ xs) (bad : ∀ r ∈ cyc, lowO f A H r = H r ∧ ∃ r' ∈ cyc, A r = some r') {a b c r : Str} (ma : a ∈ xs) (ea : A a = some b) (eh : H a = some c) (ne : b ≠ c) (hs : stepO f A H a = some r) (mr : r ∈ cyc) : a ∈ cyc := by
  obtain ⟨l, e, hl, mlx, ehl, mex, hae, hle, _⟩ := D_low mu s ma ea eh ne
  obtain ⟨l', hl', hr'⟩ := step_low hs
  rw [hl] at hl'
  cases hl'
  rw [ehl] at hr'
  cases hr'
  obtain ⟨_, l2, mlc, al2⟩ := bad _ mr
  rw [hae] at al2
  cases al2
  obtain ⟨ml, _, hacc, _⟩ := low_spec (mu.fn a ma) ea hl
  rw [ehl, ra_some] at hacc
  obtain ⟨lowl, r', mr', al⟩ := bad l mlc
  by_cases z : c = l
  · subst z
    have := (s.sm.ha mu ma eh).2
    rw [al] at this
    cases this
    exact mr'
  · exfalso
    have mal := (mu.fi a ma l ml).2
    have hlt : (f a).idxOf l < (f a).idxOf c := by
      have : (f a).idxOf l ≠ (f a).idxOf c := fun w => z (idx_inj ml (s.sm.oh a ma c eh) w).symm
      omega
    have hr : ratherO (f a) l (H a) = true := by rw [eh, ra_some]; exact hlt
    have hna : ¬ ratherO (f l) a (A l) = true := fun w => s.sm.st l mlx a mal w hr
    rw [al, ra_some] at hna
    have hne : r' ≠ a := fun w => by
      subst w
      have := (s.sm.ah mu mlx al).2
      rw [eh] at this
      exact z (Option.some.inj this)
    have : (f l).idxOf r' ≠ (f l).idxOf a := fun w => hne (idx_inj (s.sm.oa l mlx r' al) mal w)
    obtain ⟨y, hy, hyl⟩ := low_ex (mu.fn l mlx) al mal (by omega) hr
    rw [lowl, ehl] at hy
    cases hy
    omega
theorem D_orbit (mu : Mut xs f) (s : SSt xs f A H) {a b c : Str} (ma : a ∈ xs) (ea : A a = some b) (eh : H a = some c) (ne : b ≠ c) : ∀ n, ∃ e b' c', itO (stepO f A H) a n = some e ∧ e ∈ xs ∧ A e = some b' ∧ H e = some c' ∧ b' ≠ c'
  | 0 => ⟨a, b, c, rfl, ma, ea, eh, ne⟩
  | n + 1 => by
    obtain ⟨e, b', c', h1, h2, h3, h4, h5⟩ := D_orbit mu s ma ea eh ne n
    obtain ⟨l, e2, hl, _, ehl, mex, hae, _, c2, hc2, hne⟩ := D_low mu s h2 h3 h4 h5
    refine ⟨e2, l, c2, ?_, mex, hae, hc2, hne⟩
    show (itO (stepO f A H) a n).bind (stepO f A H) = some e2
    rw [h1]
    show (lowO f A H e).bind H = some e2
    rw [hl]
    exact ehl
theorem it_from {step : OF} {a s : Str} {i : Nat} (h : itO step a i = some s) : ∀ n, itO step s n = itO step a (i + n)
  | 0 => h.symm
  | n + 1 => by
    show (itO step s n).bind step = (itO step a (i + n)).bind step
    rw [it_from h n]
theorem quarrel_pass (mu : Mut xs f) (s : SSt xs f A H) {a b : Str} (ma : a ∈ xs) (mb : b ∈ f a) (h1 : ratherO (f a) b (H a) = true) (h2 : ratherO (f b) a (H b) = true) :
    ∃ st ∈ xs, ∃ cyc, cyO (stepO f A H) st = some cyc ∧ ioB xs f (nAs (lowO f A H) A cyc) (nHo (lowO f A H) H cyc) = true := by
  obtain ⟨d, c, ea, eh, ne, hlow⟩ := quarrel_low mu s ma mb h1 h2
  have orb := D_orbit mu s ma ea eh ne
  have dup : ∃ i j : Nat, i < j ∧ itO (stepO f A H) a i = itO (stepO f A H) a j := Classical.byContradiction fun hn => by
    have nd : ((List.range (xs.length + 1)).map fun i => (itO (stepO f A H) a i).getD "").Nodup := by
      refine List.pairwise_map.mpr (List.pairwise_lt_range.imp fun {i j} lt => fun (e : (itO (stepO f A H) a i).getD "" = (itO (stepO f A H) a j).getD "") => hn ⟨i, j, lt, ?_⟩)
      obtain ⟨u, _, _, hu, _⟩ := orb i
      obtain ⟨v, _, _, hv, _⟩ := orb j
      rw [hu, hv] at e ⊢
      have e : u = v := e
      rw [e]
    have := nodup_len nd (ys := xs) fun y my => by
      obtain ⟨i, _, rfl⟩ := List.mem_map.mp my
      obtain ⟨u, _, _, hu, mx, _⟩ := orb i
      rw [hu]
      exact mx
    rw [List.length_map, List.length_range] at this
    omega
  obtain ⟨i, j, lt, hij⟩ := dup
  obtain ⟨st, b', c', hst, mst, ea', eh', ne'⟩ := orb i
  have hx : ∀ n x, itO (stepO f A H) st n = some x → x ∈ xs := fun n x hn => by
    obtain ⟨u, _, _, hu, mu', _⟩ := D_orbit mu s mst ea' eh' ne' n
    rw [hn] at hu
    cases hu
    exact mu'
  obtain ⟨cyc, hc⟩ := cyO_ex hx mu.few (k := j - i) (by omega) (by rw [it_from hst, show i + (j - i) = j by omega, ← hij, hst])
  refine ⟨st, mst, cyc, hc, Classical.byContradiction fun hio => ?_⟩
  obtain ⟨cp, cx, ms, orb2⟩ := cyO_cyc hx mu.few hc
  have cd : ∀ x ∈ cyc, ∃ b c, A x = some b ∧ H x = some c ∧ b ≠ c := fun x mx => by
    obtain ⟨n, hn⟩ := orb2 x mx
    obtain ⟨u, b1, c1, hu, _, h3, h4, h5⟩ := D_orbit mu s mst ea' eh' ne' n
    rw [hn] at hu
    cases hu
    exact ⟨b1, c1, h3, h4, h5⟩
  have bad := viol_bad mu s cp cx cd hio
  have back : ∀ n, n ≤ i → ∃ e, itO (stepO f A H) a (i - n) = some e ∧ e ∈ cyc := by
    intro n
    induction n with
    | zero => intro _; exact ⟨st, hst, ms⟩
    | succ n ih =>
      intro hn
      obtain ⟨e, he, me⟩ := ih (by omega)
      obtain ⟨e2, b2, c2, he2, m2, ea2, eh2, ne2⟩ := orb (i - (n + 1))
      refine ⟨e2, he2, bad_closed mu s cx bad m2 ea2 eh2 ne2 ?_ me⟩
      rw [show i - n = (i - (n + 1)) + 1 by omega] at he
      have he : (itO (stepO f A H) a (i - (n + 1))).bind (stepO f A H) = some e := he
      rw [he2] at he
      exact he
  obtain ⟨e, he, me⟩ := back i (Nat.le_refl _)
  rw [Nat.sub_self] at he
  cases he
  exact hlow (bad a me).1
end
end Q

set_option Elab.async false
set_option linter.all false
set_option maxRecDepth 100000
set_option maxHeartbeats 4000000
namespace Q
open PySem PySem.Spec PyProof.Rows L2
/-! ### all ask until nobody asks any more: plain theory -/
structure AskI (xs : List Str) (f : Str → List Str) (A H : OF) (n : Str → Nat) (free : List Str) : Prop where
  inv : ∀ a ∈ xs, ∀ b ∈ xs, A a = some b ↔ H b = some a
  at_ : ∀ a ∈ xs, ∀ b, A a = some b → ∃ k, n a = k + 1 ∧ (f a)[k]? = some b
  oh : ∀ b ∈ xs, ∀ a, H b = some a → a ∈ xs
  ref : ∀ a ∈ xs, ∀ j b, j < n a → (f a)[j]? = some b → A a = some b ∨ ∃ c, H b = some c ∧ (f b).idxOf c < (f b).idxOf a
  fr : ∀ a ∈ xs, A a = none → a ∈ free ∨ (f a).length ≤ n a
  fi : ∀ a ∈ free, a ∈ xs ∧ A a = none
  nd : free.Nodup
  nl : ∀ a ∈ xs, n a ≤ (f a).length
  opt : ∀ A' H', SM xs f A' H' → ∀ a ∈ xs, ∀ j b, j < n a → (f a)[j]? = some b → A a ≠ some b → A' a ≠ some b
section
variable {xs : List Str} {f : Str → List Str} {A H : OF} {n : Str → Nat} {fr : List Str} {a b : Str}
theorem AskI.init {ys : List Str} (nd : ys.Nodup) (h : ∀ x, x ∈ ys ↔ x ∈ xs) : AskI xs f (fun _ => none) (fun _ => none) (fun _ => 0) ys :=
  ⟨fun _ _ _ _ => ⟨fun z => (nomatch z), fun z => (nomatch z)⟩, fun _ _ _ z => (nomatch z), fun _ _ _ z => (nomatch z), fun _ _ _ _ z => absurd z (Nat.not_lt_zero _), fun a ma _ => .inl ((h a).mpr ma), fun a ma => ⟨(h a).mp ma, rfl⟩, nd, fun _ _ => Nat.zero_le _, fun _ _ _ _ _ _ _ z => absurd z (Nat.not_lt_zero _)⟩
theorem AskI.last (h : AskI xs f A H n (fr ++ [a])) : a ∈ xs ∧ A a = none ∧ fr.Nodup ∧ a ∉ fr := by
  obtain ⟨h1, h2⟩ := h.fi a (by simp)
  have nd := h.nd
  rw [List.nodup_append] at nd
  exact ⟨h1, h2, nd.1, fun m => nd.2.2 a m a (by simp) rfl⟩
/-- nobody is left to be asked -/
theorem AskI.done (h : AskI xs f A H n (fr ++ [a])) (hn : (f a).length ≤ n a) : AskI xs f A H n fr := by
  obtain ⟨ma, ha, nd, na⟩ := h.last
  refine ⟨h.inv, h.at_, h.oh, h.ref, fun x mx hx => ?_, fun x mx => h.fi x (List.mem_append_left _ mx), nd, h.nl, h.opt⟩
  rcases h.fr x mx hx with m | m
  · rcases List.mem_append.mp m with m | m
    · exact .inl m
    · rw [List.mem_singleton.mp m]
      exact .inr hn
  · exact .inr m
/-- who holds a place at b: everybody dearer refused before -/
theorem AskI.hold (mu : Mut xs f) (h : AskI xs f A H n fr) {c : Str} (mb : b ∈ xs) (hb : H b = some c) : c ∈ xs ∧ A c = some b ∧ b ∈ f c ∧ n c = (f c).idxOf b + 1 := by
  have mc := h.oh b mb c hb
  have hc := (h.inv c mc b mb).mpr hb
  obtain ⟨k, h1, h2⟩ := h.at_ c mc b hc
  obtain ⟨hl, e⟩ := List.getElem?_eq_some_iff.mp h2
  refine ⟨mc, hc, List.mem_of_getElem? h2, ?_⟩
  rw [h1, ← e, (mu.fn c mc).idxOf_getElem]
theorem AskI.rather (mu : Mut xs f) (h : AskI xs f A H n fr) {A' H' : OF} (s : SM xs f A' H') {c : Str} (mb : b ∈ xs) (hb : H b = some c) (ne : A' c ≠ some b) : ratherO (f c) b (A' c) = true := by
  obtain ⟨mc, hc, mbc, hn⟩ := h.hold mu mb hb
  cases e : A' c with
  | none => rfl
  | some d =>
    rw [ra_some]
    have md := s.oa c mc d e
    have hdb : d ≠ b := fun z => ne (by rw [e, z])
    have : (f c).idxOf b ≠ (f c).idxOf d := fun z => hdb (idx_inj mbc md z).symm
    refine Nat.lt_of_not_le fun hle => ?_
    exact h.opt A' H' s c mc ((f c).idxOf d) d (by omega) (get_idx md) (fun z => by rw [hc] at z; exact hdb (Option.some.inj z).symm) e
theorem AskI.ratherF (h : AskI xs f A H n fr) {A' H' : OF} (s : SM xs f A' H') (ma : a ∈ xs) (ha : A a = none) (mu : Mut xs f) (hb : (f a)[n a]? = some b) (ne : A' a ≠ some b) : ratherO (f a) b (A' a) = true := by
  cases e : A' a with
  | none => rfl
  | some d =>
    rw [ra_some]
    have md := s.oa a ma d e
    have mb := List.mem_of_getElem? hb
    have hdb : d ≠ b := fun z => ne (by rw [e, z])
    have : (f a).idxOf b ≠ (f a).idxOf d := fun z => hdb (idx_inj mb md z).symm
    have eb : (f a).idxOf b = n a := by
      obtain ⟨hl, e⟩ := List.getElem?_eq_some_iff.mp hb
      rw [← e, (mu.fn a ma).idxOf_getElem]
    refine Nat.lt_of_not_le fun hle => ?_
    exact h.opt A' H' s a ma ((f a).idxOf d) d (by omega) (get_idx md) (fun z => by rw [ha] at z; cases z) e
theorem AskI.refuse (mu : Mut xs f) (h : AskI xs f A H n (fr ++ [a])) (hb : (f a)[n a]? = some b) {c : Str} (hc : H b = some c) (lt : (f b).idxOf c < (f b).idxOf a) : AskI xs f A H (updW n a (n a + 1)) (fr ++ [a]) := by
  obtain ⟨ma, ha, nd, na⟩ := h.last
  have mba := List.mem_of_getElem? hb
  obtain ⟨mb, mab⟩ := mu.fi a ma b mba
  obtain ⟨mc, hAc, mbc, hnc⟩ := h.hold mu mb hc
  have hlen := (List.getElem?_eq_some_iff.mp hb).1
  have un : ∀ {x : Str}, x ≠ a → updW n a (n a + 1) x = n x := fun e => updW_ne e
  refine ⟨h.inv, fun x mx y e => ?_, h.oh, fun x mx j y hj hy => ?_, fun x mx hx => ?_, h.fi, h.nd, fun x mx => ?_, fun A' H' s x mx j y hj hy e => ?_⟩
  · have : x ≠ a := fun z => by rw [z, ha] at e; cases e
    rw [un this]
    exact h.at_ x mx y e
  · by_cases z : x = a
    · subst z
      rw [updW_eq] at hj
      by_cases hjn : j = n x
      · subst hjn
        rw [hb] at hy
        cases hy
        exact .inr ⟨c, hc, lt⟩
      · exact h.ref x mx j y (by omega) hy
    · rw [un z] at hj
      exact h.ref x mx j y hj hy
  · by_cases z : x = a
    · subst z
      exact .inl (by simp)
    · rw [un z]
      exact h.fr x mx hx
  · by_cases z : x = a
    · subst z
      rw [updW_eq]
      omega
    · rw [un z]
      exact h.nl x mx
  · by_cases z : x = a
    · subst z
      rw [updW_eq] at hj
      by_cases hjn : j = n x
      · subst hjn
        rw [hb] at hy
        cases hy
        intro e2
        have hca : c ≠ x := fun w => by rw [w, ha] at hAc; cases hAc
        have hH := (s.ah mu mx e2).2
        have hne : A' c ≠ some b := fun w => by
          have := (s.ah mu mc w).2
          rw [hH] at this
          exact hca (Option.some.inj this).symm
        exact s.st c mc b mbc (h.rather mu s mb hc hne) (by rw [hH, ra_some]; exact lt)
      · exact h.opt A' H' s x mx j y (by omega) hy e
    · rw [un z] at hj
      exact h.opt A' H' s x mx j y hj hy e
/-- the place is free, or the one who held it must go -/
theorem AskI.takeN (mu : Mut xs f) (h : AskI xs f A H n (fr ++ [a])) (hb : (f a)[n a]? = some b) (hc : H b = none) : AskI xs f (updW A a (some b)) (updW H b (some a)) (updW n a (n a + 1)) fr := by
  obtain ⟨ma, ha, nd, na⟩ := h.last
  have mba := List.mem_of_getElem? hb
  obtain ⟨mb, mab⟩ := mu.fi a ma b mba
  have hlen := (List.getElem?_eq_some_iff.mp hb).1
  refine ⟨fun x mx y my => ?_, fun x mx y e => ?_, fun y my x e => ?_, fun x mx j y hj hy => ?_, fun x mx hx => ?_, fun x mx => ?_, nd, fun x mx => ?_, fun A' H' s x mx j y hj hy e => ?_⟩
  · by_cases z1 : x = a
    · subst z1
      rw [updW_eq]
      by_cases z2 : y = b
      · subst z2
        rw [updW_eq]
        exact ⟨fun _ => rfl, fun _ => rfl⟩
      · rw [updW_ne z2]
        exact ⟨fun w => absurd (Option.some.inj w).symm z2, fun w => by
          have := (h.inv x mx y my).mpr w
          rw [ha] at this
          cases this⟩
    · rw [updW_ne z1]
      by_cases z2 : y = b
      · subst z2
        rw [updW_eq]
        exact ⟨fun w => (by
          have := (h.inv x mx y my).mp w
          rw [hc] at this
          cases this), fun w => absurd (Option.some.inj w).symm z1⟩
      · rw [updW_ne z2]
        exact h.inv x mx y my
  · by_cases z : x = a
    · subst z
      rw [updW_eq] at e ⊢
      cases e
      exact ⟨n x, rfl, hb⟩
    · rw [updW_ne z] at e ⊢
      exact h.at_ x mx y e
  · by_cases z : y = b
    · subst z
      rw [updW_eq] at e
      cases e
      exact ma
    · rw [updW_ne z] at e
      exact h.oh y my x e
  · by_cases z : x = a
    · subst z
      rw [updW_eq] at hj ⊢
      by_cases hjn : j = n x
      · subst hjn
        rw [hb] at hy
        cases hy
        exact .inl rfl
      · rcases h.ref x mx j y (by omega) hy with w | ⟨c, h1, h2⟩
        · rw [ha] at w; cases w
        · have : y ≠ b := fun q => by rw [q, hc] at h1; cases h1
          exact .inr ⟨c, by rw [updW_ne this]; exact h1, h2⟩
    · rw [updW_ne z] at hj ⊢
      rcases h.ref x mx j y hj hy with w | ⟨c, h1, h2⟩
      · exact .inl w
      · have : y ≠ b := fun q => by rw [q, hc] at h1; cases h1
        exact .inr ⟨c, by rw [updW_ne this]; exact h1, h2⟩
  · by_cases z : x = a
    · subst z
      rw [updW_eq] at hx
      cases hx
    · rw [updW_ne z] at hx ⊢
      rcases h.fr x mx hx with m | m
      · rcases List.mem_append.mp m with m | m
        · exact .inl m
        · exact absurd (List.mem_singleton.mp m) z
      · exact .inr m
  · have hx : x ≠ a := fun z => na (by rw [← z]; exact mx)
    obtain ⟨h1, h2⟩ := h.fi x (List.mem_append_left _ mx)
    exact ⟨h1, by rw [updW_ne hx]; exact h2⟩
  · by_cases z : x = a
    · subst z
      rw [updW_eq]
      omega
    · rw [updW_ne z]
      exact h.nl x mx
  · by_cases z : x = a
    · subst z
      rw [updW_eq] at hj e
      by_cases hjn : j = n x
      · subst hjn
        rw [hb] at hy
        cases hy
        exact absurd rfl e
      · exact h.opt A' H' s x mx j y (by omega) hy (by rw [ha]; exact fun w => (nomatch w))
    · rw [updW_ne z] at hj e
      exact h.opt A' H' s x mx j y hj hy e
theorem AskI.takeS (mu : Mut xs f) (h : AskI xs f A H n (fr ++ [a])) (hb : (f a)[n a]? = some b) {c : Str} (hc : H b = some c) (lt : ¬ (f b).idxOf c < (f b).idxOf a) : AskI xs f (updW (updW A a (some b)) c none) (updW H b (some a)) (updW n a (n a + 1)) (fr ++ [c]) := by
  obtain ⟨ma, ha, nd, na⟩ := h.last
  have mba := List.mem_of_getElem? hb
  obtain ⟨mb, mab⟩ := mu.fi a ma b mba
  have hlen := (List.getElem?_eq_some_iff.mp hb).1
  obtain ⟨mc, hAc, mbc, hnc⟩ := h.hold mu mb hc
  have hca : c ≠ a := fun w => by rw [w, ha] at hAc; cases hAc
  have mcb := (mu.fi c mc b mbc).2
  have lt2 : (f b).idxOf a < (f b).idxOf c := by
    have : (f b).idxOf c ≠ (f b).idxOf a := fun z => hca (idx_inj mcb mab z)
    omega
  have ua : updW (updW A a (some b)) c none a = some b := by rw [updW_ne (Ne.symm hca), updW_eq]
  have uc : updW (updW A a (some b)) c none c = none := updW_eq
  have uo : ∀ {x : Str}, x ≠ a → x ≠ c → updW (updW A a (some b)) c none x = A x := fun e1 e2 => by rw [updW_ne e2, updW_ne e1]
  have only : ∀ {x : Str}, x ∈ xs → A x = some b → x = c := fun {x} mx e => by
    have := (h.inv x mx b mb).mp e
    rw [hc] at this
    exact (Option.some.inj this).symm
  refine ⟨fun x mx y my => ?_, fun x mx y e => ?_, fun y my x e => ?_, fun x mx j y hj hy => ?_, fun x mx hx => ?_, fun x mx => ?_, ?_, fun x mx => ?_, fun A' H' s x mx j y hj hy e => ?_⟩
  · by_cases z1 : x = a
    · subst z1
      rw [ua]
      by_cases z2 : y = b
      · subst z2
        rw [updW_eq]
        exact ⟨fun _ => rfl, fun _ => rfl⟩
      · rw [updW_ne z2]
        exact ⟨fun w => absurd (Option.some.inj w).symm z2, fun w => by
          have := (h.inv x mx y my).mpr w
          rw [ha] at this
          cases this⟩
    · by_cases z3 : x = c
      · subst z3
        rw [uc]
        by_cases z2 : y = b
        · subst z2
          rw [updW_eq]
          exact ⟨fun w => (nomatch w), fun w => absurd (Option.some.inj w).symm z1⟩
        · rw [updW_ne z2]
          exact ⟨fun w => (nomatch w), fun w => by
            have := (h.inv x mx y my).mpr w
            rw [hAc] at this
            exact absurd (Option.some.inj this).symm z2⟩
      · rw [uo z1 z3]
        by_cases z2 : y = b
        · subst z2
          rw [updW_eq]
          exact ⟨fun w => absurd (only mx w) z3, fun w => absurd (Option.some.inj w).symm z1⟩
        · rw [updW_ne z2]
          exact h.inv x mx y my
  · by_cases z : x = a
    · subst z
      rw [ua] at e
      rw [updW_eq]
      cases e
      exact ⟨n x, rfl, hb⟩
    · by_cases z3 : x = c
      · subst z3
        rw [uc] at e
        cases e
      · rw [uo z z3] at e
        rw [updW_ne z]
        exact h.at_ x mx y e
  · by_cases z : y = b
    · subst z
      rw [updW_eq] at e
      cases e
      exact ma
    · rw [updW_ne z] at e
      exact h.oh y my x e
  · have better : ∀ {y : Str}, (∃ d, H y = some d ∧ (f y).idxOf d < (f y).idxOf x) → ∃ d, updW H b (some a) y = some d ∧ (f y).idxOf d < (f y).idxOf x := fun {y} ⟨d, h1, h2⟩ => by
      by_cases q : y = b
      · subst q
        rw [hc] at h1
        cases h1
        exact ⟨a, updW_eq, by omega⟩
      · exact ⟨d, by rw [updW_ne q]; exact h1, h2⟩
    by_cases z : x = a
    · subst z
      rw [updW_eq] at hj
      rw [ua]
      by_cases hjn : j = n x
      · subst hjn
        rw [hb] at hy
        cases hy
        exact .inl rfl
      · rcases h.ref x mx j y (by omega) hy with w | w
        · rw [ha] at w; cases w
        · exact .inr (better w)
    · rw [updW_ne z] at hj
      by_cases z3 : x = c
      · subst z3
        rcases h.ref x mx j y hj hy with w | w
        · rw [hAc] at w
          cases w
          exact .inr ⟨a, updW_eq, lt2⟩
        · exact .inr (better w)
      · rw [uo z z3]
        rcases h.ref x mx j y hj hy with w | w
        · exact .inl w
        · exact .inr (better w)
  · by_cases z : x = a
    · subst z
      rw [ua] at hx
      cases hx
    · by_cases z3 : x = c
      · subst z3
        exact .inl (by simp)
      · rw [uo z z3] at hx
        rw [updW_ne z]
        rcases h.fr x mx hx with m | m
        · rcases List.mem_append.mp m with m | m
          · exact .inl (List.mem_append_left _ m)
          · exact absurd (List.mem_singleton.mp m) z
        · exact .inr m
  · rcases List.mem_append.mp mx with mx | mx
    · obtain ⟨h1, h2⟩ := h.fi x (List.mem_append_left _ mx)
      have hx : x ≠ a := fun z => na (by rw [← z]; exact mx)
      have hx2 : x ≠ c := fun z => by rw [z, hAc] at h2; cases h2
      exact ⟨h1, by rw [uo hx hx2]; exact h2⟩
    · rw [List.mem_singleton.mp mx]
      exact ⟨mc, uc⟩
  · rw [List.nodup_append]
    refine ⟨nd, by simp, fun x mx y my e => ?_⟩
    rw [List.mem_singleton.mp my] at e
    subst e
    have := (h.fi x (List.mem_append_left _ mx)).2
    rw [hAc] at this
    cases this
  · by_cases z : x = a
    · subst z
      rw [updW_eq]
      omega
    · rw [updW_ne z]
      exact h.nl x mx
  · by_cases z : x = a
    · subst z
      rw [updW_eq] at hj
      rw [ua] at e
      by_cases hjn : j = n x
      · subst hjn
        rw [hb] at hy
        cases hy
        exact absurd rfl e
      · exact h.opt A' H' s x mx j y (by omega) hy (by rw [ha]; exact fun w => (nomatch w))
    · rw [updW_ne z] at hj
      by_cases z3 : x = c
      · subst z3
        by_cases q : y = b
        · subst q
          intro e2
          have hH := (s.ah mu mx e2).2
          have hne : A' a ≠ some y := fun w => by
            have := (s.ah mu ma w).2
            rw [hH] at this
            exact hca (Option.some.inj this)
          exact s.st a ma y mba (h.ratherF s ma ha mu hb hne) (by rw [hH, ra_some]; exact lt2)
        · exact h.opt A' H' s x mx j y hj hy (by rw [hAc]; exact fun w => q (Option.some.inj w).symm)
      · rw [uo z z3] at e
        exact h.opt A' H' s x mx j y hj hy e
theorem AskI.end_ (mu : Mut xs f) (h : AskI xs f A H n []) : SSt xs f A H := by
  have oa : ∀ a ∈ xs, ∀ b, A a = some b → b ∈ f a := fun a ma b e => by
    obtain ⟨k, _, h2⟩ := h.at_ a ma b e
    exact List.mem_of_getElem? h2
  have full : ∀ a ∈ xs, A a = none → (f a).length ≤ n a := fun a ma e => by
    rcases h.fr a ma e with m | m
    · cases m
    · exact m
  have sm : SM xs f A H := by
    refine ⟨h.inv, oa, fun b mb a e => ?_, fun a ma b mb r1 r2 => ?_⟩
    · obtain ⟨mc, hc, mbc, _⟩ := h.hold mu mb e
      exact (mu.fi a mc b mbc).2
    · have hlb := List.idxOf_lt_length_of_mem mb
      have key : (f a).idxOf b < n a ∧ A a ≠ some b := by
        cases e : A a with
        | none => exact ⟨Nat.lt_of_lt_of_le hlb (full a ma e), fun z => (nomatch z)⟩
        | some d =>
          obtain ⟨k, h1, h2⟩ := h.at_ a ma d e
          obtain ⟨hl, e2⟩ := List.getElem?_eq_some_iff.mp h2
          have ed : (f a).idxOf d = k := by rw [← e2, (mu.fn a ma).idxOf_getElem]
          rw [e, ra_some] at r1
          exact ⟨by omega, fun z => by cases z; omega⟩
      rcases h.ref a ma _ b key.1 (get_idx mb) with w | ⟨c, h1, h2⟩
      · exact key.2 w
      · rw [h1, ra_some] at r2
        omega
  have io : IOr xs f A H := fun a ma c hc => by
    have mc := sm.oh a ma c hc
    have hlc := List.idxOf_lt_length_of_mem mc
    cases e : A a with
    | none =>
      exfalso
      exact h.opt H A (sm.dual mu) a ma _ c (Nat.lt_of_lt_of_le hlc (full a ma e)) (get_idx mc) (by rw [e]; exact fun z => (nomatch z)) hc
    | some b =>
      refine ⟨b, rfl, Nat.le_of_not_lt fun lt => ?_⟩
      obtain ⟨k, h1, h2⟩ := h.at_ a ma b e
      obtain ⟨hl, e2⟩ := List.getElem?_eq_some_iff.mp h2
      have eb : (f a).idxOf b = k := by rw [← e2, (mu.fn a ma).idxOf_getElem]
      exact h.opt H A (sm.dual mu) a ma _ c (by omega) (get_idx mc) (by rw [e]; exact fun z => by cases z; omega) hc
  exact ⟨sm, sm.domE mu io, io⟩
end
end Q

set_option Elab.async false
set_option linter.all false
set_option maxRecDepth 100000
set_option maxHeartbeats 4000000
namespace Q
open PySem PySem.Spec PyProof.Rows L2
/-! ### halves, rings, plain halves: plain theory -/
structure PermF (xs : List Str) (x y : Str → Str) : Prop where
  inx : ∀ a ∈ xs, x a ∈ xs
  iny : ∀ a ∈ xs, y a ∈ xs
  yx : ∀ a ∈ xs, y (x a) = a
  xy : ∀ a ∈ xs, x (y a) = a
structure HalfF (xs : List Str) (f : Str → List Str) (x y : Str → Str) : Prop where
  pm : PermF xs x y
  op : ∀ a ∈ xs, x a ≠ a → x a ∈ f a
  ord : ∀ a ∈ xs, x a ≠ y a → (f a).idxOf (x a) ≤ (f a).idxOf (y a)
  nq : ∀ a ∈ xs, ∀ b ∈ f a, (y a = a ∨ (f a).idxOf b < (f a).idxOf (y a)) → (y b = b ∨ (f b).idxOf a < (f b).idxOf (y b)) → False
def oG (A : OF) : Str → Str := fun a => (A a).getD a
theorem SSt.half {xs : List Str} {f : Str → List Str} {A H : OF} (mu : Mut xs f) (s : SSt xs f A H) (np : ∀ st ∈ xs, ∀ cyc, cyO (stepO f A H) st = some cyc → ioB xs f (nAs (lowO f A H) A cyc) (nHo (lowO f A H) H cyc) ≠ true) : HalfF xs f (oG A) (oG H) := by
  have two : ∀ {A H : OF}, SM xs f A H → DomE xs A H → ∀ a ∈ xs, oG A a ∈ xs ∧ oG H (oG A a) = a := fun {A H} sm dm a ma => by
    unfold oG
    cases e : A a with
    | none =>
      have := dm a ma
      rw [e] at this
      have hn : H a = none := by
        cases z : H a with
        | none => rfl
        | some _ => rw [z] at this; cases this
      refine ⟨ma, ?_⟩
      show (H a).getD a = a
      rw [hn]
      rfl
    | some b =>
      obtain ⟨mb, hb⟩ := sm.ah mu ma e
      refine ⟨mb, ?_⟩
      show (H b).getD b = a
      rw [hb]
      rfl
  have dd : DomE xs H A := fun a ma => (s.dm a ma).symm
  have rat : ∀ {a b : Str}, a ∈ xs → (oG H a = a ∨ (f a).idxOf b < (f a).idxOf (oG H a)) → ratherO (f a) b (H a) = true := fun {a b} ma h => by
    cases e : H a with
    | none => rfl
    | some c =>
      have mc := s.sm.oh a ma c e
      have hc : oG H a = c := by unfold oG; rw [e]; rfl
      rw [hc] at h
      rcases h with h | h
      · exact absurd (by rw [h] at mc; exact mc) (mu.fs a ma)
      · rw [ra_some]; exact h
  refine ⟨⟨fun a ma => (two s.sm s.dm a ma).1, fun a ma => (two (s.sm.dual mu) dd a ma).1, fun a ma => (two s.sm s.dm a ma).2, fun a ma => (two (s.sm.dual mu) dd a ma).2⟩, fun a ma ne => ?_, fun a ma ne => ?_, fun a ma b mb h1 h2 => ?_⟩
  · unfold oG at ne ⊢
    cases e : A a with
    | none => rw [e] at ne; exact absurd rfl ne
    | some b => exact s.sm.oa a ma b e
  · cases e : H a with
    | none =>
      have := s.dm a ma
      rw [e] at this
      have hn : A a = none := by
        cases z : A a with
        | none => rfl
        | some _ => rw [z] at this; cases this
      unfold oG at ne
      rw [e, hn] at ne
      exact absurd rfl ne
    | some c =>
      obtain ⟨b, hb, hle⟩ := s.io a ma c e
      unfold oG
      rw [e, hb]
      exact hle
  · obtain ⟨st, mst, cyc, h3, h4⟩ := quarrel_pass mu s ma mb (rat ma h1) (rat (mu.fi a ma b mb).1 h2)
    exact np st mst cyc h3 h4
/-! ### rings -/
def sO (x : Str → Str) : OF := fun a => some (x a)
def ringL (x : Str → Str) (s : Str) : List Str := (cyF (sO x) 17 [s] (some (x s))).1
section
variable {xs : List Str} {x y : Str → Str}
theorem PermF.inj (h : PermF xs x y) {a b : Str} (ma : a ∈ xs) (mb : b ∈ xs) (e : x a = x b) : a = b := by
  rw [← h.yx a ma, e, h.yx b mb]
theorem PermF.orb (h : PermF xs x y) {s : Str} (ms : s ∈ xs) : ∀ n, ∃ a ∈ xs, itO (sO x) s n = some a
  | 0 => ⟨s, ms, rfl⟩
  | n + 1 => by
    obtain ⟨a, ma, e⟩ := h.orb ms n
    refine ⟨x a, h.inx a ma, ?_⟩
    show (itO (sO x) s n).bind (sO x) = _
    rw [e]
    rfl
theorem PermF.back (h : PermF xs x y) {s : Str} (ms : s ∈ xs) {m i : Nat} (e : itO (sO x) s (m + 1) = itO (sO x) s (i + 1)) : itO (sO x) s m = itO (sO x) s i := by
  obtain ⟨a, ma, ea⟩ := h.orb ms m
  obtain ⟨b, mb, eb⟩ := h.orb ms i
  have e : (itO (sO x) s m).bind (sO x) = (itO (sO x) s i).bind (sO x) := e
  rw [ea, eb] at e
  have e : some (x a) = some (x b) := e
  rw [ea, eb, h.inj ma mb (Option.some.inj e)]
/-- what comes again is the first one -/
theorem OrbI.again (h : PermF xs x y) {s : Str} (ms : s ∈ xs) {acc : List Str} {a : Str} (o : OrbI (sO x) s acc (some a)) (ma : a ∈ acc) : a = s := by
  obtain ⟨i, hi⟩ := List.mem_iff_getElem?.mp ma
  have hl := (List.getElem?_eq_some_iff.mp hi).1
  have hn := o.ne
  cases i with
  | zero =>
    have := o.at_ 0 hn
    rw [hi] at this
    exact Option.some.inj this
  | succ j =>
    exfalso
    have h1 : itO (sO x) s ((acc.length - 1) + 1) = itO (sO x) s (j + 1) := by
      rw [show (acc.length - 1) + 1 = acc.length by omega, ← o.nx, ← o.at_ _ hl, hi]
    have h2 := h.back ms h1
    rw [← o.at_ _ (by omega), ← o.at_ _ (by omega)] at h2
    have h3 : acc[j]? = some (acc[j]'(by omega)) := List.getElem?_eq_getElem _
    have := nd_at o.nd (h2.trans h3) h3
    omega
theorem OrbI.snoc {s : Str} {acc : List Str} {a : Str} (o : OrbI (sO x) s acc (some a)) (ma : a ∉ acc) : OrbI (sO x) s (acc ++ [a]) (some (x a)) := by
  refine ⟨fun i hi => ?_, ?_, ?_, by rw [List.length_append]; exact Nat.lt_of_lt_of_le o.ne (Nat.le_add_right _ _)⟩
  · rw [List.length_append, List.length_singleton] at hi
    by_cases hl : i < acc.length
    · rw [List.getElem?_append_left hl]
      exact o.at_ i hl
    · have e : i = acc.length := by omega
      subst e
      rw [List.getElem?_append_right (Nat.le_refl _), Nat.sub_self, ← o.nx]
      rfl
  · rw [List.length_append, List.length_singleton]
    show some (x a) = (itO (sO x) s acc.length).bind (sO x)
    rw [← o.nx]
    rfl
  · rw [List.nodup_append]
    exact ⟨o.nd, by simp, fun z mz w mw e => ma (by
      have := List.mem_singleton.mp mw
      rw [← this, ← e]
      exact mz)⟩
theorem OrbI.uniq {s : Str} {acc acc' : List Str} (o : OrbI (sO x) s acc (some s)) (o' : OrbI (sO x) s acc' (some s)) : acc = acc' := by
  have le : ∀ {acc acc' : List Str}, OrbI (sO x) s acc (some s) → OrbI (sO x) s acc' (some s) → acc'.length ≤ acc.length := fun {acc acc'} o o' => Nat.le_of_not_lt fun lt => by
    have h1 := o'.at_ acc.length lt
    rw [← o.nx] at h1
    have := nd_at o'.nd h1 (o'.at_ 0 o'.ne)
    have := o.ne
    omega
  have hl : acc.length = acc'.length := Nat.le_antisymm (le o' o) (le o o')
  refine List.ext_getElem? fun i => ?_
  by_cases hi : i < acc.length
  · rw [o.at_ i hi, o'.at_ i (by omega)]
  · rw [List.getElem?_eq_none (by omega), List.getElem?_eq_none (by omega)]
theorem OrbI.inxs (h : PermF xs x y) {s : Str} (ms : s ∈ xs) {acc : List Str} {q : Option Str} (o : OrbI (sO x) s acc q) : ∀ a ∈ acc, a ∈ xs := fun a ma => by
  obtain ⟨i, hi⟩ := List.mem_iff_getElem?.mp ma
  obtain ⟨b, mb, eb⟩ := h.orb ms i
  rw [← o.at_ i (List.getElem?_eq_some_iff.mp hi).1, hi] at eb
  cases eb
  exact mb
theorem ring_orb (h : PermF xs x y) (hl : xs.length ≤ 16) {s : Str} (ms : s ∈ xs) : OrbI (sO x) s (ringL x s) (some s) := by
  have hx : ∀ i a, itO (sO x) s i = some a → a ∈ xs := fun i a e => by
    obtain ⟨b, mb, eb⟩ := h.orb ms i
    rw [e] at eb
    cases eb
    exact mb
  obtain ⟨o, e⟩ := cyF_spec hx (n := 17) (OrbI.init (step := sO x) (s := s)) (by simp; omega)
  rcases e with e | ⟨a, ma, e⟩
  · exfalso
    rw [e] at o
    obtain ⟨b, _, eb⟩ := h.orb ms (cyF (sO x) 17 [s] (sO x s)).1.length
    rw [← o.nx] at eb
    cases eb
  · rw [e] at o
    have := o.again h ms ma
    subst this
    exact o
theorem ring_cyc (h : PermF xs x y) (hl : xs.length ≤ 16) {s : Str} (ms : s ∈ xs) : CycP (sO x) (ringL x s) ∧ s ∈ ringL x s := (ring_orb h hl ms).cyc
theorem ring_in (h : PermF xs x y) (hl : xs.length ≤ 16) {s : Str} (ms : s ∈ xs) : ∀ a ∈ ringL x s, a ∈ xs := (ring_orb h hl ms).inxs h ms
theorem ring_len (h : PermF xs x y) (hl : xs.length ≤ 16) {s : Str} (ms : s ∈ xs) : (ringL x s).length ≤ 16 := Nat.le_trans (nodup_len (ring_orb h hl ms).nd (ring_in h hl ms)) hl
/-- the next one, the one before, are in the same ring -/
theorem ring_nx (h : PermF xs x y) (hl : xs.length ≤ 16) {s a : Str} (ms : s ∈ xs) (ma : a ∈ ringL x s) : x a ∈ ringL x s := by
  obtain ⟨b, mb, e⟩ := (ring_cyc h hl ms).1.nx a ma
  have e : some (x a) = some b := e
  rw [Option.some.inj e]
  exact mb
theorem ring_pv (h : PermF xs x y) (hl : xs.length ≤ 16) {s a : Str} (ms : s ∈ xs) (ma : a ∈ ringL x s) : y a ∈ ringL x s := by
  obtain ⟨b, mb, e⟩ := (ring_cyc h hl ms).1.pv a ma
  have e : some (x b) = some a := e
  rw [← Option.some.inj e, h.yx b (ring_in h hl ms b mb)]
  exact mb
/-- a ring of one of its people has the same people -/
theorem ring_same (h : PermF xs x y) (hl : xs.length ≤ 16) {s a : Str} (ms : s ∈ xs) (ma : a ∈ ringL x s) : ∀ b, b ∈ ringL x a ↔ b ∈ ringL x s := by
  have sub : ∀ {s a : Str}, s ∈ xs → a ∈ ringL x s → ∀ b ∈ ringL x a, b ∈ ringL x s := fun {s a} ms ma => by
    have mx := ring_in h hl ms a ma
    refine (ring_cyc h hl mx).1.ind (fun b => b ∈ ringL x s) ⟨a, (ring_cyc h hl mx).2, ma⟩ fun u mu v mv e hv => ?_
    have e : some (x u) = some v := e
    have := ring_pv h hl ms hv
    rw [← Option.some.inj e, h.yx u (ring_in h hl mx u mu)] at this
    exact this
  have back : s ∈ ringL x a := by
    have mx := ring_in h hl ms a ma
    have := (ring_cyc h hl ms).1.ind (fun b => s ∈ ringL x b) ⟨s, (ring_cyc h hl ms).2, (ring_cyc h hl ms).2⟩ (fun u mu v mv e hv => by
      have e : some (x u) = some v := e
      have mux := ring_in h hl ms u mu
      have mvx := ring_in h hl ms v mv
      exact sub mux (by rw [← Option.some.inj e]; exact ring_nx h hl mux (ring_cyc h hl mux).2) s hv) a ma
    exact this
  exact fun b => ⟨sub ms ma b, sub (ring_in h hl ms a ma) back b⟩
theorem ring_lenEq (h : PermF xs x y) (hl : xs.length ≤ 16) {s a : Str} (ms : s ∈ xs) (ma : a ∈ ringL x s) : (ringL x a).length = (ringL x s).length := by
  have mx := ring_in h hl ms a ma
  exact Nat.le_antisymm (nodup_len (ring_orb h hl mx).nd fun b mb => (ring_same h hl ms ma b).mp mb) (nodup_len (ring_orb h hl ms).nd fun b mb => (ring_same h hl ms ma b).mpr mb)
/-! ### all rings -/
def ringsF (x : Str → Str) : List Str → List Str → List (List Str)
  | [], _ => []
  | s :: r, seen => if s ∈ seen then ringsF x r seen else ringL x s :: ringsF x r (seen ++ ringL x s)
def ringsA (x : Str → Str) (xs : List Str) : List (List Str) := ringsF x (sortS xs) []
/-- what was seen is closed -/
def Clo (x : Str → Str) (xs seen : List Str) : Prop := ∀ s ∈ xs, s ∈ seen → ∀ b ∈ ringL x s, b ∈ seen
theorem Clo.add (h : PermF xs x y) (hl : xs.length ≤ 16) {seen : List Str} (c : Clo x xs seen) {s : Str} (ms : s ∈ xs) : Clo x xs (seen ++ ringL x s) := fun t mt m b mb => by
  rcases List.mem_append.mp m with m | m
  · exact List.mem_append_left _ (c t mt m b mb)
  · exact List.mem_append_right _ ((ring_same h hl ms m b).mp mb)
theorem ringsF_spec (h : PermF xs x y) (hl : xs.length ≤ 16) : ∀ {l seen : List Str}, (∀ s ∈ l, s ∈ xs) → Clo x xs seen →
    (∀ r ∈ ringsF x l seen, ∃ s ∈ l, r = ringL x s ∧ ∀ b ∈ r, b ∉ seen) ∧ (∀ s ∈ l, s ∈ seen ∨ ∃ r ∈ ringsF x l seen, s ∈ r) ∧ (ringsF x l seen).Pairwise fun r t => ∀ a ∈ r, a ∉ t
  | [], _, _, _ => ⟨fun _ z => (nomatch z), fun _ z => (nomatch z), List.Pairwise.nil⟩
  | s :: l, seen, hx, c => by
    have ms := hx s List.mem_cons_self
    have hx2 : ∀ t ∈ l, t ∈ xs := fun t mt => hx t (List.mem_cons_of_mem _ mt)
    unfold ringsF
    split
    · rename_i m
      obtain ⟨h1, h2, h3⟩ := ringsF_spec h hl hx2 c
      refine ⟨fun r mr => ?_, fun t mt => ?_, h3⟩
      · obtain ⟨t, mt, e⟩ := h1 r mr
        exact ⟨t, List.mem_cons_of_mem _ mt, e⟩
      · rcases List.mem_cons.mp mt with rfl | mt
        · exact .inl m
        · exact h2 t mt
    · rename_i m
      obtain ⟨h1, h2, h3⟩ := ringsF_spec h hl hx2 (c.add h hl ms)
      refine ⟨fun r mr => ?_, fun t mt => ?_, ?_⟩
      · rcases List.mem_cons.mp mr with rfl | mr
        · refine ⟨s, List.mem_cons_self, rfl, fun b mb hb => m ?_⟩
          exact c b (ring_in h hl ms b mb) hb s ((ring_same h hl ms mb s).mpr (ring_cyc h hl ms).2)
        · obtain ⟨t, mt, e, hn⟩ := h1 r mr
          exact ⟨t, List.mem_cons_of_mem _ mt, e, fun b mb hb => hn b mb (List.mem_append_left _ hb)⟩
      · rcases List.mem_cons.mp mt with rfl | mt
        · exact .inr ⟨_, List.mem_cons_self, (ring_cyc h hl ms).2⟩
        · rcases h2 t mt with w | ⟨r, mr, w⟩
          · rcases List.mem_append.mp w with w | w
            · exact .inl w
            · exact .inr ⟨_, List.mem_cons_self, w⟩
          · exact .inr ⟨r, List.mem_cons_of_mem _ mr, w⟩
      · rw [List.pairwise_cons]
        refine ⟨fun r mr a ma har => ?_, h3⟩
        obtain ⟨t, mt, e, hn⟩ := h1 r mr
        exact hn a har (List.mem_append_right _ ma)
theorem Clo.nil : Clo x xs [] := fun _ _ z => (nomatch z)
theorem ringsA_of (h : PermF xs x y) (hl : xs.length ≤ 16) {r : List Str} (mr : r ∈ ringsA x xs) : ∃ s ∈ xs, r = ringL x s := by
  obtain ⟨s, ms, e, _⟩ := (ringsF_spec h hl (fun s ms => mem_sortS.mp ms) Clo.nil).1 r mr
  exact ⟨s, mem_sortS.mp ms, e⟩
theorem ringsA_ex (h : PermF xs x y) (hl : xs.length ≤ 16) {a : Str} (ma : a ∈ xs) : ∃ r ∈ ringsA x xs, a ∈ r := by
  rcases (ringsF_spec h hl (l := sortS xs) (fun s ms => mem_sortS.mp ms) Clo.nil).2.1 a (mem_sortS.mpr ma) with w | w
  · cases w
  · exact w
theorem ringsA_pw (h : PermF xs x y) (hl : xs.length ≤ 16) : (ringsA x xs).Pairwise fun r t => ∀ a ∈ r, a ∉ t := (ringsF_spec h hl (fun s ms => mem_sortS.mp ms) Clo.nil).2.2
/-! ### even rings of four or more are split -/
def ev4 (r : List Str) : Bool := decide (4 ≤ r.length) && decide (r.length % 2 = 0)
def xr1 (i : Nat) : Nat := if i % 2 = 0 then i + 1 else i - 1
def splitR (r : List Str) (a : Str) : Str := r.getD (xr1 (r.idxOf a)) a
def plS (y : Str → Str) (r : List Str) : Str → Str := fun a => if ev4 r = true ∧ a ∈ r then splitR r a else y a
def plF (x : Str → Str) (xs : List Str) : Str → Str := (ringsA x xs).foldl plS x
theorem plS_fold_out : ∀ {rs : List (List Str)} {y : Str → Str} {a : Str}, (∀ r ∈ rs, a ∉ r) → (rs.foldl plS y) a = y a
  | [], _, _, _ => rfl
  | r :: rs, y, a, h => by
    rw [List.foldl_cons, plS_fold_out fun t mt => h t (List.mem_cons_of_mem _ mt)]
    unfold plS
    rw [if_neg fun z => h r List.mem_cons_self z.2]
theorem plS_fold_in : ∀ {rs : List (List Str)} {y : Str → Str} {a : Str} {r : List Str}, rs.Pairwise (fun r t => ∀ a ∈ r, a ∉ t) → r ∈ rs → a ∈ r → (rs.foldl plS y) a = if ev4 r = true then splitR r a else y a
  | [], _, _, _, _, h, _ => nomatch h
  | t :: rs, y, a, r, pw, mr, ma => by
    rw [List.pairwise_cons] at pw
    rw [List.foldl_cons]
    by_cases hat : a ∈ t
    · have e : r = t := by
        rcases List.mem_cons.mp mr with e | mr
        · exact e
        · exact absurd ma (pw.1 r mr a hat)
      subst e
      rw [plS_fold_out fun u mu => pw.1 u mu a ma]
      show (if ev4 r = true ∧ a ∈ r then splitR r a else y a) = _
      by_cases h4 : ev4 r = true
      · rw [if_pos ⟨h4, ma⟩, if_pos h4]
      · rw [if_neg (fun z => h4 z.1 : ¬ (ev4 r = true ∧ a ∈ r)), if_neg h4]
    · have mr : r ∈ rs := by
        rcases List.mem_cons.mp mr with e | mr
        · subst e; exact absurd ma hat
        · exact mr
      rw [plS_fold_in pw.2 mr ma]
      have e : plS y t a = y a := if_neg fun z => hat z.2
      rw [e]
theorem plF_at (h : PermF xs x y) (hl : xs.length ≤ 16) {a : Str} (ma : a ∈ xs) : ∃ s ∈ xs, a ∈ ringL x s ∧ plF x xs a = if ev4 (ringL x s) = true then splitR (ringL x s) a else x a := by
  obtain ⟨r, mr, har⟩ := ringsA_ex h hl ma
  obtain ⟨s, ms, rfl⟩ := ringsA_of h hl mr
  exact ⟨s, ms, har, plS_fold_in (ringsA_pw h hl) mr har⟩
/-- within a split ring: the next one or the one before, and back -/
theorem split_in (h : PermF xs x y) (hl : xs.length ≤ 16) {s a : Str} (ms : s ∈ xs) (ma : a ∈ ringL x s) (h4 : ev4 (ringL x s) = true) :
    splitR (ringL x s) a ∈ ringL x s ∧ splitR (ringL x s) (splitR (ringL x s) a) = a ∧ (splitR (ringL x s) a = x a ∨ splitR (ringL x s) a = y a) ∧ splitR (ringL x s) a ≠ a := by
  have o := ring_orb h hl ms
  obtain ⟨l4, l2⟩ := Bool.and_eq_true_iff.mp h4
  have l4 := of_decide_eq_true l4
  have l2 := of_decide_eq_true l2
  have hin := ring_in h hl ms
  generalize ringL x s = r at o ma l4 l2 hin
  have hi := get_idx ma
  have hil := List.idxOf_lt_length_of_mem ma
  have nxt : ∀ {i : Nat} {u v : Str}, r[i]? = some u → r[i + 1]? = some v → x u = v := fun {i u v} hu hv => by
    have l1 := (List.getElem?_eq_some_iff.mp hu).1
    have l2 := (List.getElem?_eq_some_iff.mp hv).1
    have e1 := o.at_ _ l1
    have e2 := o.at_ _ l2
    rw [hu] at e1
    rw [hv] at e2
    have e2 : some v = (itO (sO x) s i).bind (sO x) := e2
    rw [← e1] at e2
    exact (Option.some.inj e2).symm
  generalize hg : r.idxOf a = i at hi hil
  have key : ∀ {j : Nat} {u : Str}, r[j]? = some u → splitR r u = r.getD (xr1 j) u := fun {j u} hu => by
    unfold splitR
    obtain ⟨hj, e⟩ := List.getElem?_eq_some_iff.mp hu
    have : r.idxOf u = j := by rw [← e, o.nd.idxOf_getElem]
    rw [this]
  have gd : ∀ {j : Nat} {u v : Str}, r[j]? = some v → r.getD j u = v := fun {j u v} hv => by
    rw [List.getD_eq_getElem?_getD, hv]
    rfl
  by_cases hp : i % 2 = 0
  · have hj : i + 1 < r.length := by omega
    have hb : r[i + 1]? = some r[i + 1] := List.getElem?_eq_getElem hj
    have e1 : splitR r a = r[i + 1] := by rw [key hi, xr1, if_pos hp, gd hb]
    have e2 : splitR r r[i + 1] = a := by
      rw [key hb, xr1, if_neg (by omega), show i + 1 - 1 = i by omega, gd hi]
    rw [e1]
    refine ⟨List.getElem_mem _, e2, .inl (nxt hi hb).symm, fun z => ?_⟩
    rw [z] at hb
    have := nd_at o.nd hb hi
    omega
  · have hj : i - 1 < r.length := by omega
    have hb : r[i - 1]? = some r[i - 1] := List.getElem?_eq_getElem hj
    have e1 : splitR r a = r[i - 1] := by rw [key hi, xr1, if_neg hp, gd hb]
    have e2 : splitR r r[i - 1] = a := by
      rw [key hb, xr1, if_pos (by omega), gd (by rw [show i - 1 + 1 = i by omega]; exact hi)]
    have hxb : x r[i - 1] = a := nxt hb (by rw [show i - 1 + 1 = i by omega]; exact hi)
    rw [e1]
    refine ⟨List.getElem_mem _, e2, .inr ?_, fun z => ?_⟩
    · rw [← hxb, h.yx _ (hin _ (List.getElem_mem _))]
    · rw [z] at hb
      have := nd_at o.nd hb hi
      omega
end
/-- what stands in a plain half: as in the half, or two by two -/
theorem HalfF.plain {xs : List Str} {f : Str → List Str} {x y : Str → Str} (mu : Mut xs f) (h : HalfF xs f x y) : ∃ z', HalfF xs f (plF x xs) z' ∧ ∀ a ∈ xs, plF x xs (plF x xs a) = a ∨ (ringL (plF x xs) a).length % 2 = 1 := by
  have hl := mu.few
  have pm := h.pm
  let z := plF x xs
  let E : Str → Prop := fun a => ev4 (ringL x a) = true
  have evE : ∀ {s a : Str}, s ∈ xs → a ∈ ringL x s → ev4 (ringL x a) = ev4 (ringL x s) := fun {s a} ms ma => by
    unfold ev4
    rw [ring_lenEq pm hl ms ma]
  have hz : ∀ {a : Str}, a ∈ xs → (ev4 (ringL x a) = true ∧ z a ∈ xs ∧ ev4 (ringL x (z a)) = true ∧ z (z a) = a ∧ (z a = x a ∨ z a = y a) ∧ z a ≠ a) ∨ (ev4 (ringL x a) = false ∧ z a = x a) := fun {a} ma => by
    obtain ⟨s, ms, has, e⟩ := plF_at pm hl ma
    have he := evE ms has
    cases h4 : ev4 (ringL x s) with
    | false =>
      rw [h4, if_neg (by decide)] at e
      exact .inr ⟨by rw [he, h4], e⟩
    | true =>
      rw [h4, if_pos rfl] at e
      obtain ⟨q1, q2, q3, q4⟩ := split_in pm hl ms has h4
      have e0 : z a = splitR (ringL x s) a := e
      have mz : z a ∈ ringL x s := by rw [e0]; exact q1
      have mzx := ring_in pm hl ms _ mz
      obtain ⟨t, mt, hat, e'⟩ := plF_at pm hl mzx
      have : ev4 (ringL x t) = true := by rw [← evE mt hat, evE ms mz, h4]
      have hzz : z (z a) = splitR (ringL x s) (z a) := by
        obtain ⟨r, mr, har⟩ := ringsA_ex pm hl ma
        have e1 := plS_fold_in (y := x) (ringsA_pw pm hl) mr har
        obtain ⟨s', ms', rfl⟩ := ringsA_of pm hl mr
        have h4' : ev4 (ringL x s') = true := by rw [← evE ms' har, he, h4]
        obtain ⟨p1, p2, _, _⟩ := split_in pm hl ms' har h4'
        rw [if_pos h4'] at e1
        have e1 : z a = splitR (ringL x s') a := e1
        have e2 := plS_fold_in (y := x) (ringsA_pw pm hl) mr (show z a ∈ ringL x s' by rw [e1]; exact p1)
        rw [if_pos h4'] at e2
        have e2 : z (z a) = splitR (ringL x s') (z a) := e2
        rw [e2, e1, p2, ← e1, e0, q2]
      refine .inl ⟨by rw [he, h4], mzx, by rw [evE ms mz, h4], ?_, ?_, ?_⟩
      · rw [hzz, e0, q2]
      · rw [e0]; exact q3
      · rw [e0]; exact q4
  let z' : Str → Str := fun a => if ev4 (ringL x a) = true then z a else y a
  have zE : ∀ {a : Str}, ev4 (ringL x a) = true → z' a = z a := fun e => if_pos e
  have zO : ∀ {a : Str}, ev4 (ringL x a) = false → z' a = y a := fun e => if_neg (by rw [e]; decide)
  have evx : ∀ {a : Str}, a ∈ xs → ev4 (ringL x (x a)) = ev4 (ringL x a) := fun ma => evE ma (ring_nx pm hl ma (ring_cyc pm hl ma).2)
  have evy : ∀ {a : Str}, a ∈ xs → ev4 (ringL x (y a)) = ev4 (ringL x a) := fun ma => evE ma (ring_pv pm hl ma (ring_cyc pm hl ma).2)
  have better : ∀ {a b : Str}, a ∈ xs → (z' a = a ∨ (f a).idxOf b < (f a).idxOf (z' a)) → (y a = a ∨ (f a).idxOf b < (f a).idxOf (y a)) := fun {a b} ma hb => by
    rcases hz ma with ⟨e, _, _, _, q, ne⟩ | ⟨e, _⟩
    · rw [zE e] at hb
      rcases hb with hb | hb
      · exact absurd hb ne
      · rcases q with q | q
        · rw [q] at hb
          by_cases w : x a = y a
          · rw [w] at hb; exact .inr hb
          · exact .inr (Nat.lt_of_lt_of_le hb (h.ord a ma w))
        · rw [q] at hb; exact .inr hb
    · rw [zO e] at hb
      exact hb
  have pz : PermF xs z z' := by
    refine ⟨fun a ma => ?_, fun a ma => ?_, fun a ma => ?_, fun a ma => ?_⟩
    · rcases hz ma with ⟨_, m, _⟩ | ⟨_, e⟩
      · exact m
      · rw [e]
        exact pm.inx a ma
    · rcases hz ma with ⟨e, m, _⟩ | ⟨e, _⟩
      · rw [zE e]; exact m
      · rw [zO e]; exact pm.iny a ma
    · rcases hz ma with ⟨e, m, e2, zz, _⟩ | ⟨e, q⟩
      · rw [zE e2]
        exact zz
      · rw [q, zO (by rw [evx ma]; exact e), pm.yx a ma]
    · rcases hz ma with ⟨e, m, e2, zz, _⟩ | ⟨e, q⟩
      · rw [zE e]; exact zz
      · rw [zO e]
        rcases hz (pm.iny a ma) with ⟨e3, _⟩ | ⟨_, q3⟩
        · rw [evy ma, e] at e3; cases e3
        · rw [q3, pm.xy a ma]
  refine ⟨z', ⟨pz, fun a ma ne => ?_, fun a ma ne => ?_, fun a ma b mb h1 h2 => ?_⟩, fun a ma => ?_⟩
  · rcases hz ma with ⟨e, m, e2, zz, q, ne2⟩ | ⟨e, q⟩
    · show z a ∈ f a
      rcases q with q | q
      · rw [q] at ne2 ⊢
        exact h.op a ma ne2
      · rw [q] at ne2 ⊢
        have := h.op (y a) (pm.iny a ma) (by rw [pm.xy a ma]; exact Ne.symm ne2)
        rw [pm.xy a ma] at this
        exact (mu.fi (y a) (pm.iny a ma) a this).2
    · have ne : z a ≠ a := ne
      show z a ∈ f a
      rw [q] at ne ⊢
      exact h.op a ma ne
  · rcases hz ma with ⟨e, _⟩ | ⟨e, q⟩
    · exact absurd (zE e).symm ne
    · have ne : z a ≠ z' a := ne
      show (f a).idxOf (z a) ≤ (f a).idxOf (z' a)
      rw [q, zO e] at ne ⊢
      exact h.ord a ma ne
  · exact h.nq a ma b mb (better ma h1) (better (mu.fi a ma b mb).1 h2)
  · rcases hz ma with ⟨_, _, _, zz, _⟩ | ⟨e, q⟩
    · exact .inl zz
    · have hall : ∀ b ∈ ringL x a, z b = x b := fun b mb => by
        rcases hz (ring_in pm hl ma b mb) with ⟨e3, _⟩ | ⟨_, q3⟩
        · rw [evE ma mb, e] at e3; cases e3
        · exact q3
      have o := ring_orb pm hl ma
      have it : ∀ n, itO (sO z) a n = itO (sO x) a n := fun n => by
        induction n with
        | zero => rfl
        | succ n ih =>
          show (itO (sO z) a n).bind (sO z) = (itO (sO x) a n).bind (sO x)
          rw [ih]
          obtain ⟨b, mb, eb⟩ := pm.orb ma n
          rw [eb]
          show some (z b) = some (x b)
          have hb : b ∈ ringL x a := by
            have key : ∀ n, ∀ b, itO (sO x) a n = some b → b ∈ ringL x a := fun n => by
              induction n with
              | zero => intro b e; cases e; exact (ring_cyc pm hl ma).2
              | succ n ih =>
                intro b e
                obtain ⟨c, mc, ec⟩ := pm.orb ma n
                have e : (itO (sO x) a n).bind (sO x) = some b := e
                rw [ec] at e
                have e : some (x c) = some b := e
                rw [← Option.some.inj e]
                exact ring_nx pm hl ma (ih c ec)
            exact key n b eb
          rw [hall b hb]
      have oz : OrbI (sO z) a (ringL x a) (some a) := ⟨fun i hi => by rw [it]; exact o.at_ i hi, by rw [it]; exact o.nx, o.nd, o.ne⟩
      cases hev : decide ((ringL x a).length % 2 = 0) with
      | false =>
        have hodd : (ringL x a).length % 2 = 1 := by
          have := of_decide_eq_false hev
          omega
        have := oz.uniq (ring_orb pz hl ma)
        exact .inr (by show (ringL z a).length % 2 = 1; rw [← this]; exact hodd)
      | true =>
        have h2 : (ringL x a).length % 2 = 0 := of_decide_eq_true hev
        have hlt : (ringL x a).length < 4 := by
          refine Nat.lt_of_not_le fun z4 => ?_
          have : ev4 (ringL x a) = true := Bool.and_eq_true_iff.mpr ⟨decide_eq_true z4, hev⟩
          rw [e] at this
          cases this
        have hp := o.ne
        have e2 : (ringL x a).length = 2 := by omega
        left
        show z (z a) = a
        have h1 : itO (sO z) a 2 = some a := by rw [← e2]; exact oz.nx.symm
        exact Option.some.inj h1
end Q

set_option Elab.async false
set_option linter.all false
set_option maxRecDepth 100000
set_option maxHeartbeats 4000000
namespace Q
open PySem PySem.Spec PyProof.Rows L2
/-! ### the seats as functions: asking, passing on, the half that is found -/
theorem sortS_congr' {xs ys : List Str} (h : xs.Perm ys) : sortS xs = sortS ys := List.Perm.eq_of_pairwise (fun _ _ _ _ h1 h2 => leS_anti h1 h2) (sortS_pw xs) (sortS_pw ys) (((sortS_perm xs).trans h).trans (sortS_perm ys).symm)
theorem Mut.sort {xs : List Str} {f : Str → List Str} (mu : Mut xs f) : Mut (sortS xs) f :=
  ⟨(sortS_perm xs).nodup_iff.mpr mu.nd, by rw [sortS_len]; exact mu.few, fun a m => mu.nm a (mem_sortS.mp m), fun a m => mu.fn a (mem_sortS.mp m), fun a m b mb => ⟨mem_sortS.mpr (mu.fi a (mem_sortS.mp m) b mb).1, (mu.fi a (mem_sortS.mp m) b mb).2⟩, fun a m => mu.fs a (mem_sortS.mp m)⟩
structure AskS where
  A : OF
  H : OF
  n : Str → Nat
  free : List Str
def askStep (f : Str → List Str) (s : AskS) (a : Str) (fr : List Str) : AskS := match (f a)[s.n a]? with
  | none => ⟨s.A, s.H, s.n, fr⟩
  | some b => match s.H b with
    | none => ⟨updW s.A a (some b), updW s.H b (some a), updW s.n a (s.n a + 1), fr⟩
    | some c => if (f b).idxOf c < (f b).idxOf a then ⟨s.A, s.H, updW s.n a (s.n a + 1), fr ++ [a]⟩ else ⟨updW (updW s.A a (some b)) c none, updW s.H b (some a), updW s.n a (s.n a + 1), fr ++ [c]⟩
def askS (f : Str → List Str) : Nat → AskS → AskS
  | 0, s => s
  | m + 1, s => match s.free.getLast? with
    | none => s
    | some a => askS f m (askStep f s a s.free.dropLast)
theorem askS_end {f : Str → List Str} {s : AskS} (h : s.free = []) : ∀ m, askS f m s = s
  | 0 => rfl
  | m + 1 => by unfold askS; rw [h]; rfl
theorem askS_snoc {f : Str → List Str} {s : AskS} {a : Str} {fr : List Str} (h : s.free = fr ++ [a]) (m : Nat) : askS f (m + 1) s = askS f m (askStep f s a fr) := by
  show (match s.free.getLast? with | none => s | some a => askS f m (askStep f s a s.free.dropLast)) = _
  rw [h, List.getLast?_concat, List.dropLast_concat]
def AskS.Ok (xs : List Str) (f : Str → List Str) (s : AskS) : Prop := AskI xs f s.A s.H s.n s.free
theorem AskS.Ok.step {xs : List Str} {f : Str → List Str} {s : AskS} {a : Str} {fr : List Str} (mu : Mut xs f) (h : s.Ok xs f) (e : s.free = fr ++ [a]) : (askStep f s a fr).Ok xs f := by
  have h : AskI xs f s.A s.H s.n (fr ++ [a]) := by rw [← e]; exact h
  unfold askStep
  cases hb : (f a)[s.n a]? with
  | none => exact h.done (List.getElem?_eq_none_iff.mp hb)
  | some b =>
    dsimp only
    cases hc : s.H b with
    | none => exact h.takeN mu hb hc
    | some c =>
      dsimp only
      split
      · rename_i lt
        exact h.refuse mu hb hc lt
      · rename_i lt
        exact h.takeS mu hb hc lt
/-- how much is still to be asked -/
def remN (xs : List Str) (f : Str → List Str) (n : Str → Nat) : Nat := (xs.map fun a => (f a).length - n a).sum
theorem remN_upd {f : Str → List Str} {n : Str → Nat} {a : Str} : ∀ {xs : List Str}, xs.Nodup → a ∈ xs → n a < (f a).length → remN xs f (updW n a (n a + 1)) + 1 = remN xs f n
  | x :: r, nd, m, h => by
    rw [List.nodup_cons] at nd
    have same : ∀ {l : List Str}, a ∉ l → remN l f (updW n a (n a + 1)) = remN l f n := fun {l} hl => by
      unfold remN
      congr 1
      exact List.map_congr_left fun y my => by rw [updW_ne fun z => hl (by rw [← z]; exact my)]
    show ((f x).length - updW n a (n a + 1) x + remN r f (updW n a (n a + 1))) + 1 = ((f x).length - n x) + remN r f n
    rcases List.mem_cons.mp m with e | m
    · subst e
      rw [updW_eq, same nd.1]
      omega
    · have hx : x ≠ a := fun z => nd.1 (by rw [z]; exact m)
      have ih := remN_upd nd.2 m h
      rw [updW_ne hx]
      omega
def AskS.left (xs : List Str) (f : Str → List Str) (s : AskS) : Nat := remN xs f s.n + s.free.length
theorem askStep_left {xs : List Str} {f : Str → List Str} {s : AskS} {a : Str} {fr : List Str} (mu : Mut xs f) (h : s.Ok xs f) (e : s.free = fr ++ [a]) : (askStep f s a fr).left xs f < s.left xs f := by
  have hI : AskI xs f s.A s.H s.n (fr ++ [a]) := by rw [← e]; exact h
  have ma := hI.last.1
  have hl : s.free.length = fr.length + 1 := by rw [e, List.length_append]; rfl
  unfold AskS.left askStep
  cases hb : (f a)[s.n a]? with
  | none => show remN xs f s.n + fr.length < _; omega
  | some b =>
    have hr := remN_upd (f := f) (n := s.n) mu.nd ma (List.getElem?_eq_some_iff.mp hb).1
    dsimp only
    cases hc : s.H b with
    | none => show remN xs f (updW s.n a (s.n a + 1)) + fr.length < _; omega
    | some c =>
      dsimp only
      split
      · show remN xs f (updW s.n a (s.n a + 1)) + (fr ++ [a]).length < _
        rw [List.length_append, List.length_singleton]
        omega
      · show remN xs f (updW s.n a (s.n a + 1)) + (fr ++ [c]).length < _
        rw [List.length_append, List.length_singleton]
        omega
theorem askS_ok {xs : List Str} {f : Str → List Str} (mu : Mut xs f) : ∀ {m : Nat} {s : AskS}, s.Ok xs f → s.left xs f ≤ m → (askS f m s).Ok xs f ∧ (askS f m s).free = []
  | 0, s, h, hl => by
    have : s.free.length = 0 := by unfold AskS.left at hl; omega
    exact ⟨h, List.length_eq_zero_iff.mp this⟩
  | m + 1, s, h, hl => by
    by_cases hf : s.free = []
    · rw [askS_end hf]
      exact ⟨h, hf⟩
    · obtain ⟨fr, a, e⟩ : ∃ fr a, s.free = fr ++ [a] := ⟨s.free.dropLast, s.free.getLast hf, (List.dropLast_concat_getLast hf).symm⟩
      rw [askS_snoc e]
      have := askStep_left mu h e
      exact askS_ok mu (h.step mu e) (by omega)
def ask0 (ks : List Str) : AskS := ⟨fun _ => none, fun _ => none, fun _ => 0, ks⟩
def askF (f : Str → List Str) (ks : List Str) : AskS := askS f 400 (ask0 ks)
theorem ask0_left {xs : List Str} {f : Str → List Str} (mu : Mut xs f) : (ask0 xs).left xs f ≤ 400 := by
  have key : ∀ l : List Str, (∀ a ∈ l, a ∈ xs) → remN l f (fun _ => 0) ≤ 16 * l.length := by
    intro l
    induction l with
    | nil => intro _; exact Nat.le_refl _
    | cons x r ih =>
      intro h
      have h1 := ih fun a m => h a (List.mem_cons_of_mem _ m)
      have h2 := mu.len (h x List.mem_cons_self)
      show ((f x).length - 0) + remN r f (fun _ => 0) ≤ 16 * (r.length + 1)
      omega
  have h1 := key xs fun _ m => m
  have h2 := mu.few
  unfold AskS.left ask0
  show remN xs f (fun _ => 0) + xs.length ≤ 400
  omega
theorem ask0_ok {xs : List Str} {f : Str → List Str} (mu : Mut xs f) : (ask0 xs).Ok xs f := AskI.init mu.nd fun _ => Iff.rfl
theorem askF_ok {xs : List Str} {f : Str → List Str} (mu : Mut xs f) : SSt xs f (askF f xs).A (askF f xs).H := by
  obtain ⟨h1, h2⟩ := askS_ok mu (ask0_ok mu) (ask0_left mu)
  have h1 : AskI xs f (askF f xs).A (askF f xs).H (askF f xs).n (askF f xs).free := h1
  have h2 : (askF f xs).free = [] := h2
  rw [h2] at h1
  exact h1.end_ mu
/-! ### passing on -/
def passC (f : Str → List Str) (xs : List Str) (A H : OF) (st : Str) : Option (OF × OF) := match cyO (stepO f A H) st with
  | none => none
  | some cyc => if ioB xs f (nAs (lowO f A H) A cyc) (nHo (lowO f A H) H cyc) = true then some (nAs (lowO f A H) A cyc, nHo (lowO f A H) H cyc) else none
def passF (f : Str → List Str) (xs : List Str) (A H : OF) : Option (OF × OF) := xs.findSome? (passC f xs A H)
theorem step_orb {xs : List Str} {f : Str → List Str} {A H : OF} (mu : Mut xs f) (s : SM xs f A H) {st : Str} (ms : st ∈ xs) : ∀ i a, itO (stepO f A H) st i = some a → a ∈ xs
  | 0, a, e => by cases e; exact ms
  | i + 1, a, e => by
    have e : (itO (stepO f A H) st i).bind (stepO f A H) = some a := e
    obtain ⟨b, hb, hs⟩ := Option.bind_eq_some_iff.mp e
    have mb := step_orb mu s ms i b hb
    obtain ⟨c, hl, hc⟩ := step_low hs
    obtain ⟨d, hd⟩ := low_ask hl
    exact (s.ha mu (mu.fi b mb c (low_spec (mu.fn b mb) hd hl).1).1 hc).1
/-- how far down everybody asks -/
def sumA (xs : List Str) (f : Str → List Str) (A : OF) : Nat := (xs.map fun a => match A a with | none => 0 | some b => (f a).idxOf b).sum
theorem sumA_le {xs : List Str} {f : Str → List Str} {A : OF} (mu : Mut xs f) (oa : ∀ a ∈ xs, ∀ b, A a = some b → b ∈ f a) : sumA xs f A ≤ 256 := by
  have key : ∀ l : List Str, (∀ a ∈ l, a ∈ xs) → sumA l f A ≤ 16 * l.length := by
    intro l
    induction l with
    | nil => intro _; exact Nat.le_refl _
    | cons x r ih =>
      intro h
      have h1 := ih fun a m => h a (List.mem_cons_of_mem _ m)
      have mx := h x List.mem_cons_self
      have h2 := mu.len mx
      show (match A x with | none => 0 | some b => (f x).idxOf b) + sumA r f A ≤ 16 * (r.length + 1)
      cases e : A x with
      | none => show 0 + _ ≤ _; omega
      | some b =>
        have := List.idxOf_lt_length_of_mem (oa x mx b e)
        show (f x).idxOf b + _ ≤ _
        omega
  have h1 := key xs fun _ m => m
  have h2 := mu.few
  omega
theorem sumA_lt {f : Str → List Str} {A A' : OF} : ∀ {xs : List Str}, (∀ a ∈ xs, (match A a with | none => 0 | some b => (f a).idxOf b) ≤ (match A' a with | none => 0 | some b => (f a).idxOf b)) → (∃ a ∈ xs, (match A a with | none => 0 | some b => (f a).idxOf b) < (match A' a with | none => 0 | some b => (f a).idxOf b)) → sumA xs f A < sumA xs f A'
  | [], _, ⟨_, m, _⟩ => nomatch m
  | x :: r, h, ⟨a, m, lt⟩ => by
    have hle : ∀ {l : List Str}, (∀ a ∈ l, (match A a with | none => 0 | some b => (f a).idxOf b) ≤ (match A' a with | none => 0 | some b => (f a).idxOf b)) → sumA l f A ≤ sumA l f A' := fun {l} => by
      induction l with
      | nil => intro _; exact Nat.le_refl _
      | cons y l ih =>
        intro h
        have h1 := ih fun a m => h a (List.mem_cons_of_mem _ m)
        have h2 := h y List.mem_cons_self
        show (match A y with | none => 0 | some b => (f y).idxOf b) + sumA l f A ≤ (match A' y with | none => 0 | some b => (f y).idxOf b) + sumA l f A'
        omega
    have h2 : ∀ a ∈ r, (match A a with | none => 0 | some b => (f a).idxOf b) ≤ (match A' a with | none => 0 | some b => (f a).idxOf b) := fun a m => h a (List.mem_cons_of_mem _ m)
    have h3 := h x List.mem_cons_self
    show (match A x with | none => 0 | some b => (f x).idxOf b) + sumA r f A < (match A' x with | none => 0 | some b => (f x).idxOf b) + sumA r f A'
    rcases List.mem_cons.mp m with e | m
    · subst e
      have := hle h2
      omega
    · have := sumA_lt h2 ⟨a, m, lt⟩
      omega
theorem passC_ok {xs : List Str} {f : Str → List Str} {A H : OF} (mu : Mut xs f) (s : SSt xs f A H) {st : Str} (ms : st ∈ xs) {r : OF × OF} (h : passC f xs A H st = some r) : SSt xs f r.1 r.2 ∧ sumA xs f A < sumA xs f r.1 := by
  unfold passC at h
  cases hc : cyO (stepO f A H) st with
  | none => rw [hc] at h; cases h
  | some cyc =>
    rw [hc] at h
    dsimp only at h
    split at h
    · rename_i hio
      cases h
      obtain ⟨cp, cx, mst, _⟩ := cyO_cyc (step_orb mu s.sm ms) mu.few hc
      have dm := s.dm.pass mu s.sm cp cx
      refine ⟨⟨s.sm.pass mu cp cx, dm, ioB_io dm hio⟩, ?_⟩
      have key : ∀ a ∈ cyc, (match A a with | none => 0 | some b => (f a).idxOf b) < (match nAs (lowO f A H) A cyc a with | none => 0 | some b => (f a).idxOf b) := fun a ma => by
        obtain ⟨c, e, hl, _⟩ := cyc_low mu s.sm cp cx ma
        obtain ⟨b, hb⟩ := low_ask hl
        have h1 := (low_spec (mu.fn a (cx a ma)) hb hl).2.1
        have h2 : nAs (lowO f A H) A cyc a = some c := by unfold nAs; rw [if_pos ma]; exact hl
        rw [hb, h2]
        exact h1
      refine sumA_lt (fun a ma => ?_) ⟨st, ms, key st mst⟩
      by_cases mc : a ∈ cyc
      · exact Nat.le_of_lt (key a mc)
      · have h2 : nAs (lowO f A H) A cyc a = A a := by unfold nAs; rw [if_neg mc]
        show _ ≤ (match nAs (lowO f A H) A cyc a with | none => 0 | some b => (f a).idxOf b)
        rw [h2]
        exact Nat.le_refl _
    · cases h
def goF (f : Str → List Str) (xs : List Str) : Nat → OF × OF → OF × OF
  | 0, s => s
  | m + 1, s => match passF f xs s.1 s.2 with
    | none => s
    | some t => goF f xs m t
theorem passF_some {xs : List Str} {f : Str → List Str} {A H : OF} {r : OF × OF} (h : passF f xs A H = some r) : ∃ st ∈ xs, passC f xs A H st = some r := by
  obtain ⟨st, ms, e⟩ := List.exists_of_findSome?_eq_some h
  exact ⟨st, ms, e⟩
theorem goF_ok {xs : List Str} {f : Str → List Str} (mu : Mut xs f) : ∀ {m : Nat} {s : OF × OF}, SSt xs f s.1 s.2 → 257 ≤ m + sumA xs f s.1 → SSt xs f (goF f xs m s).1 (goF f xs m s).2 ∧ passF f xs (goF f xs m s).1 (goF f xs m s).2 = none
  | 0, s, h, hl => by
    have := sumA_le mu h.sm.oa
    omega
  | m + 1, s, h, hl => by
    unfold goF
    cases e : passF f xs s.1 s.2 with
    | none => exact ⟨h, e⟩
    | some t =>
      obtain ⟨st, ms, e2⟩ := passF_some e
      obtain ⟨h1, h2⟩ := passC_ok mu h ms e2
      exact goF_ok mu h1 (by omega)
theorem goF_end {xs : List Str} {f : Str → List Str} {s : OF × OF} (h : passF f xs s.1 s.2 = none) : ∀ m, goF f xs m s = s
  | 0 => rfl
  | m + 1 => by unfold goF; rw [h]
theorem goF_step {xs : List Str} {f : Str → List Str} {s t : OF × OF} (h : passF f xs s.1 s.2 = some t) (m : Nat) : goF f xs (m + 1) s = goF f xs m t := by
  show (match passF f xs s.1 s.2 with | none => s | some t => goF f xs m t) = _
  rw [h]
def go0 (f : Str → List Str) (xs : List Str) : OF × OF := goF f xs 300 ((askF f xs).A, (askF f xs).H)
/-- the half that is found -/
def hfF (f : Str → List Str) (xs : List Str) : Str → Str := plF (oG (go0 f xs).1) xs
theorem go0_ok {xs : List Str} {f : Str → List Str} (mu : Mut xs f) : HalfF xs f (oG (go0 f xs).1) (oG (go0 f xs).2) := by
  obtain ⟨h1, h2⟩ := goF_ok mu (m := 300) (s := ((askF f xs).A, (askF f xs).H)) (askF_ok mu) (by omega)
  refine SSt.half mu h1 fun st ms cyc hc hio => ?_
  have h2 : passF f xs (go0 f xs).1 (go0 f xs).2 = none := h2
  have h3 := List.findSome?_eq_none_iff.mp h2 st ms
  unfold passC at h3
  rw [hc] at h3
  dsimp only at h3
  rw [if_pos hio] at h3
  cases h3
theorem hfF_half {xs : List Str} {f : Str → List Str} (mu : Mut xs f) : ∃ z', HalfF xs f (hfF f xs) z' ∧ ∀ a ∈ xs, hfF f xs (hfF f xs a) = a ∨ (ringL (hfF f xs) a).length % 2 = 1 := (go0_ok mu).plain mu
end Q

set_option Elab.async false
set_option linter.all false
set_option maxRecDepth 100000
set_option maxHeartbeats 4000000
namespace Q
open PySem PySem.Spec PyProof.Rows L2
/-! ### dicts with told keys; while -/
def zipV (ks : List Str) (g : Str → V) : List (Key × V) := ks.map fun a => (.inr a, g a)
theorem zipV_val {ks : List Str} {g : Str → V} {a : Str} (m : a ∈ ks) : valV (zipV ks g) (.inr a) = some (g a) := by
  induction ks with
  | nil => cases m
  | cons x r ih =>
    show valV (((Sum.inr x : Key), g x) :: zipV r g) (.inr a) = _
    by_cases e : x = a
    · subst e
      exact valV_pos (p := ((Sum.inr x : Key), g x)) rfl
    · rw [valV_neg (p := ((Sum.inr x : Key), g x)) (fun z => e (Sum.inr.inj z))]
      exact ih ((List.mem_cons.mp m).resolve_left fun z => e z.symm)
theorem zipV_none {ks : List Str} {g : Str → V} {a : Str} (m : a ∉ ks) : valV (zipV ks g) (.inr a) = none := by
  induction ks with
  | nil => rfl
  | cons x r ih =>
    show valV (((Sum.inr x : Key), g x) :: zipV r g) (.inr a) = _
    rw [valV_neg (p := ((Sum.inr x : Key), g x)) (fun z => m (by rw [← Sum.inr.inj z]; exact List.mem_cons_self))]
    exact ih fun z => m (List.mem_cons_of_mem _ z)
theorem zipV_put {ks : List Str} {g : Str → V} {a : Str} {v : V} (m : a ∈ ks) : putK (zipV ks g) (.inr a) v = zipV ks (updW g a v) := by
  unfold putK
  rw [if_pos (by rw [valV_any, zipV_val m]; rfl)]
  unfold zipV
  rw [List.map_map]
  refine List.map_congr_left fun p _ => ?_
  show (if (Sum.inr p : Key) = .inr a then ((Sum.inr p : Key), v) else ((Sum.inr p : Key), g p)) = ((Sum.inr p : Key), updW g a v p)
  by_cases e : p = a
  · rw [if_pos (by rw [e]), e, updW_eq]
  · rw [if_neg fun z => e (Sum.inr.inj z), updW_ne e]
theorem zipV_congr {ks : List Str} {g h : Str → V} (e : ∀ a ∈ ks, g a = h a) : zipV ks g = zipV ks h := List.map_congr_left fun a m => by rw [e a m]
theorem zipV_new {ks : List Str} {g : Str → V} {a : Str} {v : V} (m : a ∉ ks) : putK (zipV ks g) (.inr a) v = zipV (ks ++ [a]) (updW g a v) := by
  rw [putK_new (zipV_none m)]
  unfold zipV
  rw [List.map_append]
  show _ = _ ++ [(Sum.inr a, updW g a v a)]
  rw [updW_eq]
  congr 1
  exact List.map_congr_left fun p mp => by rw [updW_ne fun z => m (by rw [← z]; exact mp)]
theorem zipV_snoc {ks : List Str} {g : Str → V} {i : Nat} {a : Str} (nd : ks.Nodup) (h : ks[i]? = some a) : putK (zipV (ks.take i) g) (.inr a) (g a) = zipV (ks.take (i + 1)) g := by
  have m : a ∉ ks.take i := fun m => by
    obtain ⟨j, hj⟩ := List.mem_iff_getElem?.mp m
    have hl := (List.getElem?_eq_some_iff.mp hj).1
    rw [List.length_take] at hl
    rw [List.getElem?_take, if_pos (by omega)] at hj
    have := (List.getElem?_eq_some_iff.mp hj)
    have h1 := nd.idxOf_getElem j this.1
    rw [this.2] at h1
    have h2 := (List.getElem?_eq_some_iff.mp h)
    have h3 := nd.idxOf_getElem i h2.1
    rw [h2.2] at h3
    omega
  rw [zipV_new m, take_snoc h]
  refine zipV_congr fun b _ => ?_
  by_cases e : b = a
  · rw [e, updW_eq]
  · rw [updW_ne e]
theorem zipV_keys {ks : List Str} {g : Str → V} : (zipV ks g).map (·.1) = ks.map Sum.inr := by unfold zipV; rw [List.map_map]; rfl
theorem zipV_len {ks : List Str} {g : Str → V} : (zipV ks g).length = ks.length := List.length_map _
def oV (A : OF) : Str → V := fun a => optV (A a)
theorem oV_upd {A : OF} {a : Str} {v : Option Str} : updW (oV A) a (optV v) = oV (updW A a v) := by
  funext b
  unfold oV
  by_cases e : b = a
  · rw [e, updW_eq, updW_eq]
  · rw [updW_ne e, updW_ne e]
def WI {α : Type} (S : List Addr) (B0 H0 B : Hp) (σf : α → L2.St) (Mf : α → List (Addr × HO)) (P : Nat → α → Hp → Prop) (m : Nat) (σ : L2.St) (H : Hp) : Prop := ∃ s B1, σ = σf s ∧ Same B B1 ∧ HS S B0 H0 B1 H (Mf s) ∧ P m s B1
theorem l_while {α : Type} {S : List Addr} {B0 H0 B : Hp} {σf : α → L2.St} {Mf : α → List (Addr × HO)} {P : Nat → α → Hp → Prop} {c : TT} {tb : TS} {De : Ends} {H : Hp} {s0 : α} {m0 : Nat} (hs : HS S B0 H0 B H (Mf s0)) (h0 : P m0 s0 B)
    (hb : ∀ m s B1 H1, Same B B1 → HS S B0 H0 B1 H1 (Mf s) → P m s B1 → c (σf s) H1 fun b H2 => if b = true then ∃ N : L2.St → Hp → Prop, (∀ σ' H', N σ' H' → ∃ m', m' < m ∧ WI S B0 H0 B σf Mf P m' σ' H') ∧ tb { De with nx := N, ct := N, bk := De.nx } (σf s) H2 else De.nx (σf s) H2) : tWhile c tb De (σf s0) H := by
  refine ⟨WI S B0 H0 B σf Mf P, ⟨m0, s0, B, rfl, Same.refl _, hs, h0⟩, fun m σ H' w => ?_⟩
  obtain ⟨s, B1, rfl, sb, hs', p⟩ := w
  exact hb m s B1 H' sb hs' p
theorem fr_get {B H B' H' : Hp} {M : List (Addr × HO)} {L : Addr} {o : HO} (hs : HS [] B H B' H' M) (b0 : B L = none) (h0 : H L = some o) : H' L = some o := (hs.fr L o (by simp) b0 h0).2
theorem find_at {α : Type} {l : List α} {p : α → Bool} {i : Nat} {c : α} (h : l[i]? = some c) (hp : p c = true) (hn : ∀ j, j < i → ∀ d, l[j]? = some d → p d = false) : l.find? p = some c := by
  obtain ⟨hl, e⟩ := List.getElem?_eq_some_iff.mp h
  refine List.find?_eq_some_iff_getElem.mpr ⟨hp, i, hl, e, fun j hj => ?_⟩
  rw [hn j hj _ (List.getElem?_eq_getElem (by omega))]
  rfl
theorem optV_non {o : Option Str} : decide (optV o = V.non) = o.isNone := by cases o <;> simp [optV]
/-! ### the first one behind who would take a -/
abbrev N_lower : List Str := ["lists", "asks", "holds", "a", "row", "c", "held"]
def t_lower (K : PySem.W.Frag) (E : XK) : TS := (tSeq (tIfS (tB (tIsN (tDGet (tVar 1) (tVar 3)))) (tRet (tC .non)) tNext)
  (tSeq (tAsg (tDGet (tVar 0) (tVar 3)) (gName 4))
  (tSeq (tFor (iList K (tSl (rSlL K) (tVar 4) (tPart (tOp rAddI (tBM K "list" (rIndex K) (tVar 4) (tCons (tDGet (tVar 1) (tVar 3)) tNil)) (tC (.int 1)))) tNoPart)) (gName 5) (tSeq (tAsg (tDGet (tVar 2) (tVar 5)) (gName 6))
  (tIfS (tOr (tB (tIsN (tVar 6))) (tTest (tOp rGtI (tBM K "list" (rIndex K) (tDGet (tVar 0) (tVar 5)) (tCons (tVar 6) tNil)) (tBM K "list" (rIndex K) (tDGet (tVar 0) (tVar 5)) (tCons (tVar 3) tNil))))) (tRet (tVar 5)) tNext)))
  (tRet (tC .non)))))
def sp_lower (K : PySem.W.Frag) : Sp := fun vs H Q E => ∃ (L pa ph : Addr) (a : Str) (B : Hp) (xs : List Str) (f : Str → List Str) (kvs : List (Key × V)) (o : Obj) (A Hd : OF), vs = [.ref L, .ref pa, .ref ph, .str a] ∧ Same B H ∧ B L = none ∧ H L = some (.frz o (.dK kvs)) ∧ WAt B xs kvs f ∧ Mut xs f ∧ B pa = some (.dK (zipV xs (oV A))) ∧ B ph = some (.dK (zipV xs (oV Hd))) ∧ SM xs f A Hd ∧ a ∈ xs ∧ Ret B H Q fun _ r => r = optV (lowO f A Hd a)
theorem pure_lower {K : PySem.W.Frag} {vs : List V} {H : Hp} {Q : VK} {E : XK} (h : sp_lower K vs H Q E) : t_lower K E { nx := fun _ H' => Q .non H', rt := Q } (start N_lower vs) H := by
  obtain ⟨L, pa, ph, a, B, xs, f, kvs, o, A, Hd, rfl, sB, bL, hL, hw, mu, ea, eh, sm, ma, k⟩ := h
  have hs := HS.start sB
  show t_lower K E _ [some (.ref L), some (.ref pa), some (.ref ph), some (.str a), none, none, none] H
  unfold t_lower
  have va : valV (zipV xs (oV A)) (.inr a) = some (optV (A a)) := zipV_val ma
  refine x_seq (x_if (x_tB (x_isN (x_dget (x_var rfl (x_var rfl ?_))))))
  refine x_dgS (hs.up ea) va (x_exb ?_)
  rw [optV_non]
  cases hA : A a with
  | none =>
    refine x_iteT rfl (x_ret (x_c ?_))
    refine k B H _ hs ?_
    unfold lowO
    rw [hA]
    rfl
  | some b =>
    rw [hA] at va
    refine x_iteF rfl (x_next ?_)
    obtain ⟨la, evl, ela⟩ := hw.get mu.nd ma
    have mb := sm.oa a ma b hA
    have hal := mu.len ma
    have hil := List.idxOf_lt_length_of_mem mb
    refine x_seq (x_asg (x_dget (x_var rfl (x_var rfl ?_))))
    refine x_dgF hL evl (x_gname ?_)
    dsimp only [List.set]
    refine x_seq (x_for (x_iList (x_sl (x_var rfl (x_part (x_op (x_bm (x_var rfl ?_))))))))
    refine x_tyL (SqL.of (hs.up ela)) (x_cons (x_dget (x_var rfl (x_var rfl ?_))))
    refine x_dgS (hs.up ea) va (x_nil ?_)
    refine x_index (hs.up ela) (mu.fn a ma) (get_idx mb) ?_
    refine x_c (x_addI (x_exi (x_noPart ?_)))
    refine x_slL (SqL.of (hs.up ela)) ?_
    rw [cutV_fromS (i := (f a).idxOf b + 1) (by omega)]
    refine new_F hs (fun cl B1 H1 hs1 sb1 ecl _ => ?_)
    refine ⟨cl, rfl, ⟨_, SqL.of (hs1.up ecl)⟩, ?_⟩
    have hlow : lowO f A Hd a = ((f a).drop ((f a).idxOf b + 1)).find? fun c => ratherO (f c) a (Hd c) := by unfold lowO; rw [hA]
    have hsub : ∀ c ∈ (f a).drop ((f a).idxOf b + 1), c ∈ f a := fun c mc => List.mem_of_mem_drop mc
    rw [hlow] at k
    generalize (f a).drop ((f a).idxOf b + 1) = row at ecl hsub k
    refine l_list (α := Option V × Option V) (σf := fun z => [some (.ref L), some (.ref pa), some (.ref ph), some (.str a), some (.ref la), z.1, z.2]) (Mf := fun _ => []) (P := fun i _ _ => ∀ j, j < i → ∀ d, row[j]? = some d → ratherO (f d) a (Hd d) = false) (s0 := (none, none)) hs1 ecl (fun j hj => absurd hj (Nat.not_lt_zero _)) (fun i y z B2 H2 hi sb2 hs2 pp => ?_) (fun z B2 H2 sb2 hs2 pp => ?_)
    · obtain ⟨z1, z2⟩ := z
      dsimp only at hs2 ⊢
      obtain ⟨c, hc, rfl⟩ := strs_get hi
      have mc := hsub c (List.mem_of_getElem? hc)
      obtain ⟨mcx, mac⟩ := mu.fi a ma c mc
      have s2 := sb1.trans sb2
      obtain ⟨lc, evc, elc⟩ := (hw.mono s2).get mu.nd mcx
      have vh : valV (zipV xs (oV Hd)) (.inr c) = some (optV (Hd c)) := zipV_val mcx
      have hL2 := fr_get hs2 bL hL
      refine x_gname ?_
      dsimp only [List.set]
      refine x_seq (x_asg (x_dget (x_var rfl (x_var rfl ?_))))
      refine x_dgS (hs2.up (s2 _ _ eh)) vh (x_gname ?_)
      dsimp only [List.set]
      refine x_if (x_or (x_tB (x_isN (x_var rfl (x_exb ?_)))))
      rw [optV_non]
      cases hH : Hd c with
      | none =>
        refine x_iteT rfl ?_
        refine x_iteT rfl (x_ret (x_var rfl ?_))
        refine k B2 H2 _ hs2 ?_
        rw [find_at (p := fun c => ratherO (f c) a (Hd c)) hc (by show ratherO (f c) a (Hd c) = true; rw [hH]; rfl) pp]
        rfl
      | some d =>
        have md := sm.oh c mcx d hH
        refine x_iteF rfl ?_
        refine x_test (x_op (x_bm (x_dget (x_var rfl (x_var rfl ?_)))))
        refine x_dgF hL2 evc ?_
        refine x_tyL (SqL.of (hs2.up elc)) (x_cons (x_var rfl (x_nil ?_)))
        refine x_index (hs2.up elc) (mu.fn c mcx) (get_idx md) ?_
        refine x_bm (x_dget (x_var rfl (x_var rfl ?_)))
        refine x_dgF hL2 evc ?_
        refine x_tyL (SqL.of (hs2.up elc)) (x_cons (x_var rfl (x_nil ?_)))
        refine x_index (hs2.up elc) (mu.fn c mcx) (get_idx mac) ?_
        refine x_gtI (x_exb ?_)
        have e : decide ((((f c).idxOf a : Nat) : Int) < ((f c).idxOf d : Nat)) = ratherO (f c) a (Hd c) := by
          rw [hH]
          exact decide_eq_decide.mpr (by omega)
        rw [e]
        refine x_ite (fun ht => ?_) (fun ht => ?_)
        · refine x_ret (x_var rfl ?_)
          refine k B2 H2 _ hs2 ?_
          rw [find_at (p := fun c => ratherO (f c) a (Hd c)) hc ht pp]
          rfl
        · refine x_next ?_
          refine ⟨(some _, some _), B2, rfl, sb2, hs2, fun j hj x hx => ?_⟩
          by_cases ej : j = i
          · subst ej
            rw [hc] at hx
            cases hx
            exact ht
          · exact pp j (by omega) x hx
    · dsimp only at hs2 ⊢
      refine x_ret (x_c ?_)
      refine k B2 H2 _ hs2 ?_
      rw [List.find?_eq_none.mpr fun x mx => ?_]
      · rfl
      · obtain ⟨j, hj⟩ := List.mem_iff_getElem?.mp mx
        have := pp j (by rw [List.length_map]; exact (List.getElem?_eq_some_iff.mp hj).1) x hj
        rw [this]
        decide
/-! ### a cycle from somebody on -/
abbrev N_cycle_from : List Str := ["start", "step", "cycle", "a"]
def t_cycle_from (K : PySem.W.Frag) (E : XK) : TS := (tSeq (tAsg (tLst (tCons (tVar 0) tNil)) (gName 2))
  (tSeq (tAsg (tDGet (tVar 1) (tVar 0)) (gName 3))
  (tSeq (tWhile (tAnd (tB (tNotN (tVar 3))) (tTest (tOp (rIn K true) (tVar 3) (tVar 2)))) (tSeq (tDrop (tBM K "list" rAppend (tVar 2) (tCons (tVar 3) tNil)))
  (tAsg (tDGet (tVar 1) (tVar 3)) (gName 3))))
  (tSeq (tIfS (tTest (tOp rNe (tVar 3) (tVar 0))) (tRet (tC .non)) tNext)
  (tRet (tVar 2))))))
def sp_cycle_from (K : PySem.W.Frag) : Sp := fun vs H Q E => ∃ (ps : Addr) (s : Str) (B : Hp) (xs : List Str) (stp : OF), vs = [.str s, .ref ps] ∧ Same B H ∧ B ps = some (.dK (zipV xs (oV stp))) ∧ xs.length ≤ 16 ∧ (∀ i a, itO stp s i = some a → a ∈ xs) ∧
  (cyO stp s = none → Ret B H Q fun _ r => r = .non) ∧ (∀ cyc, cyO stp s = some cyc → ∀ B' H' l, HS [] B H B' H' [(l, .lst (cyc.map V.str))] → Q (.ref l) H')
theorem pure_cycle_from {K : PySem.W.Frag} {vs : List V} {H : Hp} {Q : VK} {E : XK} (h : sp_cycle_from K vs H Q E) : t_cycle_from K E { nx := fun _ H' => Q .non H', rt := Q } (start N_cycle_from vs) H := by
  obtain ⟨ps, s, B, xs, stp, rfl, sB, es, hl, hx, k1, k2⟩ := h
  have hs := HS.start sB
  have ms : s ∈ xs := hx 0 s rfl
  show t_cycle_from K E _ [some (.str s), some (.ref ps), none, none] H
  unfold t_cycle_from
  refine x_seq (x_asg (x_lst (x_cons (x_var rfl (x_nil ?_)))))
  refine x_newL (by simp) ?_
  refine new_M hs (fun l H1 hs1 _ => ?_)
  refine x_gname (x_seq (x_asg (x_dget (x_var rfl (x_var rfl ?_)))))
  refine x_dgS (hs1.up es) (zipV_val ms) (x_gname ?_)
  dsimp only [List.set]
  refine x_seq ?_
  refine l_while (α := List Str × Option Str) (σf := fun z => [some (.str s), some (.ref ps), some (.ref l), some (optV z.2)]) (Mf := fun z => [(l, .lst (z.1.map V.str))])
    (P := fun m z _ => cyF stp m z.1 z.2 = cyF stp 17 [s] (stp s) ∧ OrbI stp s z.1 z.2 ∧ m + z.1.length = 18) (s0 := ([s], stp s)) (m0 := 17) hs1 ⟨rfl, OrbI.init, rfl⟩ (fun m z B2 H2 sb2 hs2 pp => ?_)
  obtain ⟨acc, q⟩ := z
  obtain ⟨e1, orb, e3⟩ := pp
  dsimp only at hs2 e1 orb e3 ⊢
  have hin : ∀ a ∈ acc, a ∈ xs := fun a ma => by
    obtain ⟨i, hi⟩ := List.mem_iff_getElem?.mp ma
    exact hx i a (by rw [← orb.at_ i (List.getElem?_eq_some_iff.mp hi).1]; exact hi)
  have hal : acc.length ≤ 16 := Nat.le_trans (nodup_len orb.nd hin) hl
  obtain ⟨m', rfl⟩ : ∃ m', m = m' + 1 := ⟨m - 1, by omega⟩
  have fin : cyF stp (m' + 1) acc q = (acc, q) → (if (false : Bool) = true then True else tSeq (tIfS (tTest (tOp rNe (tVar 3) (tVar 0))) (tRet (tC .non)) tNext) (tRet (tVar 2)) { nx := fun _ H' => Q .non H', rt := Q } [some (.str s), some (.ref ps), some (.ref l), some (optV q)] H2) := fun ef => by
    rw [if_neg (by decide)]
    rw [ef] at e1
    refine x_seq (x_if (x_test (x_op (x_var rfl (x_var rfl ?_)))))
    have hcy : cyO stp s = if q = some s then some acc else none := by unfold cyO; rw [← e1]
    by_cases hq : q = some s
    · subst hq
      refine x_ne rfl (x_exb ?_)
      refine x_iteF (by simp [optV]) (x_next (x_ret (x_var rfl ?_)))
      exact k2 acc (by rw [hcy, if_pos rfl]) B2 H2 l hs2
    · have hne : decide (optV q = V.str s) = false := decide_eq_false fun z => hq (by
        cases q with
        | none => cases z
        | some x => injection z with z; rw [z])
      refine x_ne (by cases q <;> rfl) (x_exb ?_)
      rw [hne]
      refine x_iteT rfl (x_ret (x_c ?_))
      exact k1 (by rw [hcy, if_neg hq]) B2 H2 _ hs2.drop rfl
  refine x_and (x_tB (x_notN (x_var rfl (x_exb ?_))))
  rw [optV_non]
  cases q with
  | none =>
    refine x_iteF rfl ?_
    have := fin rfl
    rw [if_neg (by decide)] at this
    exact x_iteF rfl this
  | some a =>
    refine x_iteT rfl ?_
    refine x_test (x_op (x_var rfl (x_var rfl ?_)))
    refine x_ninLS (SqL.of (hs2.get List.mem_cons_self)) (x_exb ?_)
    by_cases hm : a ∈ acc
    · rw [decide_eq_true hm]
      have := fin (by unfold cyF; rw [if_pos hm])
      rw [if_neg (by decide)] at this
      exact x_iteF rfl this
    · rw [decide_eq_false hm]
      refine x_iteT rfl ⟨fun σ' H' => ∃ m'', m'' < m' + 1 ∧ WI [] B H B _ _ _ m'' σ' H', fun _ _ h => h, ?_⟩
      have ma : a ∈ xs := hx acc.length a orb.nx.symm
      refine x_seq (x_drop (x_bm (x_var rfl ?_)))
      refine x_tyL (SqL.of (hs2.get List.mem_cons_self)) (x_cons (x_var rfl (x_nil ?_)))
      refine x_append hs2 (by rw [List.length_map]; omega) (fun H3 hs3 => ?_)
      refine x_asg (x_dget (x_var rfl (x_var rfl ?_)))
      refine x_dgS (hs3.up (sb2 _ _ es)) (zipV_val ma) (x_gname ?_)
      refine ⟨m', Nat.lt_succ_self _, (acc ++ [a], stp a), B2, rfl, sb2, ?_, ?_, ?_, ?_⟩
      · dsimp only
        rw [List.map_append]
        exact hs3
      · rw [← e1]
        show _ = cyF stp (m' + 1) acc (some a)
        conv => rhs; unfold cyF
        rw [if_neg hm]
      · refine ⟨fun i hi => ?_, ?_, ?_, by rw [List.length_append]; exact Nat.lt_of_lt_of_le orb.ne (Nat.le_add_right _ _)⟩
        · rw [List.length_append, List.length_singleton] at hi
          by_cases hll : i < acc.length
          · rw [List.getElem?_append_left hll]
            exact orb.at_ i hll
          · have e : i = acc.length := by omega
            subst e
            rw [List.getElem?_append_right (Nat.le_refl _), Nat.sub_self, ← orb.nx]
            rfl
        · rw [List.length_append, List.length_singleton]
          show stp a = (itO stp s acc.length).bind stp
          rw [← orb.nx]
          rfl
        · rw [List.nodup_append]
          exact ⟨orb.nd, by simp, fun z mz w mw e => hm (by
            have := List.mem_singleton.mp mw
            rw [← this, ← e]
            exact mz)⟩
      · rw [List.length_append, List.length_singleton]
        omega
end Q

set_option Elab.async false
set_option linter.all false
set_option maxRecDepth 100000
set_option maxHeartbeats 4000000
namespace Q
open PySem PySem.Spec PyProof.Rows L2
/-! ### walks over a dict: a comprehension; a dict that is locked already -/
theorem x_dcK {S : List Addr} {B0 H0 B H : Hp} {M : List (Addr × HO)} {σ : L2.St} {De : Ends} {td tv : TE} {i j : Nat} {L : Addr} {kvs : List (Key × V)} {ks : List Str} {g : Str → V} (hs : HS S B0 H0 B H ((L, .dK kvs) :: M)) (hk : kvs.map (·.1) = ks.map Sum.inr) (nd : ks.Nodup) (hz : ks.length ≤ 1000)
    (ev : ∀ (H' : Hp) (Qv : VK), Qv (.ref L) H' → td σ H' Qv) (e2 : ∀ x : Option V, ((wipe σ [i]).set i x)[i]? = some x) (e3 : ∀ x : Option V, wipe ((wipe σ [i]).set i x) [i] = wipe σ [i])
    (hv : ∀ x ∈ ks, ∀ (o : Obj) B1 H1 D acc (Qv : VK), Same B B1 → HS S B0 H0 B1 H1 ((D, .dK acc) :: (L, .frz o (.dK kvs)) :: M) → (∀ B2 H2, Same B1 B2 → HS S B0 H0 B2 H2 ((D, .dK acc) :: (L, .frz o (.dK kvs)) :: M) → Qv (g x) H2) → tv ((wipe σ [i]).set i (some (.str x))) H1 Qv)
    (k : ∀ B' H' D, Same B B' → HS S B0 H0 B' H' ((D, .dK (zipV ks g)) :: (L, .dK kvs) :: M) → De.nx (σ.set j (some (.ref D))) H') : tLock (tAsg (tDc (iKeys td) (gName i) tYes (tVar i) tv [i]) (gName j)) De σ H := by
  have hlen : kvs.length = ks.length := by
    have := congrArg List.length hk
    simpa using this
  refine ⟨L, .dK kvs, hs.get List.mem_cons_self, trivial, fun o => ?_⟩
  have hs1 := hs.set0 (o' := .frz o (.dK kvs))
  have w := walk_keys (d := L) (o := o) (kvs := kvs)
  refine x_asg (x_dc (ev _ _ ⟨L, o, rfl, .inl ⟨kvs, hs1.get List.mem_cons_self, fun D hD => ?_⟩⟩))
  refine ⟨fun n m H' => m = ks.length - n ∧ n ≤ ks.length ∧ ∃ B1, Same B B1 ∧ HS S B0 H0 B1 H' ((D, .dK (zipV (ks.take n) g)) :: (L, .frz o (.dK kvs)) :: M), ⟨ks.length, by simp, Nat.zero_le _, B, Same.refl _, hs1.new hD⟩, ?_⟩
  rintro n m H' ⟨rfl, hn, B1, sb, hs2⟩
  have hG : H' L = some (.frz o (.dK kvs)) := hs2.get (List.mem_cons_of_mem _ List.mem_cons_self)
  by_cases hlt : n < ks.length
  · refine .inr ⟨w.goes n H' (by omega) hG, fun H'' => ∃ B1, Same B B1 ∧ HS S B0 H0 B1 H'' ((D, .dK (zipV (ks.take (n + 1)) g)) :: (L, .frz o (.dK kvs)) :: M), fun H'' p => ⟨ks.length - (n + 1), by omega, rfl, hlt, p⟩, fun v H'' y => ?_⟩
    obtain ⟨rfl, q, u, e1, rfl⟩ := w.yields n H' v H'' (by omega) hG y
    have hki : (kvs.map (·.1))[n]? = some q := by rw [List.getElem?_map, e1]; rfl
    rw [hk, List.getElem?_map] at hki
    obtain ⟨x, hx, rfl⟩ := Option.map_eq_some_iff.mp hki
    refine x_gname ⟨e3 _, x_yes (x_tt _ _ (x_var (e2 _) ?_))⟩
    refine hv x (List.mem_of_getElem? hx) o B1 _ D _ _ sb hs2 fun B2 H2 sb2 hs3 => ?_
    refine ⟨_, .inr x, rfl, hs3.get List.mem_cons_self, small_lt (by rw [zipV_len, List.length_take]; omega), B2, sb.trans sb2, ?_⟩
    rw [← zipV_snoc nd hx]
    exact hs3.set0
  · have e : n = ks.length := by omega
    subst e
    rw [List.take_length] at hs2
    refine .inl ⟨by rw [← hlen]; exact w.stops H' hG, ?_⟩
    refine x_gname ⟨hG, ?_⟩
    exact k B1 _ D sb hs2.set1
theorem l_keysF {α : Type} {B0 H0 B : Hp} {σf : α → L2.St} {Mf : α → List (Addr × HO)} {P : Nat → α → Hp → Prop} {g : TG} {tb : TS} {De : Ends} {H : Hp} {s0 : α} {L : Addr} {o : Obj} {kvs : List (Key × V)} {ks : List Str} {td : TE} (hk : kvs.map (·.1) = ks.map Sum.inr) (hs : HS [] B0 H0 B H (Mf s0)) (bL : B0 L = none) (hL : H0 L = some (.frz o (.dK kvs))) (h0 : P 0 s0 B) (ev : ∀ (H' : Hp) (Qv : VK), Qv (.ref L) H' → td (σf s0) H' Qv)
    (hb : ∀ i x s B1 H1, ks[i]? = some x → Same B B1 → HS [] B0 H0 B1 H1 (Mf s) → P i s B1 → g (.str x) (σf s) H1 fun σ2 H2 => tb { De with nx := LI [] B0 H0 B σf Mf P (i + 1), ct := LI [] B0 H0 B σf Mf P (i + 1), bk := De.nx } σ2 H2)
    (hd : ∀ s B1 H1, Same B B1 → HS [] B0 H0 B1 H1 (Mf s) → P ks.length s B1 → De.nx (σf s) H1) : tFor (iKeys td) g tb De (σf s0) H := by
  have hlen : kvs.length = ks.length := by
    have := congrArg List.length hk
    simpa using this
  refine x_for (ev _ _ ⟨L, o, rfl, .inl ⟨kvs, fr_get hs bL hL, ?_⟩⟩)
  refine for_it walk_keys (LI [] B0 H0 B σf Mf P) ⟨s0, B, rfl, Same.refl _, hs, h0⟩ (fun i σ H' _ ⟨s, B1, _, sb, hs', _⟩ => fr_get hs' bL hL) (fun i v σ H' H2 hi ⟨s, B1, e, sb, hs', p⟩ y => ?_) fun σ H' ⟨s, B1, e, sb, hs', p⟩ => ?_
  · obtain ⟨rfl, k, w, e1, rfl⟩ := y
    rw [e]
    have hki : (kvs.map (·.1))[i]? = some k := by rw [List.getElem?_map, e1]; rfl
    rw [hk, List.getElem?_map] at hki
    obtain ⟨x, hx, rfl⟩ := Option.map_eq_some_iff.mp hki
    exact hb i x s B1 _ hx sb hs' p
  · rw [e]
    exact hd s B1 H' sb hs' (by rw [← hlen]; exact p)
/-! ### is everybody in order -/
abbrev N_in_order : List Str := ["lists", "asks", "holds", "a"]
def t_in_order (K : PySem.W.Frag) (E : XK) : TS := (tSeq (tFor (iKeys (tVar 0)) (gName 3) (tIfS (tAnd (tB (tNotN (tDGet (tVar 1) (tVar 3)))) (tTest (tOp rGtI (tBM K "list" (rIndex K) (tDGet (tVar 0) (tVar 3)) (tCons (tDGet (tVar 1) (tVar 3)) tNil)) (tBM K "list" (rIndex K) (tDGet (tVar 0) (tVar 3)) (tCons (tDGet (tVar 2) (tVar 3)) tNil))))) (tRet (tC (.bl false))) tNext))
  (tRet (tC (.bl true))))
def sp_in_order (K : PySem.W.Frag) : Sp := fun vs H Q E => ∃ (L pa ph : Addr) (B : Hp) (xs : List Str) (f : Str → List Str) (kvs : List (Key × V)) (o : Obj) (A Hd : OF), vs = [.ref L, .ref pa, .ref ph] ∧ Same B H ∧ B L = none ∧ H L = some (.frz o (.dK kvs)) ∧ WAt B xs kvs f ∧ Mut xs f ∧ B pa = some (.dK (zipV xs (oV A))) ∧ B ph = some (.dK (zipV xs (oV Hd))) ∧ SM xs f A Hd ∧ DomE xs A Hd ∧ Ret B H Q fun _ r => r = .bl (ioB xs f A Hd)
theorem pure_in_order {K : PySem.W.Frag} {vs : List V} {H : Hp} {Q : VK} {E : XK} (h : sp_in_order K vs H Q E) : t_in_order K E { nx := fun _ H' => Q .non H', rt := Q } (start N_in_order vs) H := by
  obtain ⟨L, pa, ph, B, xs, f, kvs, o, A, Hd, rfl, sB, bL, hL, hw, mu, ea, eh, sm, dm, k⟩ := h
  have hs := HS.start sB
  show t_in_order K E _ [some (.ref L), some (.ref pa), some (.ref ph), none] H
  unfold t_in_order
  refine x_seq ?_
  refine l_keysF (α := Option V) (σf := fun z => [some (.ref L), some (.ref pa), some (.ref ph), z]) (Mf := fun _ => []) (P := fun i _ _ => ∀ j, j < i → ∀ a, xs[j]? = some a → (match A a, Hd a with | some b, some c => decide ((f a).idxOf b ≤ (f a).idxOf c) | _, _ => true) = true) (s0 := none) hw.keys hs bL hL (fun j hj => absurd hj (Nat.not_lt_zero _)) (fun H' Qv q => ⟨_, rfl, q⟩) (fun i a z B1 H1 hx sb1 hs1 pp => ?_) (fun z B1 H1 sb1 hs1 pp => ?_)
  · dsimp only at hs1 ⊢
    have ma := List.mem_of_getElem? hx
    have hL1 := fr_get hs1 bL hL
    have va : valV (zipV xs (oV A)) (.inr a) = some (optV (A a)) := zipV_val ma
    have vh : valV (zipV xs (oV Hd)) (.inr a) = some (optV (Hd a)) := zipV_val ma
    obtain ⟨la, evl, ela⟩ := (hw.mono sb1).get mu.nd ma
    refine x_gname ?_
    dsimp only [List.set]
    refine x_if (x_and (x_tB (x_notN (x_dget (x_var rfl (x_var rfl ?_))))))
    refine x_dgS (hs1.up (sb1 _ _ ea)) va (x_exb ?_)
    rw [optV_non]
    have go : (match A a, Hd a with | some b, some c => decide ((f a).idxOf b ≤ (f a).idxOf c) | _, _ => true) = true → LI [] B H B (fun z => [some (.ref L), some (.ref pa), some (.ref ph), z]) (fun _ => []) (fun i _ _ => ∀ j, j < i → ∀ a, xs[j]? = some a → (match A a, Hd a with | some b, some c => decide ((f a).idxOf b ≤ (f a).idxOf c) | _, _ => true) = true) (i + 1) [some (.ref L), some (.ref pa), some (.ref ph), some (.str a)] H1 := fun hg =>
      ⟨some (.str a), B1, rfl, sb1, hs1, fun j hj b hb => by
        by_cases e : j = i
        · subst e
          rw [hx] at hb
          cases hb
          exact hg
        · exact pp j (by omega) b hb⟩
    cases hA : A a with
    | none =>
      refine x_iteF rfl (x_iteF rfl (x_next ?_))
      exact go (by rw [hA])
    | some b =>
      have hd := dm a ma
      rw [hA] at hd
      obtain ⟨c, hc⟩ := Option.isSome_iff_exists.mp hd.symm
      rw [hA] at va
      rw [hc] at vh
      have mb := sm.oa a ma b hA
      have mc := sm.oh a ma c hc
      refine x_iteT rfl ?_
      refine x_test (x_op (x_bm (x_dget (x_var rfl (x_var rfl ?_)))))
      refine x_dgF hL1 evl ?_
      refine x_tyL (SqL.of (hs1.up ela)) (x_cons (x_dget (x_var rfl (x_var rfl ?_))))
      refine x_dgS (hs1.up (sb1 _ _ ea)) va (x_nil ?_)
      refine x_index (hs1.up ela) (mu.fn a ma) (get_idx mb) ?_
      refine x_bm (x_dget (x_var rfl (x_var rfl ?_)))
      refine x_dgF hL1 evl ?_
      refine x_tyL (SqL.of (hs1.up ela)) (x_cons (x_dget (x_var rfl (x_var rfl ?_))))
      refine x_dgS (hs1.up (sb1 _ _ eh)) vh (x_nil ?_)
      refine x_index (hs1.up ela) (mu.fn a ma) (get_idx mc) ?_
      refine x_gtI (x_exb ?_)
      refine x_ite (fun ht => ?_) (fun ht => ?_)
      · have ht := of_decide_eq_true ht
        refine x_ret (x_c ?_)
        refine k B1 H1 _ hs1 ?_
        have : ioB xs f A Hd = false := by
          unfold ioB
          rw [List.all_eq_false]
          refine ⟨a, ma, ?_⟩
          rw [hA, hc]
          simp
          omega
        rw [this]
      · have ht := of_decide_eq_false ht
        refine x_next (go ?_)
        rw [hA, hc]
        exact decide_eq_true (by omega)
  · dsimp only at hs1 ⊢
    refine x_ret (x_c ?_)
    refine k B1 H1 _ hs1 ?_
    have : ioB xs f A Hd = true := by
      unfold ioB
      rw [List.all_eq_true]
      intro a ma
      obtain ⟨j, hj⟩ := List.mem_iff_getElem?.mp ma
      exact pp j (List.getElem?_eq_some_iff.mp hj).1 a hj
    rw [this]
end Q

set_option Elab.async false
set_option linter.all false
set_option maxRecDepth 100000
set_option maxHeartbeats 4000000
namespace Q
open PySem PySem.Spec PyProof.Rows L2
/-! ### all ask until nobody asks any more -/
theorem pull3 {α : Type} {a b c : α} {M : List α} : (a :: b :: c :: M).Perm (c :: a :: b :: M) := ((List.Perm.swap c b M).cons a).trans (List.Perm.swap c a (b :: M))
theorem pull4 {α : Type} {a b c d : α} {M : List α} : (a :: b :: c :: d :: M).Perm (d :: a :: b :: c :: M) := (pull3.cons a).trans (List.Perm.swap d a (b :: c :: M))
theorem pull5 {α : Type} {a b c d e : α} {M : List α} : (a :: b :: c :: d :: e :: M).Perm (e :: a :: b :: c :: d :: M) := (pull4.cons a).trans (List.Perm.swap e a (b :: c :: d :: M))
theorem x_popL {S : List Addr} {B0 H0 B H : Hp} {M : List (Addr × HO)} {Q : VK} {l : Addr} {xs : List V} {y : V} (hs : HS S B0 H0 B H ((l, .lst (xs ++ [y])) :: M)) (h : ∀ H', HS S B0 H0 B H' ((l, .lst xs) :: M) → Q y H') : rPop (.ref l) [] H Q :=
  ⟨l, xs ++ [y], y, rfl, rfl, hs.get List.mem_cons_self, by simp, by rw [List.dropLast_concat]; exact h _ hs.set0⟩
def nV (n : Str → Nat) : Str → V := fun a => .int (n a : Nat)
theorem nV_upd {n : Str → Nat} {a : Str} {k : Nat} : updW (nV n) a (.int (k : Nat)) = nV (updW n a k) := by
  funext b
  unfold nV
  by_cases e : b = a
  · rw [e, updW_eq, updW_eq]
  · rw [updW_ne e, updW_ne e]
abbrev N_ask_all : List Str := ["lists", "asks", "holds", "asked", "free", "a", "b", "held"]
def t_ask_all (K : PySem.W.Frag) (E : XK) : TS := (tSeq (tLock (tAsg (tDc (iKeys (tVar 0)) (gName 5) tYes (tVar 5) (tC .non) [5]) (gName 1)))
  (tSeq (tLock (tAsg (tDc (iKeys (tVar 0)) (gName 5) tYes (tVar 5) (tC .non) [5]) (gName 2)))
  (tSeq (tLock (tAsg (tDc (iKeys (tVar 0)) (gName 5) tYes (tVar 5) (tC (.int 0)) [5]) (gName 3)))
  (tSeq (tAsg (tCB rListD (tCons (tVar 0) tNil)) (gName 4))
  (tSeq (tWhile (tTr K (tVar 4)) (tSeq (tAsg (tBM0 K "list" rPop (tVar 4)) (gName 5))
  (tSeq (tIfS (tTest (tOp rGeI (tDGet (tVar 3) (tVar 5)) (tCB (rLenA K) (tCons (tDGet (tVar 0) (tVar 5)) tNil)))) tCont tNext)
  (tSeq (tAsg (tOp (rIxL K) (tDGet (tVar 0) (tVar 5)) (tDGet (tVar 3) (tVar 5))) (gName 6))
  (tSeq (sDAug (tVar 3) (tVar 5) (tC (.int 1)) rAdd)
  (tSeq (tAsg (tDGet (tVar 2) (tVar 6)) (gName 7))
  (tSeq (tIfS (tAnd (tB (tNotN (tVar 7))) (tTest (tOp rLtI (tBM K "list" (rIndex K) (tDGet (tVar 0) (tVar 6)) (tCons (tVar 7) tNil)) (tBM K "list" (rIndex K) (tDGet (tVar 0) (tVar 6)) (tCons (tVar 5) tNil))))) (tSeq (tDrop (tBM K "list" rAppend (tVar 4) (tCons (tVar 5) tNil)))
  tCont) tNext)
  (tSeq (sDPut (tVar 2) (tVar 6) (tVar 5))
  (tSeq (sDPut (tVar 1) (tVar 5) (tVar 6))
  (tIfS (tB (tNotN (tVar 7))) (tSeq (sDPut (tVar 1) (tVar 7) (tC .non))
  (tDrop (tBM K "list" rAppend (tVar 4) (tCons (tVar 7) tNil)))) tNext))))))))))
  (tRet (tTup (tCons (tVar 1) (tCons (tVar 2) tNil)))))))))
def sp_ask_all (K : PySem.W.Frag) : Sp := fun vs H Q E => ∃ (L : Addr) (B : Hp) (xs : List Str) (f : Str → List Str) (kvs : List (Key × V)), vs = [.ref L] ∧ Same B H ∧ B L = none ∧ H L = some (.dK kvs) ∧ WAt B xs kvs f ∧ Mut xs f ∧
  ∀ B' H' T pa ph, HS [L] B H B' H' [(L, .dK kvs)] → B' T = some (.tup [.ref pa, .ref ph]) → B' pa = some (.dK (zipV xs (oV (askF f xs).A))) → B' ph = some (.dK (zipV xs (oV (askF f xs).H))) → Q (.ref T) H'
theorem pure_ask_all {K : PySem.W.Frag} {vs : List V} {H : Hp} {Q : VK} {E : XK} (h : sp_ask_all K vs H Q E) : t_ask_all K E { nx := fun _ H' => Q .non H', rt := Q } (start N_ask_all vs) H := by
  obtain ⟨L, B, xs, f, kvs, rfl, sB, bL, hL, hw, mu, k⟩ := h
  have hs := HS.startS sB bL hL
  have hfew := mu.few
  show t_ask_all K E _ [some (.ref L), none, none, none, none, none, none, none] H
  unfold t_ask_all
  refine x_seq ?_
  refine x_dcK (g := oV fun _ => none) hs hw.keys mu.nd (by omega) (fun H' Qv q => ⟨_, rfl, q⟩) (fun _ => rfl) (fun _ => rfl) (fun x _ o B1 H1 D acc Qv sb h1 q => x_c (q B1 H1 (Same.refl _) h1)) (fun B1 H1 pa sb1 hs1 => ?_)
  dsimp only [List.set]
  refine x_seq ?_
  refine x_dcK (g := oV fun _ => none) hs1.swap (hw.mono sb1).keys mu.nd (by omega) (fun H' Qv q => ⟨_, rfl, q⟩) (fun _ => rfl) (fun _ => rfl) (fun x _ o B1 H1 D acc Qv sb h1 q => x_c (q B1 H1 (Same.refl _) h1)) (fun B2 H2 ph sb2 hs2 => ?_)
  dsimp only [List.set]
  refine x_seq ?_
  refine x_dcK (g := nV fun _ => 0) hs2.swap (hw.mono sb1).keys mu.nd (by omega) (fun H' Qv q => ⟨_, rfl, q⟩) (fun _ => rfl) (fun _ => rfl) (fun x _ o B1 H1 D acc Qv sb h1 q => x_c (q B1 H1 (Same.refl _) h1)) (fun B3 H3 pn sb3 hs3 => ?_)
  dsimp only [List.set]
  refine x_seq (x_asg (x_cb (x_cons (x_var rfl (x_nil ?_)))))
  refine x_listD (hs3.get (List.mem_cons_of_mem _ List.mem_cons_self)) ?_
  rw [hw.zip]
  refine new_M hs3 (fun pf H4 hs4 _ => ?_)
  refine x_gname ?_
  dsimp only [List.set]
  have s3 := (sb1.trans sb2).trans sb3
  refine x_seq ?_
  refine l_while (α := AskS × Option V × Option V × Option V) (σf := fun z => [some (.ref L), some (.ref pa), some (.ref ph), some (.ref pn), some (.ref pf), z.2.1, z.2.2.1, z.2.2.2])
    (Mf := fun z => [(pf, .lst (z.1.free.map V.str)), (pn, .dK (zipV xs (nV z.1.n))), (L, .dK kvs), (ph, .dK (zipV xs (oV z.1.H))), (pa, .dK (zipV xs (oV z.1.A)))])
    (P := fun m z _ => askS f m z.1 = askF f xs ∧ z.1.Ok xs f ∧ z.1.left xs f ≤ m) (s0 := (ask0 xs, none, none, none)) (m0 := 400) hs4 ⟨rfl, ask0_ok mu, ask0_left mu⟩ (fun m z B5 H5 sb5 hs5 pp => ?_)
  obtain ⟨s, z5, z6, z7⟩ := z
  obtain ⟨e1, ok, hle⟩ := pp
  dsimp only at hs5 e1 ok hle ⊢
  have s5 := s3.trans sb5
  refine x_tr (x_var rfl (x_trL (hs5.get List.mem_cons_self) ?_))
  by_cases hf : s.free = []
  · -- nobody asks any more
    rw [hf]
    refine x_iteF rfl ?_
    rw [askS_end hf] at e1
    have h6 : HS [L] B H B5 H5 [(ph, .dK (zipV xs (oV s.H))), (pa, .dK (zipV xs (oV s.A))), (L, .dK kvs)] := hs5.drop.drop.perm ((List.Perm.swap _ _ _).trans ((List.Perm.swap _ _ _).cons _))
    have neL : ∀ q : Addr, B q = none → H q = none → q ∉ [L] := fun q h1 h2 m => by
      rw [List.mem_singleton.mp m, hL] at h2
      cases h2
    have nph : ph ∉ [L] := fun m => by
      have nd := h6.nd
      rw [List.mem_singleton.mp m] at nd
      simp at nd
    obtain ⟨hs7, sb7⟩ := h6.still nph
    have npa : pa ∉ [L] := fun m => by
      have nd := hs7.nd
      rw [List.mem_singleton.mp m] at nd
      simp at nd
    obtain ⟨hs8, sb8⟩ := hs7.still npa
    have eph : (upd (upd B5 ph (.dK (zipV xs (oV s.H)))) pa (.dK (zipV xs (oV s.A)))) ph = some (.dK (zipV xs (oV s.H))) := sb8 _ _ upd_same
    have epa : (upd (upd B5 ph (.dK (zipV xs (oV s.H)))) pa (.dK (zipV xs (oV s.A)))) pa = some (.dK (zipV xs (oV s.A))) := upd_same
    refine x_ret (x_tup (x_cons (x_var rfl (x_cons (x_var rfl (x_nil ?_))))))
    refine x_newT (by simp) ?_
    refine new_F hs8 (fun T B9 H9 hs9 sb9 eT _ => ?_)
    rw [← e1] at k
    exact k B9 H9 T pa ph hs9 eT (sb9 _ _ epa) (sb9 _ _ eph)
  · obtain ⟨fr, a, e⟩ : ∃ fr a, s.free = fr ++ [a] := ⟨s.free.dropLast, s.free.getLast hf, (List.dropLast_concat_getLast hf).symm⟩
    have hlt := askStep_left mu ok e
    obtain ⟨m', rfl⟩ : ∃ m', m = m' + 1 := ⟨m - 1, by omega⟩
    have e2 := askS_snoc (f := f) e m'
    rw [e1] at e2
    have ok2 := ok.step mu e
    have okI : AskI xs f s.A s.H s.n (fr ++ [a]) := by rw [← e]; exact ok
    have ma := okI.last.1
    have hfl : s.free.length ≤ 16 := Nat.le_trans (nodup_len ok.nd (ys := xs) fun x mx => (ok.fi x mx).1) hfew
    rw [e]
    refine x_iteT (by simp) ⟨fun σ' H' => ∃ m'', m'' < m' + 1 ∧ WI [L] B H B3 _ _ _ m'' σ' H', fun _ _ h => h, ?_⟩
    have fin : ∀ {B6 H6 : Hp} {z5 z6 z7 : Option V}, Same B3 B6 → HS [L] B H B6 H6 [(pf, .lst ((askStep f s a fr).free.map V.str)), (pn, .dK (zipV xs (nV (askStep f s a fr).n))), (L, .dK kvs), (ph, .dK (zipV xs (oV (askStep f s a fr).H))), (pa, .dK (zipV xs (oV (askStep f s a fr).A)))] →
        ∃ m'', m'' < m' + 1 ∧ WI [L] B H B3 (fun (z : AskS × Option V × Option V × Option V) => [some (.ref L), some (.ref pa), some (.ref ph), some (.ref pn), some (.ref pf), z.2.1, z.2.2.1, z.2.2.2]) (fun z => [(pf, .lst (z.1.free.map V.str)), (pn, .dK (zipV xs (nV z.1.n))), (L, .dK kvs), (ph, .dK (zipV xs (oV z.1.H))), (pa, .dK (zipV xs (oV z.1.A)))]) (fun m z _ => askS f m z.1 = askF f xs ∧ z.1.Ok xs f ∧ z.1.left xs f ≤ m) m'' [some (.ref L), some (.ref pa), some (.ref ph), some (.ref pn), some (.ref pf), z5, z6, z7] H6 := fun {B6 H6 z5 z6 z7} sb h6 =>
      ⟨m', Nat.lt_succ_self _, (askStep f s a fr, z5, z6, z7), B6, rfl, sb, h6, e2.symm, ok2, by show (askStep f s a fr).left xs f ≤ m'; omega⟩
    rw [e, List.map_append] at hs5
    refine x_seq (x_asg (x_bm0 (x_var rfl ?_)))
    refine x_tyL (SqL.of (hs5.get List.mem_cons_self)) ?_
    refine x_popL hs5 (fun H6 hs6 => ?_)
    refine x_gname ?_
    dsimp only [List.set]
    obtain ⟨la, evl, ela⟩ := (hw.mono s5).get mu.nd ma
    have hal := mu.len ma
    have vn : ∀ n : Str → Nat, valV (zipV xs (nV n)) (.inr a) = some (.int (n a : Nat)) := fun n => zipV_val ma
    refine x_seq (x_if (x_test (x_op (x_dget (x_var rfl (x_var rfl ?_))))))
    refine x_dgS (hs6.get (List.mem_cons_of_mem _ List.mem_cons_self)) (vn s.n) ?_
    refine x_cb (x_cons (x_dget (x_var rfl (x_var rfl ?_))))
    refine x_dgS (hs6.get (List.mem_cons_of_mem _ (List.mem_cons_of_mem _ List.mem_cons_self))) evl (x_nil ?_)
    refine x_lenL (SqL.of (hs6.up ela)) ?_
    refine x_geI (x_exb ?_)
    rw [List.length_map]
    have hfrl : fr.length ≤ 16 := by
      rw [e, List.length_append] at hfl
      omega
    cases hb : (f a)[s.n a]? with
    | none =>
      have hn := List.getElem?_eq_none_iff.mp hb
      refine x_iteT (decide_eq_true (by omega)) (x_cont ?_)
      refine fin sb5 ?_
      have es : askStep f s a fr = ⟨s.A, s.H, s.n, fr⟩ := by unfold askStep; rw [hb]
      rw [es]
      exact hs6
    | some b =>
      have hn := (List.getElem?_eq_some_iff.mp hb).1
      have mba := List.mem_of_getElem? hb
      obtain ⟨mb, mab⟩ := mu.fi a ma b mba
      refine x_iteF (decide_eq_false (by omega)) (x_next ?_)
      refine x_seq (x_asg (x_op (x_dget (x_var rfl (x_var rfl ?_)))))
      refine x_dgS (hs6.get (List.mem_cons_of_mem _ (List.mem_cons_of_mem _ List.mem_cons_self))) evl ?_
      refine x_dget (x_var rfl (x_var rfl ?_))
      refine x_dgS (hs6.get (List.mem_cons_of_mem _ List.mem_cons_self)) (vn s.n) ?_
      refine x_ixL (SqL.of (hs6.up ela)) (atI_str hb) (x_gname ?_)
      dsimp only [List.set]
      refine x_seq ⟨_, rfl, _, rfl, pn, _, rfl, DGet.k (k := .inr a) (hs6.get (List.mem_cons_of_mem _ List.mem_cons_self)) |> fun h => (by rw [vn s.n] at h; exact h), ?_⟩
      refine x_c ⟨_, _, rfl, rfl, ?_⟩
      have hs7 := hs6.swap.set0 (o' := .dK (putK (zipV xs (nV s.n)) (.inr a) (.int ((s.n a : Nat) + 1))))
      refine ⟨_, DPut.k (k := .inr a) (hs6.get (List.mem_cons_of_mem _ List.mem_cons_self)) (small_lt (by rw [zipV_len]; omega)), ?_⟩
      rw [zipV_put ma, show ((s.n a : Nat) : Int) + 1 = ((s.n a + 1 : Nat) : Int) by omega, nV_upd] at hs7
      rw [zipV_put ma, show ((s.n a : Nat) : Int) + 1 = ((s.n a + 1 : Nat) : Int) by omega, nV_upd]
      generalize upd H6 pn (HO.dK (zipV xs (nV (updW s.n a (s.n a + 1))))) = H7 at hs7
      have hs7 := hs7.swap
      have vh : valV (zipV xs (oV s.H)) (.inr b) = some (optV (s.H b)) := zipV_val mb
      refine x_seq (x_asg (x_dget (x_var rfl (x_var rfl ?_))))
      refine x_dgS (hs7.get (List.mem_cons_of_mem _ (List.mem_cons_of_mem _ (List.mem_cons_of_mem _ List.mem_cons_self)))) vh (x_gname ?_)
      dsimp only [List.set]
      obtain ⟨lb, evb, elb⟩ := (hw.mono s5).get mu.nd mb
      refine x_seq (x_if (x_and (x_tB (x_notN (x_var rfl (x_exb ?_))))))
      rw [optV_non]
      -- the place is given
      have give : ∀ {B8 H8 : Hp} {De : Ends} {t : TS}, Same B5 B8 → HS [L] B H B8 H8 [(pf, .lst (fr.map V.str)), (pn, .dK (zipV xs (nV (updW s.n a (s.n a + 1))))), (L, .dK kvs), (ph, .dK (zipV xs (oV s.H))), (pa, .dK (zipV xs (oV s.A)))] →
          (∀ H9, HS [L] B H B8 H9 [(pa, .dK (zipV xs (oV (updW s.A a (some b))))), (ph, .dK (zipV xs (oV (updW s.H b (some a))))), (pf, .lst (fr.map V.str)), (pn, .dK (zipV xs (nV (updW s.n a (s.n a + 1))))), (L, .dK kvs)] → t De [some (.ref L), some (.ref pa), some (.ref ph), some (.ref pn), some (.ref pf), some (.str a), some (.str b), some (optV (s.H b))] H9) →
          tSeq (sDPut (tVar 2) (tVar 6) (tVar 5)) (tSeq (sDPut (tVar 1) (tVar 5) (tVar 6)) t) De [some (.ref L), some (.ref pa), some (.ref ph), some (.ref pn), some (.ref pf), some (.str a), some (.str b), some (optV (s.H b))] H8 := fun {B8 H8 De t} sb8 h8 kk => by
        refine x_seq (x_dputU (x_var rfl (x_var rfl (x_var rfl ?_))))
        refine x_dput (h8.perm pull4) (by rw [zipV_len]; omega) (fun H9 h9 => ?_)
        rw [zipV_put mb, show V.str a = optV (some a) from rfl, oV_upd] at h9
        dsimp only
        refine x_seq (x_dputU (x_var rfl (x_var rfl (x_var rfl ?_))))
        refine x_dput (h9.perm pull5) (by rw [zipV_len]; omega) (fun H10 h10 => ?_)
        rw [zipV_put ma, show V.str b = optV (some b) from rfl, oV_upd] at h10
        dsimp only
        exact kk H10 h10
      cases hc : s.H b with
      | none =>
        refine x_iteF rfl (x_iteF rfl (x_next ?_))
        rw [hc] at give
        refine give (Same.refl _) hs7 (fun H9 hs9 => ?_)
        refine x_if (x_tB (x_notN (x_var rfl (x_exb ?_))))
        refine x_iteF rfl (x_next ?_)
        refine fin sb5 ?_
        have es : askStep f s a fr = ⟨updW s.A a (some b), updW s.H b (some a), updW s.n a (s.n a + 1), fr⟩ := by unfold askStep; rw [hb]; dsimp only; rw [hc]
        rw [es]
        exact hs9.perm ((pull5.trans (pull5.trans pull5)).trans ((List.Perm.swap _ _ _).cons _ |>.cons _ |>.cons _))
      | some c =>
        obtain ⟨mc, hAc, mbc, hnc⟩ := okI.hold mu mb hc
        have mcb := (mu.fi c mc b mbc).2
        refine x_iteT rfl ?_
        refine x_test (x_op (x_bm (x_dget (x_var rfl (x_var rfl ?_)))))
        refine x_dgS (hs7.get (List.mem_cons_of_mem _ (List.mem_cons_of_mem _ List.mem_cons_self))) evb ?_
        refine x_tyL (SqL.of (hs7.up elb)) (x_cons (x_var rfl (x_nil ?_)))
        refine x_index (hs7.up elb) (mu.fn b mb) (get_idx mcb) ?_
        refine x_bm (x_dget (x_var rfl (x_var rfl ?_)))
        refine x_dgS (hs7.get (List.mem_cons_of_mem _ (List.mem_cons_of_mem _ List.mem_cons_self))) evb ?_
        refine x_tyL (SqL.of (hs7.up elb)) (x_cons (x_var rfl (x_nil ?_)))
        refine x_index (hs7.up elb) (mu.fn b mb) (get_idx mab) ?_
        refine x_ltI (x_exb ?_)
        refine x_ite (fun ht => ?_) (fun ht => ?_)
        · have lt : (f b).idxOf c < (f b).idxOf a := by have := of_decide_eq_true ht; omega
          refine x_seq (x_drop (x_bm (x_var rfl ?_)))
          refine x_tyL (SqL.of (hs7.get List.mem_cons_self)) (x_cons (x_var rfl (x_nil ?_)))
          refine x_append hs7 (by rw [List.length_map]; omega) (fun H8 hs8 => ?_)
          dsimp only
          refine x_cont ?_
          refine fin sb5 ?_
          have es : askStep f s a fr = ⟨s.A, s.H, updW s.n a (s.n a + 1), fr ++ [a]⟩ := by unfold askStep; rw [hb]; dsimp only; rw [hc]; dsimp only; rw [if_pos lt]
          rw [es]
          dsimp only
          rw [List.map_append]
          exact hs8
        · have lt : ¬ (f b).idxOf c < (f b).idxOf a := by have := of_decide_eq_false ht; omega
          refine x_next ?_
          rw [hc] at give
          refine give (Same.refl _) hs7 (fun H9 hs9 => ?_)
          refine x_if (x_tB (x_notN (x_var rfl (x_exb ?_))))
          refine x_iteT rfl ?_
          refine x_seq (x_dputU (x_c (x_var rfl (x_var rfl ?_))))
          refine x_dput hs9 (by rw [zipV_len]; omega) (fun H10 hs10 => ?_)
          rw [zipV_put mc, show V.non = optV none from rfl, oV_upd] at hs10
          dsimp only
          refine x_drop (x_bm (x_var rfl ?_))
          refine x_tyL (SqL.of (hs10.get (List.mem_cons_of_mem _ (List.mem_cons_of_mem _ List.mem_cons_self)))) (x_cons (x_var rfl (x_nil ?_)))
          refine x_append (hs10.perm pull3) (by rw [List.length_map]; omega) (fun H11 hs11 => ?_)
          refine fin sb5 ?_
          have es : askStep f s a fr = ⟨updW (updW s.A a (some b)) c none, updW s.H b (some a), updW s.n a (s.n a + 1), fr ++ [c]⟩ := by unfold askStep; rw [hb]; dsimp only; rw [hc]; dsimp only; rw [if_neg lt]
          rw [es]
          dsimp only
          rw [List.map_append]
          exact hs11.perm (((pull4.trans pull4).trans (((List.Perm.swap _ _ _).cons _).cons _)).cons _)
theorem use_ask_all {K : PySem.W.Frag} {B0 H0 B H : Hp} {M : List (Addr × HO)} {Q : VK} {E : XK} {L : Addr} {xs : List Str} {f : Str → List Str} {kvs : List (Key × V)} (hs : HS [] B0 H0 B H ((L, .dK kvs) :: M)) (hw : WAt B xs kvs f) (mu : Mut xs f)
    (k : ∀ B' H' T pa ph, Same B B' → HS [] B0 H0 B' H' ((L, .dK kvs) :: M) → B' T = some (.tup [.ref pa, .ref ph]) → B' pa = some (.dK (zipV xs (oV (askF f xs).A))) → B' ph = some (.dK (zipV xs (oV (askF f xs).H))) → Q (.ref T) H') : sp_ask_all K [.ref L] H Q E :=
  ⟨L, B, xs, f, kvs, rfl, hs.bh, (hs.mu _ List.mem_cons_self).1, hs.get List.mem_cons_self, hw, mu, fun B' H' T pa ph c => k B' H' T pa ph c.bb (hs.call1 c)⟩
end Q

set_option Elab.async false
set_option linter.all false
set_option maxRecDepth 100000
set_option maxHeartbeats 4000000
namespace Q
open PySem PySem.Spec PyProof.Rows L2
/-! ### one cycle is passed on -/
theorem HS.still1 {L : Addr} {B0 H0 B H : Hp} {p : Addr} {o u : HO} {M : List (Addr × HO)} (h : HS [L] B0 H0 B H ((p, o) :: (L, u) :: M)) : ∃ B', HS [L] B0 H0 B' H ((L, u) :: M) ∧ Same B B' ∧ B' p = some o := by
  have np : p ∉ [L] := fun m => by
    have nd := h.nd
    rw [List.mem_singleton.mp m] at nd
    simp at nd
  exact ⟨_, (h.still np).1, (h.still np).2, upd_same⟩
theorem findSome_at {α β : Type} {g : α → Option β} {x : α} {r : β} : ∀ {l : List α} {i : Nat}, l[i]? = some x → g x = some r → (∀ j, j < i → ∀ y, l[j]? = some y → g y = none) → l.findSome? g = some r
  | [], i, h, _, _ => by simp at h
  | y :: l, 0, h, hx, _ => by
    have : y = x := by simpa using h
    subst this
    rw [List.findSome?_cons, hx]
  | y :: l, i + 1, h, hx, hn => by
    rw [List.findSome?_cons, hn 0 (by omega) y rfl]
    exact findSome_at (i := i) (by simpa using h) hx fun j hj z hz => hn (j + 1) (by omega) z (by simpa using hz)
theorem nAs_snoc {low A : OF} {cyc : List Str} {a : Str} : updW (nAs low A cyc) a (low a) = nAs low A (cyc ++ [a]) := by
  funext b
  unfold nAs
  by_cases e : b = a
  · subst e
    rw [updW_eq, if_pos (by simp)]
  · rw [updW_ne e]
    by_cases m : b ∈ cyc
    · rw [if_pos m, if_pos (by simp [m])]
    · rw [if_neg m, if_neg (by simp [m, e])]
theorem nHo_snoc {low H : OF} {cyc : List Str} {a c : Str} (hl : low a = some c) (hn : ∀ b ∈ cyc, low b ≠ some c) : updW (nHo low H cyc) c (some a) = nHo low H (cyc ++ [a]) := by
  funext b
  unfold nHo
  rw [List.find?_append]
  by_cases e : b = c
  · subst e
    rw [updW_eq, List.find?_eq_none.mpr fun x mx => by rw [decide_eq_false (hn x mx)]; decide]
    show some a = match Option.or none ([a].find? fun a => decide (low a = some b)) with | some a => some a | none => H b
    rw [List.find?_cons, hl, decide_eq_true rfl]
    rfl
  · rw [updW_ne e]
    have h1 : [a].find? (fun a => decide (low a = some b)) = none := List.find?_eq_none.mpr fun x mx => by
      rw [List.mem_singleton.mp mx, hl, decide_eq_false fun z => e (Option.some.inj z).symm]
      decide
    rw [h1, Option.or_none]
abbrev N_passed_on : List Str := ["lists", "asks", "holds", "low", "step", "a", "start", "cycle", "new_asks", "new_holds"]
def t_passed_on (K : PySem.W.Frag) (E : XK) : TS := (tSeq (tLock (tAsg (tDc (iKeys (tVar 0)) (gName 5) tYes (tVar 5) (tCl (sp_lower K) W0 (tCons (tVar 0) (tCons (tVar 1) (tCons (tVar 2) (tCons (tVar 5) tNil))))) [5]) (gName 3)))
  (tSeq (tAsg tDNewK (gName 4))
  (tSeq (tLock (tFor (iKeys (tVar 0)) (gName 5) (tSeq (sDPut (tVar 4) (tVar 5) (tC .non))
  (tIfS (tB (tNotN (tDGet (tVar 3) (tVar 5)))) (sDPut (tVar 4) (tVar 5) (tDGet (tVar 2) (tDGet (tVar 3) (tVar 5)))) tNext))))
  (tSeq (tLock (tFor (iKeys (tVar 0)) (gName 6) (tSeq (tAsg (tCl (sp_cycle_from K) (WE0 E) (tCons (tVar 6) (tCons (tVar 4) tNil))) (gName 7))
  (tSeq (tIfS (tB (tIsN (tVar 7))) tCont tNext)
  (tSeq (tAsg (tCB rDictOf (tCons (tVar 1) tNil)) (gName 8))
  (tSeq (tAsg (tCB rDictOf (tCons (tVar 2) tNil)) (gName 9))
  (tSeq (tFor (iList K (tVar 7)) (gName 5) (tSeq (sDPut (tVar 8) (tVar 5) (tDGet (tVar 3) (tVar 5)))
  (sDPut (tVar 9) (tDGet (tVar 3) (tVar 5)) (tVar 5))))
  (tIfS (tB (tCl (sp_in_order K) (WE0 E) (tCons (tVar 0) (tCons (tVar 8) (tCons (tVar 9) tNil))))) (tRet (tTup (tCons (tVar 8) (tCons (tVar 9) tNil)))) tNext))))))))
  (tRet (tC .non))))))
def sp_passed_on (K : PySem.W.Frag) : Sp := fun vs H Q E => ∃ (L pa ph : Addr) (B : Hp) (xs : List Str) (f : Str → List Str) (kvs : List (Key × V)) (A Hd : OF), vs = [.ref L, .ref pa, .ref ph] ∧ Same B H ∧ B L = none ∧ H L = some (.dK kvs) ∧ WAt B xs kvs f ∧ Mut xs f ∧ B pa = some (.dK (zipV xs (oV A))) ∧ B ph = some (.dK (zipV xs (oV Hd))) ∧ SSt xs f A Hd ∧
  (passF f xs A Hd = none → ∀ B' H', HS [L] B H B' H' [(L, .dK kvs)] → Q .non H') ∧
  (∀ r, passF f xs A Hd = some r → ∀ B' H' T pa' ph', HS [L] B H B' H' [(L, .dK kvs)] → B' T = some (.tup [.ref pa', .ref ph']) → B' pa' = some (.dK (zipV xs (oV r.1))) → B' ph' = some (.dK (zipV xs (oV r.2))) → Q (.ref T) H')
theorem pure_passed_on {K : PySem.W.Frag} {vs : List V} {H : Hp} {Q : VK} {E : XK} (h : sp_passed_on K vs H Q E) : t_passed_on K E { nx := fun _ H' => Q .non H', rt := Q } (start N_passed_on vs) H := by
  obtain ⟨L, pa, ph, B, xs, f, kvs, A, Hd, rfl, sB, bL, hL, hw, mu, ea, eh, st, k1, k2⟩ := h
  have hs := HS.startS sB bL hL
  have hfew := mu.few
  have sm := st.sm
  show t_passed_on K E _ [some (.ref L), some (.ref pa), some (.ref ph), none, none, none, none, none, none, none] H
  unfold t_passed_on
  refine x_seq ?_
  refine x_dcK (g := oV (lowO f A Hd)) hs hw.keys mu.nd (by omega) (fun H' Qv q => ⟨_, rfl, q⟩) (fun _ => rfl) (fun _ => rfl) (fun x mx o B1 H1 D acc Qv sb h1 q => ?_) (fun B1 H1 pl sb1 hs1 => ?_)
  · refine x_cl (x_cons (x_var rfl (x_cons (x_var rfl (x_cons (x_var rfl (x_cons (x_var rfl (x_nil ?_)))))))))
    exact ⟨L, pa, ph, x, B1, xs, f, kvs, o, A, Hd, rfl, h1.bh, (h1.mu _ (List.mem_cons_of_mem _ List.mem_cons_self)).1, h1.get (List.mem_cons_of_mem _ List.mem_cons_self), hw.mono sb, mu, sb _ _ ea, sb _ _ eh, sm, mx, fun B2 H2 v c e => by rw [e]; exact q B2 H2 c.bb (h1.call c)⟩
  obtain ⟨B2, hs2, sb2, epl⟩ := hs1.still1
  dsimp only [List.set]
  refine x_seq (x_asg (x_dnew ?_))
  refine new_M hs2 (fun ps H3 hs3 _ => ?_)
  refine x_gname ?_
  dsimp only [List.set]
  have s2 := sb1.trans sb2
  have vl : ∀ {a : Str}, a ∈ xs → valV (zipV xs (oV (lowO f A Hd))) (.inr a) = some (optV (lowO f A Hd a)) := fun m => zipV_val m
  refine x_seq ?_
  refine l_keys (α := Nat × Option V) (σf := fun z => [some (.ref L), some (.ref pa), some (.ref ph), some (.ref pl), some (.ref ps), z.2, none, none, none, none]) (Mf := fun z => [(ps, .dK (zipV (xs.take z.1) (oV (stepO f A Hd))))]) (P := fun i z _ => z.1 = i) (s0 := (0, none)) hw.keys hs3.swap rfl (fun H' Qv q => ⟨_, rfl, q⟩) (fun o i a z B4 H4 hx sb4 hs4 pp => ?_) (fun z B4 H4 sb4 hs4 pp => ?_)
  · obtain ⟨i', z5⟩ := z
    dsimp only at pp hs4 ⊢
    subst pp
    have ma := List.mem_of_getElem? hx
    have hil := (List.getElem?_eq_some_iff.mp hx).1
    have nb := notin_take mu.nd hx
    have s4 := s2.trans sb4
    refine x_gname ?_
    dsimp only [List.set]
    refine x_seq (x_dputU (x_c (x_var rfl (x_var rfl ?_))))
    refine x_dput hs4.swap (by rw [zipV_len, List.length_take]; omega) (fun H5 hs5 => ?_)
    rw [zipV_new nb, ← take_snoc hx] at hs5
    dsimp only
    have mt : a ∈ xs.take (i' + 1) := by rw [take_snoc hx]; simp
    refine x_if (x_tB (x_notN (x_dget (x_var rfl (x_var rfl ?_)))))
    refine x_dgS (hs5.up (sb4 _ _ epl)) (vl ma) (x_exb ?_)
    rw [optV_non]
    cases hl : lowO f A Hd a with
    | none =>
      refine x_iteF rfl (x_next ?_)
      refine ⟨(i' + 1, some _), B4, rfl, sb4, ?_, rfl⟩
      dsimp only
      have e : zipV (xs.take (i' + 1)) (updW (oV (stepO f A Hd)) a .non) = zipV (xs.take (i' + 1)) (oV (stepO f A Hd)) := zipV_congr fun b _ => by
        by_cases eb : b = a
        · rw [eb, updW_eq]
          unfold oV stepO
          rw [hl]
          rfl
        · rw [updW_ne eb]
      rw [e] at hs5
      exact hs5.swap
    | some c =>
      obtain ⟨b0, hb0⟩ := low_ask hl
      have mc := (mu.fi a ma c (low_spec (mu.fn a ma) hb0 hl).1).1
      have vh : valV (zipV xs (oV Hd)) (.inr c) = some (optV (Hd c)) := zipV_val mc
      have vla := vl ma
      rw [hl] at vla
      refine x_iteT rfl ?_
      refine x_dputU (x_dget (x_var rfl (x_dget (x_var rfl (x_var rfl ?_)))))
      refine x_dgS (hs5.up (sb4 _ _ epl)) vla ?_
      refine x_dgS (hs5.up (s4 _ _ eh)) vh (x_var rfl (x_var rfl ?_))
      refine x_dput hs5 (by rw [zipV_len, List.length_take]; omega) (fun H6 hs6 => ?_)
      rw [zipV_put mt] at hs6
      refine ⟨(i' + 1, some _), B4, rfl, sb4, ?_, rfl⟩
      dsimp only
      have e : zipV (xs.take (i' + 1)) (updW (updW (oV (stepO f A Hd)) a .non) a (optV (Hd c))) = zipV (xs.take (i' + 1)) (oV (stepO f A Hd)) := zipV_congr fun b _ => by
        by_cases eb : b = a
        · rw [eb, updW_eq]
          unfold oV stepO
          rw [hl]
          rfl
        · rw [updW_ne eb, updW_ne eb]
      rw [e] at hs6
      exact hs6.swap
  obtain ⟨i', z5⟩ := z
  dsimp only at pp hs4 ⊢
  subst pp
  rw [List.take_length] at hs4
  obtain ⟨B5, hs5, sb5, eps⟩ := hs4.swap.still1
  have s5 := (s2.trans sb4).trans sb5
  have epl5 := sb5 _ _ (sb4 _ _ epl)
  refine x_seq ?_
  refine l_keys (α := Option V × Option V × Option V × Option V × Option V) (σf := fun z => [some (.ref L), some (.ref pa), some (.ref ph), some (.ref pl), some (.ref ps), z.1, z.2.1, z.2.2.1, z.2.2.2.1, z.2.2.2.2]) (Mf := fun _ => []) (P := fun i _ _ => ∀ j, j < i → ∀ s, xs[j]? = some s → passC f xs A Hd s = none) (s0 := (z5, none, none, none, none)) hw.keys hs5 (fun j hj => absurd hj (Nat.not_lt_zero _)) (fun H' Qv q => ⟨_, rfl, q⟩) (fun o i s z B6 H6 hx sb6 hs6 pp => ?_) (fun z B6 H6 sb6 hs6 pp => ?_)
  · obtain ⟨z5, z6, z7, z8, z9⟩ := z
    dsimp only at hs6 ⊢
    have ms := List.mem_of_getElem? hx
    have s6 := s5.trans sb6
    have eps6 := sb6 _ _ eps
    have epl6 := sb6 _ _ epl5
    have next : passC f xs A Hd s = none → ∀ j, j < i + 1 → ∀ s, xs[j]? = some s → passC f xs A Hd s = none := fun hp j hj t ht => by
      by_cases e : j = i
      · subst e
        rw [hx] at ht
        cases ht
        exact hp
      · exact pp j (by omega) t ht
    have hx0 := step_orb mu sm ms
    refine x_gname ?_
    dsimp only [List.set]
    refine x_seq (x_asg (x_cl (x_cons (x_var rfl (x_cons (x_var rfl (x_nil ?_)))))))
    refine ⟨ps, s, B6, xs, stepO f A Hd, rfl, hs6.bh, eps6, hfew, hx0, fun hc B7 H7 v c7 ev => ?_, fun cyc hc B7 H7 lc c7 => ?_⟩
    · rw [ev]
      have hs7 := hs6.call c7
      refine x_gname ?_
      dsimp only [List.set]
      refine x_seq (x_if (x_tB (x_isN (x_var rfl (x_exb ?_)))))
      refine x_iteT rfl (x_cont ?_)
      refine ⟨(z5, some _, some _, z8, z9), B7, rfl, sb6.trans c7.bb, hs7, next ?_⟩
      unfold passC
      rw [hc]
    · obtain ⟨cp, cx, mst, _⟩ := cyO_cyc hx0 hfew hc
      obtain ⟨B8, hs8, sb8, elc⟩ := (hs6.callN c7).still1
      have s8 : Same B6 B8 := c7.bb.trans sb8
      refine x_gname ?_
      dsimp only [List.set]
      refine x_seq (x_if (x_tB (x_isN (x_var rfl (x_exb ?_)))))
      refine x_iteF rfl (x_next ?_)
      refine x_seq (x_asg (x_cb (x_cons (x_var rfl (x_nil ?_)))))
      refine x_dictOf (hs8.up (s8 _ _ (s6 _ _ ea))) ?_
      refine new_M hs8 (fun na H9 hs9 _ => ?_)
      refine x_gname ?_
      dsimp only [List.set]
      refine x_seq (x_asg (x_cb (x_cons (x_var rfl (x_nil ?_)))))
      refine x_dictOf (hs9.up (s8 _ _ (s6 _ _ eh))) ?_
      refine new_M hs9 (fun nh H10 hs10 _ => ?_)
      refine x_gname ?_
      dsimp only [List.set]
      have hcl : cyc.length ≤ 16 := Nat.le_trans (nodup_len cp.nd cx) hfew
      refine x_seq (x_for (x_iList (x_var rfl ⟨lc, rfl, ⟨_, SqL.of (hs10.up elc)⟩, ?_⟩)))
      refine l_list (α := Nat × Option V) (σf := fun z => [some (.ref L), some (.ref pa), some (.ref ph), some (.ref pl), some (.ref ps), z.2, some (.str s), some (.ref lc), some (.ref na), some (.ref nh)])
        (Mf := fun z => [(nh, .dK (zipV xs (oV (nHo (lowO f A Hd) Hd (cyc.take z.1))))), (na, .dK (zipV xs (oV (nAs (lowO f A Hd) A (cyc.take z.1))))), (L, .frz o (.dK kvs))]) (P := fun i z _ => z.1 = i) (s0 := (0, z5)) hs10 elc rfl (fun n y z B11 H11 hn sb11 hs11 pp2 => ?_) (fun z B11 H11 sb11 hs11 pp2 => ?_)
      · obtain ⟨n', w5⟩ := z
        dsimp only at pp2 hs11 ⊢
        subst pp2
        obtain ⟨a, ha, rfl⟩ := strs_get hn
        have mac := List.mem_of_getElem? ha
        have ma := cx a mac
        obtain ⟨c, e, hl, mc, _⟩ := cyc_low mu sm cp cx mac
        have vla := vl ma
        rw [hl] at vla
        have epl11 := sb11 _ _ (s8 _ _ epl6)
        refine x_gname ?_
        dsimp only [List.set]
        refine x_seq (x_dputU (x_dget (x_var rfl (x_var rfl ?_))))
        refine x_dgS (hs11.up epl11) vla (x_var rfl (x_var rfl ?_))
        refine x_dput hs11.swap (by rw [zipV_len]; omega) (fun H12 hs12 => ?_)
        rw [zipV_put ma, oV_upd, ← hl, nAs_snoc, ← take_snoc ha] at hs12
        dsimp only
        refine x_dputU (x_var rfl (x_var rfl (x_dget (x_var rfl (x_var rfl ?_)))))
        refine x_dgS (hs12.up epl11) vla ?_
        refine x_dput hs12.swap (by rw [zipV_len]; omega) (fun H13 hs13 => ?_)
        rw [zipV_put mc, show V.str a = optV (some a) from rfl, oV_upd, nHo_snoc hl (fun b mb z => ?_), ← take_snoc ha] at hs13
        · exact ⟨(n' + 1, some _), B11, rfl, sb11, hs13, rfl⟩
        · have e1 := low_inj cp (List.mem_of_mem_take mb) mac z hl
          subst e1
          exact notin_take cp.nd ha mb
      · obtain ⟨n', w5⟩ := z
        dsimp only at pp2 hs11 ⊢
        subst pp2
        rw [List.length_map, List.take_length] at hs11
        have hs12 : HS [L] B H B11 H11 [(nh, .dK (zipV xs (oV (nHo (lowO f A Hd) Hd cyc)))), (L, .frz o (.dK kvs)), (na, .dK (zipV xs (oV (nAs (lowO f A Hd) A cyc))))] := hs11.perm ((List.Perm.swap _ _ _).cons _)
        obtain ⟨B12, hs13, sb12, enh⟩ := hs12.still1
        obtain ⟨B13, hs14, sb13, ena⟩ := hs13.swap.still1
        have s13 : Same B8 B13 := (sb11.trans sb12).trans sb13
        have s613 := (s6.trans s8).trans s13
        have smp := sm.pass mu cp cx
        have dmp := st.dm.pass mu sm cp cx
        refine x_if (x_tB (x_cl (x_cons (x_var rfl (x_cons (x_var rfl (x_cons (x_var rfl (x_nil ?_)))))))))
        refine ⟨L, na, nh, B13, xs, f, kvs, o, _, _, rfl, hs14.bh, (hs14.mu _ List.mem_cons_self).1, hs14.get List.mem_cons_self, hw.mono s613, mu, ena, sb13 _ _ enh, smp, dmp, fun B14 H14 v c14 ev => ?_⟩
        rw [ev]
        have hs15 := hs14.call c14
        refine x_exb (x_ite (fun ht => ?_) (fun ht => ?_))
        · refine x_ret (x_tup (x_cons (x_var rfl (x_cons (x_var rfl (x_nil ?_))))))
          refine x_newT (by simp) ?_
          refine new_F hs15 (fun T B16 H16 hs16 sb16 eT _ => ?_)
          refine ⟨hs16.get List.mem_cons_self, ?_⟩
          have hp : passC f xs A Hd s = some (nAs (lowO f A Hd) A cyc, nHo (lowO f A Hd) Hd cyc) := by
            unfold passC
            rw [hc]
            dsimp only
            rw [if_pos ht]
          exact k2 _ (findSome_at hx hp pp) B16 _ T na nh hs16.set0 eT ((c14.bb.trans sb16) _ _ ena) ((c14.bb.trans sb16) _ _ (sb13 _ _ enh))
        · refine x_next ?_
          refine ⟨(w5, some _, some _, some _, some _), B14, rfl, ((sb6.trans s8).trans s13).trans c14.bb, hs15, next ?_⟩
          unfold passC
          rw [hc]
          dsimp only
          rw [if_neg (by rw [ht]; decide)]
  · dsimp only at hs6 ⊢
    refine x_ret (x_c ?_)
    refine k1 (List.findSome?_eq_none_iff.mpr fun s ms => ?_) B6 H6 hs6
    obtain ⟨j, hj⟩ := List.mem_iff_getElem?.mp ms
    exact pp j (List.getElem?_eq_some_iff.mp hj).1 s hj
theorem use_passed_on {K : PySem.W.Frag} {B0 H0 B H : Hp} {M : List (Addr × HO)} {Q : VK} {E : XK} {L pa ph : Addr} {xs : List Str} {f : Str → List Str} {kvs : List (Key × V)} {A Hd : OF} (hs : HS [] B0 H0 B H ((L, .dK kvs) :: M)) (hw : WAt B xs kvs f) (mu : Mut xs f) (ea : B pa = some (.dK (zipV xs (oV A)))) (eh : B ph = some (.dK (zipV xs (oV Hd)))) (st : SSt xs f A Hd)
    (k1 : passF f xs A Hd = none → ∀ B' H', Same B B' → HS [] B0 H0 B' H' ((L, .dK kvs) :: M) → Q .non H')
    (k2 : ∀ r, passF f xs A Hd = some r → ∀ B' H' T pa' ph', Same B B' → HS [] B0 H0 B' H' ((L, .dK kvs) :: M) → B' T = some (.tup [.ref pa', .ref ph']) → B' pa' = some (.dK (zipV xs (oV r.1))) → B' ph' = some (.dK (zipV xs (oV r.2))) → Q (.ref T) H') : sp_passed_on K [.ref L, .ref pa, .ref ph] H Q E :=
  ⟨L, pa, ph, B, xs, f, kvs, A, Hd, rfl, hs.bh, (hs.mu _ List.mem_cons_self).1, hs.get List.mem_cons_self, hw, mu, ea, eh, st, fun h B' H' c => k1 h B' H' c.bb (hs.call1 c), fun r h B' H' T pa' ph' c => k2 r h B' H' T pa' ph' c.bb (hs.call1 c)⟩
end Q

set_option Elab.async false
set_option linter.all false
set_option maxRecDepth 100000
set_option maxHeartbeats 4000000
namespace Q
open PySem PySem.Spec PyProof.Rows L2
/-! ### rings, plain halves, the half that is found -/
def sV (x : Str → Str) : Str → V := fun a => .str (x a)
theorem sV_upd {x : Str → Str} {a b : Str} : updW (sV x) a (.str b) = sV (updW x a b) := by
  funext c
  unfold sV
  by_cases e : c = a
  · rw [e, updW_eq, updW_eq]
  · rw [updW_ne e, updW_ne e]
theorem zipV_isSome {ks : List Str} {g : Str → V} {a : Str} : (valV (zipV ks g) (.inr a)).isSome = decide (a ∈ ks) := by
  by_cases m : a ∈ ks
  · rw [zipV_val m, decide_eq_true m]; rfl
  · rw [zipV_none m, decide_eq_false m]; rfl
def bT : Str → V := fun _ => .bl true
theorem bT_upd {a : Str} : updW bT a (.bl true) = bT := by
  funext b
  unfold bT
  by_cases e : b = a
  · rw [e, updW_eq]
  · rw [updW_ne e]
abbrev N_rings_of : List Str := ["x", "rows", "seen", "start", "ring", "a"]
def t_rings_of (K : PySem.W.Frag) (E : XK) : TS := (tSeq (tAsg (tLst tNil) (gName 1))
  (tSeq (tAsg tDNewK (gName 2))
  (tSeq (tFor (iList K (tCB rSortD (tCons (tVar 0) tNil))) (gName 3) (tSeq (tIfS (tB (tDIn (tVar 3) (tVar 2))) tCont tNext)
  (tSeq (tAsg (tLst (tCons (tVar 3) tNil)) (gName 4))
  (tSeq (sDPut (tVar 2) (tVar 3) (tC (.bl true)))
  (tSeq (tAsg (tDGet (tVar 0) (tVar 3)) (gName 5))
  (tSeq (tWhile (tTest (tOp rNe (tVar 5) (tVar 3))) (tSeq (tDrop (tBM K "list" rAppend (tVar 4) (tCons (tVar 5) tNil)))
  (tSeq (sDPut (tVar 2) (tVar 5) (tC (.bl true)))
  (tAsg (tDGet (tVar 0) (tVar 5)) (gName 5)))))
  (tDrop (tBM K "list" rAppend (tVar 1) (tCons (tCB (rTupOf K) (tCons (tVar 4) tNil)) tNil)))))))))
  (tRet (tVar 1)))))
def sp_rings_of (K : PySem.W.Frag) : Sp := fun vs H Q E => ∃ (px : Addr) (B : Hp) (xs ks : List Str) (x y : Str → Str), vs = [.ref px] ∧ Same B H ∧ B px = some (.dK (zipV ks (sV x))) ∧ PermF xs x y ∧ ks.Perm xs ∧ xs.Nodup ∧ xs.length ≤ 16 ∧
  ∀ B' H' l rows, HS [] B H B' H' [(l, .lst rows)] → TRs B' rows (ringsA x xs) → Q (.ref l) H'
theorem pure_rings_of {K : PySem.W.Frag} {vs : List V} {H : Hp} {Q : VK} {E : XK} (h : sp_rings_of K vs H Q E) : t_rings_of K E { nx := fun _ H' => Q .non H', rt := Q } (start N_rings_of vs) H := by
  obtain ⟨px, B, xs, ks, x, y, rfl, sB, ex, pm, pe, ndx, hl, k⟩ := h
  have hs := HS.start sB
  have hkl := pe.length_eq
  have vx : ∀ {a : Str}, a ∈ xs → valV (zipV ks (sV x)) (.inr a) = some (.str (x a)) := fun m => zipV_val (pe.mem_iff.mpr m)
  show t_rings_of K E _ [some (.ref px), none, none, none, none, none] H
  unfold t_rings_of
  refine x_seq (x_asg (x_lst (x_nil ?_)))
  refine x_newL (by simp) ?_
  refine new_M hs (fun pr H1 hs1 _ => ?_)
  refine x_gname (x_seq (x_asg (x_dnew ?_)))
  refine new_M hs1 (fun pn H2 hs2 _ => ?_)
  refine x_gname ?_
  dsimp only [List.set]
  refine x_seq (x_for (x_iList (x_cb (x_cons (x_var rfl (x_nil ?_))))))
  refine x_srtD (hs2.up ex) zipV_keys (by omega) ?_
  rw [sortS_congr' pe]
  refine new_F hs2 (fun so B3 H3 hs3 sb3 eso _ => ?_)
  refine ⟨so, rfl, ⟨_, SqL.of (hs3.up eso)⟩, ?_⟩
  refine l_list (α := List V × List Str × Option V × Option V × Option V) (σf := fun z => [some (.ref px), some (.ref pr), some (.ref pn), z.2.2.1, z.2.2.2.1, z.2.2.2.2]) (Mf := fun z => [(pn, .dK (zipV z.2.1 bT)), (pr, .lst z.1)])
    (P := fun i z B' => ∃ rs, ringsA x xs = rs ++ ringsF x ((sortS xs).drop i) z.2.1 ∧ TRs B' z.1 rs ∧ Clo x xs z.2.1 ∧ z.2.1.Nodup ∧ (∀ a ∈ z.2.1, a ∈ xs) ∧ rs.length ≤ i) (s0 := ([], [], none, none, none)) hs3 eso ⟨[], rfl, .nil, Clo.nil, List.nodup_nil, fun _ z => (nomatch z), Nat.le_refl _⟩ (fun i v z B4 H4 hi sb4 hs4 pp => ?_) (fun z B4 H4 sb4 hs4 pp => ?_)
  · obtain ⟨rows, seen, z3, z4, z5⟩ := z
    obtain ⟨rs, e1, tr, clo, nds, hin, hrl⟩ := pp
    dsimp only at hs4 e1 tr clo nds hin ⊢
    obtain ⟨s, hsx, rfl⟩ := strs_get hi
    have hil := (List.getElem?_eq_some_iff.mp hsx).1
    have ms : s ∈ xs := mem_sortS.mp (List.mem_of_getElem? hsx)
    have edrop : (sortS xs).drop i = s :: (sortS xs).drop (i + 1) := by
      rw [List.drop_eq_getElem_cons hil, (List.getElem?_eq_some_iff.mp hsx).2]
    rw [edrop] at e1
    have hrl2 := tr.len
    rw [sortS_len] at hil
    have sb := sb3.trans sb4
    refine x_gname ?_
    dsimp only [List.set]
    refine x_seq (x_if (x_tB (x_din (x_var rfl (x_var rfl ?_)))))
    refine x_dinO (hs4.get List.mem_cons_self) (x_exb ?_)
    rw [zipV_isSome]
    by_cases hm : s ∈ seen
    · rw [decide_eq_true hm]
      refine x_iteT rfl (x_cont ?_)
      refine ⟨(rows, seen, some _, z4, z5), B4, rfl, sb4, hs4, rs, ?_, tr, clo, nds, hin, by omega⟩
      rw [e1]
      dsimp only
      congr 1
      conv => lhs; unfold ringsF
      rw [if_pos hm]
    · rw [decide_eq_false hm]
      refine x_iteF rfl (x_next ?_)
      have hring : ∀ a ∈ ringL x s, a ∉ seen := fun a ma hs' => hm (clo a (ring_in pm hl ms a ma) hs' s ((ring_same pm hl ms ma s).mpr (ring_cyc pm hl ms).2))
      refine x_seq (x_asg (x_lst (x_cons (x_var rfl (x_nil ?_)))))
      refine x_newL (by simp) ?_
      refine new_M hs4 (fun pl H5 hs5 _ => ?_)
      refine x_gname ?_
      dsimp only [List.set]
      have hsl : seen.length ≤ 16 := Nat.le_trans (nodup_len nds hin) hl
      refine x_seq (x_dputU (x_c (x_var rfl (x_var rfl ?_))))
      refine x_dput hs5.swap (by rw [zipV_len]; omega) (fun H6 hs6 => ?_)
      rw [zipV_new hm, bT_upd] at hs6
      dsimp only
      refine x_seq (x_asg (x_dget (x_var rfl (x_var rfl ?_))))
      refine x_dgS (hs6.up (sb _ _ ex)) (vx ms) (x_gname ?_)
      dsimp only [List.set]
      refine x_seq ?_
      refine l_while (α := List Str × Str) (σf := fun z => [some (.ref px), some (.ref pr), some (.ref pn), some (.str s), some (.ref pl), some (.str z.2)]) (Mf := fun z => [(pn, .dK (zipV (seen ++ z.1) bT)), (pl, .lst (z.1.map V.str)), (pr, .lst rows)])
        (P := fun m z _ => OrbI (sO x) s z.1 (some z.2) ∧ z.2 ∈ xs ∧ m + z.1.length = 18) (s0 := ([s], x s)) (m0 := 17) hs6 ⟨OrbI.init, pm.inx s ms, rfl⟩ (fun m z B7 H7 sb7 hs7 pp => ?_)
      obtain ⟨acc, a⟩ := z
      obtain ⟨orb, max, hml⟩ := pp
      dsimp only at hs7 orb max hml ⊢
      have hain := orb.inxs pm ms
      have hal : acc.length ≤ 16 := Nat.le_trans (nodup_len orb.nd hain) hl
      refine x_test (x_op (x_var rfl (x_var rfl ?_)))
      refine x_ne rfl (x_exb ?_)
      by_cases has : a = s
      · subst has
        refine x_iteF (by simp) ?_
        have ering : acc = ringL x a := orb.uniq (ring_orb pm hl ms)
        refine x_drop (x_bm (x_var rfl ?_))
        refine x_tyL (SqL.of (hs7.get (List.mem_cons_of_mem _ (List.mem_cons_of_mem _ List.mem_cons_self)))) (x_cons (x_cb (x_cons (x_var rfl (x_nil ?_)))))
        refine x_tupL (SqL.of (hs7.get (List.mem_cons_of_mem _ List.mem_cons_self))) ?_
        refine new_F hs7 (fun tp B8 H8 hs8 sb8 etp _ => ?_)
        refine x_nil ?_
        refine x_append (hs8.perm pull3) (by omega) (fun H9 hs9 => ?_)
        have hs10 : HS [] B H B8 H9 [(pn, .dK (zipV (seen ++ acc) bT)), (pr, .lst (rows ++ [.ref tp]))] := (hs9.perm pull3).drop.swap
        refine ⟨(rows ++ [.ref tp], seen ++ acc, some _, some _, some _), B8, rfl, (sb4.trans sb7).trans sb8, hs10, rs ++ [acc], ?_, (tr.mono (sb7.trans sb8)).snoc etp, ?_, ?_, ?_, by rw [List.length_append, List.length_singleton]; omega⟩
        · rw [e1, List.append_assoc]
          congr 1
          conv => lhs; unfold ringsF
          rw [if_neg hm, ering]
          rfl
        · rw [ering]
          exact clo.add pm hl ms
        · rw [List.nodup_append]
          exact ⟨nds, orb.nd, fun u mu v mv e => hring v (by rw [← ering]; exact mv) (by rw [← e]; exact mu)⟩
        · intro u mu
          rcases List.mem_append.mp mu with mu | mu
          · exact hin u mu
          · exact hain u mu
      · have hna : a ∉ acc := fun m => has (orb.again pm ms m)
        have hmem : a ∈ ringL x s := by
          have o2 := orb.snoc hna
          have : a ∈ acc ++ [a] := by simp
          obtain ⟨n, hn⟩ := List.mem_iff_getElem?.mp this
          have hit : itO (sO x) s n = some a := by rw [← o2.at_ n (List.getElem?_eq_some_iff.mp hn).1]; exact hn
          have key : ∀ n, ∀ b, itO (sO x) s n = some b → b ∈ ringL x s := fun n => by
            induction n with
            | zero => intro b e; cases e; exact (ring_cyc pm hl ms).2
            | succ n ih =>
              intro b e
              obtain ⟨c, mc, ec⟩ := pm.orb ms n
              have e : (itO (sO x) s n).bind (sO x) = some b := e
              rw [ec] at e
              have e : some (x c) = some b := e
              rw [← Option.some.inj e]
              exact ring_nx pm hl ms (ih c ec)
          exact key n a hit
        have hnew : a ∉ seen ++ acc := fun m => by
          rcases List.mem_append.mp m with m | m
          · exact hring a hmem m
          · exact hna m
        obtain ⟨m', rfl⟩ : ∃ m', m = m' + 1 := ⟨m - 1, by omega⟩
        refine x_iteT (by simp [has]) ⟨fun σ' H' => ∃ m'', m'' < m' + 1 ∧ WI [] B H B4 _ _ _ m'' σ' H', fun _ _ h => h, ?_⟩
        refine x_seq (x_drop (x_bm (x_var rfl ?_)))
        refine x_tyL (SqL.of (hs7.get (List.mem_cons_of_mem _ List.mem_cons_self))) (x_cons (x_var rfl (x_nil ?_)))
        refine x_append hs7.swap (by rw [List.length_map]; omega) (fun H8 hs8 => ?_)
        dsimp only
        refine x_seq (x_dputU (x_c (x_var rfl (x_var rfl ?_))))
        refine x_dput hs8.swap (by rw [zipV_len, List.length_append]; omega) (fun H9 hs9 => ?_)
        rw [zipV_new hnew, bT_upd, List.append_assoc] at hs9
        dsimp only
        refine x_asg (x_dget (x_var rfl (x_var rfl ?_)))
        refine x_dgS (hs9.up ((sb.trans sb7) _ _ ex)) (vx max) (x_gname ?_)
        refine ⟨m', Nat.lt_succ_self _, (acc ++ [a], x a), B7, rfl, sb7, ?_, orb.snoc hna, pm.inx a max, by rw [List.length_append, List.length_singleton]; omega⟩
        dsimp only
        rw [List.map_append]
        exact hs9
  · obtain ⟨rows, seen, z3, z4, z5⟩ := z
    obtain ⟨rs, e1, tr, clo, nds, hin, hrl⟩ := pp
    dsimp only at hs4 e1 tr ⊢
    rw [List.length_map, List.drop_length] at e1
    have e1 : ringsA x xs = rs := by rw [e1]; unfold ringsF; exact List.append_nil _
    refine x_ret (x_var rfl ?_)
    rw [e1] at k
    exact k B4 H4 pr rows hs4.drop tr
theorem use_rings_of {K : PySem.W.Frag} {S : List Addr} {B0 H0 B H : Hp} {M : List (Addr × HO)} {Q : VK} {E : XK} {px : Addr} {xs ks : List Str} {x y : Str → Str} (hs : HS S B0 H0 B H M) (ex : B px = some (.dK (zipV ks (sV x)))) (pm : PermF xs x y) (pe : ks.Perm xs) (nd : xs.Nodup) (hl : xs.length ≤ 16)
    (k : ∀ B' H' l rows, Same B B' → HS S B0 H0 B' H' ((l, .lst rows) :: M) → TRs B' rows (ringsA x xs) → Q (.ref l) H') : sp_rings_of K [.ref px] H Q E :=
  ⟨px, B, xs, ks, x, y, rfl, hs.bh, ex, pm, pe, nd, hl, fun B' H' l rows c => k B' H' l rows c.bb (hs.callN c)⟩
end Q

set_option Elab.async false
set_option linter.all false
set_option maxRecDepth 100000
set_option maxHeartbeats 4000000
namespace Q
open PySem PySem.Spec PyProof.Rows L2
/-! ### even rings are split -/
theorem l_rangeC {α : Type} {S : List Addr} {B0 H0 B : Hp} {σf : α → L2.St} {Mf : α → List (Addr × HO)} {P : Nat → α → Hp → Prop} {g : TG} {tb : TS} {De : Ends} {H : Hp} {s0 : α} {lo c : Int} {n : Nat} (hs : HS S B0 H0 B H (Mf s0)) (h0 : P 0 s0 B)
    (hb : ∀ i s B1 H1, i < n → Same B B1 → HS S B0 H0 B1 H1 (Mf s) → P i s B1 → g (.int (lo + (i : Nat) * c)) (σf s) H1 fun σ2 H2 => tb { De with nx := LI S B0 H0 B σf Mf P (i + 1), ct := LI S B0 H0 B σf Mf P (i + 1), bk := De.nx } σ2 H2)
    (hd : ∀ s B1 H1, Same B B1 → HS S B0 H0 B1 H1 (Mf s) → P n s B1 → De.nx (σf s) H1) : LoopW (Itc lo c n) g tb De (σf s0) H :=
  for_rangeC (LI S B0 H0 B σf Mf P) ⟨s0, B, rfl, Same.refl _, hs, h0⟩ (fun i σ H' hi ⟨s, B1, e, sb, hs', p⟩ => by rw [e]; exact hb i s B1 H' hi sb hs' p) fun σ H' ⟨s, B1, e, sb, hs', p⟩ => by rw [e]; exact hd s B1 H' sb hs' p
theorem rgc2 {n : Nat} (h : n ≤ 8) : RgC 0 ((2 * n : Nat) : Int) 2 n := by
  have key : ∀ m : Fin 9, Builtin.Range.small 0 ((2 * m.val : Nat) : Int) 2 = true ∧ Builtin.Range.rangeSize 0 ((2 * m.val : Nat) : Int) 2 = (m.val : Int) := by decide +kernel
  obtain ⟨k1, k2⟩ := key ⟨n, by omega⟩
  exact ⟨by decide, by decide, k1, k2⟩
theorem split_even {r : List Str} (nd : r.Nodup) {n : Nat} {a b : Str} (ha : r[2 * n]? = some a) (hb : r[2 * n + 1]? = some b) : splitR r a = b ∧ splitR r b = a := by
  obtain ⟨l1, e1⟩ := List.getElem?_eq_some_iff.mp ha
  obtain ⟨l2, e2⟩ := List.getElem?_eq_some_iff.mp hb
  have i1 : r.idxOf a = 2 * n := by rw [← e1, nd.idxOf_getElem]
  have i2 : r.idxOf b = 2 * n + 1 := by rw [← e2, nd.idxOf_getElem]
  unfold splitR
  rw [i1, i2, xr1, if_pos (by omega), xr1, if_neg (by omega), show 2 * n + 1 - 1 = 2 * n by omega, List.getD_eq_getElem?_getD, List.getD_eq_getElem?_getD, ha, hb]
  exact ⟨rfl, rfl⟩
def plW (y : Str → Str) (r : List Str) (n : Nat) : Str → Str := fun a => if a ∈ r.take (2 * n) then splitR r a else y a
theorem plW_step {y : Str → Str} {r : List Str} (nd : r.Nodup) {n : Nat} {a b : Str} (ha : r[2 * n]? = some a) (hb : r[2 * n + 1]? = some b) : updW (updW (plW y r n) a b) b a = plW y r (n + 1) := by
  obtain ⟨s1, s2⟩ := split_even nd ha hb
  have et : r.take (2 * (n + 1)) = r.take (2 * n) ++ [a, b] := by
    rw [show 2 * (n + 1) = (2 * n + 1) + 1 by omega, take_snoc hb, take_snoc ha, List.append_assoc]
    rfl
  funext c
  unfold plW
  rw [et]
  by_cases e2 : c = b
  · subst e2
    rw [updW_eq, if_pos (by simp), s2]
  · rw [updW_ne e2]
    by_cases e1 : c = a
    · subst e1
      rw [updW_eq, if_pos (by simp), s1]
    · rw [updW_ne e1]
      by_cases m : c ∈ r.take (2 * n)
      · rw [if_pos m, if_pos (by simp [m])]
      · rw [if_neg m, if_neg (by simp [m, e1, e2])]
abbrev N_plain : List Str := ["x", "y", "ring", "at"]
def t_plain (K : PySem.W.Frag) (E : XK) : TS := (tSeq (tAsg (tCB rDictOf (tCons (tVar 0) tNil)) (gName 1))
  (tSeq (tFor (iList K (tCl (sp_rings_of K) (WE0 E) (tCons (tVar 0) tNil))) (gName 2) (tIfS (tAnd (tTest (tOp rGeI (tCB (rLenA K) (tCons (tVar 2) tNil)) (tC (.int 4)))) (tTest (tOp rEq (tOp rModI (tCB (rLenA K) (tCons (tVar 2) tNil)) (tC (.int 2))) (tC (.int 0))))) (tFor (iRng3 (tCons (tC (.int 0)) (tCons (tCB (rLenA K) (tCons (tVar 2) tNil)) (tCons (tC (.int 2)) tNil)))) (gName 3) (tSeq (sDPut (tVar 1) (tOp (rIxT K) (tVar 2) (tVar 3)) (tOp (rIxT K) (tVar 2) (tOp rAddI (tVar 3) (tC (.int 1)))))
  (sDPut (tVar 1) (tOp (rIxT K) (tVar 2) (tOp rAddI (tVar 3) (tC (.int 1)))) (tOp (rIxT K) (tVar 2) (tVar 3))))) tNext))
  (tRet (tVar 1))))
def sp_plain (K : PySem.W.Frag) : Sp := fun vs H Q E => ∃ (px : Addr) (B : Hp) (xs ks : List Str) (x y : Str → Str), vs = [.ref px] ∧ Same B H ∧ B px = some (.dK (zipV ks (sV x))) ∧ PermF xs x y ∧ ks.Perm xs ∧ xs.Nodup ∧ xs.length ≤ 16 ∧
  ∀ B' H' r, HS [] B H B' H' [(r, .dK (zipV ks (sV (plF x xs))))] → Q (.ref r) H'
theorem pure_plain {K : PySem.W.Frag} {vs : List V} {H : Hp} {Q : VK} {E : XK} (h : sp_plain K vs H Q E) : t_plain K E { nx := fun _ H' => Q .non H', rt := Q } (start N_plain vs) H := by
  obtain ⟨px, B, xs, ks, x, y, rfl, sB, ex, pm, pe, ndx, hl, k⟩ := h
  have hs := HS.start sB
  have hkl := pe.length_eq
  show t_plain K E _ [some (.ref px), none, none, none] H
  unfold t_plain
  refine x_seq (x_asg (x_cb (x_cons (x_var rfl (x_nil ?_)))))
  refine x_dictOf (hs.up ex) ?_
  refine new_M hs (fun py H1 hs1 _ => ?_)
  refine x_gname ?_
  dsimp only [List.set]
  refine x_seq (x_for (x_iList (x_cl (x_cons (x_var rfl (x_nil ?_))))))
  refine use_rings_of hs1 ex pm pe ndx hl (fun B2 H2 l rows sb2 hs2 tr => ?_)
  obtain ⟨B3, hs3, sb3, el⟩ := hs2.still0
  have tr3 := tr.mono sb3
  refine ⟨l, rfl, ⟨_, SqL.of (hs3.up el)⟩, ?_⟩
  refine l_list (α := (Str → Str) × Option V × Option V) (σf := fun z => [some (.ref px), some (.ref py), z.2.1, z.2.2]) (Mf := fun z => [(py, .dK (zipV ks (sV z.1)))]) (P := fun i z _ => z.1 = ((ringsA x xs).take i).foldl plS x) (s0 := (x, none, none)) hs3 el rfl (fun i v z B4 H4 hi sb4 hs4 pp => ?_) (fun z B4 H4 sb4 hs4 pp => ?_)
  · obtain ⟨w, z2, z3⟩ := z
    dsimp only at pp hs4 ⊢
    obtain ⟨t, r, rfl, hr, et⟩ := (tr3.mono sb4).at hi
    obtain ⟨s, ms, hrs⟩ := ringsA_of pm hl (List.mem_of_getElem? hr)
    have hrl : r.length ≤ 16 := by rw [hrs]; exact ring_len pm hl ms
    have hrin : ∀ a ∈ r, a ∈ ks := fun a ma => pe.mem_iff.mpr (by rw [hrs] at ma; exact ring_in pm hl ms a ma)
    have hrnd : r.Nodup := by rw [hrs]; exact (ring_orb pm hl ms).nd
    have hnext : ((ringsA x xs).take (i + 1)).foldl plS x = plS w r := by
      rw [take_snoc hr, List.foldl_append, ← pp]
      rfl
    have lenT : ∀ {H' : Hp} {Q : VK}, H' t = some (.tup (r.map V.str)) → Q (.int (r.length : Nat)) H' → rLenA K [.ref t] H' Q := fun {H' Q} ht hq => by
      have := x_lenT (K := K) (SqT.of ht) (Q := Q)
      rw [List.length_map] at this
      exact this hq
    refine x_gname ?_
    dsimp only [List.set]
    refine x_if (x_and (x_test (x_op (x_cb (x_cons (x_var rfl (x_nil ?_)))))))
    refine lenT (hs4.up et) (x_c (x_geI (x_exb ?_)))
    have no : ev4 r = false → LI [] B H B3 (fun z : (Str → Str) × Option V × Option V => [some (.ref px), some (.ref py), z.2.1, z.2.2]) (fun z => [(py, .dK (zipV ks (sV z.1)))]) (fun i z _ => z.1 = ((ringsA x xs).take i).foldl plS x) (i + 1) [some (.ref px), some (.ref py), some (.ref t), z3] H4 := fun hf => by
      refine ⟨(w, some (.ref t), z3), B4, rfl, sb4, hs4, ?_⟩
      show w = _
      rw [hnext]
      funext a
      have : plS w r a = w a := if_neg fun z => by rw [hf] at z; cases z.1
      rw [this]
    by_cases h4 : 4 ≤ r.length
    · refine x_iteT (decide_eq_true (by omega)) ?_
      refine x_test (x_op (x_op (x_cb (x_cons (x_var rfl (x_nil ?_))))))
      refine lenT (hs4.up et) (x_c (x_modI (by decide) (x_c ?_)))
      refine x_eq rfl (x_exb ?_)
      by_cases h2 : r.length % 2 = 0
      · refine x_iteT (decide_eq_true (by rw [show ((r.length : Nat) : Int) % 2 = ((r.length % 2 : Nat) : Int) by omega, h2]; rfl)) ?_
        have hev : ev4 r = true := Bool.and_eq_true_iff.mpr ⟨decide_eq_true h4, decide_eq_true h2⟩
        obtain ⟨n, hn⟩ : ∃ n, r.length = 2 * n := ⟨r.length / 2, by omega⟩
        refine x_for ?_
        show iRng3 _ _ _ _
        refine x_cons (x_c (x_cons (x_cb (x_cons (x_var rfl (x_nil ?_))))))
        refine lenT (hs4.up et) (x_cons (x_c (x_nil ?_)))
        refine ⟨0, ((r.length : Nat) : Int), 2, n, rfl, by rw [hn]; exact rgc2 (by omega), ?_⟩
        refine l_rangeC (α := Nat × Option V) (σf := fun z => [some (.ref px), some (.ref py), some (.ref t), z.2]) (Mf := fun z => [(py, .dK (zipV ks (sV (plW w r z.1))))]) (P := fun j z _ => z.1 = j) (s0 := (0, z3)) hs4 rfl (fun j z B5 H5 hj sb5 hs5 pp2 => ?_) (fun z B5 H5 sb5 hs5 pp2 => ?_)
        · obtain ⟨j', u3⟩ := z
          dsimp only at pp2 hs5 ⊢
          subst pp2
          have ha : r[2 * j']? = some (r[2 * j']'(by omega)) := List.getElem?_eq_getElem _
          have hb : r[2 * j' + 1]? = some (r[2 * j' + 1]'(by omega)) := List.getElem?_eq_getElem _
          generalize r[2 * j']'(by omega) = a at ha
          generalize r[2 * j' + 1]'(by omega) = b at hb
          have et5 := sb5 _ _ et
          have aa : atI (r.map V.str) ((2 * j' : Nat) : Int) = some (.str a) := atI_str ha
          have ab : atI (r.map V.str) ((2 * j' + 1 : Nat) : Int) = some (.str b) := atI_str hb
          rw [show (0 : Int) + (j' : Nat) * 2 = ((2 * j' : Nat) : Int) by omega]
          have e1 : ((2 * j' : Nat) : Int) + 1 = ((2 * j' + 1 : Nat) : Int) := by omega
          refine x_gname ?_
          dsimp only [List.set]
          refine x_seq (x_dputU (x_op (x_var rfl (x_op (x_var rfl (x_c (x_addI ?_)))))))
          rw [e1]
          refine x_ixT (SqT.of (hs5.up et5)) ab ?_
          refine x_var rfl (x_op (x_var rfl (x_var rfl ?_)))
          refine x_ixT (SqT.of (hs5.up et5)) aa ?_
          refine x_dput hs5 (by rw [zipV_len]; omega) (fun H6 hs6 => ?_)
          rw [zipV_put (hrin a (List.mem_of_getElem? ha)), sV_upd] at hs6
          dsimp only
          refine x_dputU (x_op (x_var rfl (x_var rfl ?_)))
          refine x_ixT (SqT.of (hs6.up et5)) aa ?_
          refine x_var rfl (x_op (x_var rfl (x_op (x_var rfl (x_c (x_addI ?_))))))
          rw [e1]
          refine x_ixT (SqT.of (hs6.up et5)) ab ?_
          refine x_dput hs6 (by rw [zipV_len]; omega) (fun H7 hs7 => ?_)
          rw [zipV_put (hrin b (List.mem_of_getElem? hb)), sV_upd, plW_step hrnd ha hb] at hs7
          exact ⟨(j' + 1, some _), B5, rfl, sb5, hs7, rfl⟩
        · obtain ⟨j', u3⟩ := z
          dsimp only at pp2 hs5 ⊢
          subst pp2
          refine ⟨(plW w r j', some _, u3), B5, rfl, sb4.trans sb5, hs5, ?_⟩
          show plW w r j' = _
          rw [hnext]
          funext a
          show (if a ∈ r.take (2 * j') then splitR r a else w a) = plS w r a
          rw [← hn, List.take_length]
          unfold plS
          by_cases m : a ∈ r
          · rw [if_pos m, if_pos ⟨hev, m⟩]
          · rw [if_neg m, if_neg fun z => m z.2]
      · refine x_iteF (decide_eq_false fun z => ?_) (x_next (no ?_))
        · have z : ((r.length : Nat) : Int) % 2 = 0 := by injection z
          omega
        · unfold ev4
          rw [decide_eq_false h2, Bool.and_false]
    · refine x_iteF (decide_eq_false (by omega)) (x_iteF rfl (x_next (no ?_)))
      unfold ev4
      rw [decide_eq_false h4, Bool.false_and]
  · obtain ⟨w, z2, z3⟩ := z
    dsimp only at pp hs4 ⊢
    have hrl := tr3.len
    rw [hrl, List.take_length] at pp
    subst pp
    refine x_ret (x_var rfl ?_)
    exact k B4 H4 py hs4
theorem use_plain {K : PySem.W.Frag} {S : List Addr} {B0 H0 B H : Hp} {M : List (Addr × HO)} {Q : VK} {E : XK} {px : Addr} {xs ks : List Str} {x y : Str → Str} (hs : HS S B0 H0 B H M) (ex : B px = some (.dK (zipV ks (sV x)))) (pm : PermF xs x y) (pe : ks.Perm xs) (nd : xs.Nodup) (hl : xs.length ≤ 16)
    (k : ∀ B' H' r, Same B B' → HS S B0 H0 B' H' ((r, .dK (zipV ks (sV (plF x xs)))) :: M) → Q (.ref r) H') : sp_plain K [.ref px] H Q E :=
  ⟨px, B, xs, ks, x, y, rfl, hs.bh, ex, pm, pe, nd, hl, fun B' H' r c => k B' H' r c.bb (hs.callN c)⟩
end Q

set_option Elab.async false
set_option linter.all false
set_option maxRecDepth 100000
set_option maxHeartbeats 4000000
namespace Q
open PySem PySem.Spec PyProof.Rows L2
/-! ### the half that is found -/
theorem zipF_newV {rs : List Str} {f : Str → Addr} {x : Str} {l : Addr} (hx : x ∉ rs) : putK (zipF rs f) (.inr x) (.ref l) = zipF (rs ++ [x]) (updW f x l) := by
  show putK (zipV rs fun p => .ref (f p)) (.inr x) (.ref l) = zipV (rs ++ [x]) fun p => .ref (updW f x l p)
  rw [zipV_new hx]
  refine zipV_congr fun b _ => ?_
  by_cases e : b = x
  · rw [e, updW_eq, updW_eq]
  · rw [updW_ne e, updW_ne e]
abbrev N_find_half : List Str := ["group", "lists", "told", "x", "a", "asks", "holds"]
def t_find_half (K : PySem.W.Frag) (E : XK) : TS := (tSeq (tAsg (tDc (iList K (tCB (rSortL K) (tCons (tMt (He.ga K "Group") "people" (sp_Group_people K) (WE0 E) (tVar 0) tNil) tNil))) (gName 4) tYes (tVar 4) (tMt (He.ga K "Group") "open_to" (sp_Group_open_to K) W0 (tVar 0) (tCons (tVar 4) tNil)) [4]) (gName 1))
  (tSeq (tAsg (tCl (sp_ask_all K) (WE0 E) (tCons (tVar 1) tNil)) (gTup K 2 (gCons (gName 5) (gCons (gName 6) gNil))))
  (tSeq (tAsg (tCl (sp_passed_on K) (WE0 E) (tCons (tVar 1) (tCons (tVar 5) (tCons (tVar 6) tNil)))) (gName 2))
  (tSeq (tWhile (tB (tNotN (tVar 2))) (tSeq (tAsg (tVar 2) (gTup K 2 (gCons (gName 5) (gCons (gName 6) gNil))))
  (tAsg (tCl (sp_passed_on K) (WE0 E) (tCons (tVar 1) (tCons (tVar 5) (tCons (tVar 6) tNil)))) (gName 2))))
  (tSeq (tAsg tDNewK (gName 3))
  (tSeq (tLock (tFor (iKeys (tVar 1)) (gName 4) (tSeq (sDPut (tVar 3) (tVar 4) (tVar 4))
  (tIfS (tB (tNotN (tDGet (tVar 5) (tVar 4)))) (sDPut (tVar 3) (tVar 4) (tDGet (tVar 5) (tVar 4))) tNext))))
  (tRet (tCl (sp_plain K) (WE0 E) (tCons (tVar 3) tNil)))))))))
def sp_find_half (K : PySem.W.Frag) : Sp := fun vs H Q E => ∃ (p : Addr) (B : Hp) (G : Grp), vs = [.ref p] ∧ Same B H ∧ GAt K B p G ∧
  ∀ B' H' r, HS [] B H B' H' [(r, .dK (zipV (sortS G.names) (sV (hfF G.open (sortS G.names)))))] → Q (.ref r) H'
theorem pure_find_half {K : PySem.W.Frag} {vs : List V} {H : Hp} {Q : VK} {E : XK} (h : sp_find_half K vs H Q E) : t_find_half K E { nx := fun _ H' => Q .non H', rt := Q } (start N_find_half vs) H := by
  obtain ⟨p, B, G, rfl, sB, g, k⟩ := h
  have hs := HS.start sB
  have mu := g.2.mut.sort
  have hfew := mu.few
  have hnl := g.2.few
  obtain ⟨dx0, n0, l0, m0, q0, hg0⟩ := g.ins
  show t_find_half K E _ [some (.ref p), none, none, none, none, none, none] H
  unfold t_find_half
  refine x_seq (x_asg (x_dc (x_iList (x_cb (x_cons (x_mtU (x_var rfl ?_)))))))
  refine x_mt (hs.up hg0) (gf_no (by decide +kernel)) (x_nil ?_)
  refine use_people hs g (fun B1 H1 pl sb1 hs1 => ?_)
  refine x_nil (x_srtL (SqL.of (hs1.get List.mem_cons_self)) (by omega) ?_)
  refine new_F hs1 (fun so B2 H2 hs2 sb2 eso _ => ?_)
  have hs2 := hs2.drop
  have s2 := sb1.trans sb2
  have memN : ∀ {a : Str}, a ∈ sortS G.names → a ∈ G.names := fun m => mem_sortS.mp m
  generalize hks : sortS G.names = ks at eso mu hfew k memN
  refine ⟨so, rfl, ⟨_, SqL.of (hs2.up eso)⟩, fun L hL => ?_⟩
  refine d_list (α := Str → Addr) (Mf := fun _ => []) (P := fun i s acc B' => acc = zipF (ks.take i) s ∧ ∀ a ∈ ks.take i, B' (s a) = some (.lst ((G.open a).map V.str))) (s0 := fun _ => 0) hs2 hL eso ⟨rfl, fun _ z => (nomatch z)⟩ (fun i v s acc B3 H3 hi hil hacc sb3 hs3 pp => ?_) (fun s acc B3 H3 sb3 hs3 hacc pp => ?_)
  · obtain ⟨rfl, hrow⟩ := pp
    obtain ⟨a, ha, rfl⟩ := strs_get hi
    have ma := memN (List.mem_of_getElem? ha)
    have s3 := s2.trans sb3
    refine x_gname ⟨rfl, x_yes (x_tt _ _ (x_var rfl (x_mtU (x_var rfl ?_))))⟩
    refine x_mt (hs3.up (s3 _ _ hg0)) (gf_no (by decide +kernel)) (x_cons (x_var rfl (x_nil ?_)))
    refine use_open_to hs3 (g.mono s3) (.str (names_len g.2 ma)) (fun y ey _ B4 H4 o sb4 hs4 => ?_) (fun h => by rw [show G.has (.str a) = true from decide_eq_true ma] at h; cases h)
    cases ey
    obtain ⟨B5, hs5, sb5, eo⟩ := hs4.still0
    have nb := notin_take mu.nd ha
    refine d_keep (s := updW s a o) ((sb3.trans sb4).trans sb5) hs5 hacc (by rw [List.length_map] at hil; omega) ⟨?_, fun b mb => ?_⟩
    · rw [zipF_newV nb, take_snoc ha]
    · rw [take_snoc ha] at mb
      rcases List.mem_append.mp mb with mb | mb
      · rw [updW_ne fun z => nb (by rw [← z]; exact mb)]
        exact (sb4.trans sb5) _ _ (hrow b mb)
      · rw [List.mem_singleton.mp mb, updW_eq]
        exact eo
  obtain ⟨rfl, hrow⟩ := pp
  rw [List.length_map, List.take_length] at hs3 hrow
  have hw : WAt B3 ks (zipF ks s) G.open := WAt.ofF hrow
  generalize zipF ks s = kvs at hs3 hw
  refine x_gname ?_
  dsimp only [List.set]
  refine x_seq (x_asg (x_cl (x_cons (x_var rfl (x_nil ?_)))))
  refine use_ask_all hs3 hw mu (fun B4 H4 T pa ph sb4 hs4 eT epa eph => ?_)
  refine x_gtup (SqT.of (hs4.up eT)) rfl (x_gcons (x_gname (x_gcons (x_gname (x_gnil ?_)))))
  dsimp only [List.set]
  have st0 := askF_ok mu
  refine x_seq (x_asg (x_cl (x_cons (x_var rfl (x_cons (x_var rfl (x_cons (x_var rfl (x_nil ?_)))))))))
  -- what the loop keeps
  let PP : Nat → (OF × OF) × Addr × Addr × V → Hp → Prop := fun m z B' => SSt ks G.open z.1.1 z.1.2 ∧ goF G.open ks m z.1 = go0 G.open ks ∧ 257 ≤ m + sumA ks G.open z.1.1 ∧ B' z.2.1 = some (.dK (zipV ks (oV z.1.1))) ∧ B' z.2.2.1 = some (.dK (zipV ks (oV z.1.2))) ∧
    ((passF G.open ks z.1.1 z.1.2 = none ∧ z.2.2.2 = .non) ∨ ∃ r T pa' ph', passF G.open ks z.1.1 z.1.2 = some r ∧ z.2.2.2 = .ref T ∧ B' T = some (.tup [.ref pa', .ref ph']) ∧ B' pa' = some (.dK (zipV ks (oV r.1))) ∧ B' ph' = some (.dK (zipV ks (oV r.2))))
  have rest : ∀ {B5 H5 : Hp} {td : V}, Same B3 B5 → HS [] B H B5 H5 [(L, .dK kvs)] → PP 300 (((askF G.open ks).A, (askF G.open ks).H), pa, ph, td) B5 →
      tSeq (tWhile (tB (tNotN (tVar 2))) (tSeq (tAsg (tVar 2) (gTup K 2 (gCons (gName 5) (gCons (gName 6) gNil)))) (tAsg (tCl (sp_passed_on K) (WE0 E) (tCons (tVar 1) (tCons (tVar 5) (tCons (tVar 6) tNil)))) (gName 2))))
        (tSeq (tAsg tDNewK (gName 3)) (tSeq (tLock (tFor (iKeys (tVar 1)) (gName 4) (tSeq (sDPut (tVar 3) (tVar 4) (tVar 4)) (tIfS (tB (tNotN (tDGet (tVar 5) (tVar 4)))) (sDPut (tVar 3) (tVar 4) (tDGet (tVar 5) (tVar 4))) tNext)))) (tRet (tCl (sp_plain K) (WE0 E) (tCons (tVar 3) tNil)))))
        { nx := fun _ H' => Q .non H', rt := Q } [some (.ref p), some (.ref L), some td, none, none, some (.ref pa), some (.ref ph)] H5 := fun {B5 H5 td} sb5 hs5 p0 => by
    refine x_seq ?_
    refine l_while (α := (OF × OF) × Addr × Addr × V) (σf := fun z => [some (.ref p), some (.ref L), some z.2.2.2, none, none, some (.ref z.2.1), some (.ref z.2.2.1)]) (Mf := fun _ => [(L, .dK kvs)]) (P := PP) (s0 := (((askF G.open ks).A, (askF G.open ks).H), pa, ph, td)) (m0 := 300) hs5 p0 (fun m z B6 H6 sb6 hs6 pp => ?_)
    obtain ⟨⟨A, Hd⟩, pa1, ph1, tv⟩ := z
    obtain ⟨st, hgo, hm, e1, e2, h3⟩ := pp
    dsimp only at st hgo hm e1 e2 h3 hs6 ⊢
    have s6 := sb5.trans sb6
    refine x_tB (x_notN (x_var rfl (x_exb ?_)))
    rcases h3 with ⟨hp, rfl⟩ | ⟨r, T2, pa2, ph2, hp, rfl, eT2, epa2, eph2⟩
    · -- no cycle can be passed on any more
      refine x_iteF rfl ?_
      rw [goF_end hp] at hgo
      have hA : (go0 G.open ks).1 = A := by rw [← hgo]
      refine x_seq (x_asg (x_dnew ?_))
      refine new_M hs6 (fun px H7 hs7 _ => ?_)
      refine x_gname ?_
      dsimp only [List.set]
      refine x_seq ?_
      refine l_keys (α := Nat × Option V) (σf := fun z => [some (.ref p), some (.ref L), some .non, some (.ref px), z.2, some (.ref pa1), some (.ref ph1)]) (Mf := fun z => [(px, .dK (zipV (ks.take z.1) (sV (oG A))))]) (P := fun i z _ => z.1 = i) (s0 := (0, none)) hw.keys hs7.swap rfl (fun H' Qv q => ⟨_, rfl, q⟩) (fun o i a z B8 H8 hx sb8 hs8 pp => ?_) (fun z B8 H8 sb8 hs8 pp => ?_)
      · obtain ⟨i', z4⟩ := z
        dsimp only at pp hs8 ⊢
        subst pp
        have ma := List.mem_of_getElem? hx
        have nb := notin_take mu.nd hx
        have hil := (List.getElem?_eq_some_iff.mp hx).1
        have va : valV (zipV ks (oV A)) (.inr a) = some (optV (A a)) := zipV_val ma
        refine x_gname ?_
        dsimp only [List.set]
        refine x_seq (x_dputU (x_var rfl (x_var rfl (x_var rfl ?_))))
        refine x_dput hs8.swap (by rw [zipV_len, List.length_take]; omega) (fun H9 hs9 => ?_)
        rw [zipV_new nb, ← take_snoc hx] at hs9
        dsimp only
        have mt : a ∈ ks.take (i' + 1) := by rw [take_snoc hx]; simp
        refine x_if (x_tB (x_notN (x_dget (x_var rfl (x_var rfl ?_)))))
        refine x_dgS (hs9.up (sb8 _ _ e1)) va (x_exb ?_)
        rw [optV_non]
        cases hAa : A a with
        | none =>
          refine x_iteF rfl (x_next ?_)
          refine ⟨(i' + 1, some _), B8, rfl, sb8, ?_, rfl⟩
          dsimp only
          have e : zipV (ks.take (i' + 1)) (updW (sV (oG A)) a (.str a)) = zipV (ks.take (i' + 1)) (sV (oG A)) := zipV_congr fun b _ => by
            by_cases eb : b = a
            · rw [eb, updW_eq]
              unfold sV oG
              rw [hAa]
              rfl
            · rw [updW_ne eb]
          rw [e] at hs9
          exact hs9.swap
        | some c =>
          rw [hAa] at va
          refine x_iteT rfl ?_
          refine x_dputU (x_dget (x_var rfl (x_var rfl ?_)))
          refine x_dgS (hs9.up (sb8 _ _ e1)) va (x_var rfl (x_var rfl ?_))
          refine x_dput hs9 (by rw [zipV_len, List.length_take]; omega) (fun H10 hs10 => ?_)
          rw [zipV_put mt] at hs10
          refine ⟨(i' + 1, some _), B8, rfl, sb8, ?_, rfl⟩
          dsimp only
          have e : zipV (ks.take (i' + 1)) (updW (updW (sV (oG A)) a (.str a)) a (optV (some c))) = zipV (ks.take (i' + 1)) (sV (oG A)) := zipV_congr fun b _ => by
            by_cases eb : b = a
            · rw [eb, updW_eq]
              unfold sV oG
              rw [hAa]
              rfl
            · rw [updW_ne eb, updW_ne eb]
          rw [e] at hs10
          exact hs10.swap
      · obtain ⟨i', z4⟩ := z
        dsimp only at pp hs8 ⊢
        subst pp
        rw [List.take_length] at hs8
        have hs9 := hs8.drop
        obtain ⟨B10, hs10, sb10, epx⟩ := hs9.still0
        have hf := go0_ok mu
        rw [hA] at hf
        refine x_ret (x_cl (x_cons (x_var rfl (x_nil ?_))))
        refine use_plain hs10 epx hf.pm (List.Perm.refl _) mu.nd hfew (fun B11 H11 r sb11 hs11 => ?_)
        have : hfF G.open ks = plF (oG A) ks := by unfold hfF; rw [hA]
        rw [this] at k
        exact k B11 H11 r hs11
    · have hsa := sumA_le mu st.sm.oa
      obtain ⟨m', rfl⟩ : ∃ m', m = m' + 1 := ⟨m - 1, by omega⟩
      obtain ⟨stt, mst, hpc⟩ := passF_some hp
      obtain ⟨st2, hlt⟩ := passC_ok mu st mst hpc
      rw [goF_step hp] at hgo
      refine x_iteT rfl ⟨fun σ' H' => ∃ m'', m'' < m' + 1 ∧ WI [] B H B5 _ _ _ m'' σ' H', fun _ _ h => h, ?_⟩
      refine x_seq (x_asg (x_var rfl ?_))
      refine x_gtup (SqT.of (hs6.up eT2)) rfl (x_gcons (x_gname (x_gcons (x_gname (x_gnil ?_)))))
      dsimp only [List.set]
      refine x_asg (x_cl (x_cons (x_var rfl (x_cons (x_var rfl (x_cons (x_var rfl (x_nil ?_))))))))
      refine use_passed_on hs6 (hw.mono s6) mu epa2 eph2 st2 (fun hn B7 H7 sb7 hs7 => ?_) (fun r2 hn B7 H7 T3 pa3 ph3 sb7 hs7 eT3 epa3 eph3 => ?_)
      · refine x_gname ?_
        exact ⟨m', Nat.lt_succ_self _, (r, pa2, ph2, .non), B7, rfl, sb6.trans sb7, hs7, st2, hgo, by show 257 ≤ m' + sumA ks G.open r.1; omega, sb7 _ _ epa2, sb7 _ _ eph2, .inl ⟨hn, rfl⟩⟩
      · refine x_gname ?_
        exact ⟨m', Nat.lt_succ_self _, (r, pa2, ph2, .ref T3), B7, rfl, sb6.trans sb7, hs7, st2, hgo, by show 257 ≤ m' + sumA ks G.open r.1; omega, sb7 _ _ epa2, sb7 _ _ eph2, .inr ⟨r2, T3, pa3, ph3, hn, rfl, eT3, epa3, eph3⟩⟩
  refine use_passed_on hs4 (hw.mono sb4) mu epa eph st0 (fun hn B5 H5 sb5 hs5 => ?_) (fun r2 hn B5 H5 T3 pa3 ph3 sb5 hs5 eT3 epa3 eph3 => ?_)
  · refine x_gname ?_
    exact rest (sb4.trans sb5) hs5 ⟨st0, rfl, by omega, sb5 _ _ epa, sb5 _ _ eph, .inl ⟨hn, rfl⟩⟩
  · refine x_gname ?_
    exact rest (sb4.trans sb5) hs5 ⟨st0, rfl, by omega, sb5 _ _ epa, sb5 _ _ eph, .inr ⟨r2, T3, pa3, ph3, hn, rfl, eT3, epa3, eph3⟩⟩
theorem use_find_half {K : PySem.W.Frag} {S : List Addr} {B0 H0 B H : Hp} {M : List (Addr × HO)} {Q : VK} {E : XK} {p : Addr} {G : Grp} (hs : HS S B0 H0 B H M) (g : GAt K B p G)
    (k : ∀ B' H' r, Same B B' → HS S B0 H0 B' H' ((r, .dK (zipV (sortS G.names) (sV (hfF G.open (sortS G.names))))) :: M) → Q (.ref r) H') : sp_find_half K [.ref p] H Q E := ⟨p, B, G, rfl, hs.bh, g, fun B' H' r c => k B' H' r c.bb (hs.callN c)⟩
abbrev N_half : List Str := ["group"]
def t_half (K : PySem.W.Frag) (E : XK) : TS := (tRet (tCl (sp_find_half K) (WE0 E) (tCons (tVar 0) tNil)))
def sp_half (K : PySem.W.Frag) : Sp := sp_find_half K
/-! ### a calm dealing, or none -/
def invO (x : Str → Str) : OF := fun a => if x a = a then none else some (x a)
abbrev N_dealing : List Str := ["group", "x", "y", "a"]
def t_dealing (K : PySem.W.Frag) (E : XK) : TS := (tSeq (tAsg (tCl (sp_find_half K) (WE0 E) (tCons (tVar 0) tNil)) (gName 1))
  (tSeq (tAsg tDNewK (gName 2))
  (tSeq (tFor (iList K (tMt (He.ga K "Group") "people" (sp_Group_people K) (WE0 E) (tVar 0) tNil)) (gName 3) (tSeq (tIfS (tTest (tOp rNe (tDGet (tVar 1) (tDGet (tVar 1) (tVar 3))) (tVar 3))) (tRet (tC .non)) tNext)
  (tSeq (sDPut (tVar 2) (tVar 3) (tC .non))
  (tIfS (tTest (tOp rNe (tDGet (tVar 1) (tVar 3)) (tVar 3))) (sDPut (tVar 2) (tVar 3) (tDGet (tVar 1) (tVar 3))) tNext))))
  (tRet (tVar 2)))))
def sp_dealing (K : PySem.W.Frag) : Sp := fun vs H Q E => ∃ (p : Addr) (B : Hp) (G : Grp), vs = [.ref p] ∧ Same B H ∧ GAt K B p G ∧
  ((∃ a ∈ G.names, hfF G.open (sortS G.names) (hfF G.open (sortS G.names) a) ≠ a) → Ret B H Q fun _ r => r = .non) ∧
  ((∀ a ∈ G.names, hfF G.open (sortS G.names) (hfF G.open (sortS G.names) a) = a) → ∀ B' H' r, HS [] B H B' H' [(r, .dK (zipV G.names (oV (invO (hfF G.open (sortS G.names))))))] → Q (.ref r) H')
theorem pure_dealing {K : PySem.W.Frag} {vs : List V} {H : Hp} {Q : VK} {E : XK} (h : sp_dealing K vs H Q E) : t_dealing K E { nx := fun _ H' => Q .non H', rt := Q } (start N_dealing vs) H := by
  obtain ⟨p, B, G, rfl, sB, g, k1, k2⟩ := h
  have hs := HS.start sB
  have mu := g.2.mut
  have hfew := mu.few
  obtain ⟨dx0, n0, l0, m0, q0, hg0⟩ := g.ins
  show t_dealing K E _ [some (.ref p), none, none, none] H
  unfold t_dealing
  obtain ⟨z', hf, _⟩ := hfF_half mu.sort
  have hin : ∀ a ∈ G.names, hfF G.open (sortS G.names) a ∈ sortS G.names := fun a ma => hf.pm.inx a (mem_sortS.mpr ma)
  refine x_seq (x_asg (x_cl (x_cons (x_var rfl (x_nil ?_)))))
  refine use_find_half hs g (fun B1 H1 px sb1 hs1 => ?_)
  obtain ⟨B2, hs2, sb2, ex⟩ := hs1.still0
  have s2 := sb1.trans sb2
  generalize hfF G.open (sortS G.names) = x at ex hin k1 k2
  have vx : ∀ {a : Str}, a ∈ sortS G.names → valV (zipV (sortS G.names) (sV x)) (.inr a) = some (.str (x a)) := fun m => zipV_val m
  refine x_gname (x_seq (x_asg (x_dnew ?_)))
  refine new_M hs2 (fun py H3 hs3 _ => ?_)
  refine x_gname ?_
  dsimp only [List.set]
  refine x_seq (x_for (x_iList (x_mtU (x_var rfl ?_))))
  refine x_mt (hs3.up (s2 _ _ hg0)) (gf_no (by decide +kernel)) (x_nil ?_)
  refine use_people hs3 (g.mono s2) (fun B4 H4 pl sb4 hs4 => ?_)
  obtain ⟨B5, hs5, sb5, epl⟩ := hs4.still0
  refine ⟨pl, rfl, ⟨_, SqL.of (hs5.up epl)⟩, ?_⟩
  have ex5 := (sb4.trans sb5) _ _ ex
  refine l_list (α := Nat × Option V) (σf := fun z => [some (.ref p), some (.ref px), some (.ref py), z.2]) (Mf := fun z => [(py, .dK (zipV (G.names.take z.1) (oV (invO x))))]) (P := fun i z _ => z.1 = i ∧ ∀ a ∈ G.names.take i, x (x a) = a) (s0 := (0, none)) hs5 epl ⟨rfl, fun _ z => (nomatch z)⟩ (fun i v z B6 H6 hi sb6 hs6 pp => ?_) (fun z B6 H6 sb6 hs6 pp => ?_)
  · obtain ⟨i', z3⟩ := z
    obtain ⟨e0, hpre⟩ := pp
    dsimp only at e0 hs6 ⊢
    subst e0
    obtain ⟨a, ha, rfl⟩ := strs_get hi
    have ma := List.mem_of_getElem? ha
    have nb := notin_take mu.nd ha
    have hil := (List.getElem?_eq_some_iff.mp ha).1
    have mas := mem_sortS.mpr ma
    have ex6 := sb6 _ _ ex5
    refine x_gname ?_
    dsimp only [List.set]
    refine x_seq (x_if (x_test (x_op (x_dget (x_var rfl (x_dget (x_var rfl (x_var rfl ?_))))))))
    refine x_dgS (hs6.up ex6) (vx mas) ?_
    refine x_dgS (hs6.up ex6) (vx (hin a ma)) (x_var rfl ?_)
    refine x_ne rfl (x_exb ?_)
    by_cases hxx : x (x a) = a
    · refine x_iteF (by rw [hxx]; simp) (x_next ?_)
      refine x_seq (x_dputU (x_c (x_var rfl (x_var rfl ?_))))
      refine x_dput hs6 (by rw [zipV_len, List.length_take]; omega) (fun H7 hs7 => ?_)
      rw [zipV_new nb, ← take_snoc ha] at hs7
      dsimp only
      have mt : a ∈ G.names.take (i' + 1) := by rw [take_snoc ha]; simp
      have hpre2 : ∀ b ∈ G.names.take (i' + 1), x (x b) = b := fun b mb => by
        rw [take_snoc ha] at mb
        rcases List.mem_append.mp mb with mb | mb
        · exact hpre b mb
        · rw [List.mem_singleton.mp mb]; exact hxx
      refine x_if (x_test (x_op (x_dget (x_var rfl (x_var rfl ?_)))))
      refine x_dgS (hs7.up ex6) (vx mas) (x_var rfl ?_)
      refine x_ne rfl (x_exb ?_)
      by_cases hxa : x a = a
      · refine x_iteF (by rw [hxa]; simp) (x_next ?_)
        refine ⟨(i' + 1, some _), B6, rfl, sb6, ?_, rfl, hpre2⟩
        dsimp only
        have e : zipV (G.names.take (i' + 1)) (updW (oV (invO x)) a .non) = zipV (G.names.take (i' + 1)) (oV (invO x)) := zipV_congr fun b _ => by
          by_cases eb : b = a
          · rw [eb, updW_eq]
            unfold oV invO
            rw [if_pos hxa]
            rfl
          · rw [updW_ne eb]
        rw [e] at hs7
        exact hs7
      · refine x_iteT (by simp [hxa]) ?_
        refine x_dputU (x_dget (x_var rfl (x_var rfl ?_)))
        refine x_dgS (hs7.up ex6) (vx mas) (x_var rfl (x_var rfl ?_))
        refine x_dput hs7 (by rw [zipV_len, List.length_take]; omega) (fun H8 hs8 => ?_)
        rw [zipV_put mt] at hs8
        refine ⟨(i' + 1, some _), B6, rfl, sb6, ?_, rfl, hpre2⟩
        dsimp only
        have e : zipV (G.names.take (i' + 1)) (updW (updW (oV (invO x)) a .non) a (.str (x a))) = zipV (G.names.take (i' + 1)) (oV (invO x)) := zipV_congr fun b _ => by
          by_cases eb : b = a
          · rw [eb, updW_eq]
            unfold oV invO
            rw [if_neg hxa]
            rfl
          · rw [updW_ne eb, updW_ne eb]
        rw [e] at hs8
        exact hs8
    · refine x_iteT (by simp [hxx]) (x_ret (x_c ?_))
      exact k1 ⟨a, ma, hxx⟩ B6 H6 _ hs6.drop rfl
  · obtain ⟨i', z3⟩ := z
    obtain ⟨e0, hpre⟩ := pp
    dsimp only at e0 hs6 ⊢
    subst e0
    rw [List.length_map, List.take_length] at hs6 hpre
    refine x_ret (x_var rfl ?_)
    exact k2 hpre B6 H6 py hs6
theorem use_dealing {K : PySem.W.Frag} {S : List Addr} {B0 H0 B H : Hp} {M : List (Addr × HO)} {Q : VK} {E : XK} {p : Addr} {G : Grp} (hs : HS S B0 H0 B H M) (g : GAt K B p G)
    (k1 : (∃ a ∈ G.names, hfF G.open (sortS G.names) (hfF G.open (sortS G.names) a) ≠ a) → ∀ B' H', Same B B' → HS S B0 H0 B' H' M → Q .non H')
    (k2 : (∀ a ∈ G.names, hfF G.open (sortS G.names) (hfF G.open (sortS G.names) a) = a) → ∀ B' H' r, Same B B' → HS S B0 H0 B' H' ((r, .dK (zipV G.names (oV (invO (hfF G.open (sortS G.names)))))) :: M) → Q (.ref r) H') : sp_dealing K [.ref p] H Q E :=
  ⟨p, B, G, rfl, hs.bh, g, fun h B' H' v c e => by rw [e]; exact k1 h B' H' c.bb (hs.call c), fun h B' H' r c => k2 h B' H' r c.bb (hs.callN c)⟩
end Q

set_option Elab.async false
set_option linter.all false
set_option maxRecDepth 100000
set_option maxHeartbeats 4000000
namespace Q
open PySem PySem.Spec PyProof.Rows L2
/-! ### values that may be halves: plain facts -/
theorem perm_of_len {α : Type} [DecidableEq α] : ∀ {l l' : List α}, l.Nodup → (∀ x ∈ l, x ∈ l') → l'.length = l.length → l.Perm l'
  | [], l', _, _, h => by
    have : l' = [] := List.length_eq_zero_iff.mp h
    rw [this]
  | x :: r, l', nd, hin, h => by
    rw [List.nodup_cons] at nd
    have mx := hin x List.mem_cons_self
    have ih : r.Perm (l'.erase x) := perm_of_len nd.2 (fun y my => (List.mem_erase_of_ne fun (e : y = x) => nd.1 (by rw [← e]; exact my)).mpr (hin y (List.mem_cons_of_mem _ my))) (by
      rw [List.length_erase_of_mem mx, h, List.length_cons]
      omega)
    exact (ih.cons x).trans (List.perm_cons_erase mx).symm
def valS (d : D) (a : Str) : Str := match vald d a with
  | .str b => b
  | _ => ""
def isS : D → Bool
  | .str _ => true
  | _ => false
def hasF (xs : List Str) (d : D) : Bool := sameKeys d xs && ((xs.all fun a => isS (vald d a) && decide (valS d a ∈ xs)) && decide ((xs.map (valS d)).Nodup))
structure HasF (xs : List Str) (d : D) : Prop where
  sk : sameKeys d xs = true
  st : ∀ a ∈ xs, vald d a = .str (valS d a) ∧ valS d a ∈ xs
  nd : (xs.map (valS d)).Nodup
/-- the one before -/
def befF (xs : List Str) (x : Str → Str) (b : Str) : Str := (xs.find? fun a => decide (x a = b)).getD b
theorem permF_of {xs : List Str} {x : Str → Str} (nd : xs.Nodup) (hin : ∀ a ∈ xs, x a ∈ xs) (ndx : (xs.map x).Nodup) : PermF xs x (befF xs x) := by
  have inj : ∀ {a b : Str}, a ∈ xs → b ∈ xs → x a = x b → a = b := fun {a b} ma mb e => by
    obtain ⟨i, hi⟩ := List.mem_iff_getElem?.mp ma
    obtain ⟨j, hj⟩ := List.mem_iff_getElem?.mp mb
    have h1 : (xs.map x)[i]? = some (x a) := by rw [List.getElem?_map, hi]; rfl
    have h2 : (xs.map x)[j]? = some (x a) := by rw [List.getElem?_map, hj, e]; rfl
    have := nd_at ndx h1 h2
    subst this
    rw [hi] at hj
    exact Option.some.inj hj
  have fnd : ∀ {a : Str}, a ∈ xs → befF xs x (x a) = a := fun {a} ma => by
    unfold befF
    cases e : xs.find? fun c => decide (x c = x a) with
    | none =>
      have := List.find?_eq_none.mp e a ma
      rw [decide_eq_true rfl] at this
      exact absurd rfl this
    | some c =>
      have h0 := List.find?_some e
      have h1 := of_decide_eq_true h0
      exact inj (List.mem_of_find?_eq_some e) ma h1
  have pe := perm_of_len ndx (fun y my => by
    obtain ⟨a, ma, rfl⟩ := List.mem_map.mp my
    exact hin a ma) (List.length_map _).symm
  have sur : ∀ b ∈ xs, ∃ a ∈ xs, x a = b := fun b mb => by
    obtain ⟨a, ma, e⟩ := List.mem_map.mp (pe.mem_iff.mpr mb)
    exact ⟨a, ma, e⟩
  refine ⟨hin, fun b mb => ?_, fun a ma => fnd ma, fun b mb => ?_⟩
  · obtain ⟨a, ma, rfl⟩ := sur b mb
    rw [fnd ma]
    exact ma
  · obtain ⟨a, ma, rfl⟩ := sur b mb
    rw [fnd ma]
theorem HasF.perm {xs : List Str} {d : D} (nd : xs.Nodup) (h : HasF xs d) : PermF xs (valS d) (befF xs (valS d)) := permF_of nd (fun a ma => (h.st a ma).2) h.nd
def lkB (f : Str → List Str) (y : Str → Str) (a b : Str) : Bool := decide (y a = a) || decide ((f a).idxOf b < (f a).idxOf (y a))
def nqP (f : Str → List Str) (y : Str → Str) : List Str → Bool
  | [a, b] => !(lkB f y a b && lkB f y b a)
  | _ => true
def opB (f : Str → List Str) (x : Str → Str) (a : Str) : Bool := decide (x a = a) || decide (x a ∈ f a)
def orB (f : Str → List Str) (x y : Str → Str) (a : Str) : Bool := decide (x a = y a) || decide ((f a).idxOf (x a) ≤ (f a).idxOf (y a))
def halfB (xs : List Str) (f : Str → List Str) (x y : Str → Str) : Bool := xs.all (opB f x) && (xs.all (orB f x y) && (prsOf xs f).all (nqP f y))
def isHalfD (xs : List Str) (f : Str → List Str) (d : D) : Bool := hasF xs d && halfB xs f (valS d) (befF xs (valS d))
/-! ### dicts of next ones -/
def zipSD (ks : List Str) (x : Str → Str) : List (Key × D) := ks.map fun a => (.inr a, .str (x a))
end Q

set_option Elab.async false
set_option linter.all false
set_option maxRecDepth 100000
set_option maxHeartbeats 4000000
namespace Q
open PySem PySem.Spec PyProof.Rows L2
/-! ### is it a half, by the law -/
abbrev N__law_has_form : List Str := ["_law_names_here", "_law_x", "_law_a", "_law_seen"]
def t__law_has_form (K : PySem.W.Frag) (E : XK) : TS := (tSeq (tIfS (tOr (tNot (tB (tCB (rIsi K) (tCons (tVar 1) (tCons (tC (.ty "dict")) tNil))))) (tTest (tOp rNe (tCB rLenD (tCons (tVar 1) tNil)) (tCB (rLenA K) (tCons (tVar 0) tNil))))) (tRet (tC (.bl false))) tNext)
  (tSeq (tFor (iList K (tVar 0)) (gName 2) (tIfS (tB (tDNotIn (tVar 2) (tVar 1))) (tRet (tC (.bl false))) tNext))
  (tSeq (tAsg (tLst tNil) (gName 3))
  (tSeq (tFor (iList K (tVar 0)) (gName 2) (tSeq (tIfS (tOr (tNot (tB (tCB (rIsi K) (tCons (tDGet (tVar 1) (tVar 2)) (tCons (tC (.ty "str")) tNil))))) (tOr (tTest (tOp (rIn K true) (tDGet (tVar 1) (tVar 2)) (tVar 0))) (tTest (tOp (rIn K false) (tDGet (tVar 1) (tVar 2)) (tVar 3))))) (tRet (tC (.bl false))) tNext)
  (tDrop (tBM K "list" rAppend (tVar 3) (tCons (tDGet (tVar 1) (tVar 2)) tNil)))))
  (tRet (tC (.bl true)))))))
def sp__law_has_form (K : PySem.W.Frag) : Sp := fun vs H Q E => ∃ (l : Addr) (v : V) (xs : List Str) (d : D) (B : Hp), vs = [.ref l, v] ∧ Same B H ∧ B l = some (.lst (xs.map V.str)) ∧ Rep K B v d ∧ xs.length ≤ 16 ∧ Ret B H Q fun _ r => r = .bl (hasF xs d)
abbrev N__law_before : List Str := ["_law_x", "_law_before_here", "_law_a"]
def t__law_before (K : PySem.W.Frag) (E : XK) : TS := (tSeq (tAsg tDNewK (gName 1))
  (tSeq (tLock (tFor (iKeys (tVar 0)) (gName 2) (sDPut (tVar 1) (tDGet (tVar 0) (tVar 2)) (tVar 2))))
  (tRet (tVar 1))))
def sp__law_before (K : PySem.W.Frag) : Sp := fun vs H Q E => ∃ (px : Addr) (B : Hp) (ks : List Str) (x y : Str → Str), vs = [.ref px] ∧ Same B H ∧ B px = none ∧ H px = some (.dK (zipV ks (sV x))) ∧ (ks.map x).Nodup ∧ (∀ a ∈ ks, y (x a) = a) ∧ ks.length ≤ 16 ∧
  ∀ B' H' r, HS [px] B H B' H' [(px, .dK (zipV ks (sV x))), (r, .dK (zipV (ks.map x) (sV y)))] → Q (.ref r) H'
abbrev N__law_half_rather : List Str := ["_law_mutual_here", "_law_a", "_law_b", "_law_held"]
def t__law_half_rather (K : PySem.W.Frag) (E : XK) : TS := (tRet (tOrV (tOp rEq (tVar 3) (tVar 1)) (tOp rLtI (tBM K "list" (rIndex K) (tDGet (tVar 0) (tVar 1)) (tCons (tVar 2) tNil)) (tBM K "list" (rIndex K) (tDGet (tVar 0) (tVar 1)) (tCons (tVar 3) tNil)))))
def sp__law_half_rather (K : PySem.W.Frag) : Sp := fun vs H Q E => ∃ (m : Addr) (kvs : List (Key × V)) (row : List Str) (l : Addr) (a b h : Str), vs = [.ref m, .str a, .str b, .str h] ∧ H m = some (.dK kvs) ∧ valV kvs (.inr a) = some (.ref l) ∧ H l = some (.lst (row.map V.str)) ∧ row.Nodup ∧ b ∈ row ∧ (h = a ∨ h ∈ row) ∧ Q (.bl (decide (h = a) || decide (row.idxOf b < row.idxOf h))) H
abbrev N__law_is_half : List Str := ["_law_mutual_here", "_law_x", "_law_before_here", "_law_a", "_law_pair", "_law_b"]
def t__law_is_half (K : PySem.W.Frag) (E : XK) : TS := (tSeq (tIfS (tNot (tB (tCl (sp__law_has_form K) (WE0 E) (tCons (tCB rListD (tCons (tVar 0) tNil)) (tCons (tVar 1) tNil))))) (tRet (tC (.bl false))) tNext)
  (tSeq (tAsg (tCl (sp__law_before K) (WE0 E) (tCons (tVar 1) tNil)) (gName 2))
  (tSeq (tLock (tFor (iKeys (tVar 0)) (gName 3) (tIfS (tAnd (tTest (tOp rNe (tDGet (tVar 1) (tVar 3)) (tVar 3))) (tTest (tOp (rIn K true) (tDGet (tVar 1) (tVar 3)) (tDGet (tVar 0) (tVar 3))))) (tRet (tC (.bl false))) tNext)))
  (tSeq (tLock (tFor (iKeys (tVar 0)) (gName 3) (tIfS (tAnd (tTest (tOp rNe (tDGet (tVar 1) (tVar 3)) (tDGet (tVar 2) (tVar 3)))) (tTest (tOp rGtI (tBM K "list" (rIndex K) (tDGet (tVar 0) (tVar 3)) (tCons (tDGet (tVar 1) (tVar 3)) tNil)) (tBM K "list" (rIndex K) (tDGet (tVar 0) (tVar 3)) (tCons (tDGet (tVar 2) (tVar 3)) tNil))))) (tRet (tC (.bl false))) tNext)))
  (tSeq (tFor (iList K (tCl (sp__law_pairs K) (WE0 E) (tCons (tVar 0) tNil))) (gName 4) (tSeq (tAsg (tOp (rIxT K) (tVar 4) (tC (.int 0))) (gName 3))
  (tSeq (tAsg (tOp (rIxT K) (tVar 4) (tC (.int 1))) (gName 5))
  (tIfS (tAnd (tB (tCl (sp__law_half_rather K) (WE0 E) (tCons (tVar 0) (tCons (tVar 3) (tCons (tVar 5) (tCons (tDGet (tVar 2) (tVar 3)) tNil)))))) (tB (tCl (sp__law_half_rather K) (WE0 E) (tCons (tVar 0) (tCons (tVar 5) (tCons (tVar 3) (tCons (tDGet (tVar 2) (tVar 5)) tNil))))))) (tRet (tC (.bl false))) tNext))))
  (tRet (tC (.bl true))))))))
def sp__law_is_half (K : PySem.W.Frag) : Sp := fun vs H Q E => ∃ (m : Addr) (v : V) (kvs : List (Key × V)) (xs : List Str) (f : Str → List Str) (d : D) (B : Hp), vs = [.ref m, v] ∧ Same B H ∧ B m = none ∧ H m = some (.dK kvs) ∧ WAt B xs kvs f ∧ Mut xs f ∧ Rep K B v d ∧ Ret B H Q fun _ r => r = .bl (isHalfD xs f d)
end Q

set_option Elab.async false
set_option linter.all false
set_option maxRecDepth 100000
set_option maxHeartbeats 4000000
namespace Q
open PySem PySem.Spec PyProof.Rows L2
/-! ### keys of tuples -/
def keyOf (B : Hp) (v : V) : List Str := match v with
  | .ref t => (match B t with
    | some (.tup xs) => xs.map fun | .str x => x | _ => ""
    | _ => [])
  | _ => []
theorem keyOf_eq {B : Hp} {t : Addr} {k : List Str} (h : B t = some (.tup (k.map V.str))) : keyOf B (.ref t) = k := by
  simp only [keyOf, h, List.map_map]
  have : ((fun | V.str x => x | _ => "") ∘ V.str : Str → Str) = id := rfl
  rw [this, List.map_id]
theorem TRs.keys {B : Hp} : ∀ {vs : List V} {ks : List (List Str)}, TRs B vs ks → vs.map (keyOf B) = ks
  | _, _, .nil => rfl
  | _, _, .cons h r => by rw [List.map_cons, keyOf_eq h, TRs.keys r]
theorem TRs.of {B : Hp} : ∀ {vs : List V}, (∀ v ∈ vs, ∃ t, v = .ref t ∧ B t = some (.tup ((keyOf B v).map V.str))) → TRs B vs (vs.map (keyOf B))
  | [], _ => .nil
  | v :: r, h => by
    obtain ⟨t, rfl, e⟩ := h v List.mem_cons_self
    rw [List.map_cons]
    exact .cons e (TRs.of fun u m => h u (List.mem_cons_of_mem _ m))
theorem x_srtTx {K : PySem.W.Frag} {S : List Addr} {B0 H0 B H : Hp} {M : List (Addr × HO)} {Q : VK} {p : Addr} {vs : List V} {ks : List (List Str)} (hs : HS S B0 H0 B H M) (hp : SqL K H p vs) (t : TRs B vs ks) (hne : ∀ k ∈ ks, k ≠ [])
    (h : ∀ ys, TRs B ys (sortT ks) → New (.lst ys) Q H) : rSortTx K [.ref p] H Q := by
  have hx : ∀ x ∈ vs, (∃ t, x = V.ref t ∧ B t = some (.tup ((keyOf B x).map V.str))) ∧ keyOf B x ≠ [] := fun x m => by
    obtain ⟨a, k, rfl, e, mk⟩ := t.get m
    rw [keyOf_eq e]
    exact ⟨⟨a, rfl, e⟩, hne k mk⟩
  refine ⟨p, vs, keyOf B, rfl, hp, fun x m => ⟨let ⟨a, e1, e2⟩ := (hx x m).1; ⟨a, e1, hs.up e2⟩, (hx x m).2⟩, fun ys q pe e hq => h ys ?_ q hq⟩
  have := TRs.of (B := B) (vs := ys) fun v m => (hx v (pe.mem_iff.mp m)).1
  rw [e, t.keys] at this
  exact this
/-! ### rings and lots, by the law -/
def oddR (r : List Str) : Bool := decide (r.length % 2 = 1)
def lotsA (x : Str → Str) (xs : List Str) : List (List Str) := sortT (((ringsA x xs).filter oddR).map sortS)
def oddA (x : Str → Str) (xs : List Str) : List (List Str) := (lotsA x xs).filter fun l => decide (3 ≤ l.length)
section
variable {xs : List Str} {x y : Str → Str}
theorem lotsA_mem (h : PermF xs x y) (hl : xs.length ≤ 16) {l : List Str} (m : l ∈ lotsA x xs) : ∃ s ∈ xs, l = sortS (ringL x s) ∧ (ringL x s).length % 2 = 1 := by
  unfold lotsA at m
  rw [(sortT_perm _).mem_iff] at m
  obtain ⟨r, mr, rfl⟩ := List.mem_map.mp m
  obtain ⟨m1, m2⟩ := List.mem_filter.mp mr
  obtain ⟨s, ms, rfl⟩ := ringsA_of h hl m1
  exact ⟨s, ms, rfl, of_decide_eq_true m2⟩
theorem ringsA_ne (h : PermF xs x y) (hl : xs.length ≤ 16) {r : List Str} (mr : r ∈ ringsA x xs) : r ≠ [] ∧ r.length ≤ 16 ∧ ∀ a ∈ r, a ∈ xs := by
  obtain ⟨s, ms, rfl⟩ := ringsA_of h hl mr
  exact ⟨fun e => (by have := (ring_cyc h hl ms).2; rw [e] at this; cases this), ring_len h hl ms, ring_in h hl ms⟩
theorem ringsA_len (h : PermF xs x y) (hl : xs.length ≤ 16) : (ringsA x xs).length ≤ 16 := by
  have key : ∀ {l : List Str} {seen : List Str}, (ringsF x l seen).length ≤ l.length := by
    intro l
    induction l with
    | nil => intro seen; exact Nat.le_refl _
    | cons s r ih =>
      intro seen
      unfold ringsF
      split
      · exact Nat.le_trans ih (Nat.le_succ _)
      · rw [List.length_cons, List.length_cons]
        exact Nat.succ_le_succ ih
  have := key (l := sortS xs) (seen := [])
  rw [sortS_len] at this
  exact Nat.le_trans this hl
end
abbrev N__law_rings : List Str := ["_law_x", "_law_rows", "_law_seen", "_law_start", "_law_ring", "_law_k"]
def t__law_rings (K : PySem.W.Frag) (E : XK) : TS := (tSeq (tAsg (tLst tNil) (gName 1))
  (tSeq (tAsg (tLst tNil) (gName 2))
  (tSeq (tFor (iList K (tCB (rSortL K) (tCons (tCB rListD (tCons (tVar 0) tNil)) tNil))) (gName 3) (tIfS (tTest (tOp (rIn K true) (tVar 3) (tVar 2))) (tSeq (tAsg (tLst (tCons (tVar 3) tNil)) (gName 4))
  (tSeq (tFor (iRng1 (tCons (tCB rLenD (tCons (tVar 0) tNil)) tNil)) (gName 5) (tIfS (tTest (tOp rNe (tDGet (tVar 0) (tOp (rIxL K) (tVar 4) (tUn rNegI (tC (.int 1))))) (tVar 3))) (tDrop (tBM K "list" rAppend (tVar 4) (tCons (tDGet (tVar 0) (tOp (rIxL K) (tVar 4) (tUn rNegI (tC (.int 1))))) tNil))) tNext))
  (tSeq (tDrop (tBM K "list" rExtend (tVar 2) (tCons (tVar 4) tNil)))
  (tDrop (tBM K "list" rAppend (tVar 1) (tCons (tCB (rTupOf K) (tCons (tVar 4) tNil)) tNil)))))) tNext))
  (tRet (tVar 1)))))
def sp__law_rings (K : PySem.W.Frag) : Sp := fun vs H Q E => ∃ (px : Addr) (B : Hp) (xs ks : List Str) (x y : Str → Str), vs = [.ref px] ∧ Same B H ∧ B px = some (.dK (zipV ks (sV x))) ∧ PermF xs x y ∧ ks.Perm xs ∧ xs.Nodup ∧ xs.length ≤ 16 ∧
  ∀ B' H' l rows, HS [] B H B' H' [(l, .lst rows)] → TRs B' rows (ringsA x xs) → Q (.ref l) H'
end Q

set_option Elab.async false
set_option linter.all false
set_option maxRecDepth 100000
set_option maxHeartbeats 4000000
namespace Q
open PySem PySem.Spec PyProof.Rows L2
/-! ### lots -/
theorem lotsA_ne {xs : List Str} {x y : Str → Str} (h : PermF xs x y) (hl : xs.length ≤ 16) : ∀ l ∈ ((ringsA x xs).filter oddR).map sortS, l ≠ [] ∧ l.length ≤ 16 := fun l m => by
  obtain ⟨r, mr, rfl⟩ := List.mem_map.mp m
  obtain ⟨h1, h2, _⟩ := ringsA_ne h hl (List.mem_filter.mp mr).1
  refine ⟨fun e => h1 ?_, by rw [sortS_len]; exact h2⟩
  have := sortS_len r
  rw [e] at this
  exact List.length_eq_zero_iff.mp this.symm
theorem lotsA_len {xs : List Str} {x y : Str → Str} (h : PermF xs x y) (hl : xs.length ≤ 16) : (lotsA x xs).length ≤ 16 ∧ ∀ l ∈ lotsA x xs, l ≠ [] ∧ l.length ≤ 16 := by
  unfold lotsA
  rw [(sortT_perm _).length_eq, List.length_map]
  exact ⟨Nat.le_trans (List.length_filter_le _ _) (ringsA_len h hl), fun l m => lotsA_ne h hl l ((sortT_perm _).mem_iff.mp m)⟩
theorem x_lenTS {K : PySem.W.Frag} {H : Hp} {Q : VK} {t : Addr} {r : List Str} (ht : H t = some (.tup (r.map V.str))) (hq : Q (.int (r.length : Nat)) H) : rLenA K [.ref t] H Q := by
  have := x_lenT (K := K) (SqT.of ht) (Q := Q)
  rw [List.length_map] at this
  exact this hq
theorem mod2_eq {n i : Nat} (hi : i < 2) : decide (V.int (((n : Nat) : Int) % 2) = V.int ((i : Nat) : Int)) = decide (n % 2 = i) := decide_eq_decide.mpr ⟨fun z => by injection z with z; omega, fun z => by rw [show ((n : Nat) : Int) % 2 = ((n % 2 : Nat) : Int) by omega, z]⟩
abbrev N__law_lots : List Str := ["_law_x", "_law_ring"]
def t__law_lots (K : PySem.W.Frag) (E : XK) : TS := (tRet (tCB (rSortTx K) (tCons (tLc (iList K (tCl (sp__law_rings K) (WE0 E) (tCons (tVar 0) tNil))) (gName 1) (tTest (tOp rEq (tOp rModI (tCB (rLenA K) (tCons (tVar 1) tNil)) (tC (.int 2))) (tC (.int 1)))) (tCB (rTupOf K) (tCons (tCB (rSortT K) (tCons (tVar 1) tNil)) tNil)) [1]) tNil)))
def sp__law_lots (K : PySem.W.Frag) : Sp := fun vs H Q E => ∃ (px : Addr) (B : Hp) (xs ks : List Str) (x y : Str → Str), vs = [.ref px] ∧ Same B H ∧ B px = some (.dK (zipV ks (sV x))) ∧ PermF xs x y ∧ ks.Perm xs ∧ xs.Nodup ∧ xs.length ≤ 16 ∧
  ∀ B' H' l rows, HS [] B H B' H' [(l, .lst rows)] → TRs B' rows (lotsA x xs) → Q (.ref l) H'
/-- those of a list of tuples that a test lets by -/
theorem x_filtT {K : PySem.W.Frag} {S : List Addr} {B0 H0 B H : Hp} {M : List (Addr × HO)} {Q : VK} {σ : L2.St} {i : Nat} {tl : TE} {tt : TT} {l : Addr} {rows : List V} {ks : List (List Str)} {p : List Str → Bool} (hs : HS S B0 H0 B H M) (ev : ∀ R : VK, R (.ref l) H → tl σ H R) (el : B l = some (.lst rows)) (tr : TRs B rows ks) (hz : ks.length ≤ 100000) (e2 : ∀ x : Option V, ((wipe σ [i]).set i x)[i]? = some x) (e3 : ∀ x : Option V, wipe ((wipe σ [i]).set i x) [i] = wipe σ [i])
    (ht : ∀ r ∈ ks, ∀ t B1 H1 c acc Qb, HS S B0 H0 B1 H1 ((c, .lst acc) :: M) → Same B B1 → B1 t = some (.tup (r.map V.str)) → Qb (p r) H1 → tt ((wipe σ [i]).set i (some (.ref t))) H1 Qb)
    (k : ∀ B' H' c us, Same B B' → HS S B0 H0 B' H' ((c, .lst us) :: M) → TRs B' us (ks.filter p) → Q (.ref c) H') : tLc (iList K tl) (gName i) tt (tVar i) [i] σ H Q := by
  refine x_lc (x_iList (ev _ ⟨l, rfl, ⟨_, SqL.of (hs.up el)⟩, fun c hD => ?_⟩))
  have hrl := tr.len
  refine c_list (α := Unit) (Mf := fun _ => M) (P := fun j _ acc B' => TRs B' acc ((ks.take j).filter p)) (s0 := ()) hs hD el .nil (fun j v _ acc B3 H3 hj hacc sb3 hs3 pp => ?_) (fun _ acc B3 H3 sb3 hs3 hacc pp => ?_)
  · obtain ⟨t, r, rfl, hr, et⟩ := (tr.mono sb3).at hj
    have hjl := (List.getElem?_eq_some_iff.mp hj).1
    refine x_gname ⟨e3 _, ht r (List.mem_of_getElem? hr) t B3 H3 c acc _ hs3 sb3 et ?_⟩
    refine x_ite (fun h => ?_) (fun h => ?_)
    · refine x_var (e2 _) ?_
      refine c_keep (s := ()) sb3 hs3 hacc (by omega) ?_
      rw [filter_snoc hr, if_pos h]
      exact pp.snoc et
    · refine c_left (s := ()) sb3 hs3 hacc ?_
      rw [filter_snoc hr, if_neg (by rw [h]; decide), List.append_nil]
      exact pp
  · rw [hrl, List.take_length] at pp
    exact k B3 H3 c acc sb3 hs3 pp
abbrev N__law_odd : List Str := ["_law_x", "_law_lot"]
def t__law_odd (K : PySem.W.Frag) (E : XK) : TS := (tRet (tLc (iList K (tCl (sp__law_lots K) (WE0 E) (tCons (tVar 0) tNil))) (gName 1) (tTest (tOp rGtI (tCB (rLenA K) (tCons (tVar 1) tNil)) (tC (.int 2)))) (tVar 1) [1]))
def sp__law_odd (K : PySem.W.Frag) : Sp := fun vs H Q E => ∃ (px : Addr) (B : Hp) (xs ks : List Str) (x y : Str → Str), vs = [.ref px] ∧ Same B H ∧ B px = some (.dK (zipV ks (sV x))) ∧ PermF xs x y ∧ ks.Perm xs ∧ xs.Nodup ∧ xs.length ≤ 16 ∧
  ∀ B' H' l rows, HS [] B H B' H' [(l, .lst rows)] → TRs B' rows (oddA x xs) → Q (.ref l) H'
abbrev N__law_is_plain : List Str := ["_law_x", "_law_ring"]
def t__law_is_plain (K : PySem.W.Frag) (E : XK) : TS := (tSeq (tFor (iList K (tCl (sp__law_rings K) (WE0 E) (tCons (tVar 0) tNil))) (gName 1) (tIfS (tAnd (tTest (tOp rGtI (tCB (rLenA K) (tCons (tVar 1) tNil)) (tC (.int 2)))) (tTest (tOp rEq (tOp rModI (tCB (rLenA K) (tCons (tVar 1) tNil)) (tC (.int 2))) (tC (.int 0))))) (tRet (tC (.bl false))) tNext))
  (tRet (tC (.bl true))))
def plainR (x : Str → Str) (xs : List Str) : Bool := (ringsA x xs).all fun r => !(decide (2 < r.length) && decide (r.length % 2 = 0))
def sp__law_is_plain (K : PySem.W.Frag) : Sp := fun vs H Q E => ∃ (px : Addr) (B : Hp) (xs ks : List Str) (x y : Str → Str), vs = [.ref px] ∧ Same B H ∧ B px = some (.dK (zipV ks (sV x))) ∧ PermF xs x y ∧ ks.Perm xs ∧ xs.Nodup ∧ xs.length ≤ 16 ∧ Ret B H Q fun _ r => r = .bl (plainR x xs)
/-! ### what follows for plain halves -/
theorem ring_inv2 {xs : List Str} {x y : Str → Str} (pm : PermF xs x y) (hl : xs.length ≤ 16) {s : Str} (ms : s ∈ xs) (e : x (x s) = s) : (ringL x s).length ≤ 2 := by
  have o := ring_orb pm hl ms
  refine Nat.le_of_not_lt fun h => ?_
  have h2 := o.at_ 2 h
  have h2 : (ringL x s)[2]? = some (x (x s)) := h2
  rw [e] at h2
  have := nd_at o.nd h2 (o.at_ 0 o.ne)
  omega
theorem ring_not2 {xs : List Str} {x y : Str → Str} (pm : PermF xs x y) (hl : xs.length ≤ 16) {s : Str} (ms : s ∈ xs) (e : x (x s) ≠ s) : 3 ≤ (ringL x s).length := by
  have o := ring_orb pm hl ms
  have h0 := o.ne
  refine Nat.le_of_not_lt fun h => e ?_
  have hx := o.nx
  have : (ringL x s).length = 1 ∨ (ringL x s).length = 2 := by omega
  rcases this with w | w
  · rw [w] at hx
    have hx : some s = some (x s) := hx
    have hx := Option.some.inj hx
    rw [← hx, ← hx]
  · rw [w] at hx
    have hx : some s = some (x (x s)) := hx
    exact (Option.some.inj hx).symm
theorem oddA_nil {xs : List Str} {x y : Str → Str} (pm : PermF xs x y) (hl : xs.length ≤ 16) (h : ∀ a ∈ xs, x (x a) = a) : oddA x xs = [] := by
  unfold oddA
  rw [List.filter_eq_nil_iff]
  intro l ml
  obtain ⟨s, ms, rfl, _⟩ := lotsA_mem pm hl ml
  have := ring_inv2 pm hl ms (h s ms)
  rw [sortS_len]
  simpa using by omega
end Q

set_option Elab.async false
set_option linter.all false
set_option maxRecDepth 100000
set_option maxHeartbeats 4000000
namespace Q
open PySem PySem.Spec PyProof.Rows L2
/-! ### what stood still may change again -/
end Q

set_option Elab.async false
set_option linter.all false
set_option maxRecDepth 100000
set_option maxHeartbeats 4000000
namespace Q
open PySem PySem.Spec PyProof.Rows L2
/-! ### halves of a group; dealings that are halves -/
theorem WAt.congr {B : Hp} {done : List Str} {kvs : List (Key × V)} {ws us : Str → List Str} (h : WAt B done kvs ws) (e : ∀ p ∈ done, ws p = us p) : WAt B done kvs us := by
  obtain ⟨al, h1, h2, h3⟩ := h
  refine ⟨al, h1, h2, fun j p a hp ha => ?_⟩
  have := h3 j p a hp ha
  unfold LAt at this ⊢
  rw [← e p (List.mem_of_getElem? hp)]
  exact this
theorem PermF.unsort {xs : List Str} {x y : Str → Str} (h : PermF (sortS xs) x y) : PermF xs x y :=
  ⟨fun a m => mem_sortS.mp (h.inx a (mem_sortS.mpr m)), fun a m => mem_sortS.mp (h.iny a (mem_sortS.mpr m)), fun a m => h.yx a (mem_sortS.mpr m), fun a m => h.xy a (mem_sortS.mpr m)⟩
theorem HalfF.unsort {xs : List Str} {f : Str → List Str} {x y : Str → Str} (h : HalfF (sortS xs) f x y) : HalfF xs f x y :=
  ⟨h.pm.unsort, fun a m => h.op a (mem_sortS.mpr m), fun a m => h.ord a (mem_sortS.mpr m), fun a m => h.nq a (mem_sortS.mpr m)⟩
theorem PermF.few {xs : List Str} {x y : Str → Str} (h : PermF xs x y) {f : Str → List Str} (mu : Mut xs f) : ∀ a ∈ xs, (x a).length ≤ 1000000 := fun a ma => okName_len (mu.nm _ (h.inx a ma))
/-- the half that is found, for the people in any order -/
theorem hfF_group {xs : List Str} {f : Str → List Str} (mu : Mut xs f) : ∃ z', HalfF xs f (hfF f (sortS xs)) z' ∧ ∀ a ∈ xs, hfF f (sortS xs) (hfF f (sortS xs) a) = a ∨ (ringL (hfF f (sortS xs)) a).length % 2 = 1 := by
  obtain ⟨z', h1, h2⟩ := hfF_half mu.sort
  exact ⟨z', h1.unsort, fun a ma => h2 a (mem_sortS.mpr ma)⟩
theorem invO_len {xs : List Str} {f : Str → List Str} {x y : Str → Str} (mu : Mut xs f) (pm : PermF xs x y) : ∀ a ∈ xs, ∀ b, invO x a = some b → b.length ≤ 1000000 := fun a ma b e => by
  unfold invO at e
  split at e
  · cases e
  · rw [← Option.some.inj e]
    exact pm.few mu a ma
theorem vald_zipOD {xs : List Str} {m : OF} {a : Str} (ma : a ∈ xs) : vald (.dct (zipOD xs m)) a = optD (m a) := vald_of (zipOD_val ma)
theorem part_zipOD {xs : List Str} {m : OF} {a : Str} (ma : a ∈ xs) : part (.dct (zipOD xs m)) a = m a := by
  unfold part
  rw [vald_zipOD ma]
  cases m a <;> rfl
theorem zipOD_sk {xs ks : List Str} {m : OF} (pe : ks.Perm xs) : sameKeys (.dct (zipOD ks m)) xs = true := by
  unfold sameKeys
  dsimp only
  rw [decide_eq_true (by unfold zipOD; rw [List.length_map, pe.length_eq]), List.all_eq_true.mpr fun a ma => by rw [zipOD_val (pe.mem_iff.mpr ma)]; rfl]
  rfl
theorem inv_calm {xs : List Str} {f : Str → List Str} {x y : Str → Str} (mu : Mut xs f) (h : HalfF xs f x y) (hi : ∀ a ∈ xs, x (x a) = a) : isCalm xs f (.dct (zipOD xs (invO x))) = true := by
  have hyx : ∀ a ∈ xs, y a = x a := fun a ma => by
    have := h.pm.yx (x a) (h.pm.inx a ma)
    rw [hi a ma] at this
    exact this
  unfold isCalm
  rw [Bool.and_eq_true_iff]
  refine ⟨isDeal_true.mpr ⟨zipOD_sk (List.Perm.refl _), fun a ma => ?_⟩, ?_⟩
  · rw [vald_zipOD ma]
    unfold invO
    by_cases e : x a = a
    · rw [if_pos e]
      exact .inl rfl
    · rw [if_neg e]
      have mx := h.pm.inx a ma
      refine .inr ⟨x a, rfl, h.op a ma e, ?_⟩
      rw [vald_zipOD mx, if_neg (fun z => e (by rw [hi a ma] at z; exact z.symm)), hi a ma]
      rfl
  · rw [List.isEmpty_iff]
    unfold quars
    rw [List.filter_eq_nil_iff]
    intro c mc hq
    obtain ⟨a, b, rfl, ma, mb, _⟩ := prsOf_get mc
    have mbx := (mu.fi a ma b mb).1
    have hq : quarB f (.dct (zipOD xs (invO x))) a b = true := hq
    unfold quarB at hq
    obtain ⟨_, hq⟩ := Bool.and_eq_true_iff.mp hq
    obtain ⟨h1, h2⟩ := Bool.and_eq_true_iff.mp hq
    have key : ∀ {a b : Str}, a ∈ xs → rather f (.dct (zipOD xs (invO x))) a b = true → (y a = a ∨ (f a).idxOf b < (f a).idxOf (y a)) := fun {a b} ma hr => by
      unfold rather at hr
      rw [part_zipOD ma] at hr
      unfold invO at hr
      rw [hyx a ma]
      by_cases e : x a = a
      · exact .inl e
      · rw [if_neg e, ra_some] at hr
        exact .inr hr
    exact h.nq a ma b mb (key ma h1) (key mbx h2)
end Q

set_option Elab.async false
set_option linter.all false
set_option maxRecDepth 100000
set_option maxHeartbeats 4000000
namespace Q
open PySem PySem.Spec PyProof.Rows L2
/-! ### halves by the program: has_form, fault, is_half -/
abbrev N_has_form : List Str := ["group", "x", "seen", "a", "b"]
def t_has_form (K : PySem.W.Frag) (E : XK) : TS := (tSeq (tIfS (tNot (tB (tCl (sp_same_keys K) (WE0 E) (tCons (tVar 1) (tCons (tMt (He.ga K "Group") "people" (sp_Group_people K) (WE0 E) (tVar 0) tNil) tNil))))) (tRet (tC (.bl false))) tNext)
  (tSeq (tAsg (tLst tNil) (gName 2))
  (tSeq (tFor (iList K (tMt (He.ga K "Group") "people" (sp_Group_people K) (WE0 E) (tVar 0) tNil)) (gName 3) (tSeq (tAsg (tDGet (tVar 1) (tVar 3)) (gName 4))
  (tSeq (tIfS (tOr (tNot (tB (tCB (rIsi K) (tCons (tVar 4) (tCons (tC (.ty "str")) tNil))))) (tOr (tTest (tOp (rNotInG (He.ga K "Group") (sp_Group___contains__ K)) (tVar 4) (tVar 0))) (tTest (tOp (rIn K false) (tVar 4) (tVar 2))))) (tRet (tC (.bl false))) tNext)
  (tDrop (tBM K "list" rAppend (tVar 2) (tCons (tVar 4) tNil))))))
  (tRet (tC (.bl true))))))
def sp_has_form (K : PySem.W.Frag) : Sp := fun vs H Q E => ∃ (p : Addr) (v : V) (B : Hp) (G : Grp) (d : D), vs = [.ref p, v] ∧ Same B H ∧ GAt K B p G ∧ Rep K B v d ∧ Ret B H Q fun _ r => r = .bl (hasF G.names d)
abbrev N_likes : List Str := ["group", "before", "a", "b"]
def t_likes (K : PySem.W.Frag) (E : XK) : TS := (tRet (tOrV (tOp rEq (tDGet (tVar 1) (tVar 2)) (tVar 2)) (tOp rLtI (tMt (He.ga K "Group") "rank" (sp_Group_rank K) (WE0 E) (tVar 0) (tCons (tVar 2) (tCons (tVar 3) tNil))) (tMt (He.ga K "Group") "rank" (sp_Group_rank K) (WE0 E) (tVar 0) (tCons (tVar 2) (tCons (tDGet (tVar 1) (tVar 2)) tNil))))))
def sp_likes (K : PySem.W.Frag) : Sp := fun vs H Q E => ∃ (p pb : Addr) (a b : Str) (B : Hp) (G : Grp) (bs : List Str) (y : Str → Str), vs = [.ref p, .ref pb, .str a, .str b] ∧ Same B H ∧ GAt K B p G ∧ B pb = some (.dK (zipV bs (sV y))) ∧ a ∈ bs ∧ a ∈ G.names ∧ b ∈ G.open a ∧ (y a = a ∨ y a ∈ G.open a) ∧ Ret B H Q fun _ r => r = .bl (lkB G.open y a b)
/-- the first fault -/
def faultX (xs : List Str) (f : Str → List Str) (x y : Str → Str) : Option (List Str) := match (sortS xs).find? fun a => !opB f x a with
  | some a => some ["open", a, x a]
  | none => match (sortS xs).find? fun a => !orB f x y a with
    | some a => some ["order", a]
    | none => match (prsOf xs f).find? fun c => !nqP f y c with
      | some c => some ("quarrel" :: c)
      | none => none
def faultD (xs : List Str) (f : Str → List Str) (d : D) : Option (List Str) := if hasF xs d = true then faultX xs f (valS d) (befF xs (valS d)) else some ["form"]
theorem all_find {α : Type} {l : List α} {p : α → Bool} : l.all p = true ↔ l.find? (fun a => !p a) = none := by
  rw [List.all_eq_true, List.find?_eq_none]
  exact ⟨fun h a ma z => (by rw [h a ma] at z; cases z), fun h a ma => by
    have := h a ma
    cases e : p a with
    | true => rfl
    | false => rw [e] at this; exact absurd rfl this⟩
abbrev N_fault : List Str := ["group", "x", "before", "names", "a", "b"]
def t_fault (K : PySem.W.Frag) (E : XK) : TS := (tSeq (tIfS (tNot (tB (tCl (sp_has_form K) (WE0 E) (tCons (tVar 0) (tCons (tVar 1) tNil))))) (tRet (tTup (tCons (tC (.str "form")) tNil))) tNext)
  (tSeq (tAsg (tDc (iList K (tMt (He.ga K "Group") "people" (sp_Group_people K) (WE0 E) (tVar 0) tNil)) (gName 4) tYes (tDGet (tVar 1) (tVar 4)) (tVar 4) [4]) (gName 2))
  (tSeq (tAsg (tCB (rSortL K) (tCons (tMt (He.ga K "Group") "people" (sp_Group_people K) (WE0 E) (tVar 0) tNil) tNil)) (gName 3))
  (tSeq (tFor (iList K (tVar 3)) (gName 4) (tIfS (tAnd (tTest (tOp rNe (tDGet (tVar 1) (tVar 4)) (tVar 4))) (tTest (tOp (rNotInG (He.ga K "Group") (sp_Group___contains__ K)) (tTup (tCons (tVar 4) (tCons (tDGet (tVar 1) (tVar 4)) tNil))) (tVar 0)))) (tRet (tTup (tCons (tC (.str "open")) (tCons (tVar 4) (tCons (tDGet (tVar 1) (tVar 4)) tNil))))) tNext))
  (tSeq (tFor (iList K (tVar 3)) (gName 4) (tIfS (tAnd (tTest (tOp rNe (tDGet (tVar 1) (tVar 4)) (tDGet (tVar 2) (tVar 4)))) (tTest (tOp rGtI (tMt (He.ga K "Group") "rank" (sp_Group_rank K) (WE0 E) (tVar 0) (tCons (tVar 4) (tCons (tDGet (tVar 1) (tVar 4)) tNil))) (tMt (He.ga K "Group") "rank" (sp_Group_rank K) (WE0 E) (tVar 0) (tCons (tVar 4) (tCons (tDGet (tVar 2) (tVar 4)) tNil)))))) (tRet (tTup (tCons (tC (.str "order")) (tCons (tVar 4) tNil)))) tNext))
  (tSeq (tFor (iList K (tMt (He.ga K "Group") "pairs" (sp_Group_pairs K) (WE0 E) (tVar 0) tNil)) (gTup K 2 (gCons (gName 4) (gCons (gName 5) gNil))) (tIfS (tAnd (tB (tCl (sp_likes K) (WE0 E) (tCons (tVar 0) (tCons (tVar 2) (tCons (tVar 4) (tCons (tVar 5) tNil)))))) (tB (tCl (sp_likes K) (WE0 E) (tCons (tVar 0) (tCons (tVar 2) (tCons (tVar 5) (tCons (tVar 4) tNil))))))) (tRet (tTup (tCons (tC (.str "quarrel")) (tCons (tVar 4) (tCons (tVar 5) tNil))))) tNext))
  (tRet (tC .non))))))))
def sp_fault (K : PySem.W.Frag) : Sp := fun vs H Q E => ∃ (p : Addr) (v : V) (B : Hp) (G : Grp) (d : D), vs = [.ref p, v] ∧ Same B H ∧ GAt K B p G ∧ Rep K B v d ∧
  (faultD G.names G.open d = none → Ret B H Q fun _ r => r = .non) ∧ (∀ l, faultD G.names G.open d = some l → ∀ B' H' t, HS [] B H B' H' [] → B' t = some (.tup (l.map V.str)) → Q (.ref t) H')
abbrev N_is_half : List Str := ["group", "x"]
def t_is_half (K : PySem.W.Frag) (E : XK) : TS := (tRet (tIsN (tCl (sp_fault K) (WE0 E) (tCons (tVar 0) (tCons (tVar 1) tNil)))))
def sp_is_half (K : PySem.W.Frag) : Sp := fun vs H Q E => ∃ (p : Addr) (v : V) (B : Hp) (G : Grp) (d : D), vs = [.ref p, v] ∧ Same B H ∧ GAt K B p G ∧ Rep K B v d ∧ Ret B H Q fun _ r => r = .bl (isHalfD G.names G.open d)
end Q

set_option Elab.async false
set_option linter.all false
set_option maxRecDepth 100000
set_option maxHeartbeats 4000000
namespace Q
open PySem PySem.Spec PyProof.Rows L2
/-! ### all halves have the same odd lots -/
def rkA (f : Str → List Str) (a b : Str) : Nat := if b = a then 1000 else (f a).idxOf b
section
variable {xs : List Str} {f : Str → List Str} {x y x' y' : Str → Str}
theorem PermF.symm (h : PermF xs x y) : PermF xs y x := ⟨h.iny, h.inx, h.xy, h.yx⟩
theorem HalfF.opy (mu : Mut xs f) (h : HalfF xs f x y) {a : Str} (ma : a ∈ xs) (ne : y a ≠ a) : y a ∈ f a := by
  have := h.op (y a) (h.pm.iny a ma) (by rw [h.pm.xy a ma]; exact Ne.symm ne)
  rw [h.pm.xy a ma] at this
  exact (mu.fi (y a) (h.pm.iny a ma) a this).2
theorem rk_idx (mu : Mut xs f) {a b : Str} (ma : a ∈ xs) (mb : b ∈ f a) : rkA f a b = (f a).idxOf b := by
  unfold rkA
  rw [if_neg fun e => mu.fs a ma (by rw [e] at mb; exact mb)]
theorem HalfF.iny' (mu : Mut xs f) (h : HalfF xs f x y) {a : Str} (ma : a ∈ xs) : y a = a ∨ y a ∈ f a := by
  by_cases e : y a = a
  · exact .inl e
  · exact .inr (h.opy mu ma e)
theorem HalfF.le (mu : Mut xs f) (h : HalfF xs f x y) {a : Str} (ma : a ∈ xs) : rkA f a (x a) ≤ rkA f a (y a) := by
  by_cases e : x a = y a
  · rw [e]; exact Nat.le_refl _
  · have hx : x a ≠ a := fun w => e (by
      have := h.pm.yx a ma
      rw [w] at this
      rw [w, this])
    have hy : y a ≠ a := fun w => e (by
      have := h.pm.xy a ma
      rw [w] at this
      rw [w, this])
    rw [rk_idx mu ma (h.op a ma hx), rk_idx mu ma (h.opy mu ma hy)]
    exact h.ord a ma e
theorem HalfF.no (mu : Mut xs f) (h : HalfF xs f x y) {a b : Str} (ma : a ∈ xs) (mb : b ∈ f a) (h1 : rkA f a b < rkA f a (y a)) : rkA f b (y b) ≤ rkA f b a := by
  obtain ⟨mbx, mab⟩ := mu.fi a ma b mb
  refine Nat.le_of_not_lt fun h2 => ?_
  have key : ∀ {a b : Str}, a ∈ xs → b ∈ f a → rkA f a b < rkA f a (y a) → (y a = a ∨ (f a).idxOf b < (f a).idxOf (y a)) := fun {a b} ma mb hl => by
    rcases h.iny' mu ma with e | e
    · exact .inl e
    · rw [rk_idx mu ma mb, rk_idx mu ma e] at hl
      exact .inr hl
  exact h.nq a ma b mb (key ma mb h1) (key mbx mab h2)
/-- who likes the one before, there, above the next one, here -/
def inS (f : Str → List Str) (x y' : Str → Str) (a : Str) : Prop := rkA f a (y' a) < rkA f a (x a)
def upR (f : Str → List Str) (x y' : Str → Str) (a : Str) : Prop := rkA f a (y' a) ≤ rkA f a (x a)
def dnR (f : Str → List Str) (y x' : Str → Str) (a : Str) : Prop := rkA f a (y a) ≤ rkA f a (x' a)
theorem sortS_inj {l m : List Str} (h : sortS l = sortS m) : l.Perm m := ((sortS_perm l).symm.trans (by rw [h])).trans (sortS_perm m)
theorem lots_nd (pm : PermF xs x y) (hl : xs.length ≤ 16) : (((ringsA x xs).filter oddR).map sortS).Nodup := by
  refine List.pairwise_map.mpr (((ringsA_pw pm hl).filter _).imp_of_mem fun {r t} mr mt hd e => ?_)
  have pe := sortS_inj e
  obtain ⟨hne, _, _⟩ := ringsA_ne pm hl (List.mem_filter.mp mr).1
  cases r with
  | nil => exact hne rfl
  | cons a r => exact hd a List.mem_cons_self (pe.mem_iff.mp List.mem_cons_self)
end
end Q

set_option Elab.async false
set_option linter.all false
set_option maxRecDepth 100000
set_option maxHeartbeats 4000000
namespace Q
open PySem PySem.Spec PyProof.Rows L2
/-! ### the half of a dealing -/
theorem Deal.some {xs : List Str} {op : Str → List Str} {ds : List (Key × D)} (dl : Deal xs op (.dct ds)) {a : Str} (ma : a ∈ xs) : (dval ds (.inr a)).isSome = true := by
  obtain ⟨ds', e, _, hsome⟩ := sameKeys_dct dl.sk
  cases e
  exact hsome a ma
theorem oG_none {m : OF} {a : Str} (h : m a = none) : oG m a = a := by unfold oG; rw [h]; rfl
theorem oG_some {m : OF} {a b : Str} (h : m a = some b) : oG m a = b := by unfold oG; rw [h]; rfl
theorem Deal.perm {xs : List Str} {f : Str → List Str} {d : D} (dl : Deal xs f d) (mu : Mut xs f) : PermF xs (oG (part d)) (oG (part d)) := by
  have two : ∀ a ∈ xs, oG (part d) a ∈ xs ∧ oG (part d) (oG (part d) a) = a := fun a ma => by
    cases e : part d a with
    | none => rw [oG_none e]; exact ⟨ma, oG_none e⟩
    | some b =>
      have mt := dl.mate ma e
      rw [oG_some e]
      exact ⟨(mu.fi a ma b mt.1).1, oG_some mt.2⟩
  exact ⟨fun a ma => (two a ma).1, fun a ma => (two a ma).1, fun a ma => (two a ma).2, fun a ma => (two a ma).2⟩
abbrev N_half_of : List Str := ["group", "x", "y", "a"]
def t_half_of (K : PySem.W.Frag) (E : XK) : TS := (tSeq (tDrop (tCl (sp_check_dealing K) (WE0 E) (tCons (tVar 0) (tCons (tVar 1) tNil))))
  (tSeq (tAsg tDNewK (gName 2))
  (tSeq (tFor (iList K (tMt (He.ga K "Group") "people" (sp_Group_people K) (WE0 E) (tVar 0) tNil)) (gName 3) (tSeq (sDPut (tVar 2) (tVar 3) (tVar 3))
  (tIfS (tB (tNotN (tDGet (tVar 1) (tVar 3)))) (sDPut (tVar 2) (tVar 3) (tDGet (tVar 1) (tVar 3))) tNext)))
  (tRet (tVar 2)))))
def sp_half_of (K : PySem.W.Frag) : Sp := fun vs H Q E => ∃ (p : Addr) (v : V) (B : Hp) (G : Grp) (d : D), vs = [.ref p, v] ∧ Same B H ∧ GAt K B p G ∧ Rep K B v d ∧ plainV d ∧ (isDeal G.names G.open d = true → ∀ B' H' r, HS [] B H B' H' [(r, .dK (zipV G.names (sV (oG (part d)))))] → Q (.ref r) H') ∧ (isDeal G.names G.open d = false → Thr0 K B H E "NoDealing")
end Q

set_option Elab.async false
set_option linter.all false
set_option maxRecDepth 100000
set_option maxHeartbeats 4000000
namespace Q
open PySem PySem.Spec PyProof.Rows L2
/-! ### calm dealings and halves -/
/-! ### those who stay -/
def restF (f : Str → List Str) (lot : List Str) (a : Str) : List Str := (f a).filter fun b => !decide (b ∈ lot)
def restX (xs lot : List Str) : List Str := xs.filter fun a => !decide (a ∈ lot)
theorem mem_restX {xs lot : List Str} {a : Str} : a ∈ restX xs lot ↔ a ∈ xs ∧ a ∉ lot := by
  unfold restX
  rw [List.mem_filter, Bool.not_eq_true', decide_eq_false_iff_not]
theorem mem_restF {f : Str → List Str} {lot : List Str} {a b : Str} : b ∈ restF f lot a ↔ b ∈ f a ∧ b ∉ lot := by
  unfold restF
  rw [List.mem_filter, Bool.not_eq_true', decide_eq_false_iff_not]
theorem Mut.rest {xs : List Str} {f : Str → List Str} (mu : Mut xs f) (lot : List Str) : Mut (restX xs lot) (restF f lot) := by
  refine ⟨mu.nd.filter _, Nat.le_trans (List.length_filter_le _ _) mu.few, fun x mx => mu.nm x (mem_restX.mp mx).1, fun a ma => (mu.fn a (mem_restX.mp ma).1).filter _, fun a ma b mb => ?_, fun a ma mb => mu.fs a (mem_restX.mp ma).1 (mem_restF.mp mb).1⟩
  obtain ⟨m1, m2⟩ := mem_restX.mp ma
  obtain ⟨m3, m4⟩ := mem_restF.mp mb
  obtain ⟨m5, m6⟩ := mu.fi a m1 b m3
  exact ⟨mem_restX.mpr ⟨m5, m4⟩, mem_restF.mpr ⟨m6, m2⟩⟩
abbrev N_rest_dealing : List Str := ["group", "lot"]
def t_rest_dealing (K : PySem.W.Frag) (E : XK) : TS := (tRet (tCl (sp_dealing K) (WE0 E) (tCons (tMt (He.ga K "Group") "outside" (sp_Group_outside K) (WE0 E) (tVar 0) (tCons (tVar 1) tNil)) tNil)))
/-- dealing of those who stay: z is the half that is found for them -/
def sp_rest_dealing (K : PySem.W.Frag) : Sp := fun vs H Q E => ∃ (p l : Addr) (B : Hp) (G : Grp) (lot : List Str), vs = [.ref p, .ref l] ∧ Same B H ∧ GAt K B p G ∧ B l = some (.lst (lot.map V.str)) ∧ (∀ x ∈ lot, x ∈ G.names) ∧ lot.Nodup ∧
  (∀ B' H' r z z', HalfF (restX G.names lot) (restF G.open lot) z z' → (∀ a ∈ restX G.names lot, z (z a) = a) → HS [] B H B' H' [(r, .dK (zipV (restX G.names lot) (oV (invO z))))] → Q (.ref r) H') ∧
  (calms (restX G.names lot) (restF G.open lot) = [] → Ret B H Q fun _ r => r = .non)
abbrev N_may_leave : List Str := ["group", "lot"]
def t_may_leave (K : PySem.W.Frag) (E : XK) : TS := (tRet (tNotN (tCl (sp_rest_dealing K) (WE0 E) (tCons (tVar 0) (tCons (tVar 1) tNil)))))
def sp_may_leave (K : PySem.W.Frag) : Sp := fun vs H Q E => ∃ (p l : Addr) (B : Hp) (G : Grp) (lot : List Str), vs = [.ref p, .ref l] ∧ Same B H ∧ GAt K B p G ∧ B l = some (.lst (lot.map V.str)) ∧ (∀ x ∈ lot, x ∈ G.names) ∧ lot.Nodup ∧
  Ret B H Q fun _ r => r = .bl (!(calms (restX G.names lot) (restF G.open lot)).isEmpty)
end Q

set_option Elab.async false
set_option linter.all false
set_option maxRecDepth 100000
set_option maxHeartbeats 4000000
namespace Q
open PySem PySem.Spec PyProof.Rows L2
/-! ### lots, odd, alone -/
abbrev N_lots : List Str := ["group", "rows", "ring"]
def t_lots (K : PySem.W.Frag) (E : XK) : TS := (tSeq (tAsg (tLst tNil) (gName 1))
  (tSeq (tFor (iList K (tCl (sp_rings_of K) (WE0 E) (tCons (tCl (sp_find_half K) (WE0 E) (tCons (tVar 0) tNil)) tNil))) (gName 2) (tIfS (tTest (tOp rEq (tOp rModI (tCB (rLenA K) (tCons (tVar 2) tNil)) (tC (.int 2))) (tC (.int 1)))) (tDrop (tBM K "list" rAppend (tVar 1) (tCons (tCB (rTupOf K) (tCons (tCB (rSortT K) (tCons (tVar 2) tNil)) tNil)) tNil))) tNext))
  (tRet (tCB (rSortTx K) (tCons (tVar 1) tNil)))))
def sp_lots (K : PySem.W.Frag) : Sp := fun vs H Q E => ∃ (p : Addr) (B : Hp) (G : Grp), vs = [.ref p] ∧ Same B H ∧ GAt K B p G ∧
  ∀ B' H' l rows, HS [] B H B' H' [(l, .lst rows)] → TRs B' rows (lotsA (hfF G.open (sortS G.names)) G.names) → Q (.ref l) H'
theorem pure_lots {K : PySem.W.Frag} {vs : List V} {H : Hp} {Q : VK} {E : XK} (h : sp_lots K vs H Q E) : t_lots K E { nx := fun _ H' => Q .non H', rt := Q } (start N_lots vs) H := by
  obtain ⟨p, B, G, rfl, sB, g, k⟩ := h
  have hs := HS.start sB
  have mu := g.2.mut
  have hl := mu.few
  obtain ⟨y, hf, _⟩ := hfF_group mu
  have pm := hf.pm
  show t_lots K E _ [some (.ref p), none, none] H
  unfold t_lots
  refine x_seq (x_asg (x_lst (x_nil ?_)))
  refine x_newL (by simp) ?_
  refine new_M hs (fun rs H0 hs0 _ => ?_)
  refine x_gname ?_
  dsimp only [List.set]
  refine x_seq (x_for (x_iList (x_cl (x_cons (x_cl (x_cons (x_var rfl (x_nil ?_))))))))
  refine use_find_half hs0 g (fun B1 H1 px sb1 hs1 => ?_)
  generalize hfF G.open (sortS G.names) = x at hs1 k pm
  obtain ⟨B2, hs2, sb2, ex⟩ := hs1.still0
  refine x_nil ?_
  refine use_rings_of hs2 ex pm (sortS_perm G.names) mu.nd hl (fun B3 H3 l rows sb3 hs3 tr => ?_)
  obtain ⟨B4, hs4, sb4, el⟩ := hs3.still0
  have tr4 := tr.mono sb4
  have hrl := tr4.len
  have hcl := ringsA_len pm hl
  refine ⟨l, rfl, ⟨_, SqL.of (hs4.up el)⟩, ?_⟩
  refine l_list (α := List V × Option V) (σf := fun z => [some (.ref p), some (.ref rs), z.2]) (Mf := fun z => [(rs, .lst z.1)]) (P := fun j z B' => TRs B' z.1 ((((ringsA x G.names).take j).filter oddR).map sortS)) (s0 := ([], none)) hs4 el .nil (fun j v z B5 H5 hj sb5 hs5 pp => ?_) (fun z B5 H5 sb5 hs5 pp => ?_)
  · obtain ⟨acc, z2⟩ := z
    dsimp only at pp hs5 ⊢
    obtain ⟨t, r, rfl, hr, et⟩ := (tr4.mono sb5).at hj
    have hjl := (List.getElem?_eq_some_iff.mp hj).1
    obtain ⟨_, hr16, _⟩ := ringsA_ne pm hl (List.mem_of_getElem? hr)
    have hacc := pp.len
    have hacl : acc.length ≤ 16 := by
      rw [hacc, List.length_map]
      refine Nat.le_trans (List.length_filter_le _ _) ?_
      rw [List.length_take]
      omega
    refine x_gname ?_
    dsimp only [List.set]
    refine x_if (x_test (x_op (x_op (x_cb (x_cons (x_var rfl (x_nil ?_)))))))
    refine x_lenTS (hs5.up et) (x_c (x_modI (by decide) (x_c ?_)))
    refine x_eq rfl (x_exb ?_)
    have em := mod2_eq (n := r.length) (i := 1) (by decide)
    have em : decide (V.int (((r.length : Nat) : Int) % 2) = V.int 1) = oddR r := em
    rw [em]
    refine x_ite (fun h => ?_) (fun h => ?_)
    · refine x_drop (x_bm (x_var rfl ?_))
      refine x_tyL (SqL.of (hs5.get List.mem_cons_self)) (x_cons (x_cb (x_cons (x_cb (x_cons (x_var rfl (x_nil ?_)))))))
      refine x_srtT (SqT.of (hs5.up et)) (by omega) ?_
      refine new_F hs5 (fun sl B6 H6 hs6 sb6 esl _ => ?_)
      refine x_nil (x_tupL (SqL.of (hs6.up esl)) ?_)
      refine new_F hs6 (fun st B7 H7 hs7 sb7 est _ => ?_)
      refine x_nil ?_
      refine x_append hs7 (by omega) (fun H8 hs8 => ?_)
      refine ⟨(_, some _), B7, rfl, (sb5.trans sb6).trans sb7, hs8, ?_⟩
      dsimp only
      rw [filter_snoc hr, if_pos h, List.map_append]
      exact (pp.mono (sb6.trans sb7)).snoc est
    · refine x_next ?_
      refine ⟨(acc, some _), B5, rfl, sb5, hs5, ?_⟩
      dsimp only
      rw [filter_snoc hr, if_neg (by rw [h]; decide), List.append_nil]
      exact pp
  · obtain ⟨acc, z2⟩ := z
    dsimp only at pp hs5 ⊢
    rw [hrl, List.take_length] at pp
    refine x_ret (x_cb (x_cons (x_var rfl (x_nil ?_))))
    refine x_srtTx hs5 (SqL.of (hs5.get List.mem_cons_self)) pp (fun q mq => (lotsA_ne pm hl q mq).1) (fun ys ty => ?_)
    refine new_M hs5 (fun q H6 hs6 _ => ?_)
    exact k B5 H6 q ys hs6.swap.drop ty
theorem use_lots {K : PySem.W.Frag} {S : List Addr} {B0 H0 B H : Hp} {M : List (Addr × HO)} {Q : VK} {E : XK} {p : Addr} {G : Grp} (hs : HS S B0 H0 B H M) (g : GAt K B p G)
    (k : ∀ B' H' l rows, Same B B' → HS S B0 H0 B' H' ((l, .lst rows) :: M) → TRs B' rows (lotsA (hfF G.open (sortS G.names)) G.names) → Q (.ref l) H') : sp_lots K [.ref p] H Q E :=
  ⟨p, B, G, rfl, hs.bh, g, fun B' H' l rows c => k B' H' l rows c.bb (hs.callN c)⟩
abbrev N_odd : List Str := ["group", "lot"]
def t_odd (K : PySem.W.Frag) (E : XK) : TS := (tRet (tLc (iList K (tCl (sp_lots K) (WE0 E) (tCons (tVar 0) tNil))) (gName 1) (tTest (tOp rGeI (tCB (rLenA K) (tCons (tVar 1) tNil)) (tC (.int 3)))) (tVar 1) [1]))
def sp_odd (K : PySem.W.Frag) : Sp := fun vs H Q E => ∃ (p : Addr) (B : Hp) (G : Grp), vs = [.ref p] ∧ Same B H ∧ GAt K B p G ∧
  ∀ B' H' l rows, HS [] B H B' H' [(l, .lst rows)] → TRs B' rows (oddA (hfF G.open (sortS G.names)) G.names) → Q (.ref l) H'
theorem pure_odd {K : PySem.W.Frag} {vs : List V} {H : Hp} {Q : VK} {E : XK} (h : sp_odd K vs H Q E) : t_odd K E { nx := fun _ H' => Q .non H', rt := Q } (start N_odd vs) H := by
  obtain ⟨p, B, G, rfl, sB, g, k⟩ := h
  have hs := HS.start sB
  have mu := g.2.mut
  have hl := mu.few
  obtain ⟨y, hf, _⟩ := hfF_group mu
  have pm := hf.pm
  show t_odd K E _ [some (.ref p), none] H
  unfold t_odd
  refine x_ret (x_lc (x_iList (x_cl (x_cons (x_var rfl (x_nil ?_))))))
  refine use_lots hs g (fun B1 H1 l rows sb1 hs1 tr => ?_)
  generalize hfF G.open (sortS G.names) = x at tr k pm
  obtain ⟨B2, hs2, sb2, el⟩ := hs1.still0
  have h16 := (lotsA_len pm hl).1
  have := x_filtT (K := K) (Q := Q) (σ := [some (.ref p), none]) (i := 1) (tl := fun _ H' R => R (.ref l) H') (tt := tTest (tOp rGeI (tCB (rLenA K) (tCons (tVar 1) tNil)) (tC (.int 3)))) (p := fun l => decide (3 ≤ l.length)) hs2 (fun R h => h) el (tr.mono sb2) (by omega) (fun _ => rfl) (fun _ => rfl) (fun r mr t B3 H3 c acc Qb hs3 sb3 et hq => by
    refine x_test (x_op (x_cb (x_cons (x_var rfl (x_nil ?_)))))
    refine x_lenTS (hs3.up et) (x_c (x_geI (x_exb ?_)))
    rw [show decide ((3 : Int) ≤ ((r.length : Nat) : Int)) = decide (3 ≤ r.length) from decide_eq_decide.mpr (by omega)]
    exact hq) (fun B3 H3 c us sb3 hs3 ty => k B3 H3 c us hs3 ty)
  exact this
theorem use_odd {K : PySem.W.Frag} {S : List Addr} {B0 H0 B H : Hp} {M : List (Addr × HO)} {Q : VK} {E : XK} {p : Addr} {G : Grp} (hs : HS S B0 H0 B H M) (g : GAt K B p G)
    (k : ∀ B' H' l rows, Same B B' → HS S B0 H0 B' H' ((l, .lst rows) :: M) → TRs B' rows (oddA (hfF G.open (sortS G.names)) G.names) → Q (.ref l) H') : sp_odd K [.ref p] H Q E :=
  ⟨p, B, G, rfl, hs.bh, g, fun B' H' l rows c => k B' H' l rows c.bb (hs.callN c)⟩
/-- the first of a lot -/
def hdS (l : List Str) : Str := l.headD ""
def aloneA (x : Str → Str) (xs : List Str) : List Str := ((lotsA x xs).filter fun l => decide (l.length = 1)).map hdS
/-- the first ones of those tuples that a test lets by -/
theorem x_filtH {K : PySem.W.Frag} {S : List Addr} {B0 H0 B H : Hp} {M : List (Addr × HO)} {Q : VK} {σ : L2.St} {i : Nat} {tl : TE} {tt : TT} {l : Addr} {rows : List V} {ks : List (List Str)} {p : List Str → Bool} (hs : HS S B0 H0 B H M) (ev : ∀ R : VK, R (.ref l) H → tl σ H R) (el : B l = some (.lst rows)) (tr : TRs B rows ks) (hne : ∀ k ∈ ks, k ≠ []) (hz : ks.length ≤ 100000) (e2 : ∀ x : Option V, ((wipe σ [i]).set i x)[i]? = some x) (e3 : ∀ x : Option V, wipe ((wipe σ [i]).set i x) [i] = wipe σ [i])
    (ht : ∀ r ∈ ks, ∀ t B1 H1 c acc Qb, HS S B0 H0 B1 H1 ((c, .lst acc) :: M) → Same B B1 → B1 t = some (.tup (r.map V.str)) → Qb (p r) H1 → tt ((wipe σ [i]).set i (some (.ref t))) H1 Qb)
    (k : ∀ B' H' c, Same B B' → HS S B0 H0 B' H' ((c, .lst (((ks.filter p).map hdS).map V.str)) :: M) → Q (.ref c) H') : tLc (iList K tl) (gName i) tt (tOp (rIxT K) (tVar i) (tC (.int 0))) [i] σ H Q := by
  refine x_lc (x_iList (ev _ ⟨l, rfl, ⟨_, SqL.of (hs.up el)⟩, fun c hD => ?_⟩))
  have hrl := tr.len
  refine c_list (α := Unit) (Mf := fun _ => M) (P := fun j _ acc B' => acc = (((ks.take j).filter p).map hdS).map V.str) (s0 := ()) hs hD el rfl (fun j v _ acc B3 H3 hj hacc sb3 hs3 pp => ?_) (fun _ acc B3 H3 sb3 hs3 hacc pp => ?_)
  · obtain ⟨t, r, rfl, hr, et⟩ := (tr.mono sb3).at hj
    have hjl := (List.getElem?_eq_some_iff.mp hj).1
    have mr := List.mem_of_getElem? hr
    refine x_gname ⟨e3 _, ht r mr t B3 H3 c acc _ hs3 sb3 et ?_⟩
    refine x_ite (fun h => ?_) (fun h => ?_)
    · refine x_op (x_var (e2 _) (x_c ?_))
      have hn := hne r mr
      obtain ⟨a, r', rfl⟩ := List.exists_cons_of_ne_nil hn
      refine x_ixT (v := .str a) (SqT.of (hs3.up et)) (atI_natE (i := 0) rfl) ?_
      refine c_keep (s := ()) sb3 hs3 hacc (by omega) ?_
      rw [filter_snoc hr, if_pos h, List.map_append, List.map_append, pp]
      rfl
    · refine c_left (s := ()) sb3 hs3 hacc ?_
      rw [filter_snoc hr, if_neg (by rw [h]; decide), List.append_nil, pp]
  · rw [hrl, List.take_length] at pp
    subst pp
    exact k B3 H3 c sb3 hs3
theorem lotsA_ne' {xs : List Str} {x y : Str → Str} (h : PermF xs x y) (hl : xs.length ≤ 16) : ∀ l ∈ lotsA x xs, l ≠ [] ∧ l.length ≤ 16 := fun l m => lotsA_ne h hl l ((sortT_perm _).mem_iff.mp m)
abbrev N_alone : List Str := ["group", "lot"]
def t_alone (K : PySem.W.Frag) (E : XK) : TS := (tRet (tLc (iList K (tCl (sp_lots K) (WE0 E) (tCons (tVar 0) tNil))) (gName 1) (tTest (tOp rEq (tCB (rLenA K) (tCons (tVar 1) tNil)) (tC (.int 1)))) (tOp (rIxT K) (tVar 1) (tC (.int 0))) [1]))
def sp_alone (K : PySem.W.Frag) : Sp := fun vs H Q E => ∃ (p : Addr) (B : Hp) (G : Grp), vs = [.ref p] ∧ Same B H ∧ GAt K B p G ∧
  ∀ B' H' l, HS [] B H B' H' [(l, .lst ((aloneA (hfF G.open (sortS G.names)) G.names).map V.str))] → Q (.ref l) H'
theorem pure_alone {K : PySem.W.Frag} {vs : List V} {H : Hp} {Q : VK} {E : XK} (h : sp_alone K vs H Q E) : t_alone K E { nx := fun _ H' => Q .non H', rt := Q } (start N_alone vs) H := by
  obtain ⟨p, B, G, rfl, sB, g, k⟩ := h
  have hs := HS.start sB
  have mu := g.2.mut
  have hl := mu.few
  obtain ⟨y, hf, _⟩ := hfF_group mu
  have pm := hf.pm
  show t_alone K E _ [some (.ref p), none] H
  unfold t_alone
  refine x_ret (x_lc (x_iList (x_cl (x_cons (x_var rfl (x_nil ?_))))))
  refine use_lots hs g (fun B1 H1 l rows sb1 hs1 tr => ?_)
  generalize hfF G.open (sortS G.names) = x at tr k pm
  obtain ⟨B2, hs2, sb2, el⟩ := hs1.still0
  have h16 := (lotsA_len pm hl).1
  have := x_filtH (K := K) (Q := Q) (σ := [some (.ref p), none]) (i := 1) (tl := fun _ H' R => R (.ref l) H') (tt := tTest (tOp rEq (tCB (rLenA K) (tCons (tVar 1) tNil)) (tC (.int 1)))) (p := fun l => decide (l.length = 1)) hs2 (fun R h => h) el (tr.mono sb2) (fun k mk => (lotsA_ne' pm hl k mk).1) (by omega) (fun _ => rfl) (fun _ => rfl) (fun r mr t B3 H3 c acc Qb hs3 sb3 et hq => by
    refine x_test (x_op (x_cb (x_cons (x_var rfl (x_nil ?_)))))
    refine x_lenTS (hs3.up et) (x_c (x_eq rfl (x_exb ?_)))
    rw [show decide (V.int ((r.length : Nat) : Int) = V.int 1) = decide (r.length = 1) from decide_eq_decide.mpr ⟨fun z => by injection z with z; omega, fun z => by rw [z]; rfl⟩]
    exact hq) (fun B3 H3 c sb3 hs3 => k B3 H3 c hs3)
  exact this
theorem use_alone {K : PySem.W.Frag} {S : List Addr} {B0 H0 B H : Hp} {M : List (Addr × HO)} {Q : VK} {E : XK} {p : Addr} {G : Grp} (hs : HS S B0 H0 B H M) (g : GAt K B p G)
    (k : ∀ B' H' l, Same B B' → HS S B0 H0 B' H' ((l, .lst ((aloneA (hfF G.open (sortS G.names)) G.names).map V.str)) :: M) → Q (.ref l) H') : sp_alone K [.ref p] H Q E :=
  ⟨p, B, G, rfl, hs.bh, g, fun B' H' l c => k B' H' l c.bb (hs.callN c)⟩
end Q

set_option Elab.async false
set_option linter.all false
set_option maxRecDepth 100000
set_option maxHeartbeats 4000000
namespace Q
open PySem PySem.Spec PyProof.Rows L2
/-! ### the lots of a calm dealing -/
theorem leT_1 {a b : Str} (h : ltS a b) : leT [a] [b] = true := by
  rw [leT_iff]
  unfold lexT
  have hne : ¬ b = a := fun z => (ltS_iff.mp h).2 z.symm
  rw [if_neg hne]
  exact decide_eq_false (not_ltS.mpr (ltS_iff.mp h).1)
theorem sortS_one {a : Str} : sortS [a] = [a] := List.perm_singleton.mp (sortS_perm [a])
theorem ring_one {xs : List Str} {x y : Str → Str} (pm : PermF xs x y) (hl : xs.length ≤ 16) {s : Str} (ms : s ∈ xs) (e : x s = s) : ringL x s = [s] := by
  have o := ring_orb pm hl ms
  have h1 : ¬ 1 < (ringL x s).length := fun h => by
    have h1 : (ringL x s)[1]? = some (x s) := o.at_ 1 h
    rw [e] at h1
    have := nd_at o.nd h1 (o.at_ 0 o.ne)
    omega
  have h0 : (ringL x s)[0]? = some s := o.at_ 0 o.ne
  match hr : ringL x s with
  | [] => rw [hr] at h0; cases h0
  | [a] => rw [hr] at h0; cases h0; rfl
  | a :: b :: l => rw [hr] at h1; exact absurd (by simp) h1
theorem ring_odd1 {xs : List Str} {x y : Str → Str} (pm : PermF xs x y) (hl : xs.length ≤ 16) {s : Str} (ms : s ∈ xs) (e : x (x s) = s) (ho : (ringL x s).length % 2 = 1) : x s = s := by
  have o := ring_orb pm hl ms
  have h2 := ring_inv2 pm hl ms e
  have w : (ringL x s).length = 1 := by omega
  have hx := o.nx
  rw [w] at hx
  have hx : some s = some (x s) := hx
  exact (Option.some.inj hx).symm
/-- the lots, where all rings have one or two -/
theorem lotsA_inv {xs : List Str} {x y : Str → Str} (pm : PermF xs x y) (nd : xs.Nodup) (hl : xs.length ≤ 16) (hi : ∀ a ∈ xs, x (x a) = a) : lotsA x xs = (sortS (xs.filter fun a => decide (x a = a))).map fun a => [a] := by
  have n1 := lots_nd pm hl
  have s0 : ∀ l ∈ ((ringsA x xs).filter oddR).map sortS, l ∈ (xs.filter fun a => decide (x a = a)).map fun a => [a] := fun l ml => by
    obtain ⟨s, ms, rfl, ho⟩ := lotsA_mem pm hl ((sortT_perm _).mem_iff.mpr ml)
    have e := ring_odd1 pm hl ms (hi s ms) ho
    rw [ring_one pm hl ms e]
    refine List.mem_map.mpr ⟨s, List.mem_filter.mpr ⟨ms, decide_eq_true e⟩, ?_⟩
    rw [sortS_one]
  have s1 : ∀ l ∈ (xs.filter fun a => decide (x a = a)).map fun a => [a], l ∈ ((ringsA x xs).filter oddR).map sortS := fun l ml => by
    obtain ⟨a, ma, rfl⟩ := List.mem_map.mp ml
    obtain ⟨ma, e⟩ := List.mem_filter.mp ma
    have e := of_decide_eq_true e
    obtain ⟨r, mr, har⟩ := ringsA_ex pm hl ma
    obtain ⟨s, ms, rfl⟩ := ringsA_of pm hl mr
    have hle := ring_lenEq pm hl ms har
    rw [ring_one pm hl ma e] at hle
    have hre : ringL x s = [a] := by
      match hr : ringL x s with
      | [] => rw [hr] at har; cases har
      | [b] => rw [hr] at har; rw [List.mem_singleton.mp har]
      | b :: c :: l => rw [hr] at hle; simp at hle
    refine List.mem_map.mpr ⟨ringL x s, List.mem_filter.mpr ⟨mr, decide_eq_true ?_⟩, ?_⟩
    · rw [hre]; rfl
    · rw [hre, sortS_one]
  have n2 : ((xs.filter fun a => decide (x a = a)).map fun a => [a]).Nodup := List.pairwise_map.mpr ((nd.filter _).imp fun {a b} ne z => ne (by injection z))
  have pe := perm_of_len n1 s0 (Nat.le_antisymm (nodup_len n2 s1) (nodup_len n1 s0))
  unfold lotsA
  refine List.Perm.eq_of_pairwise (fun _ _ _ _ h1 h2 => leT_anti h1 h2) (sortT_pw _) ?_ (((sortT_perm _).trans pe).trans ((sortS_perm _).symm.map _))
  exact List.pairwise_map.mpr ((sortS_lt (nd.filter _)).imp fun h => leT_1 h)
/-- who is alone, where all rings have one or two -/
theorem aloneA_inv {xs : List Str} {x y : Str → Str} (pm : PermF xs x y) (nd : xs.Nodup) (hl : xs.length ≤ 16) (hi : ∀ a ∈ xs, x (x a) = a) : aloneA x xs = sortS (xs.filter fun a => decide (x a = a)) := by
  unfold aloneA
  rw [lotsA_inv pm nd hl hi]
  generalize sortS (xs.filter fun a => decide (x a = a)) = l
  induction l with
  | nil => rfl
  | cons a l ih =>
    rw [List.map_cons, List.filter_cons_of_pos (by simp), List.map_cons, ih]
    rfl
/-- a search's dealing -/
theorem RepM.deal {xs ks : List Str} {op : Str → List Str} {ds : List (Key × D)} {m : PM} (rm : RepM ds m) (ok : PMOk xs op m) (fl : FullP xs m) (mu : Mut xs op) (hk : ds.map (·.1) = ks.map Sum.inr) (pe : ks.Perm xs) : Deal xs op (.dct ds) := by
  have hv : ∀ {a : Str} {v : Option Str}, m a = some v → vald (.dct ds) a = optD v := fun {a v} e => vald_of (by rw [rm a, e]; rfl)
  refine ⟨?_, fun a ma => ?_⟩
  · unfold sameKeys
    dsimp only
    have := congrArg List.length hk
    rw [List.length_map, List.length_map] at this
    rw [decide_eq_true (by rw [this, pe.length_eq]), Bool.true_and, List.all_eq_true]
    intro a ma
    obtain ⟨v, e⟩ := fl a ma
    rw [rm a, e]
    rfl
  · obtain ⟨v, e⟩ := fl a ma
    rw [hv e]
    cases v with
    | none => exact .inl rfl
    | some b =>
      obtain ⟨z1, z2⟩ := ok.mu2 a b e
      exact .inr ⟨b, rfl, z1, hv z2⟩
theorem RepM.calm {xs ks : List Str} {op : Str → List Str} {ds : List (Key × D)} {m : PM} (rm : RepM ds m) (mm : m ∈ calms xs op) (mu : Mut xs op) (hk : ds.map (·.1) = ks.map Sum.inr) (pe : ks.Perm xs) : isCalm xs op (.dct ds) = true := by
  obtain ⟨ok, fl, hc⟩ := calms_mem mu mm
  unfold isCalm
  rw [isDeal_true.mpr (rm.deal ok fl mu hk pe), quars_calm mu rm ok fl, hc]
  rfl
end Q

set_option Elab.async false
set_option linter.all false
set_option maxRecDepth 100000
set_option maxHeartbeats 4000000
namespace Q
open PySem PySem.Spec PyProof.Rows L2
/-! ### who leaves: one of each odd ring -/
/-- the least of a ring -/
def leastR (z : Str → Str) (a : Str) : Str := hdS (sortS (ringL z a))
/-- the partner, where the least ones of the odd rings leave -/
def mateR (z z' : Str → Str) (a : Str) : Option Str :=
  if z a = a then none else if z (z a) = a then some (z a) else if (ringL z (leastR z a)).idxOf a % 2 = 1 then some (z a) else some (z' a)
def leaveA (z : Str → Str) (xs : List Str) : List Str := sortS ((oddA z xs).map hdS)
section
variable {xs : List Str} {z z' : Str → Str}
theorem at_next (pm : PermF xs z z') (hl : xs.length ≤ 16) {h a : Str} {i : Nat} (mh : h ∈ xs) (hi : (ringL z h)[i]? = some a) (hlt : i + 1 < (ringL z h).length) : (ringL z h)[i + 1]? = some (z a) := by
  have o := ring_orb pm hl mh
  rw [o.at_ (i + 1) hlt]
  rw [o.at_ i (by omega)] at hi
  show (itO (sO z) h i).bind (sO z) = some (z a)
  rw [hi]
  rfl
end
end Q

set_option Elab.async false
set_option linter.all false
set_option maxRecDepth 100000
set_option maxHeartbeats 4000000
namespace Q
open PySem PySem.Spec PyProof.Rows L2
/-! ### two sides -/
theorem bool_ne {a b : Bool} (h : a ≠ b) : a = !b := by cases a <;> cases b <;> first | rfl | exact absurd rfl h
theorem side_id {xs : List Str} {f : Str → List Str} {z z' : Str → Str} {L : List Str} (mu : Mut xs f) (hf : HalfF xs f z z') (hp : ∀ a ∈ xs, z (z a) = a ∨ (ringL z a).length % 2 = 1) (hb : ∀ a ∈ xs, ∀ b ∈ f a, decide (b ∈ L) ≠ decide (a ∈ L)) : ∀ a ∈ xs, z (z a) = a := fun a ma => Classical.byContradiction fun h => by
  have pm := hf.pm
  have hl := mu.few
  have ho := (hp a ma).resolve_left h
  have h3 := ring_not2 pm hl ma h
  have o := ring_orb pm hl ma
  have cr : ∀ {c : Str}, c ∈ ringL z a → decide (z c ∈ L) = !decide (c ∈ L) := fun {c} mc => by
    have mcx := ring_in pm hl ma c mc
    have hle := ring_lenEq pm hl ma mc
    exact bool_ne (hb c mcx (z c) (hf.op c mcx fun e => by rw [ring_one pm hl mcx e] at hle; simp at hle; omega))
  have alt : ∀ i b, (ringL z a)[i]? = some b → decide (b ∈ L) = (if i % 2 = 0 then decide (a ∈ L) else !decide (a ∈ L)) := fun i => by
    induction i with
    | zero =>
      intro b e
      have h0 : (ringL z a)[0]? = some a := o.at_ 0 o.ne
      rw [e] at h0
      rw [Option.some.inj h0]
      rfl
    | succ i ih =>
      intro b e
      have hil := (List.getElem?_eq_some_iff.mp e).1
      obtain ⟨c, hc⟩ : ∃ c, (ringL z a)[i]? = some c := ⟨_, List.getElem?_eq_getElem (by omega)⟩
      have hn := at_next pm hl ma hc hil
      rw [e] at hn
      rw [Option.some.inj hn, cr (List.mem_of_getElem? hc), ih c hc]
      by_cases h2 : i % 2 = 0
      · rw [if_pos h2, if_neg (by omega)]
      · rw [if_neg h2, if_pos (by omega), Bool.not_not]
  obtain ⟨b, hlast⟩ : ∃ b, (ringL z a)[(ringL z a).length - 1]? = some b := ⟨_, List.getElem?_eq_getElem (by omega)⟩
  have e1 := alt _ b hlast
  rw [if_pos (by omega)] at e1
  have hx := o.nx
  rw [show (ringL z a).length = (ringL z a).length - 1 + 1 by omega] at hx
  have hx : some a = (itO (sO z) a ((ringL z a).length - 1)).bind (sO z) := hx
  rw [← o.at_ _ (by omega), hlast] at hx
  have hx : some a = some (z b) := hx
  have e2 := cr (List.mem_of_getElem? hlast)
  rw [← Option.some.inj hx, e1] at e2
  generalize decide (a ∈ L) = q at e2
  cases q <;> cases e2
def rowB (L : List Str) (a : Str) (row : List Str) : Prop := ∀ b ∈ row, decide (b ∈ L) ≠ decide (a ∈ L) ∨ ltS a b
theorem nodup_ins {l : List Str} {i : Nat} {b : Str} (nd : l.Nodup) (h : b ∉ l) : (l.take i ++ [b] ++ l.drop i).Nodup := by
  have pe : (l.take i ++ [b] ++ l.drop i).Perm (b :: l) := by
    rw [List.append_assoc]
    refine List.perm_middle.trans ?_
    show (b :: (l.take i ++ l.drop i)).Perm (b :: l)
    rw [List.take_append_drop]
  exact pe.nodup_iff.mpr (List.nodup_cons.mpr ⟨h, nd⟩)
theorem mem_ins {l : List Str} {i : Nat} {b c : Str} : c ∈ l.take i ++ [b] ++ l.drop i ↔ c = b ∨ c ∈ l := by
  have pe : (l.take i ++ [b] ++ l.drop i).Perm (b :: l) := by
    rw [List.append_assoc]
    refine List.perm_middle.trans ?_
    show (b :: (l.take i ++ l.drop i)).Perm (b :: l)
    rw [List.take_append_drop]
  rw [pe.mem_iff, List.mem_cons]
abbrev N_law : List Str := ["_law_script", "_law_state", "_law_names_here", "_law_order", "_law_left", "_law_wishes", "_law_a", "_law_group", "_law_mutual_here", "_law_x", "_law_side", "_law_row_here", "_law_b"]
def t_law (K : PySem.W.Frag) (E : XK) : TS := (tSeq (tAsg (tCl (sp__law_cell K) (WE0 E) (tCons (tVar 0) (tCons (tC (.int 0)) tNil))) (gName 1))
  (tSeq (tAsg (tCl (sp__law_names K) (WE0 E) (tCons (tVar 1) (tCons (tCl (sp__law_take K) (WE0 E) (tCons (tVar 1) (tCons (tC (.int 17)) tNil))) tNil))) (gName 2))
  (tSeq (tAsg (tCl (sp__law_mixed K) (WE0 E) (tCons (tVar 1) (tCons (tVar 2) tNil))) (gName 3))
  (tSeq (tAsg (tSl (rSlL K) (tVar 3) tNoPart (tPart (tCl (sp__law_take K) (WE0 E) (tCons (tVar 1) (tCons (tOp rAddI (tCB (rLenA K) (tCons (tVar 3) tNil)) (tC (.int 1))) tNil))))) (gName 4))
  (tSeq (tAsg tDNewK (gName 5))
  (tSeq (tFor (iList K (tVar 2)) (gName 6) (tSeq (tAsg (tLc (iList K (tVar 2)) (gName 12) (tTest (tOp rNe (tOp (rIn K false) (tVar 12) (tVar 4)) (tOp (rIn K false) (tVar 6) (tVar 4)))) (tVar 12) [12]) (gName 10))
  (tSeq (tAsg (tCl (sp__law_mixed K) (WE0 E) (tCons (tVar 1) (tCons (tVar 10) tNil))) (gName 11))
  (tSeq (tIfS (tTest (tOp rEq (tCl (sp__law_take K) (WE0 E) (tCons (tVar 1) (tCons (tC (.int 3)) tNil))) (tC (.int 0)))) (tAsg (tSl (rSlL K) (tVar 11) tNoPart (tPart (tCl (sp__law_take K) (WE0 E) (tCons (tVar 1) (tCons (tOp rAddI (tCB (rLenA K) (tCons (tVar 11) tNil)) (tC (.int 1))) tNil))))) (gName 11)) tNext)
  (tSeq (tFor (iList K (tVar 2)) (gName 12) (tIfS (tAnd (tTest (tOp rLtS (tVar 6) (tVar 12))) (tAnd (tTest (tOp (rIn K true) (tVar 12) (tVar 10))) (tTest (tOp rEq (tCl (sp__law_take K) (WE0 E) (tCons (tVar 1) (tCons (tC (.int 5)) tNil))) (tC (.int 0)))))) (tDrop (tBM K "list" rInsert (tVar 11) (tCons (tCl (sp__law_take K) (WE0 E) (tCons (tVar 1) (tCons (tOp rAddI (tCB (rLenA K) (tCons (tVar 11) tNil)) (tC (.int 1))) tNil))) (tCons (tVar 12) tNil)))) tNext))
  (sDPut (tVar 5) (tVar 6) (tVar 11)))))))
  (tSeq (tAsg (tMk (He.ga K "Group") (sp_Group___init__ K) (WE0 E) (tCons (tCB (rTupOf K) (tCons (tVar 2) tNil)) (tCons (tCl (sp__law_copy K) (WE0 E) (tCons (tVar 5) tNil)) tNil))) (gName 7))
  (tSeq (tAsg (tCl (sp__law_mutual K) (WE0 E) (tCons (tVar 2) (tCons (tVar 5) tNil))) (gName 8))
  (tSeq (tAsg (tCl (sp_dealing K) (WE0 E) (tCons (tVar 7) tNil)) (gName 9))
  (tSeq (tIfS (tOr (tNot (tB (tCl (sp__law_row K) (WE0 E) (tCons (tCl (sp_odd K) (WE0 E) (tCons (tVar 7) tNil)) (tCons (tLst tNil) tNil))))) (tNot (tB (tCl (sp__law_is_calm K) (WE0 E) (tCons (tVar 8) (tCons (tVar 9) tNil)))))) (tRet (tC (.bl false))) tNext)
  (tRet (tCl (sp__law_row K) (WE0 E) (tCons (tCl (sp_alone K) (WE0 E) (tCons (tVar 7) tNil)) (tCons (tCB (rSortL K) (tCons (tLc (iList K (tVar 2)) (gName 6) (tB (tIsN (tDGet (tVar 9) (tVar 6)))) (tVar 6) [6]) tNil)) tNil))))))))))))))
theorem pure_law {K : PySem.W.Frag} (gk : GK K) {vs : List V} {H : Hp} {Q : VK} {E : XK} (h : spLaw K vs H Q E) : t_law K E { nx := fun _ H' => Q .non H', rt := Q } (start N_law vs) H := by
  obtain ⟨sc, ns, rfl, _, hS, k⟩ := h
  have hs := HS.start (Same.refl H)
  show t_law K E _ [some (.ref sc), none, none, none, none, none, none, none, none, none, none, none, none] H
  unfold t_law
  refine x_seq (x_asg (x_cl (x_cons (x_var rfl (x_cons (x_c (x_nil ?_)))))))
  refine use_cell (j := 0) hs hS (fun B1 H1 p a1 b1 sb1 hs1 hv1 => ?_)
  refine x_gname ?_
  dsimp only [List.set]
  refine x_seq (x_asg (x_cl (x_cons (x_var rfl (x_cons (x_cl (x_cons (x_var rfl (x_cons (x_c (x_nil ?_)))))))))))
  refine use_take hs1 hv1 (by decide) (by decide) (fun B2 H2 a2 b2 nn sb2 hs2 hv2 hnn => ?_)
  refine x_nil ?_
  refine use_names hs2 hv2 (by omega) (fun B3 H3 a3 b3 n xs sb3 hs3 hv3 hxl hnd hok => ?_)
  obtain ⟨B4, hs4, sb4, en⟩ := hs3.stillN (by simp)
  refine x_gname ?_
  dsimp only [List.set]
  refine x_seq (x_asg (x_cl (x_cons (x_var rfl (x_cons (x_var rfl (x_nil ?_)))))))
  refine use_mixed hs4 hv3 en (by omega) (fun B5 H5 a5 b5 od os sb5 hs5 hv5 peo => ?_)
  obtain ⟨B6, hs6, sb6, eod⟩ := hs5.stillN (by simp)
  have hosl := peo.length_eq
  refine x_gname ?_
  dsimp only [List.set]
  refine x_seq (x_asg (x_sl (x_var rfl (x_noPart (x_part (x_cl (x_cons (x_var rfl (x_cons (x_op (x_cb (x_cons (x_var rfl (x_nil ?_))))))))))))))
  refine x_lenL (SqL.of (hs6.up eod)) (x_c (x_addI ?_))
  refine x_nil ?_
  refine use_take hs6 hv5 (by omega) (by rw [List.length_map]; omega) (fun B7 H7 a7 b7 kk sb7 hs7 hv7 hkk => ?_)
  refine ⟨kk, rfl, ?_⟩
  refine x_slL (SqL.of (hs7.up (sb7 _ _ eod))) ?_
  rw [cutV_toS (i := kk) rfl]
  refine new_F hs7 (fun lf B8 H8 hs8 sb8 elf _ => ?_)
  generalize os.take kk = L at elf
  refine x_gname ?_
  dsimp only [List.set]
  refine x_seq (x_asg (x_dnew ?_))
  refine new_M hs8 (fun w H9 hs9 _ => ?_)
  have hs9 := hs9.swap
  have en8 := (((sb5.trans sb6).trans sb7).trans sb8) _ _ en
  clear hs1 hs2 hs3 hs4 hs5 hs6 hs7 hs8
  refine x_gname ?_
  dsimp only [List.set]
  refine x_seq (x_for (x_iList (x_var rfl ⟨n, rfl, ⟨_, SqL.of (hs9.up en8)⟩, ?_⟩)))
  refine l_list (α := (Int × Int) × List (Key × V) × (Str → List Str) × Option V × Option V × Option V × Option V) (σf := fun y => [some (.ref sc), some (.ref p), some (.ref n), some (.ref od), some (.ref lf), some (.ref w), y.2.2.2.1, none, none, none, y.2.2.2.2.1, y.2.2.2.2.2.1, y.2.2.2.2.2.2]) (Mf := fun y => [(p, stO y.1.1 y.1.2), (w, .dK y.2.1)]) (P := fun i y B' => VSt y.1.1 y.1.2 ∧ WAt B' (xs.take i) y.2.1 y.2.2.1 ∧ ∀ a ∈ xs.take i, RowOk xs a (y.2.2.1 a) ∧ rowB L a (y.2.2.1 a)) (s0 := ((a7, b7), [], fun _ => [], none, none, none, none)) hs9 en8 ⟨hv7, WAt.nil, fun _ m => by cases m⟩ (fun i v y B10 H10 hi sb10 hs10 pp => ?_) (fun y B10 H10 sb10 hs10 pp => ?_)
  · obtain ⟨⟨ya, yb⟩, kvs, ws, y6, y10, y11, y12⟩ := y
    obtain ⟨hv, hwa, hrow⟩ := pp
    dsimp only at hv hwa hrow hs10 ⊢
    obtain ⟨a, ha, rfl⟩ := strs_get hi
    have ma := List.mem_of_getElem? ha
    have nb := notin_take hnd ha
    have hil := (List.getElem?_eq_some_iff.mp ha).1
    have en10 := sb10 _ _ en8
    have elf10 := sb10 _ _ elf
    refine x_gname ?_
    dsimp only [List.set]
    refine x_seq (x_asg ?_)
    refine x_filtM (f := fun b => !decide (decide (b ∈ L) = decide (a ∈ L))) hs10 (fun R hR => x_var rfl hR) en10 (by omega) (fun _ => rfl) (fun _ => rfl) (fun x mx B11 H11 d acc Qb hs11 sb11 hq => ?_) (fun B11 H11 sd hs11 sb11 => ?_)
    · refine x_test (x_op (x_op (x_var rfl (x_var rfl ?_))))
      refine x_inLS (SqL.of (hs11.up (sb11 _ _ elf10))) ?_
      refine x_op (x_var rfl (x_var rfl ?_))
      refine x_inLS (SqL.of (hs11.up (sb11 _ _ elf10))) ?_
      refine x_ne rfl (x_exb ?_)
      have : (!decide (V.bl (decide (x ∈ L)) = V.bl (decide (a ∈ L)))) = !decide (decide (x ∈ L) = decide (a ∈ L)) := by
        congr 1
        exact decide_eq_decide.mpr ⟨fun z => by injection z, fun z => by rw [z]⟩
      rw [this]
      exact hq
    generalize hsd : (xs.filter fun b => !decide (decide (b ∈ L) = decide (a ∈ L))) = side at hs11
    have hside : ∀ b, b ∈ side ↔ b ∈ xs ∧ decide (b ∈ L) ≠ decide (a ∈ L) := fun b => by
      rw [← hsd, List.mem_filter]
      simp
    have hsnd : side.Nodup := by rw [← hsd]; exact hnd.filter _
    have hsl : side.length ≤ 16 := by
      rw [← hsd]
      exact Nat.le_trans (List.length_filter_le _ _) (by omega)
    obtain ⟨B12, hs12, sb12, esd⟩ := hs11.still0
    refine x_gname ?_
    dsimp only [List.set]
    refine x_seq (x_asg (x_cl (x_cons (x_var rfl (x_cons (x_var rfl (x_nil ?_)))))))
    refine use_mixed hs12 hv esd (by omega) (fun B13 H13 a13 b13 rw0 row sb13 hs13 hv13 per => ?_)
    refine x_gname ?_
    dsimp only [List.set]
    have s13 := (sb11.trans sb12).trans sb13
    have esd13 := sb13 _ _ esd
    -- the row may be cut
    let RB : List Str → Prop := fun row => row.Nodup ∧ a ∉ row ∧ (∀ b ∈ row, b ∈ xs) ∧ rowB L a row
    have rb0 : ∀ {row' : List Str}, row'.Sublist row → RB row' := fun {row'} sl => by
      have hm : ∀ b ∈ row', b ∈ side := fun b mb => per.mem_iff.mp (sl.subset mb)
      exact ⟨(per.nodup_iff.mpr hsnd).sublist sl, fun m => ((hside a).mp (hm a m)).2 rfl, fun b mb => ((hside b).mp (hm b mb)).1, fun b mb => .inl ((hside b).mp (hm b mb)).2⟩
    let I1 : L2.St → Hp → Prop := fun σ H' => ∃ (B' : Hp) (a' b' : Int) (ra : Addr) (row' : List Str), HS [] H H B' H' [(p, stO a' b'), (ra, .lst (row'.map V.str)), (w, .dK kvs)] ∧ Same B13 B' ∧ VSt a' b' ∧ RB row' ∧ (∀ b ∈ row', b ∈ side) ∧
      σ = [some (.ref sc), some (.ref p), some (.ref n), some (.ref od), some (.ref lf), some (.ref w), some (.str a), none, none, none, some (.ref sd), some (.ref ra), y12]
    refine x_join (I := I1) ?_ (fun R hR => ?_)
    case refine_2 =>
      refine x_if (x_test (x_op (x_cl (x_cons (x_var rfl (x_cons (x_c (x_nil ?_))))))))
      refine use_take hs13 hv13 (by decide) (by decide) (fun B14 H14 a14 b14 q sb14 hs14 hv14 _ => ?_)
      refine x_c (x_eq rfl (x_exb ?_))
      refine x_ite (fun _ => ?_) (fun _ => ?_)
      · obtain ⟨B15, hs15, sb15, erw⟩ := hs14.stillN (by simp)
        refine x_asg (x_sl (x_var rfl (x_noPart (x_part (x_cl (x_cons (x_var rfl (x_cons (x_op (x_cb (x_cons (x_var rfl (x_nil ?_)))))))))))))
        refine x_lenL (SqL.of (hs15.up erw)) (x_c (x_addI ?_))
        refine x_nil ?_
        have hrl := per.length_eq
        refine use_take hs15 hv14 (by omega) (by rw [List.length_map]; omega) (fun B16 H16 a16 b16 k2 sb16 hs16 hv16 hk2 => ?_)
        refine ⟨k2, rfl, ?_⟩
        refine x_slL (SqL.of (hs16.up (sb16 _ _ erw))) ?_
        rw [cutV_toS (i := k2) rfl]
        refine new_M hs16 (fun ra H17 hs17 _ => ?_)
        refine x_gname (hR _ _ ⟨B16, a16, b16, ra, row.take k2, hs17.swap, (sb14.trans sb15).trans sb16, hv16, rb0 (List.take_sublist _ _), fun b mb => per.mem_iff.mp (List.mem_of_mem_take mb), rfl⟩)
      · refine x_next (hR _ _ ⟨B14, a14, b14, rw0, row, hs14, sb14, hv14, rb0 (List.Sublist.refl _), fun b mb => per.mem_iff.mp mb, rfl⟩)
    clear hs13 hs12 hs11
    rintro σ H14 ⟨B14, a14, b14, ra, row', hs14, sb14, hv14, rb14, hrs14, rfl⟩
    have s14 := s13.trans sb14
    -- further wishes that are not answered
    refine x_seq (x_for (x_iList (x_var rfl ⟨n, rfl, ⟨_, SqL.of (hs14.up (s14 _ _ en10))⟩, ?_⟩)))
    refine l_list (α := (Int × Int) × List Str × Option V) (σf := fun u => [some (.ref sc), some (.ref p), some (.ref n), some (.ref od), some (.ref lf), some (.ref w), some (.str a), none, none, none, some (.ref sd), some (.ref ra), u.2.2]) (Mf := fun u => [(p, stO u.1.1 u.1.2), (ra, .lst (u.2.1.map V.str)), (w, .dK kvs)]) (P := fun j u _ => VSt u.1.1 u.1.2 ∧ RB u.2.1 ∧ (∀ b ∈ u.2.1, b ∈ side ∨ b ∈ xs.take j)) (s0 := ((a14, b14), row', y12)) hs14 (s14 _ _ en10) ⟨hv14, rb14, fun b mb => .inl (hrs14 b mb)⟩ (fun j v u B15 H15 hj sb15 hs15 qq => ?_) (fun u B15 H15 sb15 hs15 qq => ?_)
    · obtain ⟨⟨ua, ub⟩, rw1, u12⟩ := u
      obtain ⟨hvu, rbu, hru⟩ := qq
      dsimp only at hvu rbu hru hs15 ⊢
      obtain ⟨b, hb, rfl⟩ := strs_get hj
      have mb := List.mem_of_getElem? hb
      have nbj := notin_take hnd hb
      have hrl : rw1.length ≤ 16 := Nat.le_trans (nodup_len rbu.1 rbu.2.2.1) (by omega)
      have keep : ∀ c ∈ rw1, c ∈ side ∨ c ∈ xs.take (j + 1) := fun c mc => (hru c mc).imp id fun h => by rw [take_snoc hb]; exact List.mem_append_left _ h
      refine x_gname ?_
      dsimp only [List.set]
      refine x_if (x_and (x_test (x_op (x_var rfl (x_var rfl ?_)))))
      refine x_ltS (x_exb ?_)
      by_cases hlt : ltS a b
      · refine x_iteT (decide_eq_true hlt) ?_
        refine x_and (x_test (x_op (x_var rfl (x_var rfl ?_))))
        refine x_ninLS (SqL.of (hs15.up ((sb14.trans sb15) _ _ esd13))) (x_exb ?_)
        by_cases hbs : b ∈ side
        · refine x_iteF (by simp [hbs]) ?_
          refine x_iteF rfl (x_next ?_)
          exact ⟨((ua, ub), rw1, some _), B15, rfl, sb15, hs15, hvu, rbu, keep⟩
        · refine x_iteT (by simp [hbs]) ?_
          refine x_test (x_op (x_cl (x_cons (x_var rfl (x_cons (x_c (x_nil ?_)))))))
          refine use_take hs15 hvu (by decide) (by decide) (fun B16 H16 a16 b16 q sb16 hs16 hv16 _ => ?_)
          refine x_c (x_eq rfl (x_exb ?_))
          refine x_ite (fun _ => ?_) (fun _ => ?_)
          · refine x_drop (x_bm (x_var rfl ?_))
            refine x_tyL (SqL.of (hs16.get (List.mem_cons_of_mem _ List.mem_cons_self))) (x_cons (x_cl (x_cons (x_var rfl (x_cons (x_op (x_cb (x_cons (x_var rfl (x_nil ?_))))))))))
            refine x_lenL (SqL.of (hs16.get (List.mem_cons_of_mem _ List.mem_cons_self))) (x_c (x_addI ?_))
            refine x_nil ?_
            refine use_take hs16 hv16 (by omega) (by rw [List.length_map]; omega) (fun B17 H17 a17 b17 k2 sb17 hs17 hv17 hk2 => ?_)
            rw [List.length_map] at hk2
            refine x_cons (x_var rfl (x_nil ?_))
            refine x_insert hs17.swap (by rw [List.length_map]; omega) (by rw [List.length_map]; omega) (fun H18 hs18 => ?_)
            have e : (rw1.map V.str).take k2 ++ [V.str b] ++ (rw1.map V.str).drop k2 = (rw1.take k2 ++ [b] ++ rw1.drop k2).map V.str := by rw [List.map_append, List.map_append, List.map_take, List.map_drop]; rfl
            rw [e] at hs18
            have nbr : b ∉ rw1 := fun m => (hru b m).elim hbs nbj
            refine ⟨((a17, b17), rw1.take k2 ++ [b] ++ rw1.drop k2, some _), B17, rfl, (sb15.trans sb16).trans sb17, hs18.swap, hv17, ⟨nodup_ins rbu.1 nbr, fun m => ?_, fun c mc => ?_, fun c mc => ?_⟩, fun c mc => ?_⟩
            · rcases mem_ins.mp m with m | m
              · exact (ltS_iff.mp hlt).2 m
              · exact rbu.2.1 m
            · rcases mem_ins.mp mc with m | m
              · rw [m]; exact mb
              · exact rbu.2.2.1 c m
            · rcases mem_ins.mp mc with m | m
              · rw [m]; exact .inr hlt
              · exact rbu.2.2.2 c m
            · rcases mem_ins.mp mc with m | m
              · rw [m, take_snoc hb]; exact .inr (by simp)
              · exact keep c m
          · refine x_next ?_
            exact ⟨((a16, b16), rw1, some _), B16, rfl, sb15.trans sb16, hs16, hv16, rbu, keep⟩
      · refine x_iteF (decide_eq_false hlt) ?_
        refine x_iteF rfl (x_next ?_)
        exact ⟨((ua, ub), rw1, some _), B15, rfl, sb15, hs15, hvu, rbu, keep⟩
    · obtain ⟨⟨ua, ub⟩, rw1, u12⟩ := u
      obtain ⟨hvu, rbu, _⟩ := qq
      dsimp only at hvu rbu hs15 ⊢
      obtain ⟨B16, hs16, sb16, era⟩ := hs15.stillN (by simp)
      refine x_dputU (x_var rfl (x_var rfl (x_var rfl ?_)))
      have hkl : kvs.length ≤ 16 := by rw [hwa.len, List.length_take]; omega
      refine x_dput hs16.swap (by omega) (fun H17 hs17 => ?_)
      have s16 := (s14.trans sb15).trans sb16
      refine ⟨((ua, ub), _, fun c => if c = a then rw1 else ws c, some _, some _, some _, u12), B16, rfl, sb10.trans s16, hs17.swap, hvu, ?_, fun c mc => ?_⟩
      · dsimp only
        rw [take_snoc ha]
        refine WAt.snoc (ws := fun c => if c = a then rw1 else ws c) ((hwa.mono s16).congr fun c mc => ?_) nb ?_
        · rw [if_neg (fun e => nb (by rw [← e]; exact mc))]
        · rw [if_pos rfl]
          exact era
      · dsimp only
        by_cases e : c = a
        · rw [if_pos e, e]
          exact ⟨⟨rbu.1, rbu.2.1, rbu.2.2.1⟩, rbu.2.2.2⟩
        · rw [if_neg e]
          rw [take_snoc ha] at mc
          exact hrow c ((List.mem_append.mp mc).resolve_right fun w => e (List.mem_singleton.mp w))
  · obtain ⟨⟨ya, yb⟩, kvs, ws, y6, y10, y11, y12⟩ := y
    obtain ⟨hv, hwa, hrow⟩ := pp
    dsimp only at hv hwa hrow hs10 ⊢
    rw [List.length_map, List.take_length] at hwa hrow
    have dr : Drawn xs xs ws := ⟨hnd, hok, List.Perm.refl _, fun a ma => (hrow a ma).1⟩
    have hs10 := hs10.drop
    refine x_seq (x_asg (x_mk (x_cons (x_cb (x_cons (x_var rfl (x_nil ?_)))))))
    refine x_tupL (SqL.of (hs10.up (sb10 _ _ en8))) ?_
    refine new_F hs10 (fun tp B11 H11 hs11 sb11 etp _ => ?_)
    refine x_cons (x_cl (x_cons (x_var rfl (x_nil ?_))))
    refine use_copyF (xs := xs) hs11 (hwa.mono sb11) dr (by omega) (fun B12 H12 c sb12 hs12 rc => ?_)
    obtain ⟨G, hG, hGn, hGw⟩ := drawn_group dr (by omega)
    refine x_nil ?_
    refine use_Group hs12 (rep_names (sb12 _ _ etp) dr.ok) rc (fun G' hG' B13 H13 g sb13 hs13 gat => ?_) (fun i hi => by rw [hG] at hi; cases hi) (fun i hi => by rw [hG] at hi; cases hi)
    rw [hG] at hG'
    cases hG'
    refine x_gname ?_
    dsimp only [List.set]
    have s13 := (sb11.trans sb12).trans sb13
    have en13 := (sb10.trans s13) _ _ en8
    have pr : Pre K B13 n g xs xs kvs ws G := ⟨en13, hwa.mono s13, dr, by omega, gat, hGn, hGw⟩
    obtain ⟨B14, hs14, sb14, ew⟩ := hs13.still0
    have pr := pr.mono sb14
    refine x_seq (x_asg (x_cl (x_cons (x_var rfl (x_cons (x_var rfl (x_nil ?_)))))))
    refine ⟨n, w, xs, xs, kvs, ws, B14, rfl, hs14.bh, pr.en, ew, pr.hw, pr.dr, by omega, fun B15 H15 m kvm c15 hwm => ?_⟩
    have hs15 : HS [] H H B15 H15 [(m, .dK kvm)] := hs14.callN c15
    have pr := pr.mono c15.bb
    have hop : ∀ a ∈ xs, G.open a = opn ws a := fun a ma => pr.open ma
    have hgn := pr.gn
    have gat := pr.gat
    have hwm := hwm.congr fun p mp => (hop p mp).symm
    have hen := pr.en
    have mu := gat.2.mut
    have hcross : ∀ a ∈ xs, ∀ b ∈ G.open a, decide (b ∈ L) ≠ decide (a ∈ L) := fun a ma b mb => by
      rw [hop a ma] at mb
      unfold opn at mb
      obtain ⟨m1, m2⟩ := List.mem_filter.mp mb
      have m2 := of_decide_eq_true m2
      have mbx := (hrow a ma).1.2.2 b m1
      rcases (hrow a ma).2 b m1 with w | w
      · exact w
      · rcases (hrow b mbx).2 a m2 with w2 | w2
        · exact fun e => w2 e.symm
        · exact absurd (leS_anti (ltS_iff.mp w).1 (ltS_iff.mp w2).1) (ltS_iff.mp w).2
    clear hs9 hs10 hs11 hs12 hs13 hs14 hop pr dr
    subst hgn
    have hfew := mu.few
    obtain ⟨z', hf, hpl⟩ := hfF_group mu
    have pm := hf.pm
    refine x_gname ?_
    dsimp only [List.set]
    generalize hz : hfF G.open (sortS G.names) = z at hf hpl pm
    have hid := side_id mu hf hpl hcross
    refine x_seq (x_asg (x_cl (x_cons (x_var rfl (x_nil ?_)))))
    refine use_dealing hs15 gat (fun ⟨a, ma, hne⟩ => by rw [hz] at hne; exact absurd (hid a ma) hne) (fun _ B16 H16 px sb16 hs16 => ?_)
    rw [hz] at hs16
    obtain ⟨B17, hs17, sb17, ex⟩ := hs16.still0
    have s17 := sb16.trans sb17
    refine x_gname ?_
    dsimp only [List.set]
    refine x_seq (x_if (x_or (x_not (x_tB (x_cl (x_cons (x_cl (x_cons (x_var rfl (x_nil ?_))))))))))
    refine use_odd hs17 (gat.mono s17) (fun B18 H18 lo rows sb18 hs18 tr18 => ?_)
    rw [hz, oddA_nil pm hfew hid] at tr18
    cases tr18
    refine x_cons (x_lst (x_nil ?_))
    refine x_newL (by simp) ?_
    refine new_F hs18 (fun el B19 H19 hs19 sb19 eel _ => ?_)
    refine x_nil ?_
    refine row_tups (ks := []) (ls := []) hs19.bh (hs19.get List.mem_cons_self) (hs19.up eel) .nil .nil (fun _ m => by cases m) (fun _ m => by cases m) ?_
    rw [decide_eq_true rfl]
    refine x_exb (x_iteF rfl ?_)
    have hs19 := hs19.drop
    have s1719 := sb18.trans sb19
    have s19 := s17.trans s1719
    refine x_not (x_tB (x_cl (x_cons (x_var rfl (x_cons (x_var rfl (x_nil ?_)))))))
    refine use__law_is_calm hs19 (hs19.mu _ List.mem_cons_self).1 (hs19.get List.mem_cons_self) (hwm.mono s19) mu (.dct (s1719 _ _ ex) (zipO_rep (invO_len mu pm) B19)) ?_ (fun B20 H20 sb20 hs20 => ?_)
    · refine plainV_dct fun q mq => ?_
      obtain ⟨a, _, rfl⟩ := List.mem_map.mp mq
      show (optD (invO z a)).plain = true
      cases invO z a <;> rfl
    rw [inv_calm mu hf hid]
    refine x_exb (x_iteF rfl (x_next ?_))
    dsimp only
    have s1720 := s1719.trans sb20
    have s20 := s17.trans s1720
    refine x_ret (x_cl (x_cons (x_cl (x_cons (x_var rfl (x_nil ?_))))))
    refine use_alone hs20 (gat.mono s20) (fun B21 H21 sg sb21 hs21 => ?_)
    rw [hz] at hs21
    obtain ⟨B22, hs22, sb22, esg⟩ := hs21.still0
    have s1722 := (s1720.trans sb21).trans sb22
    refine x_cons (x_cb (x_cons ?_))
    refine x_filtM (f := fun a => decide (z a = a)) hs22 (fun R hR => x_var rfl hR) ((s17.trans s1722) _ _ hen) (by omega) (fun _ => rfl) (fun _ => rfl) (fun x mx B23 H23 d acc Qb hs23 sb23 hq => ?_) (fun B23 H23 nl hs23 sb23 => ?_)
    · refine x_tB (x_isN (x_dget (x_var rfl (x_var rfl ?_))))
      refine x_dgS (hs23.up ((s1722.trans sb23) _ _ ex)) (zipV_val mx) (x_exb ?_)
      have : decide (oV (invO z) x = .non) = decide (z x = x) := by
        unfold oV invO
        by_cases e : z x = x
        · rw [if_pos e, decide_eq_true e]; rfl
        · rw [if_neg e, decide_eq_false e]; rfl
      rw [this]
      exact hq
    refine x_nil ?_
    refine x_srtL (SqL.of (hs23.get List.mem_cons_self)) (by
      have := List.length_filter_le (fun a => decide (z a = a)) G.names
      omega) ?_
    refine new_F hs23 (fun sl B24 H24 hs24 sb24 esl _ => ?_)
    refine x_nil ?_
    have hal := aloneA_inv pm mu.nd hfew hid
    have hok2 : ∀ a ∈ sortS (G.names.filter fun a => decide (z a = a)), PyData.strOk a = true := fun a ma => okName_strOk (mu.nm a (List.mem_filter.mp (mem_sortS.mp ma)).1)
    refine row_strs hs24.bh (hs24.up ((sb23.trans sb24) _ _ esg)) (hs24.up esl) (by rw [hal]; exact hok2) hok2 ?_
    rw [decide_eq_true hal]
    exact k _
end Q

set_option Elab.async false
set_option linter.all false
set_option maxRecDepth 100000
set_option maxHeartbeats 0
/-! ### each def keeps its promise -/
namespace Hd
open PySem PySem.Spec PyProof.Rows L2 Q
structure Top (K : PySem.W.Frag) (mg : Str → Option Value) : Prop where
  f_abs : mg "abs" = none
  f_dict : mg "dict" = none
  f_enumerate : mg "enumerate" = none
  f_int : mg "int" = none
  f_isinstance : mg "isinstance" = none
  f_len : mg "len" = none
  f_list : mg "list" = none
  f_min : mg "min" = none
  f_range : mg "range" = none
  f_sorted : mg "sorted" = none
  f_str : mg "str" = none
  f_tuple : mg "tuple" = none
  k_LETTERS : ∃ t, mg "LETTERS" = some (.str "abcdefghijklmnopqrstuvwxyz" t)
  k_MOST_PEOPLE : ∃ t, mg "MOST_PEOPLE" = some (.int 16 t)
  g_BadPeople : mg "BadPeople" = some (.ref (He.ga K "BadPeople"))
  g_BadWishes : mg "BadWishes" = some (.ref (He.ga K "BadWishes"))
  g_Group : mg "Group" = some (.ref (He.ga K "Group"))
  g_NoPerson : mg "NoPerson" = some (.ref (He.ga K "NoPerson"))
  g_QuietError : mg "QuietError" = some (.ref (He.ga K "QuietError"))
  g__law_cell : mg "_law_cell" = some (.ref (He.ga K "_law_cell"))
  g__law_copy : mg "_law_copy" = some (.ref (He.ga K "_law_copy"))
  g__law_is_dealing : mg "_law_is_dealing" = some (.ref (He.ga K "_law_is_dealing"))
  g__law_pairs : mg "_law_pairs" = some (.ref (He.ga K "_law_pairs"))
  g__law_rather : mg "_law_rather" = some (.ref (He.ga K "_law_rather"))
  g__law_quarrels : mg "_law_quarrels" = some (.ref (He.ga K "_law_quarrels"))
  g__law_is_calm : mg "_law_is_calm" = some (.ref (He.ga K "_law_is_calm"))
  g__law_take : mg "_law_take" = some (.ref (He.ga K "_law_take"))
  g__law_mixed : mg "_law_mixed" = some (.ref (He.ga K "_law_mixed"))
  g__law_mutual : mg "_law_mutual" = some (.ref (He.ga K "_law_mutual"))
  g__law_name : mg "_law_name" = some (.ref (He.ga K "_law_name"))
  g__law_names : mg "_law_names" = some (.ref (He.ga K "_law_names"))
  g__law_row : mg "_law_row" = some (.ref (He.ga K "_law_row"))
  g_ask_all : mg "ask_all" = some (.ref (He.ga K "ask_all"))
  g_cycle_from : mg "cycle_from" = some (.ref (He.ga K "cycle_from"))
  g_in_order : mg "in_order" = some (.ref (He.ga K "in_order"))
  g_lower : mg "lower" = some (.ref (He.ga K "lower"))
  g_passed_on : mg "passed_on" = some (.ref (He.ga K "passed_on"))
  g_rings_of : mg "rings_of" = some (.ref (He.ga K "rings_of"))
  g_plain : mg "plain" = some (.ref (He.ga K "plain"))
  g_find_half : mg "find_half" = some (.ref (He.ga K "find_half"))
  g_lots : mg "lots" = some (.ref (He.ga K "lots"))
  g_alone : mg "alone" = some (.ref (He.ga K "alone"))
  g_dealing : mg "dealing" = some (.ref (He.ga K "dealing"))
  g_odd : mg "odd" = some (.ref (He.ga K "odd"))
  g_is_name : mg "is_name" = some (.ref (He.ga K "is_name"))
  g_check_people : mg "check_people" = some (.ref (He.ga K "check_people"))
  g_fits_wishes : mg "fits_wishes" = some (.ref (He.ga K "fits_wishes"))
  g_same_keys : mg "same_keys" = some (.ref (He.ga K "same_keys"))
  g_check_wishes : mg "check_wishes" = some (.ref (He.ga K "check_wishes"))
  g_law : mg "law" = some (.ref (He.ga K "law"))
  qi : qInitB K "QuietError" = true
  na_BadPeople_index : PySem.W.findIn K (.ref (He.ga K "BadPeople")) "index" = some none
  na_BadWishes_person : PySem.W.findIn K (.ref (He.ga K "BadWishes")) "person" = some none
  na_NoPerson_value : PySem.W.findIn K (.ref (He.ga K "NoPerson")) "value" = some none
  ox_BadPeople : OexC K (He.ga K "BadPeople")
  mi_BadPeople : Meth K (He.ga K "BadPeople") "__init__" (He.ma K (He.ga K "BadPeople") "__init__")
  ti_BadPeople : PySem.W.typeIn K (.ref (He.ma K (He.ga K "BadPeople") "__init__")) = some (.type "function")
  ox_BadWishes : OexC K (He.ga K "BadWishes")
  mi_BadWishes : Meth K (He.ga K "BadWishes") "__init__" (He.ma K (He.ga K "BadWishes") "__init__")
  ti_BadWishes : PySem.W.typeIn K (.ref (He.ma K (He.ga K "BadWishes") "__init__")) = some (.type "function")
  ox_NoPerson : OexC K (He.ga K "NoPerson")
  mi_NoPerson : Meth K (He.ga K "NoPerson") "__init__" (He.ma K (He.ga K "NoPerson") "__init__")
  ti_NoPerson : PySem.W.typeIn K (.ref (He.ma K (He.ga K "NoPerson") "__init__")) = some (.type "function")
  me_Group_check : Meth K (He.ga K "Group") "check" (He.ma K (He.ga K "Group") "check")
  me_Group_open_to : Meth K (He.ga K "Group") "open_to" (He.ma K (He.ga K "Group") "open_to")
  me_Group_people : Meth K (He.ga K "Group") "people" (He.ma K (He.ga K "Group") "people")
  mk_Group : Mk K (He.ga K "Group") (He.ma K (He.ga K "Group") "__init__")
  gk : GK K
section
variable {P : Program} {w : World} {K : PySem.W.Frag} {mg : Str → Option Value} {base : Heap} {f : Addr} {fd : FuncData}
abbrev n__law_cell : List Str := ["_law_script", "_law_k", "_law_number", "_law_seed"]
theorem sc__law_cell : FnScope n__law_cell ["_law_script", "_law_k"] (defScope s__law_cell) := ⟨rfl, rfl, rfl, by decide +kernel, rfl, by decide +kernel, by decide +kernel⟩
theorem ok__law_cell (T : Top K mg)  (F : FunD K "_law_cell" "_law_cell" (defArgs s__law_cell) (defBody s__law_cell) (defScope s__law_cell) [] [] f fd) : FnOk P w K mg base (L2.CX P w) 1 f fd ["_law_script", "_law_k"] (sp__law_cell K) := by
  have sc := sc__law_cell
  refine F.ok sc (fun vs H Q E h => ?_) (fun cdv A outer s H vs Q E hr h => ⟨t__law_cell K E, ?_, pure__law_cell h⟩)
  · first | (obtain ⟨rfl, _⟩ := h; rfl) | (obtain ⟨_, rfl, _⟩ := h; rfl) | (obtain ⟨_, _, rfl, _⟩ := h; rfl) | (obtain ⟨_, _, _, rfl, _⟩ := h; rfl) | (obtain ⟨_, _, _, _, rfl, _⟩ := h; rfl) | (obtain ⟨_, _, _, _, _, rfl, _⟩ := h; rfl) | (obtain ⟨_, _, _, _, _, _, rfl, _⟩ := h; rfl) | (obtain ⟨_, _, _, _, _, _, _, rfl, _⟩ := h; rfl) | (obtain ⟨_, _, _, _, _, _, _, _, rfl, _⟩ := h; rfl) | (obtain ⟨_, _, _, _, _, _, _, _, _, rfl, _⟩ := h; rfl) | (obtain ⟨_, _, _, _, _, _, _, _, _, _, rfl, _⟩ := h; rfl) | (obtain ⟨_, _, _, _, _, _, _, _, _, _, _, rfl, _⟩ := h; rfl) | (obtain ⟨_, _, _, _, _, _, _, _, _, _, _, _, rfl, _⟩ := h; rfl) | (obtain ⟨_, _, _, _, _, _, _, _, _, _, _, _, _, rfl, _⟩ := h; rfl) | (obtain ⟨_, _, _, _, _, _, _, _, _, _, _, _, _, _, rfl, _⟩ := h; rfl) | (obtain ⟨_, _, _, _, _, _, _, _, _, _, _, _, _, _, _, rfl, _⟩ := h; rfl) | (obtain ⟨_, _, _, _, _, _, _, _, _, _, _, _, _, _, _, _, rfl, _⟩ := h; rfl) | (obtain ⟨_, _, _, _, _, _, _, _, _, _, _, _, _, _, _, _, _, rfl, _⟩ := h; rfl)
  · have tk : Takes (cxOf (L2.CX P w) P w K mg base n__law_cell "_law_cell" (defScope s__law_cell) f cdv A outer s H E) (WE0 E) := takes_of rfl rfl rfl rfl
    have po : PassesOwn (model P w) (cxOf (L2.CX P w) P w K mg base n__law_cell "_law_cell" (defScope s__law_cell) f cdv A outer s H E).A (cxOf (L2.CX P w) P w K mg base n__law_cell "_law_cell" (defScope s__law_cell) f cdv A outer s H E).env (cxOf (L2.CX P w) P w K mg base n__law_cell "_law_cell" (defScope s__law_cell) f cdv A outer s H E).xe := passes_of rfl
    exact (pss_cons (ps_set (i := 2) sc.nd rfl (by first | exact Or.inl rfl | exact Or.inr rfl) pe_int)
      (pss_cons (ps_if (pt_cmpR oLtI (pv 1) (pe_callB cLenA (by rfl) T.f_len PySem.boot_len (pa_cons (pv 0) pa_nil)) (nomark _)) (pss_one (ps_set (i := 2) sc.nd rfl (by first | exact Or.inl rfl | exact Or.inr rfl) (pe_callB cAbs (by rfl) T.f_abs (by decide +kernel) (pa_cons (pe_ix ix_list (pv 0) (pv 1) (fun _ _ => rfl)) pa_nil)))) pss_nil)
      (pss_cons (ps_set (i := 3) sc.nd rfl (by first | exact Or.inl rfl | exact Or.inr rfl) (pe_op oModI (pe_callTy cInt1 (by rfl) T.f_int (by decide +kernel) (pa_cons (pe_op oAddI (pe_op oAddI (pe_op oAddI (pv 2) (pe_op oMulI pe_int (pv 1))) (pe_op oMulI pe_int (pe_callB (cMin2 rfl) (by rfl) T.f_min (by decide +kernel) (pa_cons (pe_callB cLenA (by rfl) T.f_len PySem.boot_len (pa_cons (pv 0) pa_nil)) (pa_cons pe_int pa_nil))))) pe_int) pa_nil)) pe_int))
      (pss_cons (ps_set (i := 3) sc.nd rfl (by first | exact Or.inl rfl | exact Or.inr rfl) (pe_op oModI (pe_callTy cInt1 (by rfl) T.f_int (by decide +kernel) (pa_cons (pe_op oAddI (pe_op oAddI (pe_op oMulI (pe_op oMulI (pv 3) (pv 3)) (pv 3)) (pe_op oMulI pe_int (pv 3))) pe_int) pa_nil)) pe_int))
      (pss_cons (ps_if (pt_cmpR oLtI (pv 2) (pe_op oPowI pe_int pe_int) (nomark _)) (pss_one (ps_ret (pe_lst (pa_cons pe_int (pa_cons (pv 3) pa_nil))))) pss_nil)
      (pss_one (ps_ret (pe_lst (pa_cons (pv 2) (pa_cons (pv 3) pa_nil))))))))))
abbrev n__law_copy : List Str := ["_law_wishes", "_law_copy_here", "_law_a"]
theorem sc__law_copy : FnScope n__law_copy ["_law_wishes"] (defScope s__law_copy) := ⟨rfl, rfl, rfl, by decide +kernel, rfl, by decide +kernel, by decide +kernel⟩
theorem ok__law_copy (T : Top K mg)  (F : FunD K "_law_copy" "_law_copy" (defArgs s__law_copy) (defBody s__law_copy) (defScope s__law_copy) [] [] f fd) : FnOk P w K mg base (L2.CX P w) 1 f fd ["_law_wishes"] (sp__law_copy K) := by
  have sc := sc__law_copy
  refine F.ok sc (fun vs H Q E h => ?_) (fun cdv A outer s H vs Q E hr h => ⟨t__law_copy K E, ?_, pure__law_copy h⟩)
  · first | (obtain ⟨rfl, _⟩ := h; rfl) | (obtain ⟨_, rfl, _⟩ := h; rfl) | (obtain ⟨_, _, rfl, _⟩ := h; rfl) | (obtain ⟨_, _, _, rfl, _⟩ := h; rfl) | (obtain ⟨_, _, _, _, rfl, _⟩ := h; rfl) | (obtain ⟨_, _, _, _, _, rfl, _⟩ := h; rfl) | (obtain ⟨_, _, _, _, _, _, rfl, _⟩ := h; rfl) | (obtain ⟨_, _, _, _, _, _, _, rfl, _⟩ := h; rfl) | (obtain ⟨_, _, _, _, _, _, _, _, rfl, _⟩ := h; rfl) | (obtain ⟨_, _, _, _, _, _, _, _, _, rfl, _⟩ := h; rfl) | (obtain ⟨_, _, _, _, _, _, _, _, _, _, rfl, _⟩ := h; rfl) | (obtain ⟨_, _, _, _, _, _, _, _, _, _, _, rfl, _⟩ := h; rfl) | (obtain ⟨_, _, _, _, _, _, _, _, _, _, _, _, rfl, _⟩ := h; rfl) | (obtain ⟨_, _, _, _, _, _, _, _, _, _, _, _, _, rfl, _⟩ := h; rfl) | (obtain ⟨_, _, _, _, _, _, _, _, _, _, _, _, _, _, rfl, _⟩ := h; rfl) | (obtain ⟨_, _, _, _, _, _, _, _, _, _, _, _, _, _, _, rfl, _⟩ := h; rfl) | (obtain ⟨_, _, _, _, _, _, _, _, _, _, _, _, _, _, _, _, rfl, _⟩ := h; rfl) | (obtain ⟨_, _, _, _, _, _, _, _, _, _, _, _, _, _, _, _, _, rfl, _⟩ := h; rfl)
  · have tk : Takes (cxOf (L2.CX P w) P w K mg base n__law_copy "_law_copy" (defScope s__law_copy) f cdv A outer s H E) (WE0 E) := takes_of rfl rfl rfl rfl
    have po : PassesOwn (model P w) (cxOf (L2.CX P w) P w K mg base n__law_copy "_law_copy" (defScope s__law_copy) f cdv A outer s H E).A (cxOf (L2.CX P w) P w K mg base n__law_copy "_law_copy" (defScope s__law_copy) f cdv A outer s H E).env (cxOf (L2.CX P w) P w K mg base n__law_copy "_law_copy" (defScope s__law_copy) f cdv A outer s H E).xe := passes_of rfl
    exact (pss_cons (ps_set (i := 1) sc.nd rfl (by first | exact Or.inl rfl | exact Or.inr rfl) pe_dnewK)
      (pss_cons (ps_lock (ps_for po rfl (pi_keys (pv 0)) (pg_name (i := 2) sc.nd rfl (by first | exact Or.inl rfl | exact Or.inr rfl)) (pss_one (ps_dput (hu_of hr) (pv 1) (pv 2) (pe_callTy cListOf (by rfl) T.f_list (by decide +kernel) (pa_cons (pe_dget (hu_of hr) (pv 0) (pv 2) (fun _ _ => rfl)) pa_nil)) rfl))))
      (pss_one (ps_ret (pv 1)))))
abbrev n__law_is_dealing : List Str := ["_law_mutual_here", "_law_x", "_law_a"]
theorem sc__law_is_dealing : FnScope n__law_is_dealing ["_law_mutual_here", "_law_x"] (defScope s__law_is_dealing) := ⟨rfl, rfl, rfl, by decide +kernel, rfl, by decide +kernel, by decide +kernel⟩
theorem ok__law_is_dealing (T : Top K mg)  (F : FunD K "_law_is_dealing" "_law_is_dealing" (defArgs s__law_is_dealing) (defBody s__law_is_dealing) (defScope s__law_is_dealing) [] [] f fd) : FnOk P w K mg base (L2.CX P w) 1 f fd ["_law_mutual_here", "_law_x"] (sp__law_is_dealing K) := by
  have sc := sc__law_is_dealing
  refine F.ok sc (fun vs H Q E h => ?_) (fun cdv A outer s H vs Q E hr h => ⟨t__law_is_dealing K E, ?_, pure__law_is_dealing h⟩)
  · first | (obtain ⟨rfl, _⟩ := h; rfl) | (obtain ⟨_, rfl, _⟩ := h; rfl) | (obtain ⟨_, _, rfl, _⟩ := h; rfl) | (obtain ⟨_, _, _, rfl, _⟩ := h; rfl) | (obtain ⟨_, _, _, _, rfl, _⟩ := h; rfl) | (obtain ⟨_, _, _, _, _, rfl, _⟩ := h; rfl) | (obtain ⟨_, _, _, _, _, _, rfl, _⟩ := h; rfl) | (obtain ⟨_, _, _, _, _, _, _, rfl, _⟩ := h; rfl) | (obtain ⟨_, _, _, _, _, _, _, _, rfl, _⟩ := h; rfl) | (obtain ⟨_, _, _, _, _, _, _, _, _, rfl, _⟩ := h; rfl) | (obtain ⟨_, _, _, _, _, _, _, _, _, _, rfl, _⟩ := h; rfl) | (obtain ⟨_, _, _, _, _, _, _, _, _, _, _, rfl, _⟩ := h; rfl) | (obtain ⟨_, _, _, _, _, _, _, _, _, _, _, _, rfl, _⟩ := h; rfl) | (obtain ⟨_, _, _, _, _, _, _, _, _, _, _, _, _, rfl, _⟩ := h; rfl) | (obtain ⟨_, _, _, _, _, _, _, _, _, _, _, _, _, _, rfl, _⟩ := h; rfl) | (obtain ⟨_, _, _, _, _, _, _, _, _, _, _, _, _, _, _, rfl, _⟩ := h; rfl) | (obtain ⟨_, _, _, _, _, _, _, _, _, _, _, _, _, _, _, _, rfl, _⟩ := h; rfl) | (obtain ⟨_, _, _, _, _, _, _, _, _, _, _, _, _, _, _, _, _, rfl, _⟩ := h; rfl)
  · have tk : Takes (cxOf (L2.CX P w) P w K mg base n__law_is_dealing "_law_is_dealing" (defScope s__law_is_dealing) f cdv A outer s H E) (WE0 E) := takes_of rfl rfl rfl rfl
    have po : PassesOwn (model P w) (cxOf (L2.CX P w) P w K mg base n__law_is_dealing "_law_is_dealing" (defScope s__law_is_dealing) f cdv A outer s H E).A (cxOf (L2.CX P w) P w K mg base n__law_is_dealing "_law_is_dealing" (defScope s__law_is_dealing) f cdv A outer s H E).env (cxOf (L2.CX P w) P w K mg base n__law_is_dealing "_law_is_dealing" (defScope s__law_is_dealing) f cdv A outer s H E).xe := passes_of rfl
    exact (pss_cons (ps_if (PW.pt (pw_or (pt_not (pt_val (pe_callB call_isi (by rfl) T.f_isinstance (by decide +kernel) (pa_cons (pv 1) (pa_cons (pe_bltn (v := .ty "dict") rfl T.f_dict (by decide +kernel) rfl) pa_nil))))) (pw_or1 (pt_cmpR op_ne (pe_callB cLenD (by rfl) T.f_len PySem.boot_len (pa_cons (pv 1) pa_nil)) (pe_callB cLenD (by rfl) T.f_len PySem.boot_len (pa_cons (pv 0) pa_nil)) (nomark _))))) (pss_one (ps_ret pe_bl)) pss_nil)
      (pss_cons (ps_lock (ps_for po rfl (pi_keys (pv 0)) (pg_name (i := 2) sc.nd rfl (by first | exact Or.inl rfl | exact Or.inr rfl)) (pss_one (ps_if (pt_cmp (pc_dnotin (hu_of hr) (pv 2) (pv 1))) (pss_one (ps_ret pe_bl)) pss_nil))))
      (pss_cons (ps_lock (ps_for po rfl (pi_keys (pv 0)) (pg_name (i := 2) sc.nd rfl (by first | exact Or.inl rfl | exact Or.inr rfl)) (pss_one (ps_if (pt_cmp (pc_notN (pe_dget (hu_of hr) (pv 1) (pv 2) (fun _ _ => rfl)))) (pss_one (ps_if (PW.pt (pw_or (pt_not (pt_val (pe_callB call_isi (by rfl) T.f_isinstance (by decide +kernel) (pa_cons (pe_dget (hu_of hr) (pv 1) (pv 2) (fun _ _ => rfl)) (pa_cons (pe_bltn (v := .ty "str") rfl T.f_str (by decide +kernel) rfl) pa_nil))))) (pw_or (pt_cmpR op_notIn_seq (pe_dget (hu_of hr) (pv 1) (pv 2) (fun _ _ => rfl)) (pe_dget (hu_of hr) (pv 0) (pv 2) (fun _ _ => rfl)) (by rfl)) (pw_or1 (pt_cmpR (op_neX hr.units) (pe_dget (hu_of hr) (pv 1) (pe_dget (hu_of hr) (pv 1) (pv 2) (fun _ _ => rfl)) (fun _ _ => rfl)) (pv 2) (nomark _)))))) (pss_one (ps_ret pe_bl)) pss_nil)) pss_nil))))
      (pss_one (ps_ret pe_bl)))))
abbrev n__law_pairs : List Str := ["_law_mutual_here", "_law_rows", "_law_a", "_law_b"]
theorem sc__law_pairs : FnScope n__law_pairs ["_law_mutual_here"] (defScope s__law_pairs) := ⟨rfl, rfl, rfl, by decide +kernel, rfl, by decide +kernel, by decide +kernel⟩
theorem ok__law_pairs (T : Top K mg)  (F : FunD K "_law_pairs" "_law_pairs" (defArgs s__law_pairs) (defBody s__law_pairs) (defScope s__law_pairs) [] [] f fd) : FnOk P w K mg base (L2.CX P w) 1 f fd ["_law_mutual_here"] (sp__law_pairs K) := by
  have sc := sc__law_pairs
  refine F.ok sc (fun vs H Q E h => ?_) (fun cdv A outer s H vs Q E hr h => ⟨t__law_pairs K E, ?_, pure__law_pairs h⟩)
  · first | (obtain ⟨rfl, _⟩ := h; rfl) | (obtain ⟨_, rfl, _⟩ := h; rfl) | (obtain ⟨_, _, rfl, _⟩ := h; rfl) | (obtain ⟨_, _, _, rfl, _⟩ := h; rfl) | (obtain ⟨_, _, _, _, rfl, _⟩ := h; rfl) | (obtain ⟨_, _, _, _, _, rfl, _⟩ := h; rfl) | (obtain ⟨_, _, _, _, _, _, rfl, _⟩ := h; rfl) | (obtain ⟨_, _, _, _, _, _, _, rfl, _⟩ := h; rfl) | (obtain ⟨_, _, _, _, _, _, _, _, rfl, _⟩ := h; rfl) | (obtain ⟨_, _, _, _, _, _, _, _, _, rfl, _⟩ := h; rfl) | (obtain ⟨_, _, _, _, _, _, _, _, _, _, rfl, _⟩ := h; rfl) | (obtain ⟨_, _, _, _, _, _, _, _, _, _, _, rfl, _⟩ := h; rfl) | (obtain ⟨_, _, _, _, _, _, _, _, _, _, _, _, rfl, _⟩ := h; rfl) | (obtain ⟨_, _, _, _, _, _, _, _, _, _, _, _, _, rfl, _⟩ := h; rfl) | (obtain ⟨_, _, _, _, _, _, _, _, _, _, _, _, _, _, rfl, _⟩ := h; rfl) | (obtain ⟨_, _, _, _, _, _, _, _, _, _, _, _, _, _, _, rfl, _⟩ := h; rfl) | (obtain ⟨_, _, _, _, _, _, _, _, _, _, _, _, _, _, _, _, rfl, _⟩ := h; rfl) | (obtain ⟨_, _, _, _, _, _, _, _, _, _, _, _, _, _, _, _, _, rfl, _⟩ := h; rfl)
  · have tk : Takes (cxOf (L2.CX P w) P w K mg base n__law_pairs "_law_pairs" (defScope s__law_pairs) f cdv A outer s H E) (WE0 E) := takes_of rfl rfl rfl rfl
    have po : PassesOwn (model P w) (cxOf (L2.CX P w) P w K mg base n__law_pairs "_law_pairs" (defScope s__law_pairs) f cdv A outer s H E).A (cxOf (L2.CX P w) P w K mg base n__law_pairs "_law_pairs" (defScope s__law_pairs) f cdv A outer s H E).env (cxOf (L2.CX P w) P w K mg base n__law_pairs "_law_pairs" (defScope s__law_pairs) f cdv A outer s H E).xe := passes_of rfl
    exact (pss_cons (ps_set (i := 1) sc.nd rfl (by first | exact Or.inl rfl | exact Or.inr rfl) (pe_lst pa_nil))
      (pss_cons (ps_for po rfl (pi_list (pe_callB cSortL (by rfl) T.f_sorted (by decide +kernel) (pa_cons (pe_callTy (call_list_dK rfl) (by rfl) T.f_list (by decide +kernel) (pa_cons (pv 0) pa_nil)) pa_nil))) (pg_name (i := 2) sc.nd rfl (by first | exact Or.inl rfl | exact Or.inr rfl)) (pss_one (ps_for po rfl (pi_list (pe_callB cSortL (by rfl) T.f_sorted (by decide +kernel) (pa_cons (pe_dget (hu_of hr) (pv 0) (pv 2) (fun _ _ => rfl)) pa_nil))) (pg_name (i := 3) sc.nd rfl (by first | exact Or.inl rfl | exact Or.inr rfl)) (pss_one (ps_if (pt_cmpR oLtS (pv 2) (pv 3) (nomark _)) (pss_one (ps_expr (pe_bm PySem.F.plainAttrs_list PySem.F.slot_list_append PySem.F.type_list_append mt_append (pv 1) (pa_cons (pe_tup (pa_cons (pv 2) (pa_cons (pv 3) pa_nil))) pa_nil)))) pss_nil)))))
      (pss_one (ps_ret (pv 1)))))
abbrev n__law_rather : List Str := ["_law_mutual_here", "_law_a", "_law_b", "_law_held"]
theorem sc__law_rather : FnScope n__law_rather ["_law_mutual_here", "_law_a", "_law_b", "_law_held"] (defScope s__law_rather) := ⟨rfl, rfl, rfl, by decide +kernel, rfl, by decide +kernel, by decide +kernel⟩
theorem ok__law_rather (T : Top K mg)  (F : FunD K "_law_rather" "_law_rather" (defArgs s__law_rather) (defBody s__law_rather) (defScope s__law_rather) [] [] f fd) : FnOk P w K mg base (L2.CX P w) 1 f fd ["_law_mutual_here", "_law_a", "_law_b", "_law_held"] (sp__law_rather K) := by
  have sc := sc__law_rather
  refine F.ok sc (fun vs H Q E h => ?_) (fun cdv A outer s H vs Q E hr h => ⟨t__law_rather K E, ?_, pure__law_rather h⟩)
  · first | (obtain ⟨rfl, _⟩ := h; rfl) | (obtain ⟨_, rfl, _⟩ := h; rfl) | (obtain ⟨_, _, rfl, _⟩ := h; rfl) | (obtain ⟨_, _, _, rfl, _⟩ := h; rfl) | (obtain ⟨_, _, _, _, rfl, _⟩ := h; rfl) | (obtain ⟨_, _, _, _, _, rfl, _⟩ := h; rfl) | (obtain ⟨_, _, _, _, _, _, rfl, _⟩ := h; rfl) | (obtain ⟨_, _, _, _, _, _, _, rfl, _⟩ := h; rfl) | (obtain ⟨_, _, _, _, _, _, _, _, rfl, _⟩ := h; rfl) | (obtain ⟨_, _, _, _, _, _, _, _, _, rfl, _⟩ := h; rfl) | (obtain ⟨_, _, _, _, _, _, _, _, _, _, rfl, _⟩ := h; rfl) | (obtain ⟨_, _, _, _, _, _, _, _, _, _, _, rfl, _⟩ := h; rfl) | (obtain ⟨_, _, _, _, _, _, _, _, _, _, _, _, rfl, _⟩ := h; rfl) | (obtain ⟨_, _, _, _, _, _, _, _, _, _, _, _, _, rfl, _⟩ := h; rfl) | (obtain ⟨_, _, _, _, _, _, _, _, _, _, _, _, _, _, rfl, _⟩ := h; rfl) | (obtain ⟨_, _, _, _, _, _, _, _, _, _, _, _, _, _, _, rfl, _⟩ := h; rfl) | (obtain ⟨_, _, _, _, _, _, _, _, _, _, _, _, _, _, _, _, rfl, _⟩ := h; rfl) | (obtain ⟨_, _, _, _, _, _, _, _, _, _, _, _, _, _, _, _, _, rfl, _⟩ := h; rfl)
  · have tk : Takes (cxOf (L2.CX P w) P w K mg base n__law_rather "_law_rather" (defScope s__law_rather) f cdv A outer s H E) (WE0 E) := takes_of rfl rfl rfl rfl
    have po : PassesOwn (model P w) (cxOf (L2.CX P w) P w K mg base n__law_rather "_law_rather" (defScope s__law_rather) f cdv A outer s H E).A (cxOf (L2.CX P w) P w K mg base n__law_rather "_law_rather" (defScope s__law_rather) f cdv A outer s H E).env (cxOf (L2.CX P w) P w K mg base n__law_rather "_law_rather" (defScope s__law_rather) f cdv A outer s H E).xe := passes_of rfl
    exact (pss_one (ps_ret (pe_or (pe_cmp (pc_isN (pv 3))) (pe_one (pe_cmpR oLtI (pe_bm PySem.F.plainAttrs_list PySem.F.slot_list_index PySem.F.type_list_index mt_index (pe_dget (hu_of hr) (pv 0) (pv 1) (fun _ _ => rfl)) (pa_cons (pv 2) pa_nil)) (pe_bm PySem.F.plainAttrs_list PySem.F.slot_list_index PySem.F.type_list_index mt_index (pe_dget (hu_of hr) (pv 0) (pv 1) (fun _ _ => rfl)) (pa_cons (pv 3) pa_nil)) (nomark _))))))
abbrev n__law_quarrels : List Str := ["_law_mutual_here", "_law_x", "_law_rows", "_law_pair", "_law_a", "_law_b"]
theorem sc__law_quarrels : FnScope n__law_quarrels ["_law_mutual_here", "_law_x"] (defScope s__law_quarrels) := ⟨rfl, rfl, rfl, by decide +kernel, rfl, by decide +kernel, by decide +kernel⟩
theorem ok__law_quarrels (T : Top K mg) (F__law_pairs : Fn P w K mg base 1 "_law_pairs" ["_law_mutual_here"] (sp__law_pairs K)) (F__law_rather : Fn P w K mg base 1 "_law_rather" ["_law_mutual_here", "_law_a", "_law_b", "_law_held"] (sp__law_rather K)) (F : FunD K "_law_quarrels" "_law_quarrels" (defArgs s__law_quarrels) (defBody s__law_quarrels) (defScope s__law_quarrels) [] [] f fd) : FnOk P w K mg base (L2.CX P w) 2 f fd ["_law_mutual_here", "_law_x"] (sp__law_quarrels K) := by
  have sc := sc__law_quarrels
  refine F.ok sc (fun vs H Q E h => ?_) (fun cdv A outer s H vs Q E hr h => ⟨t__law_quarrels K E, ?_, pure__law_quarrels h⟩)
  · first | (obtain ⟨rfl, _⟩ := h; rfl) | (obtain ⟨_, rfl, _⟩ := h; rfl) | (obtain ⟨_, _, rfl, _⟩ := h; rfl) | (obtain ⟨_, _, _, rfl, _⟩ := h; rfl) | (obtain ⟨_, _, _, _, rfl, _⟩ := h; rfl) | (obtain ⟨_, _, _, _, _, rfl, _⟩ := h; rfl) | (obtain ⟨_, _, _, _, _, _, rfl, _⟩ := h; rfl) | (obtain ⟨_, _, _, _, _, _, _, rfl, _⟩ := h; rfl) | (obtain ⟨_, _, _, _, _, _, _, _, rfl, _⟩ := h; rfl) | (obtain ⟨_, _, _, _, _, _, _, _, _, rfl, _⟩ := h; rfl) | (obtain ⟨_, _, _, _, _, _, _, _, _, _, rfl, _⟩ := h; rfl) | (obtain ⟨_, _, _, _, _, _, _, _, _, _, _, rfl, _⟩ := h; rfl) | (obtain ⟨_, _, _, _, _, _, _, _, _, _, _, _, rfl, _⟩ := h; rfl) | (obtain ⟨_, _, _, _, _, _, _, _, _, _, _, _, _, rfl, _⟩ := h; rfl) | (obtain ⟨_, _, _, _, _, _, _, _, _, _, _, _, _, _, rfl, _⟩ := h; rfl) | (obtain ⟨_, _, _, _, _, _, _, _, _, _, _, _, _, _, _, rfl, _⟩ := h; rfl) | (obtain ⟨_, _, _, _, _, _, _, _, _, _, _, _, _, _, _, _, rfl, _⟩ := h; rfl) | (obtain ⟨_, _, _, _, _, _, _, _, _, _, _, _, _, _, _, _, _, rfl, _⟩ := h; rfl)
  · have tk : Takes (cxOf (L2.CX P w) P w K mg base n__law_quarrels "_law_quarrels" (defScope s__law_quarrels) f cdv A outer s H E) (WE0 E) := takes_of rfl rfl rfl rfl
    have po : PassesOwn (model P w) (cxOf (L2.CX P w) P w K mg base n__law_quarrels "_law_quarrels" (defScope s__law_quarrels) f cdv A outer s H E).A (cxOf (L2.CX P w) P w K mg base n__law_quarrels "_law_quarrels" (defScope s__law_quarrels) f cdv A outer s H E).env (cxOf (L2.CX P w) P w K mg base n__law_quarrels "_law_quarrels" (defScope s__law_quarrels) f cdv A outer s H E).xe := passes_of rfl
    exact (pss_cons (ps_set (i := 2) sc.nd rfl (by first | exact Or.inl rfl | exact Or.inr rfl) (pe_lst pa_nil))
      (pss_cons (ps_for po rfl (pi_list (pe_cl F__law_pairs hr (by decide) tk (pa_cons (pv 0) pa_nil))) (pg_name (i := 3) sc.nd rfl (by first | exact Or.inl rfl | exact Or.inr rfl)) (pss_cons (ps_set (i := 4) sc.nd rfl (by first | exact Or.inl rfl | exact Or.inr rfl) (pe_ix ix_tup (pv 3) pe_int (fun _ _ => rfl)))
      (pss_cons (ps_set (i := 5) sc.nd rfl (by first | exact Or.inl rfl | exact Or.inr rfl) (pe_ix ix_tup (pv 3) pe_int (fun _ _ => rfl)))
      (pss_one (ps_if (PW.pt (pw_and (pt_cmpR op_ne (pe_dget (hu_of hr) (pv 1) (pv 4) (fun _ _ => rfl)) (pv 5) (nomark _)) (pw_and (pt_val (pe_cl F__law_rather hr (by decide) tk (pa_cons (pv 0) (pa_cons (pv 4) (pa_cons (pv 5) (pa_cons (pe_dget (hu_of hr) (pv 1) (pv 4) (fun _ _ => rfl)) pa_nil)))))) (pw_and1 (pt_val (pe_cl F__law_rather hr (by decide) tk (pa_cons (pv 0) (pa_cons (pv 5) (pa_cons (pv 4) (pa_cons (pe_dget (hu_of hr) (pv 1) (pv 5) (fun _ _ => rfl)) pa_nil)))))))))) (pss_one (ps_expr (pe_bm PySem.F.plainAttrs_list PySem.F.slot_list_append PySem.F.type_list_append mt_append (pv 2) (pa_cons (pe_tup (pa_cons (pv 4) (pa_cons (pv 5) pa_nil))) pa_nil)))) pss_nil)))))
      (pss_one (ps_ret (pv 2)))))
abbrev n__law_is_calm : List Str := ["_law_mutual_here", "_law_x"]
theorem sc__law_is_calm : FnScope n__law_is_calm ["_law_mutual_here", "_law_x"] (defScope s__law_is_calm) := ⟨rfl, rfl, rfl, by decide +kernel, rfl, by decide +kernel, by decide +kernel⟩
theorem ok__law_is_calm (T : Top K mg) (F__law_is_dealing : Fn P w K mg base 1 "_law_is_dealing" ["_law_mutual_here", "_law_x"] (sp__law_is_dealing K)) (F__law_quarrels : Fn P w K mg base 2 "_law_quarrels" ["_law_mutual_here", "_law_x"] (sp__law_quarrels K)) (F : FunD K "_law_is_calm" "_law_is_calm" (defArgs s__law_is_calm) (defBody s__law_is_calm) (defScope s__law_is_calm) [] [] f fd) : FnOk P w K mg base (L2.CX P w) 3 f fd ["_law_mutual_here", "_law_x"] (sp__law_is_calm K) := by
  have sc := sc__law_is_calm
  refine F.ok sc (fun vs H Q E h => ?_) (fun cdv A outer s H vs Q E hr h => ⟨t__law_is_calm K E, ?_, pure__law_is_calm h⟩)
  · first | (obtain ⟨rfl, _⟩ := h; rfl) | (obtain ⟨_, rfl, _⟩ := h; rfl) | (obtain ⟨_, _, rfl, _⟩ := h; rfl) | (obtain ⟨_, _, _, rfl, _⟩ := h; rfl) | (obtain ⟨_, _, _, _, rfl, _⟩ := h; rfl) | (obtain ⟨_, _, _, _, _, rfl, _⟩ := h; rfl) | (obtain ⟨_, _, _, _, _, _, rfl, _⟩ := h; rfl) | (obtain ⟨_, _, _, _, _, _, _, rfl, _⟩ := h; rfl) | (obtain ⟨_, _, _, _, _, _, _, _, rfl, _⟩ := h; rfl) | (obtain ⟨_, _, _, _, _, _, _, _, _, rfl, _⟩ := h; rfl) | (obtain ⟨_, _, _, _, _, _, _, _, _, _, rfl, _⟩ := h; rfl) | (obtain ⟨_, _, _, _, _, _, _, _, _, _, _, rfl, _⟩ := h; rfl) | (obtain ⟨_, _, _, _, _, _, _, _, _, _, _, _, rfl, _⟩ := h; rfl) | (obtain ⟨_, _, _, _, _, _, _, _, _, _, _, _, _, rfl, _⟩ := h; rfl) | (obtain ⟨_, _, _, _, _, _, _, _, _, _, _, _, _, _, rfl, _⟩ := h; rfl) | (obtain ⟨_, _, _, _, _, _, _, _, _, _, _, _, _, _, _, rfl, _⟩ := h; rfl) | (obtain ⟨_, _, _, _, _, _, _, _, _, _, _, _, _, _, _, _, rfl, _⟩ := h; rfl) | (obtain ⟨_, _, _, _, _, _, _, _, _, _, _, _, _, _, _, _, _, rfl, _⟩ := h; rfl)
  · have tk : Takes (cxOf (L2.CX P w) P w K mg base n__law_is_calm "_law_is_calm" (defScope s__law_is_calm) f cdv A outer s H E) (WE0 E) := takes_of rfl rfl rfl rfl
    have po : PassesOwn (model P w) (cxOf (L2.CX P w) P w K mg base n__law_is_calm "_law_is_calm" (defScope s__law_is_calm) f cdv A outer s H E).A (cxOf (L2.CX P w) P w K mg base n__law_is_calm "_law_is_calm" (defScope s__law_is_calm) f cdv A outer s H E).env (cxOf (L2.CX P w) P w K mg base n__law_is_calm "_law_is_calm" (defScope s__law_is_calm) f cdv A outer s H E).xe := passes_of rfl
    exact (pss_one (ps_ret (pe_and (pe_cl F__law_is_dealing hr (by decide) tk (pa_cons (pv 0) (pa_cons (pv 1) pa_nil))) (pe_one (pe_cmpR (op_eqD hr.units) (pe_cl F__law_quarrels hr (by decide) tk (pa_cons (pv 0) (pa_cons (pv 1) pa_nil))) (pe_lst pa_nil) (nomark _))))))
abbrev n__law_take : List Str := ["_law_state", "_law_many", "_law_mixed_here", "_law_digit"]
theorem sc__law_take : FnScope n__law_take ["_law_state", "_law_many"] (defScope s__law_take) := ⟨rfl, rfl, rfl, by decide +kernel, rfl, by decide +kernel, by decide +kernel⟩
theorem ok__law_take (T : Top K mg)  (F : FunD K "_law_take" "_law_take" (defArgs s__law_take) (defBody s__law_take) (defScope s__law_take) [] [] f fd) : FnOk P w K mg base (L2.CX P w) 1 f fd ["_law_state", "_law_many"] (sp__law_take K) := by
  have sc := sc__law_take
  refine F.ok sc (fun vs H Q E h => ?_) (fun cdv A outer s H vs Q E hr h => ⟨t__law_take K E, ?_, pure__law_take h⟩)
  · first | (obtain ⟨rfl, _⟩ := h; rfl) | (obtain ⟨_, rfl, _⟩ := h; rfl) | (obtain ⟨_, _, rfl, _⟩ := h; rfl) | (obtain ⟨_, _, _, rfl, _⟩ := h; rfl) | (obtain ⟨_, _, _, _, rfl, _⟩ := h; rfl) | (obtain ⟨_, _, _, _, _, rfl, _⟩ := h; rfl) | (obtain ⟨_, _, _, _, _, _, rfl, _⟩ := h; rfl) | (obtain ⟨_, _, _, _, _, _, _, rfl, _⟩ := h; rfl) | (obtain ⟨_, _, _, _, _, _, _, _, rfl, _⟩ := h; rfl) | (obtain ⟨_, _, _, _, _, _, _, _, _, rfl, _⟩ := h; rfl) | (obtain ⟨_, _, _, _, _, _, _, _, _, _, rfl, _⟩ := h; rfl) | (obtain ⟨_, _, _, _, _, _, _, _, _, _, _, rfl, _⟩ := h; rfl) | (obtain ⟨_, _, _, _, _, _, _, _, _, _, _, _, rfl, _⟩ := h; rfl) | (obtain ⟨_, _, _, _, _, _, _, _, _, _, _, _, _, rfl, _⟩ := h; rfl) | (obtain ⟨_, _, _, _, _, _, _, _, _, _, _, _, _, _, rfl, _⟩ := h; rfl) | (obtain ⟨_, _, _, _, _, _, _, _, _, _, _, _, _, _, _, rfl, _⟩ := h; rfl) | (obtain ⟨_, _, _, _, _, _, _, _, _, _, _, _, _, _, _, _, rfl, _⟩ := h; rfl) | (obtain ⟨_, _, _, _, _, _, _, _, _, _, _, _, _, _, _, _, _, rfl, _⟩ := h; rfl)
  · have tk : Takes (cxOf (L2.CX P w) P w K mg base n__law_take "_law_take" (defScope s__law_take) f cdv A outer s H E) (WE0 E) := takes_of rfl rfl rfl rfl
    have po : PassesOwn (model P w) (cxOf (L2.CX P w) P w K mg base n__law_take "_law_take" (defScope s__law_take) f cdv A outer s H E).A (cxOf (L2.CX P w) P w K mg base n__law_take "_law_take" (defScope s__law_take) f cdv A outer s H E).env (cxOf (L2.CX P w) P w K mg base n__law_take "_law_take" (defScope s__law_take) f cdv A outer s H E).xe := passes_of rfl
    exact (pss_cons (ps_if (pt_cmpR oGtI (pe_ix ix_list (pv 0) pe_int (fun _ _ => rfl)) pe_int (nomark _)) (pss_cons (ps_set (i := 3) sc.nd rfl (by first | exact Or.inl rfl | exact Or.inr rfl) (pe_op oModI (pe_callTy cInt1 (by rfl) T.f_int (by decide +kernel) (pa_cons (pe_ix ix_list (pv 0) pe_int (fun _ _ => rfl)) pa_nil)) (pv 1)))
      (pss_cons (ps_asg (pe_op oDivI (pe_callTy cInt1 (by rfl) T.f_int (by decide +kernel) (pa_cons (pe_ix ix_list (pv 0) pe_int (fun _ _ => rfl)) pa_nil)) (pv 1)) (pg_sub (pv 0) pe_int set_list))
      (pss_one (ps_ret (pv 3))))) pss_nil)
      (pss_cons (ps_asg (pe_op oModI (pe_callTy cInt1 (by rfl) T.f_int (by decide +kernel) (pa_cons (pe_op oAddI (pe_op oMulI (pe_ix ix_list (pv 0) pe_int (fun _ _ => rfl)) pe_int) pe_int) pa_nil)) pe_int) (pg_sub (pv 0) pe_int set_list))
      (pss_cons (ps_set (i := 2) sc.nd rfl (by first | exact Or.inl rfl | exact Or.inr rfl) (pe_op oModI (pe_callTy cInt1 (by rfl) T.f_int (by decide +kernel) (pa_cons (pe_op oMulI (pe_ix ix_list (pv 0) pe_int (fun _ _ => rfl)) (pe_op oAddI (pe_op oDivI (pe_ix ix_list (pv 0) pe_int (fun _ _ => rfl)) pe_int) pe_int)) pa_nil)) pe_int))
      (pss_one (ps_ret (pe_op oModI (pe_callTy cInt1 (by rfl) T.f_int (by decide +kernel) (pa_cons (pe_op oDivI (pv 2) pe_int) pa_nil)) (pv 1)))))))
abbrev n__law_mixed : List Str := ["_law_state", "_law_items", "_law_pool", "_law_row_here", "_law_k"]
theorem sc__law_mixed : FnScope n__law_mixed ["_law_state", "_law_items"] (defScope s__law_mixed) := ⟨rfl, rfl, rfl, by decide +kernel, rfl, by decide +kernel, by decide +kernel⟩
theorem ok__law_mixed (T : Top K mg) (F__law_take : Fn P w K mg base 1 "_law_take" ["_law_state", "_law_many"] (sp__law_take K)) (F : FunD K "_law_mixed" "_law_mixed" (defArgs s__law_mixed) (defBody s__law_mixed) (defScope s__law_mixed) [] [] f fd) : FnOk P w K mg base (L2.CX P w) 2 f fd ["_law_state", "_law_items"] (sp__law_mixed K) := by
  have sc := sc__law_mixed
  refine F.ok sc (fun vs H Q E h => ?_) (fun cdv A outer s H vs Q E hr h => ⟨t__law_mixed K E, ?_, pure__law_mixed h⟩)
  · first | (obtain ⟨rfl, _⟩ := h; rfl) | (obtain ⟨_, rfl, _⟩ := h; rfl) | (obtain ⟨_, _, rfl, _⟩ := h; rfl) | (obtain ⟨_, _, _, rfl, _⟩ := h; rfl) | (obtain ⟨_, _, _, _, rfl, _⟩ := h; rfl) | (obtain ⟨_, _, _, _, _, rfl, _⟩ := h; rfl) | (obtain ⟨_, _, _, _, _, _, rfl, _⟩ := h; rfl) | (obtain ⟨_, _, _, _, _, _, _, rfl, _⟩ := h; rfl) | (obtain ⟨_, _, _, _, _, _, _, _, rfl, _⟩ := h; rfl) | (obtain ⟨_, _, _, _, _, _, _, _, _, rfl, _⟩ := h; rfl) | (obtain ⟨_, _, _, _, _, _, _, _, _, _, rfl, _⟩ := h; rfl) | (obtain ⟨_, _, _, _, _, _, _, _, _, _, _, rfl, _⟩ := h; rfl) | (obtain ⟨_, _, _, _, _, _, _, _, _, _, _, _, rfl, _⟩ := h; rfl) | (obtain ⟨_, _, _, _, _, _, _, _, _, _, _, _, _, rfl, _⟩ := h; rfl) | (obtain ⟨_, _, _, _, _, _, _, _, _, _, _, _, _, _, rfl, _⟩ := h; rfl) | (obtain ⟨_, _, _, _, _, _, _, _, _, _, _, _, _, _, _, rfl, _⟩ := h; rfl) | (obtain ⟨_, _, _, _, _, _, _, _, _, _, _, _, _, _, _, _, rfl, _⟩ := h; rfl) | (obtain ⟨_, _, _, _, _, _, _, _, _, _, _, _, _, _, _, _, _, rfl, _⟩ := h; rfl)
  · have tk : Takes (cxOf (L2.CX P w) P w K mg base n__law_mixed "_law_mixed" (defScope s__law_mixed) f cdv A outer s H E) (WE0 E) := takes_of rfl rfl rfl rfl
    have po : PassesOwn (model P w) (cxOf (L2.CX P w) P w K mg base n__law_mixed "_law_mixed" (defScope s__law_mixed) f cdv A outer s H E).A (cxOf (L2.CX P w) P w K mg base n__law_mixed "_law_mixed" (defScope s__law_mixed) f cdv A outer s H E).env (cxOf (L2.CX P w) P w K mg base n__law_mixed "_law_mixed" (defScope s__law_mixed) f cdv A outer s H E).xe := passes_of rfl
    exact (pss_cons (ps_set (i := 2) sc.nd rfl (by first | exact Or.inl rfl | exact Or.inr rfl) (pe_callTy cListOf (by rfl) T.f_list (by decide +kernel) (pa_cons (pv 1) pa_nil)))
      (pss_cons (ps_set (i := 3) sc.nd rfl (by first | exact Or.inl rfl | exact Or.inr rfl) (pe_lst pa_nil))
      (pss_cons (ps_for po rfl (pi_range1 (by rfl) T.f_range (pa_cons (pe_callB cLenA (by rfl) T.f_len PySem.boot_len (pa_cons (pv 1) pa_nil)) pa_nil)) (pg_name (i := 4) sc.nd rfl (by first | exact Or.inl rfl | exact Or.inr rfl)) (pss_one (ps_expr (pe_bm PySem.F.plainAttrs_list PySem.F.slot_list_append PySem.F.type_list_append mt_append (pv 3) (pa_cons (pe_bm PySem.F.plainAttrs_list PySem.F.slot_list_pop PySem.F.type_list_pop mt_popAt (pv 2) (pa_cons (pe_cl F__law_take hr (by decide) tk (pa_cons (pv 0) (pa_cons (pe_callB cLenA (by rfl) T.f_len PySem.boot_len (pa_cons (pv 2) pa_nil)) pa_nil))) pa_nil)) pa_nil)))))
      (pss_one (ps_ret (pv 3))))))
abbrev n__law_mutual : List Str := ["_law_names_here", "_law_wishes", "_law_mutual_here", "_law_a", "_law_b"]
theorem sc__law_mutual : FnScope n__law_mutual ["_law_names_here", "_law_wishes"] (defScope s__law_mutual) := ⟨rfl, rfl, rfl, by decide +kernel, rfl, by decide +kernel, by decide +kernel⟩
theorem ok__law_mutual (T : Top K mg)  (F : FunD K "_law_mutual" "_law_mutual" (defArgs s__law_mutual) (defBody s__law_mutual) (defScope s__law_mutual) [] [] f fd) : FnOk P w K mg base (L2.CX P w) 1 f fd ["_law_names_here", "_law_wishes"] (sp__law_mutual K) := by
  have sc := sc__law_mutual
  refine F.ok sc (fun vs H Q E h => ?_) (fun cdv A outer s H vs Q E hr h => ⟨t__law_mutual K E, ?_, pure__law_mutual h⟩)
  · first | (obtain ⟨rfl, _⟩ := h; rfl) | (obtain ⟨_, rfl, _⟩ := h; rfl) | (obtain ⟨_, _, rfl, _⟩ := h; rfl) | (obtain ⟨_, _, _, rfl, _⟩ := h; rfl) | (obtain ⟨_, _, _, _, rfl, _⟩ := h; rfl) | (obtain ⟨_, _, _, _, _, rfl, _⟩ := h; rfl) | (obtain ⟨_, _, _, _, _, _, rfl, _⟩ := h; rfl) | (obtain ⟨_, _, _, _, _, _, _, rfl, _⟩ := h; rfl) | (obtain ⟨_, _, _, _, _, _, _, _, rfl, _⟩ := h; rfl) | (obtain ⟨_, _, _, _, _, _, _, _, _, rfl, _⟩ := h; rfl) | (obtain ⟨_, _, _, _, _, _, _, _, _, _, rfl, _⟩ := h; rfl) | (obtain ⟨_, _, _, _, _, _, _, _, _, _, _, rfl, _⟩ := h; rfl) | (obtain ⟨_, _, _, _, _, _, _, _, _, _, _, _, rfl, _⟩ := h; rfl) | (obtain ⟨_, _, _, _, _, _, _, _, _, _, _, _, _, rfl, _⟩ := h; rfl) | (obtain ⟨_, _, _, _, _, _, _, _, _, _, _, _, _, _, rfl, _⟩ := h; rfl) | (obtain ⟨_, _, _, _, _, _, _, _, _, _, _, _, _, _, _, rfl, _⟩ := h; rfl) | (obtain ⟨_, _, _, _, _, _, _, _, _, _, _, _, _, _, _, _, rfl, _⟩ := h; rfl) | (obtain ⟨_, _, _, _, _, _, _, _, _, _, _, _, _, _, _, _, _, rfl, _⟩ := h; rfl)
  · have tk : Takes (cxOf (L2.CX P w) P w K mg base n__law_mutual "_law_mutual" (defScope s__law_mutual) f cdv A outer s H E) (WE0 E) := takes_of rfl rfl rfl rfl
    have po : PassesOwn (model P w) (cxOf (L2.CX P w) P w K mg base n__law_mutual "_law_mutual" (defScope s__law_mutual) f cdv A outer s H E).A (cxOf (L2.CX P w) P w K mg base n__law_mutual "_law_mutual" (defScope s__law_mutual) f cdv A outer s H E).env (cxOf (L2.CX P w) P w K mg base n__law_mutual "_law_mutual" (defScope s__law_mutual) f cdv A outer s H E).xe := passes_of rfl
    exact (pss_cons (ps_set (i := 2) sc.nd rfl (by first | exact Or.inl rfl | exact Or.inr rfl) pe_dnewK)
      (pss_cons (ps_for po rfl (pi_list (pv 0)) (pg_name (i := 3) sc.nd rfl (by first | exact Or.inl rfl | exact Or.inr rfl)) (pss_one (ps_dput (hu_of hr) (pv 2) (pv 3) (pe_lc (own := [("_law_b", 4)]) (g := (gName 4)) (tt := (tTest (tOp (rIn K false) (tVar 3) (tDGet (tVar 1) (tVar 4))))) rfl sc.nd (pi_list (pe_dget (hu_of hr) (pv 1) (pv 3) (fun _ _ => rfl))) (blkOk_by (own := [("_law_b", 4)]) (N := n__law_mutual) (sc := defScope (s__law_mutual)) (by decide +kernel)) (fun _ _ _ _ _ => (pg_name (i := 4) sc.nd rfl (by first | exact Or.inl rfl | exact Or.inr rfl))) (fun _ _ _ _ _ => (pts_one (pt_cmpR op_in_seq (pv 3) (pe_dget (hu_of hr) (pv 1) (pv 4) (fun _ _ => rfl)) (by rfl)))) (fun _ _ _ _ _ => (pv 4))) rfl)))
      (pss_one (ps_ret (pv 2)))))
abbrev n__law_name : List Str := ["_law_state", "_law_taken", "_law_letters", "_law_size", "_law_name_here", "_law_last", "_law_k", "_law_other"]
theorem sc__law_name : FnScope n__law_name ["_law_state", "_law_taken"] (defScope s__law_name) := ⟨rfl, rfl, rfl, by decide +kernel, rfl, by decide +kernel, by decide +kernel⟩
theorem ok__law_name (T : Top K mg) (F__law_take : Fn P w K mg base 1 "_law_take" ["_law_state", "_law_many"] (sp__law_take K)) (F : FunD K "_law_name" "_law_name" (defArgs s__law_name) (defBody s__law_name) (defScope s__law_name) [] [] f fd) : FnOk P w K mg base (L2.CX P w) 2 f fd ["_law_state", "_law_taken"] (sp__law_name K) := by
  have sc := sc__law_name
  refine F.ok sc (fun vs H Q E h => ?_) (fun cdv A outer s H vs Q E hr h => ⟨t__law_name K E, ?_, pure__law_name h⟩)
  · first | (obtain ⟨rfl, _⟩ := h; rfl) | (obtain ⟨_, rfl, _⟩ := h; rfl) | (obtain ⟨_, _, rfl, _⟩ := h; rfl) | (obtain ⟨_, _, _, rfl, _⟩ := h; rfl) | (obtain ⟨_, _, _, _, rfl, _⟩ := h; rfl) | (obtain ⟨_, _, _, _, _, rfl, _⟩ := h; rfl) | (obtain ⟨_, _, _, _, _, _, rfl, _⟩ := h; rfl) | (obtain ⟨_, _, _, _, _, _, _, rfl, _⟩ := h; rfl) | (obtain ⟨_, _, _, _, _, _, _, _, rfl, _⟩ := h; rfl) | (obtain ⟨_, _, _, _, _, _, _, _, _, rfl, _⟩ := h; rfl) | (obtain ⟨_, _, _, _, _, _, _, _, _, _, rfl, _⟩ := h; rfl) | (obtain ⟨_, _, _, _, _, _, _, _, _, _, _, rfl, _⟩ := h; rfl) | (obtain ⟨_, _, _, _, _, _, _, _, _, _, _, _, rfl, _⟩ := h; rfl) | (obtain ⟨_, _, _, _, _, _, _, _, _, _, _, _, _, rfl, _⟩ := h; rfl) | (obtain ⟨_, _, _, _, _, _, _, _, _, _, _, _, _, _, rfl, _⟩ := h; rfl) | (obtain ⟨_, _, _, _, _, _, _, _, _, _, _, _, _, _, _, rfl, _⟩ := h; rfl) | (obtain ⟨_, _, _, _, _, _, _, _, _, _, _, _, _, _, _, _, rfl, _⟩ := h; rfl) | (obtain ⟨_, _, _, _, _, _, _, _, _, _, _, _, _, _, _, _, _, rfl, _⟩ := h; rfl)
  · have tk : Takes (cxOf (L2.CX P w) P w K mg base n__law_name "_law_name" (defScope s__law_name) f cdv A outer s H E) (WE0 E) := takes_of rfl rfl rfl rfl
    have po : PassesOwn (model P w) (cxOf (L2.CX P w) P w K mg base n__law_name "_law_name" (defScope s__law_name) f cdv A outer s H E).A (cxOf (L2.CX P w) P w K mg base n__law_name "_law_name" (defScope s__law_name) f cdv A outer s H E).env (cxOf (L2.CX P w) P w K mg base n__law_name "_law_name" (defScope s__law_name) f cdv A outer s H E).xe := passes_of rfl
    exact (pss_cons (ps_set (i := 2) sc.nd rfl (by first | exact Or.inl rfl | exact Or.inr rfl) pe_str)
      (pss_cons (ps_set (i := 3) sc.nd rfl (by first | exact Or.inl rfl | exact Or.inr rfl) (pe_op oAddI pe_int (pe_cl F__law_take hr (by decide) tk (pa_cons (pv 0) (pa_cons pe_int pa_nil)))))
      (pss_cons (ps_set (i := 4) sc.nd rfl (by first | exact Or.inl rfl | exact Or.inr rfl) (pe_join pe_str (pe_lc (own := [("_law_k", 6)]) (g := (gName 6)) (tt := tYes) rfl sc.nd (pi_range1 (by rfl) T.f_range (pa_cons (pv 3) pa_nil)) (blkOk_by (own := [("_law_k", 6)]) (N := n__law_name) (sc := defScope (s__law_name)) (by decide +kernel)) (fun _ _ _ _ _ => (pg_name (i := 6) sc.nd rfl (by first | exact Or.inl rfl | exact Or.inr rfl))) (fun _ _ _ _ _ => pts_nil) (fun _ _ _ _ _ => (pe_ix ix_str (pv 2) (pe_cl F__law_take hr (by decide) takes0 (pa_cons (pv 0) (pa_cons pe_int pa_nil))) (fun _ _ => rfl))))))
      (pss_cons (ps_if (pt_cmpR op_notIn_seq (pv 4) (pv 1) (by rfl)) (pss_one (ps_ret (pv 4))) pss_nil)
      (pss_cons (ps_set (i := 5) sc.nd rfl (by first | exact Or.inl rfl | exact Or.inr rfl) (pe_cl F__law_take hr (by decide) tk (pa_cons (pv 0) (pa_cons pe_int pa_nil))))
      (pss_cons (ps_for po rfl (pi_range1 (by rfl) T.f_range (pa_cons pe_int pa_nil)) (pg_name (i := 6) sc.nd rfl (by first | exact Or.inl rfl | exact Or.inr rfl)) (pss_cons (ps_set (i := 7) sc.nd rfl (by first | exact Or.inl rfl | exact Or.inr rfl) (pe_op oAddS (pe_slice sl_str (pv 4) po_none (po_some pe_int)) (pe_ix ix_str (pv 2) (pe_op oModI (pe_callTy cInt1 (by rfl) T.f_int (by decide +kernel) (pa_cons (pe_op oAddI (pv 5) (pv 6)) pa_nil)) pe_int) (fun _ _ => rfl))))
      (pss_one (ps_if (pt_cmpR op_notIn_seq (pv 7) (pv 1) (by rfl)) (pss_one (ps_ret (pv 7))) pss_nil))))
      (pss_one (ps_ret pe_str))))))))
abbrev n__law_names : List Str := ["_law_state", "_law_many", "_law_names_here", "_law_k"]
theorem sc__law_names : FnScope n__law_names ["_law_state", "_law_many"] (defScope s__law_names) := ⟨rfl, rfl, rfl, by decide +kernel, rfl, by decide +kernel, by decide +kernel⟩
theorem ok__law_names (T : Top K mg) (F__law_name : Fn P w K mg base 2 "_law_name" ["_law_state", "_law_taken"] (sp__law_name K)) (F : FunD K "_law_names" "_law_names" (defArgs s__law_names) (defBody s__law_names) (defScope s__law_names) [] [] f fd) : FnOk P w K mg base (L2.CX P w) 3 f fd ["_law_state", "_law_many"] (sp__law_names K) := by
  have sc := sc__law_names
  refine F.ok sc (fun vs H Q E h => ?_) (fun cdv A outer s H vs Q E hr h => ⟨t__law_names K E, ?_, pure__law_names h⟩)
  · first | (obtain ⟨rfl, _⟩ := h; rfl) | (obtain ⟨_, rfl, _⟩ := h; rfl) | (obtain ⟨_, _, rfl, _⟩ := h; rfl) | (obtain ⟨_, _, _, rfl, _⟩ := h; rfl) | (obtain ⟨_, _, _, _, rfl, _⟩ := h; rfl) | (obtain ⟨_, _, _, _, _, rfl, _⟩ := h; rfl) | (obtain ⟨_, _, _, _, _, _, rfl, _⟩ := h; rfl) | (obtain ⟨_, _, _, _, _, _, _, rfl, _⟩ := h; rfl) | (obtain ⟨_, _, _, _, _, _, _, _, rfl, _⟩ := h; rfl) | (obtain ⟨_, _, _, _, _, _, _, _, _, rfl, _⟩ := h; rfl) | (obtain ⟨_, _, _, _, _, _, _, _, _, _, rfl, _⟩ := h; rfl) | (obtain ⟨_, _, _, _, _, _, _, _, _, _, _, rfl, _⟩ := h; rfl) | (obtain ⟨_, _, _, _, _, _, _, _, _, _, _, _, rfl, _⟩ := h; rfl) | (obtain ⟨_, _, _, _, _, _, _, _, _, _, _, _, _, rfl, _⟩ := h; rfl) | (obtain ⟨_, _, _, _, _, _, _, _, _, _, _, _, _, _, rfl, _⟩ := h; rfl) | (obtain ⟨_, _, _, _, _, _, _, _, _, _, _, _, _, _, _, rfl, _⟩ := h; rfl) | (obtain ⟨_, _, _, _, _, _, _, _, _, _, _, _, _, _, _, _, rfl, _⟩ := h; rfl) | (obtain ⟨_, _, _, _, _, _, _, _, _, _, _, _, _, _, _, _, _, rfl, _⟩ := h; rfl)
  · have tk : Takes (cxOf (L2.CX P w) P w K mg base n__law_names "_law_names" (defScope s__law_names) f cdv A outer s H E) (WE0 E) := takes_of rfl rfl rfl rfl
    have po : PassesOwn (model P w) (cxOf (L2.CX P w) P w K mg base n__law_names "_law_names" (defScope s__law_names) f cdv A outer s H E).A (cxOf (L2.CX P w) P w K mg base n__law_names "_law_names" (defScope s__law_names) f cdv A outer s H E).env (cxOf (L2.CX P w) P w K mg base n__law_names "_law_names" (defScope s__law_names) f cdv A outer s H E).xe := passes_of rfl
    exact (pss_cons (ps_set (i := 2) sc.nd rfl (by first | exact Or.inl rfl | exact Or.inr rfl) (pe_lst pa_nil))
      (pss_cons (ps_for po rfl (pi_range1 (by rfl) T.f_range (pa_cons (pv 1) pa_nil)) (pg_name (i := 3) sc.nd rfl (by first | exact Or.inl rfl | exact Or.inr rfl)) (pss_one (ps_expr (pe_bm PySem.F.plainAttrs_list PySem.F.slot_list_append PySem.F.type_list_append mt_append (pv 2) (pa_cons (pe_cl F__law_name hr (by decide) tk (pa_cons (pv 0) (pa_cons (pv 2) pa_nil))) pa_nil)))))
      (pss_one (ps_ret (pv 2)))))
abbrev n__law_row : List Str := ["_law_actual", "_law_due"]
theorem sc__law_row : FnScope n__law_row ["_law_actual", "_law_due"] (defScope s__law_row) := ⟨rfl, rfl, rfl, by decide +kernel, rfl, by decide +kernel, by decide +kernel⟩
theorem ok__law_row (T : Top K mg)  (F : FunD K "_law_row" "_law_row" (defArgs s__law_row) (defBody s__law_row) (defScope s__law_row) [] [] f fd) : FnOk P w K mg base (L2.CX P w) 1 f fd ["_law_actual", "_law_due"] (sp__law_row K) := by
  have sc := sc__law_row
  refine F.ok sc (fun vs H Q E h => ?_) (fun cdv A outer s H vs Q E hr h => ⟨t__law_row K E, ?_, pure__law_row h⟩)
  · first | (obtain ⟨rfl, _⟩ := h; rfl) | (obtain ⟨_, rfl, _⟩ := h; rfl) | (obtain ⟨_, _, rfl, _⟩ := h; rfl) | (obtain ⟨_, _, _, rfl, _⟩ := h; rfl) | (obtain ⟨_, _, _, _, rfl, _⟩ := h; rfl) | (obtain ⟨_, _, _, _, _, rfl, _⟩ := h; rfl) | (obtain ⟨_, _, _, _, _, _, rfl, _⟩ := h; rfl) | (obtain ⟨_, _, _, _, _, _, _, rfl, _⟩ := h; rfl) | (obtain ⟨_, _, _, _, _, _, _, _, rfl, _⟩ := h; rfl) | (obtain ⟨_, _, _, _, _, _, _, _, _, rfl, _⟩ := h; rfl) | (obtain ⟨_, _, _, _, _, _, _, _, _, _, rfl, _⟩ := h; rfl) | (obtain ⟨_, _, _, _, _, _, _, _, _, _, _, rfl, _⟩ := h; rfl) | (obtain ⟨_, _, _, _, _, _, _, _, _, _, _, _, rfl, _⟩ := h; rfl) | (obtain ⟨_, _, _, _, _, _, _, _, _, _, _, _, _, rfl, _⟩ := h; rfl) | (obtain ⟨_, _, _, _, _, _, _, _, _, _, _, _, _, _, rfl, _⟩ := h; rfl) | (obtain ⟨_, _, _, _, _, _, _, _, _, _, _, _, _, _, _, rfl, _⟩ := h; rfl) | (obtain ⟨_, _, _, _, _, _, _, _, _, _, _, _, _, _, _, _, rfl, _⟩ := h; rfl) | (obtain ⟨_, _, _, _, _, _, _, _, _, _, _, _, _, _, _, _, _, rfl, _⟩ := h; rfl)
  · have tk : Takes (cxOf (L2.CX P w) P w K mg base n__law_row "_law_row" (defScope s__law_row) f cdv A outer s H E) (WE0 E) := takes_of rfl rfl rfl rfl
    have po : PassesOwn (model P w) (cxOf (L2.CX P w) P w K mg base n__law_row "_law_row" (defScope s__law_row) f cdv A outer s H E).A (cxOf (L2.CX P w) P w K mg base n__law_row "_law_row" (defScope s__law_row) f cdv A outer s H E).env (cxOf (L2.CX P w) P w K mg base n__law_row "_law_row" (defScope s__law_row) f cdv A outer s H E).xe := passes_of rfl
    exact (pss_one (ps_ret (pe_and (pe_callB call_isi (by rfl) T.f_isinstance (by decide +kernel) (pa_cons (pv 0) (pa_cons (pe_bltn (v := .ty "list") rfl T.f_list (by decide +kernel) rfl) pa_nil))) (pe_one (pe_cmpR (op_eqD hr.units) (pv 0) (pv 1) (nomark _))))))
abbrev n_ask_all : List Str := ["lists", "asks", "holds", "asked", "free", "a", "b", "held"]
theorem sc_ask_all : FnScope n_ask_all ["lists"] (defScope s_ask_all) := ⟨rfl, rfl, rfl, by decide +kernel, rfl, by decide +kernel, by decide +kernel⟩
theorem ok_ask_all (T : Top K mg)  (F : FunD K "ask_all" "ask_all" (defArgs s_ask_all) (defBody s_ask_all) (defScope s_ask_all) [] [] f fd) : FnOk P w K mg base (L2.CX P w) 1 f fd ["lists"] (sp_ask_all K) := by
  have sc := sc_ask_all
  refine F.ok sc (fun vs H Q E h => ?_) (fun cdv A outer s H vs Q E hr h => ⟨t_ask_all K E, ?_, pure_ask_all h⟩)
  · first | (obtain ⟨rfl, _⟩ := h; rfl) | (obtain ⟨_, rfl, _⟩ := h; rfl) | (obtain ⟨_, _, rfl, _⟩ := h; rfl) | (obtain ⟨_, _, _, rfl, _⟩ := h; rfl) | (obtain ⟨_, _, _, _, rfl, _⟩ := h; rfl) | (obtain ⟨_, _, _, _, _, rfl, _⟩ := h; rfl) | (obtain ⟨_, _, _, _, _, _, rfl, _⟩ := h; rfl) | (obtain ⟨_, _, _, _, _, _, _, rfl, _⟩ := h; rfl) | (obtain ⟨_, _, _, _, _, _, _, _, rfl, _⟩ := h; rfl) | (obtain ⟨_, _, _, _, _, _, _, _, _, rfl, _⟩ := h; rfl) | (obtain ⟨_, _, _, _, _, _, _, _, _, _, rfl, _⟩ := h; rfl) | (obtain ⟨_, _, _, _, _, _, _, _, _, _, _, rfl, _⟩ := h; rfl) | (obtain ⟨_, _, _, _, _, _, _, _, _, _, _, _, rfl, _⟩ := h; rfl) | (obtain ⟨_, _, _, _, _, _, _, _, _, _, _, _, _, rfl, _⟩ := h; rfl) | (obtain ⟨_, _, _, _, _, _, _, _, _, _, _, _, _, _, rfl, _⟩ := h; rfl) | (obtain ⟨_, _, _, _, _, _, _, _, _, _, _, _, _, _, _, rfl, _⟩ := h; rfl) | (obtain ⟨_, _, _, _, _, _, _, _, _, _, _, _, _, _, _, _, rfl, _⟩ := h; rfl) | (obtain ⟨_, _, _, _, _, _, _, _, _, _, _, _, _, _, _, _, _, rfl, _⟩ := h; rfl)
  · have tk : Takes (cxOf (L2.CX P w) P w K mg base n_ask_all "ask_all" (defScope s_ask_all) f cdv A outer s H E) (WE0 E) := takes_of rfl rfl rfl rfl
    have po : PassesOwn (model P w) (cxOf (L2.CX P w) P w K mg base n_ask_all "ask_all" (defScope s_ask_all) f cdv A outer s H E).A (cxOf (L2.CX P w) P w K mg base n_ask_all "ask_all" (defScope s_ask_all) f cdv A outer s H E).env (cxOf (L2.CX P w) P w K mg base n_ask_all "ask_all" (defScope s_ask_all) f cdv A outer s H E).xe := passes_of rfl
    exact (pss_cons (ps_lock (ps_setDc (i := 1) (own := [("a", 5)]) (g := (gName 5)) (tt := tYes) rfl sc.nd rfl rfl (sw_trueD rfl rfl rfl (by decide +kernel)) (pi_keys (pv 0)) (blkOk_by (own := [("a", 5)]) (N := n_ask_all) (sc := defScope (s_ask_all)) (by decide +kernel)) (fun _ _ _ _ _ => (pg_name (i := 5) sc.nd rfl (by first | exact Or.inl rfl | exact Or.inr rfl))) (fun _ _ _ _ _ => pts_nil) (fun _ _ _ _ _ => (pv 5)) (fun _ _ _ _ _ => pe_non)))
      (pss_cons (ps_lock (ps_setDc (i := 2) (own := [("a", 5)]) (g := (gName 5)) (tt := tYes) rfl sc.nd rfl rfl (sw_trueD rfl rfl rfl (by decide +kernel)) (pi_keys (pv 0)) (blkOk_by (own := [("a", 5)]) (N := n_ask_all) (sc := defScope (s_ask_all)) (by decide +kernel)) (fun _ _ _ _ _ => (pg_name (i := 5) sc.nd rfl (by first | exact Or.inl rfl | exact Or.inr rfl))) (fun _ _ _ _ _ => pts_nil) (fun _ _ _ _ _ => (pv 5)) (fun _ _ _ _ _ => pe_non)))
      (pss_cons (ps_lock (ps_setDc (i := 3) (own := [("a", 5)]) (g := (gName 5)) (tt := tYes) rfl sc.nd rfl rfl (sw_trueD rfl rfl rfl (by decide +kernel)) (pi_keys (pv 0)) (blkOk_by (own := [("a", 5)]) (N := n_ask_all) (sc := defScope (s_ask_all)) (by decide +kernel)) (fun _ _ _ _ _ => (pg_name (i := 5) sc.nd rfl (by first | exact Or.inl rfl | exact Or.inr rfl))) (fun _ _ _ _ _ => pts_nil) (fun _ _ _ _ _ => (pv 5)) (fun _ _ _ _ _ => pe_int)))
      (pss_cons (ps_set (i := 4) sc.nd rfl (by first | exact Or.inl rfl | exact Or.inr rfl) (pe_callTy (call_list_dK rfl) (by rfl) T.f_list (by decide +kernel) (pa_cons (pv 0) pa_nil)))
      (pss_cons (ps_while po (pt_tr (pv 4)) (pss_cons (ps_set (i := 5) sc.nd rfl (by first | exact Or.inl rfl | exact Or.inr rfl) (pe_bm0 PySem.F.plainAttrs_list PySem.F.slot_list_pop PySem.F.type_list_pop mt_pop (pv 4)))
      (pss_cons (ps_if (pt_cmpR oGeI (pe_dget (hu_of hr) (pv 3) (pv 5) (fun _ _ => rfl)) (pe_callB cLenA (by rfl) T.f_len PySem.boot_len (pa_cons (pe_dget (hu_of hr) (pv 0) (pv 5) (fun _ _ => rfl)) pa_nil)) (nomark _)) (pss_one ps_continue) pss_nil)
      (pss_cons (ps_set (i := 6) sc.nd rfl (by first | exact Or.inl rfl | exact Or.inr rfl) (pe_ix ix_list (pe_dget (hu_of hr) (pv 0) (pv 5) (fun _ _ => rfl)) (pe_dget (hu_of hr) (pv 3) (pv 5) (fun _ _ => rfl)) (fun _ _ => rfl)))
      (pss_cons (ps_daug (hu_of hr) (pv 3) (pv 5) pe_int in_add (fun _ _ _ => rfl))
      (pss_cons (ps_set (i := 7) sc.nd rfl (by first | exact Or.inl rfl | exact Or.inr rfl) (pe_dget (hu_of hr) (pv 2) (pv 6) (fun _ _ => rfl)))
      (pss_cons (ps_if (PW.pt (pw_and (pt_cmp (pc_notN (pv 7))) (pw_and1 (pt_cmpR oLtI (pe_bm PySem.F.plainAttrs_list PySem.F.slot_list_index PySem.F.type_list_index mt_index (pe_dget (hu_of hr) (pv 0) (pv 6) (fun _ _ => rfl)) (pa_cons (pv 7) pa_nil)) (pe_bm PySem.F.plainAttrs_list PySem.F.slot_list_index PySem.F.type_list_index mt_index (pe_dget (hu_of hr) (pv 0) (pv 6) (fun _ _ => rfl)) (pa_cons (pv 5) pa_nil)) (nomark _))))) (pss_cons (ps_expr (pe_bm PySem.F.plainAttrs_list PySem.F.slot_list_append PySem.F.type_list_append mt_append (pv 4) (pa_cons (pv 5) pa_nil)))
      (pss_one ps_continue)) pss_nil)
      (pss_cons (ps_dput (hu_of hr) (pv 2) (pv 6) (pv 5) rfl)
      (pss_cons (ps_dput (hu_of hr) (pv 1) (pv 5) (pv 6) rfl)
      (pss_one (ps_if (pt_cmp (pc_notN (pv 7))) (pss_cons (ps_dput (hu_of hr) (pv 1) (pv 7) pe_non rfl)
      (pss_one (ps_expr (pe_bm PySem.F.plainAttrs_list PySem.F.slot_list_append PySem.F.type_list_append mt_append (pv 4) (pa_cons (pv 7) pa_nil))))) pss_nil)))))))))))
      (pss_one (ps_ret (pe_tup (pa_cons (pv 1) (pa_cons (pv 2) pa_nil))))))))))
abbrev n_cycle_from : List Str := ["start", "step", "cycle", "a"]
theorem sc_cycle_from : FnScope n_cycle_from ["start", "step"] (defScope s_cycle_from) := ⟨rfl, rfl, rfl, by decide +kernel, rfl, by decide +kernel, by decide +kernel⟩
theorem ok_cycle_from (T : Top K mg)  (F : FunD K "cycle_from" "cycle_from" (defArgs s_cycle_from) (defBody s_cycle_from) (defScope s_cycle_from) [] [] f fd) : FnOk P w K mg base (L2.CX P w) 1 f fd ["start", "step"] (sp_cycle_from K) := by
  have sc := sc_cycle_from
  refine F.ok sc (fun vs H Q E h => ?_) (fun cdv A outer s H vs Q E hr h => ⟨t_cycle_from K E, ?_, pure_cycle_from h⟩)
  · first | (obtain ⟨rfl, _⟩ := h; rfl) | (obtain ⟨_, rfl, _⟩ := h; rfl) | (obtain ⟨_, _, rfl, _⟩ := h; rfl) | (obtain ⟨_, _, _, rfl, _⟩ := h; rfl) | (obtain ⟨_, _, _, _, rfl, _⟩ := h; rfl) | (obtain ⟨_, _, _, _, _, rfl, _⟩ := h; rfl) | (obtain ⟨_, _, _, _, _, _, rfl, _⟩ := h; rfl) | (obtain ⟨_, _, _, _, _, _, _, rfl, _⟩ := h; rfl) | (obtain ⟨_, _, _, _, _, _, _, _, rfl, _⟩ := h; rfl) | (obtain ⟨_, _, _, _, _, _, _, _, _, rfl, _⟩ := h; rfl) | (obtain ⟨_, _, _, _, _, _, _, _, _, _, rfl, _⟩ := h; rfl) | (obtain ⟨_, _, _, _, _, _, _, _, _, _, _, rfl, _⟩ := h; rfl) | (obtain ⟨_, _, _, _, _, _, _, _, _, _, _, _, rfl, _⟩ := h; rfl) | (obtain ⟨_, _, _, _, _, _, _, _, _, _, _, _, _, rfl, _⟩ := h; rfl) | (obtain ⟨_, _, _, _, _, _, _, _, _, _, _, _, _, _, rfl, _⟩ := h; rfl) | (obtain ⟨_, _, _, _, _, _, _, _, _, _, _, _, _, _, _, rfl, _⟩ := h; rfl) | (obtain ⟨_, _, _, _, _, _, _, _, _, _, _, _, _, _, _, _, rfl, _⟩ := h; rfl) | (obtain ⟨_, _, _, _, _, _, _, _, _, _, _, _, _, _, _, _, _, rfl, _⟩ := h; rfl)
  · have tk : Takes (cxOf (L2.CX P w) P w K mg base n_cycle_from "cycle_from" (defScope s_cycle_from) f cdv A outer s H E) (WE0 E) := takes_of rfl rfl rfl rfl
    have po : PassesOwn (model P w) (cxOf (L2.CX P w) P w K mg base n_cycle_from "cycle_from" (defScope s_cycle_from) f cdv A outer s H E).A (cxOf (L2.CX P w) P w K mg base n_cycle_from "cycle_from" (defScope s_cycle_from) f cdv A outer s H E).env (cxOf (L2.CX P w) P w K mg base n_cycle_from "cycle_from" (defScope s_cycle_from) f cdv A outer s H E).xe := passes_of rfl
    exact (pss_cons (ps_set (i := 2) sc.nd rfl (by first | exact Or.inl rfl | exact Or.inr rfl) (pe_lst (pa_cons (pv 0) pa_nil)))
      (pss_cons (ps_set (i := 3) sc.nd rfl (by first | exact Or.inl rfl | exact Or.inr rfl) (pe_dget (hu_of hr) (pv 1) (pv 0) (fun _ _ => rfl)))
      (pss_cons (ps_while po (PW.pt (pw_and (pt_cmp (pc_notN (pv 3))) (pw_and1 (pt_cmpR op_notIn_seq (pv 3) (pv 2) (by rfl))))) (pss_cons (ps_expr (pe_bm PySem.F.plainAttrs_list PySem.F.slot_list_append PySem.F.type_list_append mt_append (pv 2) (pa_cons (pv 3) pa_nil)))
      (pss_one (ps_set (i := 3) sc.nd rfl (by first | exact Or.inl rfl | exact Or.inr rfl) (pe_dget (hu_of hr) (pv 1) (pv 3) (fun _ _ => rfl))))))
      (pss_cons (ps_if (pt_cmpR op_ne (pv 3) (pv 0) (nomark _)) (pss_one (ps_ret pe_non)) pss_nil)
      (pss_one (ps_ret (pv 2)))))))
abbrev n_in_order : List Str := ["lists", "asks", "holds", "a"]
theorem sc_in_order : FnScope n_in_order ["lists", "asks", "holds"] (defScope s_in_order) := ⟨rfl, rfl, rfl, by decide +kernel, rfl, by decide +kernel, by decide +kernel⟩
theorem ok_in_order (T : Top K mg)  (F : FunD K "in_order" "in_order" (defArgs s_in_order) (defBody s_in_order) (defScope s_in_order) [] [] f fd) : FnOk P w K mg base (L2.CX P w) 1 f fd ["lists", "asks", "holds"] (sp_in_order K) := by
  have sc := sc_in_order
  refine F.ok sc (fun vs H Q E h => ?_) (fun cdv A outer s H vs Q E hr h => ⟨t_in_order K E, ?_, pure_in_order h⟩)
  · first | (obtain ⟨rfl, _⟩ := h; rfl) | (obtain ⟨_, rfl, _⟩ := h; rfl) | (obtain ⟨_, _, rfl, _⟩ := h; rfl) | (obtain ⟨_, _, _, rfl, _⟩ := h; rfl) | (obtain ⟨_, _, _, _, rfl, _⟩ := h; rfl) | (obtain ⟨_, _, _, _, _, rfl, _⟩ := h; rfl) | (obtain ⟨_, _, _, _, _, _, rfl, _⟩ := h; rfl) | (obtain ⟨_, _, _, _, _, _, _, rfl, _⟩ := h; rfl) | (obtain ⟨_, _, _, _, _, _, _, _, rfl, _⟩ := h; rfl) | (obtain ⟨_, _, _, _, _, _, _, _, _, rfl, _⟩ := h; rfl) | (obtain ⟨_, _, _, _, _, _, _, _, _, _, rfl, _⟩ := h; rfl) | (obtain ⟨_, _, _, _, _, _, _, _, _, _, _, rfl, _⟩ := h; rfl) | (obtain ⟨_, _, _, _, _, _, _, _, _, _, _, _, rfl, _⟩ := h; rfl) | (obtain ⟨_, _, _, _, _, _, _, _, _, _, _, _, _, rfl, _⟩ := h; rfl) | (obtain ⟨_, _, _, _, _, _, _, _, _, _, _, _, _, _, rfl, _⟩ := h; rfl) | (obtain ⟨_, _, _, _, _, _, _, _, _, _, _, _, _, _, _, rfl, _⟩ := h; rfl) | (obtain ⟨_, _, _, _, _, _, _, _, _, _, _, _, _, _, _, _, rfl, _⟩ := h; rfl) | (obtain ⟨_, _, _, _, _, _, _, _, _, _, _, _, _, _, _, _, _, rfl, _⟩ := h; rfl)
  · have tk : Takes (cxOf (L2.CX P w) P w K mg base n_in_order "in_order" (defScope s_in_order) f cdv A outer s H E) (WE0 E) := takes_of rfl rfl rfl rfl
    have po : PassesOwn (model P w) (cxOf (L2.CX P w) P w K mg base n_in_order "in_order" (defScope s_in_order) f cdv A outer s H E).A (cxOf (L2.CX P w) P w K mg base n_in_order "in_order" (defScope s_in_order) f cdv A outer s H E).env (cxOf (L2.CX P w) P w K mg base n_in_order "in_order" (defScope s_in_order) f cdv A outer s H E).xe := passes_of rfl
    exact (pss_cons (ps_for po rfl (pi_keys (pv 0)) (pg_name (i := 3) sc.nd rfl (by first | exact Or.inl rfl | exact Or.inr rfl)) (pss_one (ps_if (PW.pt (pw_and (pt_cmp (pc_notN (pe_dget (hu_of hr) (pv 1) (pv 3) (fun _ _ => rfl)))) (pw_and1 (pt_cmpR oGtI (pe_bm PySem.F.plainAttrs_list PySem.F.slot_list_index PySem.F.type_list_index mt_index (pe_dget (hu_of hr) (pv 0) (pv 3) (fun _ _ => rfl)) (pa_cons (pe_dget (hu_of hr) (pv 1) (pv 3) (fun _ _ => rfl)) pa_nil)) (pe_bm PySem.F.plainAttrs_list PySem.F.slot_list_index PySem.F.type_list_index mt_index (pe_dget (hu_of hr) (pv 0) (pv 3) (fun _ _ => rfl)) (pa_cons (pe_dget (hu_of hr) (pv 2) (pv 3) (fun _ _ => rfl)) pa_nil)) (nomark _))))) (pss_one (ps_ret pe_bl)) pss_nil)))
      (pss_one (ps_ret pe_bl)))
abbrev n_lower : List Str := ["lists", "asks", "holds", "a", "row", "c", "held"]
theorem sc_lower : FnScope n_lower ["lists", "asks", "holds", "a"] (defScope s_lower) := ⟨rfl, rfl, rfl, by decide +kernel, rfl, by decide +kernel, by decide +kernel⟩
theorem ok_lower (T : Top K mg)  (F : FunD K "lower" "lower" (defArgs s_lower) (defBody s_lower) (defScope s_lower) [] [] f fd) : FnOk P w K mg base (L2.CX P w) 1 f fd ["lists", "asks", "holds", "a"] (sp_lower K) := by
  have sc := sc_lower
  refine F.ok sc (fun vs H Q E h => ?_) (fun cdv A outer s H vs Q E hr h => ⟨t_lower K E, ?_, pure_lower h⟩)
  · first | (obtain ⟨rfl, _⟩ := h; rfl) | (obtain ⟨_, rfl, _⟩ := h; rfl) | (obtain ⟨_, _, rfl, _⟩ := h; rfl) | (obtain ⟨_, _, _, rfl, _⟩ := h; rfl) | (obtain ⟨_, _, _, _, rfl, _⟩ := h; rfl) | (obtain ⟨_, _, _, _, _, rfl, _⟩ := h; rfl) | (obtain ⟨_, _, _, _, _, _, rfl, _⟩ := h; rfl) | (obtain ⟨_, _, _, _, _, _, _, rfl, _⟩ := h; rfl) | (obtain ⟨_, _, _, _, _, _, _, _, rfl, _⟩ := h; rfl) | (obtain ⟨_, _, _, _, _, _, _, _, _, rfl, _⟩ := h; rfl) | (obtain ⟨_, _, _, _, _, _, _, _, _, _, rfl, _⟩ := h; rfl) | (obtain ⟨_, _, _, _, _, _, _, _, _, _, _, rfl, _⟩ := h; rfl) | (obtain ⟨_, _, _, _, _, _, _, _, _, _, _, _, rfl, _⟩ := h; rfl) | (obtain ⟨_, _, _, _, _, _, _, _, _, _, _, _, _, rfl, _⟩ := h; rfl) | (obtain ⟨_, _, _, _, _, _, _, _, _, _, _, _, _, _, rfl, _⟩ := h; rfl) | (obtain ⟨_, _, _, _, _, _, _, _, _, _, _, _, _, _, _, rfl, _⟩ := h; rfl) | (obtain ⟨_, _, _, _, _, _, _, _, _, _, _, _, _, _, _, _, rfl, _⟩ := h; rfl) | (obtain ⟨_, _, _, _, _, _, _, _, _, _, _, _, _, _, _, _, _, rfl, _⟩ := h; rfl)
  · have tk : Takes (cxOf (L2.CX P w) P w K mg base n_lower "lower" (defScope s_lower) f cdv A outer s H E) (WE0 E) := takes_of rfl rfl rfl rfl
    have po : PassesOwn (model P w) (cxOf (L2.CX P w) P w K mg base n_lower "lower" (defScope s_lower) f cdv A outer s H E).A (cxOf (L2.CX P w) P w K mg base n_lower "lower" (defScope s_lower) f cdv A outer s H E).env (cxOf (L2.CX P w) P w K mg base n_lower "lower" (defScope s_lower) f cdv A outer s H E).xe := passes_of rfl
    exact (pss_cons (ps_if (pt_cmp (pc_isN (pe_dget (hu_of hr) (pv 1) (pv 3) (fun _ _ => rfl)))) (pss_one (ps_ret pe_non)) pss_nil)
      (pss_cons (ps_set (i := 4) sc.nd rfl (by first | exact Or.inl rfl | exact Or.inr rfl) (pe_dget (hu_of hr) (pv 0) (pv 3) (fun _ _ => rfl)))
      (pss_cons (ps_for po rfl (pi_list (pe_slice sl_list (pv 4) (po_some (pe_op oAddI (pe_bm PySem.F.plainAttrs_list PySem.F.slot_list_index PySem.F.type_list_index mt_index (pv 4) (pa_cons (pe_dget (hu_of hr) (pv 1) (pv 3) (fun _ _ => rfl)) pa_nil)) pe_int)) po_none)) (pg_name (i := 5) sc.nd rfl (by first | exact Or.inl rfl | exact Or.inr rfl)) (pss_cons (ps_set (i := 6) sc.nd rfl (by first | exact Or.inl rfl | exact Or.inr rfl) (pe_dget (hu_of hr) (pv 2) (pv 5) (fun _ _ => rfl)))
      (pss_one (ps_if (PW.pt (pw_or (pt_cmp (pc_isN (pv 6))) (pw_or1 (pt_cmpR oGtI (pe_bm PySem.F.plainAttrs_list PySem.F.slot_list_index PySem.F.type_list_index mt_index (pe_dget (hu_of hr) (pv 0) (pv 5) (fun _ _ => rfl)) (pa_cons (pv 6) pa_nil)) (pe_bm PySem.F.plainAttrs_list PySem.F.slot_list_index PySem.F.type_list_index mt_index (pe_dget (hu_of hr) (pv 0) (pv 5) (fun _ _ => rfl)) (pa_cons (pv 3) pa_nil)) (nomark _))))) (pss_one (ps_ret (pv 5))) pss_nil))))
      (pss_one (ps_ret pe_non)))))
abbrev n_passed_on : List Str := ["lists", "asks", "holds", "low", "step", "a", "start", "cycle", "new_asks", "new_holds"]
theorem sc_passed_on : FnScope n_passed_on ["lists", "asks", "holds"] (defScope s_passed_on) := ⟨rfl, rfl, rfl, by decide +kernel, rfl, by decide +kernel, by decide +kernel⟩
theorem ok_passed_on (T : Top K mg) (F_cycle_from : Fn P w K mg base 1 "cycle_from" ["start", "step"] (sp_cycle_from K)) (F_in_order : Fn P w K mg base 1 "in_order" ["lists", "asks", "holds"] (sp_in_order K)) (F_lower : Fn P w K mg base 1 "lower" ["lists", "asks", "holds", "a"] (sp_lower K)) (F : FunD K "passed_on" "passed_on" (defArgs s_passed_on) (defBody s_passed_on) (defScope s_passed_on) [] [] f fd) : FnOk P w K mg base (L2.CX P w) 2 f fd ["lists", "asks", "holds"] (sp_passed_on K) := by
  have sc := sc_passed_on
  refine F.ok sc (fun vs H Q E h => ?_) (fun cdv A outer s H vs Q E hr h => ⟨t_passed_on K E, ?_, pure_passed_on h⟩)
  · first | (obtain ⟨rfl, _⟩ := h; rfl) | (obtain ⟨_, rfl, _⟩ := h; rfl) | (obtain ⟨_, _, rfl, _⟩ := h; rfl) | (obtain ⟨_, _, _, rfl, _⟩ := h; rfl) | (obtain ⟨_, _, _, _, rfl, _⟩ := h; rfl) | (obtain ⟨_, _, _, _, _, rfl, _⟩ := h; rfl) | (obtain ⟨_, _, _, _, _, _, rfl, _⟩ := h; rfl) | (obtain ⟨_, _, _, _, _, _, _, rfl, _⟩ := h; rfl) | (obtain ⟨_, _, _, _, _, _, _, _, rfl, _⟩ := h; rfl) | (obtain ⟨_, _, _, _, _, _, _, _, _, rfl, _⟩ := h; rfl) | (obtain ⟨_, _, _, _, _, _, _, _, _, _, rfl, _⟩ := h; rfl) | (obtain ⟨_, _, _, _, _, _, _, _, _, _, _, rfl, _⟩ := h; rfl) | (obtain ⟨_, _, _, _, _, _, _, _, _, _, _, _, rfl, _⟩ := h; rfl) | (obtain ⟨_, _, _, _, _, _, _, _, _, _, _, _, _, rfl, _⟩ := h; rfl) | (obtain ⟨_, _, _, _, _, _, _, _, _, _, _, _, _, _, rfl, _⟩ := h; rfl) | (obtain ⟨_, _, _, _, _, _, _, _, _, _, _, _, _, _, _, rfl, _⟩ := h; rfl) | (obtain ⟨_, _, _, _, _, _, _, _, _, _, _, _, _, _, _, _, rfl, _⟩ := h; rfl) | (obtain ⟨_, _, _, _, _, _, _, _, _, _, _, _, _, _, _, _, _, rfl, _⟩ := h; rfl)
  · have tk : Takes (cxOf (L2.CX P w) P w K mg base n_passed_on "passed_on" (defScope s_passed_on) f cdv A outer s H E) (WE0 E) := takes_of rfl rfl rfl rfl
    have po : PassesOwn (model P w) (cxOf (L2.CX P w) P w K mg base n_passed_on "passed_on" (defScope s_passed_on) f cdv A outer s H E).A (cxOf (L2.CX P w) P w K mg base n_passed_on "passed_on" (defScope s_passed_on) f cdv A outer s H E).env (cxOf (L2.CX P w) P w K mg base n_passed_on "passed_on" (defScope s_passed_on) f cdv A outer s H E).xe := passes_of rfl
    exact (pss_cons (ps_lock (ps_setDc (i := 3) (own := [("a", 5)]) (g := (gName 5)) (tt := tYes) rfl sc.nd rfl rfl (sw_trueD rfl rfl rfl (by decide +kernel)) (pi_keys (pv 0)) (blkOk_by (own := [("a", 5)]) (N := n_passed_on) (sc := defScope (s_passed_on)) (by decide +kernel)) (fun _ _ _ _ _ => (pg_name (i := 5) sc.nd rfl (by first | exact Or.inl rfl | exact Or.inr rfl))) (fun _ _ _ _ _ => pts_nil) (fun _ _ _ _ _ => (pv 5)) (fun _ _ _ _ _ => (pe_cl F_lower hr (by decide) takes0 (pa_cons (pv 0) (pa_cons (pv 1) (pa_cons (pv 2) (pa_cons (pv 5) pa_nil))))))))
      (pss_cons (ps_set (i := 4) sc.nd rfl (by first | exact Or.inl rfl | exact Or.inr rfl) pe_dnewK)
      (pss_cons (ps_lock (ps_for po rfl (pi_keys (pv 0)) (pg_name (i := 5) sc.nd rfl (by first | exact Or.inl rfl | exact Or.inr rfl)) (pss_cons (ps_dput (hu_of hr) (pv 4) (pv 5) pe_non rfl)
      (pss_one (ps_if (pt_cmp (pc_notN (pe_dget (hu_of hr) (pv 3) (pv 5) (fun _ _ => rfl)))) (pss_one (ps_dput (hu_of hr) (pv 4) (pv 5) (pe_dget (hu_of hr) (pv 2) (pe_dget (hu_of hr) (pv 3) (pv 5) (fun _ _ => rfl)) (fun _ _ => rfl)) rfl)) pss_nil)))))
      (pss_cons (ps_lock (ps_for po rfl (pi_keys (pv 0)) (pg_name (i := 6) sc.nd rfl (by first | exact Or.inl rfl | exact Or.inr rfl)) (pss_cons (ps_set (i := 7) sc.nd rfl (by first | exact Or.inl rfl | exact Or.inr rfl) (pe_cl F_cycle_from hr (by decide) tk (pa_cons (pv 6) (pa_cons (pv 4) pa_nil))))
      (pss_cons (ps_if (pt_cmp (pc_isN (pv 7))) (pss_one ps_continue) pss_nil)
      (pss_cons (ps_set (i := 8) sc.nd rfl (by first | exact Or.inl rfl | exact Or.inr rfl) (pe_callTy cDictOf (by rfl) T.f_dict (by decide +kernel) (pa_cons (pv 1) pa_nil)))
      (pss_cons (ps_set (i := 9) sc.nd rfl (by first | exact Or.inl rfl | exact Or.inr rfl) (pe_callTy cDictOf (by rfl) T.f_dict (by decide +kernel) (pa_cons (pv 2) pa_nil)))
      (pss_cons (ps_for po rfl (pi_list (pv 7)) (pg_name (i := 5) sc.nd rfl (by first | exact Or.inl rfl | exact Or.inr rfl)) (pss_cons (ps_dput (hu_of hr) (pv 8) (pv 5) (pe_dget (hu_of hr) (pv 3) (pv 5) (fun _ _ => rfl)) rfl)
      (pss_one (ps_dput (hu_of hr) (pv 9) (pe_dget (hu_of hr) (pv 3) (pv 5) (fun _ _ => rfl)) (pv 5) rfl))))
      (pss_one (ps_if (pt_val (pe_cl F_in_order hr (by decide) tk (pa_cons (pv 0) (pa_cons (pv 8) (pa_cons (pv 9) pa_nil))))) (pss_one (ps_ret (pe_tup (pa_cons (pv 8) (pa_cons (pv 9) pa_nil))))) pss_nil)))))))))
      (pss_one (ps_ret pe_non))))))
abbrev n_rings_of : List Str := ["x", "rows", "seen", "start", "ring", "a"]
theorem sc_rings_of : FnScope n_rings_of ["x"] (defScope s_rings_of) := ⟨rfl, rfl, rfl, by decide +kernel, rfl, by decide +kernel, by decide +kernel⟩
theorem ok_rings_of (T : Top K mg)  (F : FunD K "rings_of" "rings_of" (defArgs s_rings_of) (defBody s_rings_of) (defScope s_rings_of) [] [] f fd) : FnOk P w K mg base (L2.CX P w) 1 f fd ["x"] (sp_rings_of K) := by
  have sc := sc_rings_of
  refine F.ok sc (fun vs H Q E h => ?_) (fun cdv A outer s H vs Q E hr h => ⟨t_rings_of K E, ?_, pure_rings_of h⟩)
  · first | (obtain ⟨rfl, _⟩ := h; rfl) | (obtain ⟨_, rfl, _⟩ := h; rfl) | (obtain ⟨_, _, rfl, _⟩ := h; rfl) | (obtain ⟨_, _, _, rfl, _⟩ := h; rfl) | (obtain ⟨_, _, _, _, rfl, _⟩ := h; rfl) | (obtain ⟨_, _, _, _, _, rfl, _⟩ := h; rfl) | (obtain ⟨_, _, _, _, _, _, rfl, _⟩ := h; rfl) | (obtain ⟨_, _, _, _, _, _, _, rfl, _⟩ := h; rfl) | (obtain ⟨_, _, _, _, _, _, _, _, rfl, _⟩ := h; rfl) | (obtain ⟨_, _, _, _, _, _, _, _, _, rfl, _⟩ := h; rfl) | (obtain ⟨_, _, _, _, _, _, _, _, _, _, rfl, _⟩ := h; rfl) | (obtain ⟨_, _, _, _, _, _, _, _, _, _, _, rfl, _⟩ := h; rfl) | (obtain ⟨_, _, _, _, _, _, _, _, _, _, _, _, rfl, _⟩ := h; rfl) | (obtain ⟨_, _, _, _, _, _, _, _, _, _, _, _, _, rfl, _⟩ := h; rfl) | (obtain ⟨_, _, _, _, _, _, _, _, _, _, _, _, _, _, rfl, _⟩ := h; rfl) | (obtain ⟨_, _, _, _, _, _, _, _, _, _, _, _, _, _, _, rfl, _⟩ := h; rfl) | (obtain ⟨_, _, _, _, _, _, _, _, _, _, _, _, _, _, _, _, rfl, _⟩ := h; rfl) | (obtain ⟨_, _, _, _, _, _, _, _, _, _, _, _, _, _, _, _, _, rfl, _⟩ := h; rfl)
  · have tk : Takes (cxOf (L2.CX P w) P w K mg base n_rings_of "rings_of" (defScope s_rings_of) f cdv A outer s H E) (WE0 E) := takes_of rfl rfl rfl rfl
    have po : PassesOwn (model P w) (cxOf (L2.CX P w) P w K mg base n_rings_of "rings_of" (defScope s_rings_of) f cdv A outer s H E).A (cxOf (L2.CX P w) P w K mg base n_rings_of "rings_of" (defScope s_rings_of) f cdv A outer s H E).env (cxOf (L2.CX P w) P w K mg base n_rings_of "rings_of" (defScope s_rings_of) f cdv A outer s H E).xe := passes_of rfl
    exact (pss_cons (ps_set (i := 1) sc.nd rfl (by first | exact Or.inl rfl | exact Or.inr rfl) (pe_lst pa_nil))
      (pss_cons (ps_set (i := 2) sc.nd rfl (by first | exact Or.inl rfl | exact Or.inr rfl) pe_dnewK)
      (pss_cons (ps_for po rfl (pi_list (pe_callB (cSortD rfl) (by rfl) T.f_sorted (by decide +kernel) (pa_cons (pv 0) pa_nil))) (pg_name (i := 3) sc.nd rfl (by first | exact Or.inl rfl | exact Or.inr rfl)) (pss_cons (ps_if (pt_cmp (pc_din (hu_of hr) (pv 3) (pv 2))) (pss_one ps_continue) pss_nil)
      (pss_cons (ps_set (i := 4) sc.nd rfl (by first | exact Or.inl rfl | exact Or.inr rfl) (pe_lst (pa_cons (pv 3) pa_nil)))
      (pss_cons (ps_dput (hu_of hr) (pv 2) (pv 3) pe_bl rfl)
      (pss_cons (ps_set (i := 5) sc.nd rfl (by first | exact Or.inl rfl | exact Or.inr rfl) (pe_dget (hu_of hr) (pv 0) (pv 3) (fun _ _ => rfl)))
      (pss_cons (ps_while po (pt_cmpR op_ne (pv 5) (pv 3) (nomark _)) (pss_cons (ps_expr (pe_bm PySem.F.plainAttrs_list PySem.F.slot_list_append PySem.F.type_list_append mt_append (pv 4) (pa_cons (pv 5) pa_nil)))
      (pss_cons (ps_dput (hu_of hr) (pv 2) (pv 5) pe_bl rfl)
      (pss_one (ps_set (i := 5) sc.nd rfl (by first | exact Or.inl rfl | exact Or.inr rfl) (pe_dget (hu_of hr) (pv 0) (pv 5) (fun _ _ => rfl)))))))
      (pss_one (ps_expr (pe_bm PySem.F.plainAttrs_list PySem.F.slot_list_append PySem.F.type_list_append mt_append (pv 1) (pa_cons (pe_callTy cTupOf (by rfl) T.f_tuple (by decide +kernel) (pa_cons (pv 4) pa_nil)) pa_nil))))))))))
      (pss_one (ps_ret (pv 1))))))
abbrev n_plain : List Str := ["x", "y", "ring", "at"]
theorem sc_plain : FnScope n_plain ["x"] (defScope s_plain) := ⟨rfl, rfl, rfl, by decide +kernel, rfl, by decide +kernel, by decide +kernel⟩
theorem ok_plain (T : Top K mg) (F_rings_of : Fn P w K mg base 1 "rings_of" ["x"] (sp_rings_of K)) (F : FunD K "plain" "plain" (defArgs s_plain) (defBody s_plain) (defScope s_plain) [] [] f fd) : FnOk P w K mg base (L2.CX P w) 2 f fd ["x"] (sp_plain K) := by
  have sc := sc_plain
  refine F.ok sc (fun vs H Q E h => ?_) (fun cdv A outer s H vs Q E hr h => ⟨t_plain K E, ?_, pure_plain h⟩)
  · first | (obtain ⟨rfl, _⟩ := h; rfl) | (obtain ⟨_, rfl, _⟩ := h; rfl) | (obtain ⟨_, _, rfl, _⟩ := h; rfl) | (obtain ⟨_, _, _, rfl, _⟩ := h; rfl) | (obtain ⟨_, _, _, _, rfl, _⟩ := h; rfl) | (obtain ⟨_, _, _, _, _, rfl, _⟩ := h; rfl) | (obtain ⟨_, _, _, _, _, _, rfl, _⟩ := h; rfl) | (obtain ⟨_, _, _, _, _, _, _, rfl, _⟩ := h; rfl) | (obtain ⟨_, _, _, _, _, _, _, _, rfl, _⟩ := h; rfl) | (obtain ⟨_, _, _, _, _, _, _, _, _, rfl, _⟩ := h; rfl) | (obtain ⟨_, _, _, _, _, _, _, _, _, _, rfl, _⟩ := h; rfl) | (obtain ⟨_, _, _, _, _, _, _, _, _, _, _, rfl, _⟩ := h; rfl) | (obtain ⟨_, _, _, _, _, _, _, _, _, _, _, _, rfl, _⟩ := h; rfl) | (obtain ⟨_, _, _, _, _, _, _, _, _, _, _, _, _, rfl, _⟩ := h; rfl) | (obtain ⟨_, _, _, _, _, _, _, _, _, _, _, _, _, _, rfl, _⟩ := h; rfl) | (obtain ⟨_, _, _, _, _, _, _, _, _, _, _, _, _, _, _, rfl, _⟩ := h; rfl) | (obtain ⟨_, _, _, _, _, _, _, _, _, _, _, _, _, _, _, _, rfl, _⟩ := h; rfl) | (obtain ⟨_, _, _, _, _, _, _, _, _, _, _, _, _, _, _, _, _, rfl, _⟩ := h; rfl)
  · have tk : Takes (cxOf (L2.CX P w) P w K mg base n_plain "plain" (defScope s_plain) f cdv A outer s H E) (WE0 E) := takes_of rfl rfl rfl rfl
    have po : PassesOwn (model P w) (cxOf (L2.CX P w) P w K mg base n_plain "plain" (defScope s_plain) f cdv A outer s H E).A (cxOf (L2.CX P w) P w K mg base n_plain "plain" (defScope s_plain) f cdv A outer s H E).env (cxOf (L2.CX P w) P w K mg base n_plain "plain" (defScope s_plain) f cdv A outer s H E).xe := passes_of rfl
    exact (pss_cons (ps_set (i := 1) sc.nd rfl (by first | exact Or.inl rfl | exact Or.inr rfl) (pe_callTy cDictOf (by rfl) T.f_dict (by decide +kernel) (pa_cons (pv 0) pa_nil)))
      (pss_cons (ps_for po rfl (pi_list (pe_cl F_rings_of hr (by decide) tk (pa_cons (pv 0) pa_nil))) (pg_name (i := 2) sc.nd rfl (by first | exact Or.inl rfl | exact Or.inr rfl)) (pss_one (ps_if (PW.pt (pw_and (pt_cmpR oGeI (pe_callB cLenA (by rfl) T.f_len PySem.boot_len (pa_cons (pv 2) pa_nil)) pe_int (nomark _)) (pw_and1 (pt_cmpR op_eq (pe_op oModI (pe_callB cLenA (by rfl) T.f_len PySem.boot_len (pa_cons (pv 2) pa_nil)) pe_int) pe_int (nomark _))))) (pss_one (ps_for po rfl (pi_range3 (by rfl) T.f_range (pa_cons pe_int (pa_cons (pe_callB cLenA (by rfl) T.f_len PySem.boot_len (pa_cons (pv 2) pa_nil)) (pa_cons pe_int pa_nil)))) (pg_name (i := 3) sc.nd rfl (by first | exact Or.inl rfl | exact Or.inr rfl)) (pss_cons (ps_dput (hu_of hr) (pv 1) (pe_ix ix_tup (pv 2) (pv 3) (fun _ _ => rfl)) (pe_ix ix_tup (pv 2) (pe_op oAddI (pv 3) pe_int) (fun _ _ => rfl)) rfl)
      (pss_one (ps_dput (hu_of hr) (pv 1) (pe_ix ix_tup (pv 2) (pe_op oAddI (pv 3) pe_int) (fun _ _ => rfl)) (pe_ix ix_tup (pv 2) (pv 3) (fun _ _ => rfl)) rfl))))) pss_nil)))
      (pss_one (ps_ret (pv 1)))))
abbrev n_NoPerson___init__ : List Str := ["self", "value"]
def t_NoPerson___init__ (K : PySem.W.Frag) (E : XK) : TS := (tSeq (tDrop (tVeI K (tCons (tVar 0) (tCons (tC (.str "the value is not a person of the group")) tNil))))
  (tOst K "value" (tVar 0) (tVar 1)))
theorem sc_NoPerson___init__ : FnScope n_NoPerson___init__ ["self", "value"] (defScope s_NoPerson___init__) := ⟨rfl, rfl, rfl, by decide +kernel, rfl, by decide +kernel, by decide +kernel⟩
theorem pure_NoPerson___init__ (T : Top K mg) {vs : List V} {H : Hp} {Q : VK} {E : XK} (h : (spI1 K (He.ga K "NoPerson") "value") vs H Q E) : t_NoPerson___init__ K E { nx := fun _ H' => Q .non H', rt := Q } (start n_NoPerson___init__ vs) H := by
  obtain ⟨a, v, rfl, ha, k⟩ := h
  show t_NoPerson___init__ K E _ [some (.ref a), some v] H
  exact xi1 T.ox_NoPerson T.na_NoPerson_value ha k
theorem ok_NoPerson___init__ (T : Top K mg)  (F : FunD K "__init__" "NoPerson.__init__" (defArgs s_NoPerson___init__) (defBody s_NoPerson___init__) (defScope s_NoPerson___init__) [] [] f fd) : FnOk P w K mg base (L2.CX P w) 1 f fd ["self", "value"] (spI1 K (He.ga K "NoPerson") "value") := by
  have sc := sc_NoPerson___init__
  refine F.ok sc (fun vs H Q E h => ?_) (fun cdv A outer s H vs Q E hr h => ⟨t_NoPerson___init__ K E, ?_, pure_NoPerson___init__ T h⟩)
  · first | (obtain ⟨rfl, _⟩ := h; rfl) | (obtain ⟨_, rfl, _⟩ := h; rfl) | (obtain ⟨_, _, rfl, _⟩ := h; rfl) | (obtain ⟨_, _, _, rfl, _⟩ := h; rfl) | (obtain ⟨_, _, _, _, rfl, _⟩ := h; rfl) | (obtain ⟨_, _, _, _, _, rfl, _⟩ := h; rfl) | (obtain ⟨_, _, _, _, _, _, rfl, _⟩ := h; rfl) | (obtain ⟨_, _, _, _, _, _, _, rfl, _⟩ := h; rfl) | (obtain ⟨_, _, _, _, _, _, _, _, rfl, _⟩ := h; rfl) | (obtain ⟨_, _, _, _, _, _, _, _, _, rfl, _⟩ := h; rfl) | (obtain ⟨_, _, _, _, _, _, _, _, _, _, rfl, _⟩ := h; rfl) | (obtain ⟨_, _, _, _, _, _, _, _, _, _, _, rfl, _⟩ := h; rfl) | (obtain ⟨_, _, _, _, _, _, _, _, _, _, _, _, rfl, _⟩ := h; rfl) | (obtain ⟨_, _, _, _, _, _, _, _, _, _, _, _, _, rfl, _⟩ := h; rfl) | (obtain ⟨_, _, _, _, _, _, _, _, _, _, _, _, _, _, rfl, _⟩ := h; rfl) | (obtain ⟨_, _, _, _, _, _, _, _, _, _, _, _, _, _, _, rfl, _⟩ := h; rfl) | (obtain ⟨_, _, _, _, _, _, _, _, _, _, _, _, _, _, _, _, rfl, _⟩ := h; rfl) | (obtain ⟨_, _, _, _, _, _, _, _, _, _, _, _, _, _, _, _, _, rfl, _⟩ := h; rfl)
  · have tk : Takes (cxOf (L2.CX P w) P w K mg base n_NoPerson___init__ "NoPerson.__init__" (defScope s_NoPerson___init__) f cdv A outer s H E) (WE0 E) := takes_of rfl rfl rfl rfl
    have po : PassesOwn (model P w) (cxOf (L2.CX P w) P w K mg base n_NoPerson___init__ "NoPerson.__init__" (defScope s_NoPerson___init__) f cdv A outer s H E).A (cxOf (L2.CX P w) P w K mg base n_NoPerson___init__ "NoPerson.__init__" (defScope s_NoPerson___init__) f cdv A outer s H E).env (cxOf (L2.CX P w) P w K mg base n_NoPerson___init__ "NoPerson.__init__" (defScope s_NoPerson___init__) f cdv A outer s H E).xe := passes_of rfl
    exact (pss_cons (ps_expr (pe_qinit T.g_QuietError T.qi (pa_cons (pv 0) (pa_cons pe_str pa_nil))))
      (pss_one (ps_ost (pv 0) (pv 1))))
abbrev n_Group_check : List Str := ["self", "a"]
theorem sc_Group_check : FnScope n_Group_check ["self", "a"] (defScope s_Group_check) := ⟨rfl, rfl, rfl, by decide +kernel, rfl, by decide +kernel, by decide +kernel⟩
theorem ok_Group_check (T : Top K mg) (Z_NoPerson : ErC P w K mg base "NoPerson" ["self", "value"] (spI1 K (He.ga K "NoPerson") "value")) (F : FunD K "check" "Group.check" (defArgs s_Group_check) (defBody s_Group_check) (defScope s_Group_check) [] [] f fd) : FnOk P w K mg base (L2.CX P w) 3 f fd ["self", "a"] (sp_Group_check K) := by
  have sc := sc_Group_check
  refine F.ok sc (fun vs H Q E h => ?_) (fun cdv A outer s H vs Q E hr h => ⟨t_Group_check K E, ?_, pure_Group_check T.gk h⟩)
  · first | (obtain ⟨rfl, _⟩ := h; rfl) | (obtain ⟨_, rfl, _⟩ := h; rfl) | (obtain ⟨_, _, rfl, _⟩ := h; rfl) | (obtain ⟨_, _, _, rfl, _⟩ := h; rfl) | (obtain ⟨_, _, _, _, rfl, _⟩ := h; rfl) | (obtain ⟨_, _, _, _, _, rfl, _⟩ := h; rfl) | (obtain ⟨_, _, _, _, _, _, rfl, _⟩ := h; rfl) | (obtain ⟨_, _, _, _, _, _, _, rfl, _⟩ := h; rfl) | (obtain ⟨_, _, _, _, _, _, _, _, rfl, _⟩ := h; rfl) | (obtain ⟨_, _, _, _, _, _, _, _, _, rfl, _⟩ := h; rfl) | (obtain ⟨_, _, _, _, _, _, _, _, _, _, rfl, _⟩ := h; rfl) | (obtain ⟨_, _, _, _, _, _, _, _, _, _, _, rfl, _⟩ := h; rfl) | (obtain ⟨_, _, _, _, _, _, _, _, _, _, _, _, rfl, _⟩ := h; rfl) | (obtain ⟨_, _, _, _, _, _, _, _, _, _, _, _, _, rfl, _⟩ := h; rfl) | (obtain ⟨_, _, _, _, _, _, _, _, _, _, _, _, _, _, rfl, _⟩ := h; rfl) | (obtain ⟨_, _, _, _, _, _, _, _, _, _, _, _, _, _, _, rfl, _⟩ := h; rfl) | (obtain ⟨_, _, _, _, _, _, _, _, _, _, _, _, _, _, _, _, rfl, _⟩ := h; rfl) | (obtain ⟨_, _, _, _, _, _, _, _, _, _, _, _, _, _, _, _, _, rfl, _⟩ := h; rfl)
  · have tk : Takes (cxOf (L2.CX P w) P w K mg base n_Group_check "Group.check" (defScope s_Group_check) f cdv A outer s H E) (WE0 E) := takes_of rfl rfl rfl rfl
    have po : PassesOwn (model P w) (cxOf (L2.CX P w) P w K mg base n_Group_check "Group.check" (defScope s_Group_check) f cdv A outer s H E).A (cxOf (L2.CX P w) P w K mg base n_Group_check "Group.check" (defScope s_Group_check) f cdv A outer s H E).env (cxOf (L2.CX P w) P w K mg base n_Group_check "Group.check" (defScope s_Group_check) f cdv A outer s H E).xe := passes_of rfl
    exact (pss_one (ps_if (PW.pt (pw_or (pt_not (pt_val (pe_callB call_isi (by rfl) T.f_isinstance (by decide +kernel) (pa_cons (pv 1) (pa_cons (pe_bltn (v := .ty "str") rfl T.f_str (by decide +kernel) rfl) pa_nil))))) (pw_or1 (pt_cmp (pc_dnotin (hu_of hr) (pv 1) (pe_fld (pv 0) rfl)))))) (pss_one (ps_rz1 Z_NoPerson hr (by decide) rfl tk (pv 1))) pss_nil))
abbrev n_Group_open_to : List Str := ["self", "a"]
theorem sc_Group_open_to : FnScope n_Group_open_to ["self", "a"] (defScope s_Group_open_to) := ⟨rfl, rfl, rfl, by decide +kernel, rfl, by decide +kernel, by decide +kernel⟩
theorem ok_Group_open_to (T : Top K mg) (M_Group_check : Mt P w K mg base 3 "Group" "check" ["self", "a"] (sp_Group_check K)) (F : FunD K "open_to" "Group.open_to" (defArgs s_Group_open_to) (defBody s_Group_open_to) (defScope s_Group_open_to) [] [] f fd) : FnOk P w K mg base (L2.CX P w) 4 f fd ["self", "a"] (sp_Group_open_to K) := by
  have sc := sc_Group_open_to
  refine F.ok sc (fun vs H Q E h => ?_) (fun cdv A outer s H vs Q E hr h => ⟨t_Group_open_to K E, ?_, pure_Group_open_to T.gk h⟩)
  · first | (obtain ⟨rfl, _⟩ := h; rfl) | (obtain ⟨_, rfl, _⟩ := h; rfl) | (obtain ⟨_, _, rfl, _⟩ := h; rfl) | (obtain ⟨_, _, _, rfl, _⟩ := h; rfl) | (obtain ⟨_, _, _, _, rfl, _⟩ := h; rfl) | (obtain ⟨_, _, _, _, _, rfl, _⟩ := h; rfl) | (obtain ⟨_, _, _, _, _, _, rfl, _⟩ := h; rfl) | (obtain ⟨_, _, _, _, _, _, _, rfl, _⟩ := h; rfl) | (obtain ⟨_, _, _, _, _, _, _, _, rfl, _⟩ := h; rfl) | (obtain ⟨_, _, _, _, _, _, _, _, _, rfl, _⟩ := h; rfl) | (obtain ⟨_, _, _, _, _, _, _, _, _, _, rfl, _⟩ := h; rfl) | (obtain ⟨_, _, _, _, _, _, _, _, _, _, _, rfl, _⟩ := h; rfl) | (obtain ⟨_, _, _, _, _, _, _, _, _, _, _, _, rfl, _⟩ := h; rfl) | (obtain ⟨_, _, _, _, _, _, _, _, _, _, _, _, _, rfl, _⟩ := h; rfl) | (obtain ⟨_, _, _, _, _, _, _, _, _, _, _, _, _, _, rfl, _⟩ := h; rfl) | (obtain ⟨_, _, _, _, _, _, _, _, _, _, _, _, _, _, _, rfl, _⟩ := h; rfl) | (obtain ⟨_, _, _, _, _, _, _, _, _, _, _, _, _, _, _, _, rfl, _⟩ := h; rfl) | (obtain ⟨_, _, _, _, _, _, _, _, _, _, _, _, _, _, _, _, _, rfl, _⟩ := h; rfl)
  · have tk : Takes (cxOf (L2.CX P w) P w K mg base n_Group_open_to "Group.open_to" (defScope s_Group_open_to) f cdv A outer s H E) (WE0 E) := takes_of rfl rfl rfl rfl
    have po : PassesOwn (model P w) (cxOf (L2.CX P w) P w K mg base n_Group_open_to "Group.open_to" (defScope s_Group_open_to) f cdv A outer s H E).A (cxOf (L2.CX P w) P w K mg base n_Group_open_to "Group.open_to" (defScope s_Group_open_to) f cdv A outer s H E).env (cxOf (L2.CX P w) P w K mg base n_Group_open_to "Group.open_to" (defScope s_Group_open_to) f cdv A outer s H E).xe := passes_of rfl
    exact (pss_cons (ps_expr (pe_mt (c := "Group") M_Group_check hr (by decide) tk (pv 0) (pa_cons (pv 1) pa_nil)))
      (pss_one (ps_ret (pe_callTy cListOf (by rfl) T.f_list (by decide +kernel) (pa_cons (pe_dget (hu_of hr) (pe_fld (pv 0) rfl) (pv 1) (fun _ _ => rfl)) pa_nil)))))
abbrev n_Group_people : List Str := ["self"]
theorem sc_Group_people : FnScope n_Group_people ["self"] (defScope s_Group_people) := ⟨rfl, rfl, rfl, by decide +kernel, rfl, by decide +kernel, by decide +kernel⟩
theorem ok_Group_people (T : Top K mg)  (F : FunD K "people" "Group.people" (defArgs s_Group_people) (defBody s_Group_people) (defScope s_Group_people) [] [] f fd) : FnOk P w K mg base (L2.CX P w) 1 f fd ["self"] (sp_Group_people K) := by
  have sc := sc_Group_people
  refine F.ok sc (fun vs H Q E h => ?_) (fun cdv A outer s H vs Q E hr h => ⟨t_Group_people K E, ?_, pure_Group_people T.gk h⟩)
  · first | (obtain ⟨rfl, _⟩ := h; rfl) | (obtain ⟨_, rfl, _⟩ := h; rfl) | (obtain ⟨_, _, rfl, _⟩ := h; rfl) | (obtain ⟨_, _, _, rfl, _⟩ := h; rfl) | (obtain ⟨_, _, _, _, rfl, _⟩ := h; rfl) | (obtain ⟨_, _, _, _, _, rfl, _⟩ := h; rfl) | (obtain ⟨_, _, _, _, _, _, rfl, _⟩ := h; rfl) | (obtain ⟨_, _, _, _, _, _, _, rfl, _⟩ := h; rfl) | (obtain ⟨_, _, _, _, _, _, _, _, rfl, _⟩ := h; rfl) | (obtain ⟨_, _, _, _, _, _, _, _, _, rfl, _⟩ := h; rfl) | (obtain ⟨_, _, _, _, _, _, _, _, _, _, rfl, _⟩ := h; rfl) | (obtain ⟨_, _, _, _, _, _, _, _, _, _, _, rfl, _⟩ := h; rfl) | (obtain ⟨_, _, _, _, _, _, _, _, _, _, _, _, rfl, _⟩ := h; rfl) | (obtain ⟨_, _, _, _, _, _, _, _, _, _, _, _, _, rfl, _⟩ := h; rfl) | (obtain ⟨_, _, _, _, _, _, _, _, _, _, _, _, _, _, rfl, _⟩ := h; rfl) | (obtain ⟨_, _, _, _, _, _, _, _, _, _, _, _, _, _, _, rfl, _⟩ := h; rfl) | (obtain ⟨_, _, _, _, _, _, _, _, _, _, _, _, _, _, _, _, rfl, _⟩ := h; rfl) | (obtain ⟨_, _, _, _, _, _, _, _, _, _, _, _, _, _, _, _, _, rfl, _⟩ := h; rfl)
  · have tk : Takes (cxOf (L2.CX P w) P w K mg base n_Group_people "Group.people" (defScope s_Group_people) f cdv A outer s H E) (WE0 E) := takes_of rfl rfl rfl rfl
    have po : PassesOwn (model P w) (cxOf (L2.CX P w) P w K mg base n_Group_people "Group.people" (defScope s_Group_people) f cdv A outer s H E).A (cxOf (L2.CX P w) P w K mg base n_Group_people "Group.people" (defScope s_Group_people) f cdv A outer s H E).env (cxOf (L2.CX P w) P w K mg base n_Group_people "Group.people" (defScope s_Group_people) f cdv A outer s H E).xe := passes_of rfl
    exact (pss_one (ps_ret (pe_callTy cListOf (by rfl) T.f_list (by decide +kernel) (pa_cons (pe_fld (pv 0) rfl) pa_nil))))
abbrev n_find_half : List Str := ["group", "lists", "told", "x", "a", "asks", "holds"]
theorem sc_find_half : FnScope n_find_half ["group"] (defScope s_find_half) := ⟨rfl, rfl, rfl, by decide +kernel, rfl, by decide +kernel, by decide +kernel⟩
theorem ok_find_half (T : Top K mg) (F_ask_all : Fn P w K mg base 1 "ask_all" ["lists"] (sp_ask_all K)) (F_passed_on : Fn P w K mg base 2 "passed_on" ["lists", "asks", "holds"] (sp_passed_on K)) (F_plain : Fn P w K mg base 2 "plain" ["x"] (sp_plain K)) (M_Group_open_to : Mt P w K mg base 4 "Group" "open_to" ["self", "a"] (sp_Group_open_to K)) (M_Group_people : Mt P w K mg base 1 "Group" "people" ["self"] (sp_Group_people K)) (F : FunD K "find_half" "find_half" (defArgs s_find_half) (defBody s_find_half) (defScope s_find_half) [] [] f fd) : FnOk P w K mg base (L2.CX P w) 5 f fd ["group"] (sp_find_half K) := by
  have sc := sc_find_half
  refine F.ok sc (fun vs H Q E h => ?_) (fun cdv A outer s H vs Q E hr h => ⟨t_find_half K E, ?_, pure_find_half h⟩)
  · first | (obtain ⟨rfl, _⟩ := h; rfl) | (obtain ⟨_, rfl, _⟩ := h; rfl) | (obtain ⟨_, _, rfl, _⟩ := h; rfl) | (obtain ⟨_, _, _, rfl, _⟩ := h; rfl) | (obtain ⟨_, _, _, _, rfl, _⟩ := h; rfl) | (obtain ⟨_, _, _, _, _, rfl, _⟩ := h; rfl) | (obtain ⟨_, _, _, _, _, _, rfl, _⟩ := h; rfl) | (obtain ⟨_, _, _, _, _, _, _, rfl, _⟩ := h; rfl) | (obtain ⟨_, _, _, _, _, _, _, _, rfl, _⟩ := h; rfl) | (obtain ⟨_, _, _, _, _, _, _, _, _, rfl, _⟩ := h; rfl) | (obtain ⟨_, _, _, _, _, _, _, _, _, _, rfl, _⟩ := h; rfl) | (obtain ⟨_, _, _, _, _, _, _, _, _, _, _, rfl, _⟩ := h; rfl) | (obtain ⟨_, _, _, _, _, _, _, _, _, _, _, _, rfl, _⟩ := h; rfl) | (obtain ⟨_, _, _, _, _, _, _, _, _, _, _, _, _, rfl, _⟩ := h; rfl) | (obtain ⟨_, _, _, _, _, _, _, _, _, _, _, _, _, _, rfl, _⟩ := h; rfl) | (obtain ⟨_, _, _, _, _, _, _, _, _, _, _, _, _, _, _, rfl, _⟩ := h; rfl) | (obtain ⟨_, _, _, _, _, _, _, _, _, _, _, _, _, _, _, _, rfl, _⟩ := h; rfl) | (obtain ⟨_, _, _, _, _, _, _, _, _, _, _, _, _, _, _, _, _, rfl, _⟩ := h; rfl)
  · have tk : Takes (cxOf (L2.CX P w) P w K mg base n_find_half "find_half" (defScope s_find_half) f cdv A outer s H E) (WE0 E) := takes_of rfl rfl rfl rfl
    have po : PassesOwn (model P w) (cxOf (L2.CX P w) P w K mg base n_find_half "find_half" (defScope s_find_half) f cdv A outer s H E).A (cxOf (L2.CX P w) P w K mg base n_find_half "find_half" (defScope s_find_half) f cdv A outer s H E).env (cxOf (L2.CX P w) P w K mg base n_find_half "find_half" (defScope s_find_half) f cdv A outer s H E).xe := passes_of rfl
    exact (pss_cons (ps_setDc (i := 1) (own := [("a", 4)]) (g := (gName 4)) (tt := tYes) rfl sc.nd rfl rfl (sw_trueD rfl rfl rfl (by decide +kernel)) (pi_list (pe_callB cSortL (by rfl) T.f_sorted (by decide +kernel) (pa_cons (pe_mt0 (c := "Group") M_Group_people hr (by decide) tk (pv 0)) pa_nil))) (blkOk_by (own := [("a", 4)]) (N := n_find_half) (sc := defScope (s_find_half)) (by decide +kernel)) (fun _ _ _ _ _ => (pg_name (i := 4) sc.nd rfl (by first | exact Or.inl rfl | exact Or.inr rfl))) (fun _ _ _ _ _ => pts_nil) (fun _ _ _ _ _ => (pv 4)) (fun _ _ _ _ _ => (pe_mt (c := "Group") M_Group_open_to hr (by decide) takes0 (pv 0) (pa_cons (pv 4) pa_nil))))
      (pss_cons (ps_asg (pe_cl F_ask_all hr (by decide) tk (pa_cons (pv 1) pa_nil)) (pg_tup rfl (pgs_cons (pg_name (i := 5) sc.nd rfl (by first | exact Or.inl rfl | exact Or.inr rfl)) (pgs_cons (pg_name (i := 6) sc.nd rfl (by first | exact Or.inl rfl | exact Or.inr rfl)) pgs_nil))))
      (pss_cons (ps_set (i := 2) sc.nd rfl (by first | exact Or.inl rfl | exact Or.inr rfl) (pe_cl F_passed_on hr (by decide) tk (pa_cons (pv 1) (pa_cons (pv 5) (pa_cons (pv 6) pa_nil)))))
      (pss_cons (ps_while po (pt_cmp (pc_notN (pv 2))) (pss_cons (ps_asg (pv 2) (pg_tup rfl (pgs_cons (pg_name (i := 5) sc.nd rfl (by first | exact Or.inl rfl | exact Or.inr rfl)) (pgs_cons (pg_name (i := 6) sc.nd rfl (by first | exact Or.inl rfl | exact Or.inr rfl)) pgs_nil))))
      (pss_one (ps_set (i := 2) sc.nd rfl (by first | exact Or.inl rfl | exact Or.inr rfl) (pe_cl F_passed_on hr (by decide) tk (pa_cons (pv 1) (pa_cons (pv 5) (pa_cons (pv 6) pa_nil))))))))
      (pss_cons (ps_set (i := 3) sc.nd rfl (by first | exact Or.inl rfl | exact Or.inr rfl) pe_dnewK)
      (pss_cons (ps_lock (ps_for po rfl (pi_keys (pv 1)) (pg_name (i := 4) sc.nd rfl (by first | exact Or.inl rfl | exact Or.inr rfl)) (pss_cons (ps_dput (hu_of hr) (pv 3) (pv 4) (pv 4) rfl)
      (pss_one (ps_if (pt_cmp (pc_notN (pe_dget (hu_of hr) (pv 5) (pv 4) (fun _ _ => rfl)))) (pss_one (ps_dput (hu_of hr) (pv 3) (pv 4) (pe_dget (hu_of hr) (pv 5) (pv 4) (fun _ _ => rfl)) rfl)) pss_nil)))))
      (pss_one (ps_ret (pe_cl F_plain hr (by decide) tk (pa_cons (pv 3) pa_nil))))))))))
abbrev n_lots : List Str := ["group", "rows", "ring"]
theorem sc_lots : FnScope n_lots ["group"] (defScope s_lots) := ⟨rfl, rfl, rfl, by decide +kernel, rfl, by decide +kernel, by decide +kernel⟩
theorem ok_lots (T : Top K mg) (F_find_half : Fn P w K mg base 5 "find_half" ["group"] (sp_find_half K)) (F_rings_of : Fn P w K mg base 1 "rings_of" ["x"] (sp_rings_of K)) (F : FunD K "lots" "lots" (defArgs s_lots) (defBody s_lots) (defScope s_lots) [] [] f fd) : FnOk P w K mg base (L2.CX P w) 6 f fd ["group"] (sp_lots K) := by
  have sc := sc_lots
  refine F.ok sc (fun vs H Q E h => ?_) (fun cdv A outer s H vs Q E hr h => ⟨t_lots K E, ?_, pure_lots h⟩)
  · first | (obtain ⟨rfl, _⟩ := h; rfl) | (obtain ⟨_, rfl, _⟩ := h; rfl) | (obtain ⟨_, _, rfl, _⟩ := h; rfl) | (obtain ⟨_, _, _, rfl, _⟩ := h; rfl) | (obtain ⟨_, _, _, _, rfl, _⟩ := h; rfl) | (obtain ⟨_, _, _, _, _, rfl, _⟩ := h; rfl) | (obtain ⟨_, _, _, _, _, _, rfl, _⟩ := h; rfl) | (obtain ⟨_, _, _, _, _, _, _, rfl, _⟩ := h; rfl) | (obtain ⟨_, _, _, _, _, _, _, _, rfl, _⟩ := h; rfl) | (obtain ⟨_, _, _, _, _, _, _, _, _, rfl, _⟩ := h; rfl) | (obtain ⟨_, _, _, _, _, _, _, _, _, _, rfl, _⟩ := h; rfl) | (obtain ⟨_, _, _, _, _, _, _, _, _, _, _, rfl, _⟩ := h; rfl) | (obtain ⟨_, _, _, _, _, _, _, _, _, _, _, _, rfl, _⟩ := h; rfl) | (obtain ⟨_, _, _, _, _, _, _, _, _, _, _, _, _, rfl, _⟩ := h; rfl) | (obtain ⟨_, _, _, _, _, _, _, _, _, _, _, _, _, _, rfl, _⟩ := h; rfl) | (obtain ⟨_, _, _, _, _, _, _, _, _, _, _, _, _, _, _, rfl, _⟩ := h; rfl) | (obtain ⟨_, _, _, _, _, _, _, _, _, _, _, _, _, _, _, _, rfl, _⟩ := h; rfl) | (obtain ⟨_, _, _, _, _, _, _, _, _, _, _, _, _, _, _, _, _, rfl, _⟩ := h; rfl)
  · have tk : Takes (cxOf (L2.CX P w) P w K mg base n_lots "lots" (defScope s_lots) f cdv A outer s H E) (WE0 E) := takes_of rfl rfl rfl rfl
    have po : PassesOwn (model P w) (cxOf (L2.CX P w) P w K mg base n_lots "lots" (defScope s_lots) f cdv A outer s H E).A (cxOf (L2.CX P w) P w K mg base n_lots "lots" (defScope s_lots) f cdv A outer s H E).env (cxOf (L2.CX P w) P w K mg base n_lots "lots" (defScope s_lots) f cdv A outer s H E).xe := passes_of rfl
    exact (pss_cons (ps_set (i := 1) sc.nd rfl (by first | exact Or.inl rfl | exact Or.inr rfl) (pe_lst pa_nil))
      (pss_cons (ps_for po rfl (pi_list (pe_cl F_rings_of hr (by decide) tk (pa_cons (pe_cl F_find_half hr (by decide) tk (pa_cons (pv 0) pa_nil)) pa_nil))) (pg_name (i := 2) sc.nd rfl (by first | exact Or.inl rfl | exact Or.inr rfl)) (pss_one (ps_if (pt_cmpR op_eq (pe_op oModI (pe_callB cLenA (by rfl) T.f_len PySem.boot_len (pa_cons (pv 2) pa_nil)) pe_int) pe_int (nomark _)) (pss_one (ps_expr (pe_bm PySem.F.plainAttrs_list PySem.F.slot_list_append PySem.F.type_list_append mt_append (pv 1) (pa_cons (pe_callTy cTupOf (by rfl) T.f_tuple (by decide +kernel) (pa_cons (pe_callB (cSortT rfl) (by rfl) T.f_sorted (by decide +kernel) (pa_cons (pv 2) pa_nil)) pa_nil)) pa_nil)))) pss_nil)))
      (pss_one (ps_ret (pe_callB cSortTx (by rfl) T.f_sorted (by decide +kernel) (pa_cons (pv 1) pa_nil))))))
abbrev n_alone : List Str := ["group", "lot"]
theorem sc_alone : FnScope n_alone ["group"] (defScope s_alone) := ⟨rfl, rfl, rfl, by decide +kernel, rfl, by decide +kernel, by decide +kernel⟩
theorem ok_alone (T : Top K mg) (F_lots : Fn P w K mg base 6 "lots" ["group"] (sp_lots K)) (F : FunD K "alone" "alone" (defArgs s_alone) (defBody s_alone) (defScope s_alone) [] [] f fd) : FnOk P w K mg base (L2.CX P w) 7 f fd ["group"] (sp_alone K) := by
  have sc := sc_alone
  refine F.ok sc (fun vs H Q E h => ?_) (fun cdv A outer s H vs Q E hr h => ⟨t_alone K E, ?_, pure_alone h⟩)
  · first | (obtain ⟨rfl, _⟩ := h; rfl) | (obtain ⟨_, rfl, _⟩ := h; rfl) | (obtain ⟨_, _, rfl, _⟩ := h; rfl) | (obtain ⟨_, _, _, rfl, _⟩ := h; rfl) | (obtain ⟨_, _, _, _, rfl, _⟩ := h; rfl) | (obtain ⟨_, _, _, _, _, rfl, _⟩ := h; rfl) | (obtain ⟨_, _, _, _, _, _, rfl, _⟩ := h; rfl) | (obtain ⟨_, _, _, _, _, _, _, rfl, _⟩ := h; rfl) | (obtain ⟨_, _, _, _, _, _, _, _, rfl, _⟩ := h; rfl) | (obtain ⟨_, _, _, _, _, _, _, _, _, rfl, _⟩ := h; rfl) | (obtain ⟨_, _, _, _, _, _, _, _, _, _, rfl, _⟩ := h; rfl) | (obtain ⟨_, _, _, _, _, _, _, _, _, _, _, rfl, _⟩ := h; rfl) | (obtain ⟨_, _, _, _, _, _, _, _, _, _, _, _, rfl, _⟩ := h; rfl) | (obtain ⟨_, _, _, _, _, _, _, _, _, _, _, _, _, rfl, _⟩ := h; rfl) | (obtain ⟨_, _, _, _, _, _, _, _, _, _, _, _, _, _, rfl, _⟩ := h; rfl) | (obtain ⟨_, _, _, _, _, _, _, _, _, _, _, _, _, _, _, rfl, _⟩ := h; rfl) | (obtain ⟨_, _, _, _, _, _, _, _, _, _, _, _, _, _, _, _, rfl, _⟩ := h; rfl) | (obtain ⟨_, _, _, _, _, _, _, _, _, _, _, _, _, _, _, _, _, rfl, _⟩ := h; rfl)
  · have tk : Takes (cxOf (L2.CX P w) P w K mg base n_alone "alone" (defScope s_alone) f cdv A outer s H E) (WE0 E) := takes_of rfl rfl rfl rfl
    have po : PassesOwn (model P w) (cxOf (L2.CX P w) P w K mg base n_alone "alone" (defScope s_alone) f cdv A outer s H E).A (cxOf (L2.CX P w) P w K mg base n_alone "alone" (defScope s_alone) f cdv A outer s H E).env (cxOf (L2.CX P w) P w K mg base n_alone "alone" (defScope s_alone) f cdv A outer s H E).xe := passes_of rfl
    exact (pss_one (ps_ret (pe_lc (own := [("lot", 1)]) (g := (gName 1)) (tt := (tTest (tOp rEq (tCB (rLenA K) (tCons (tVar 1) tNil)) (tC (.int 1))))) rfl sc.nd (pi_list (pe_cl F_lots hr (by decide) tk (pa_cons (pv 0) pa_nil))) (blkOk_by (own := [("lot", 1)]) (N := n_alone) (sc := defScope (s_alone)) (by decide +kernel)) (fun _ _ _ _ _ => (pg_name (i := 1) sc.nd rfl (by first | exact Or.inl rfl | exact Or.inr rfl))) (fun _ _ _ _ _ => (pts_one (pt_cmpR op_eq (pe_callB cLenA (by rfl) T.f_len PySem.boot_len (pa_cons (pv 1) pa_nil)) pe_int (nomark _)))) (fun _ _ _ _ _ => (pe_ix ix_tup (pv 1) pe_int (fun _ _ => rfl))))))
abbrev n_dealing : List Str := ["group", "x", "y", "a"]
theorem sc_dealing : FnScope n_dealing ["group"] (defScope s_dealing) := ⟨rfl, rfl, rfl, by decide +kernel, rfl, by decide +kernel, by decide +kernel⟩
theorem ok_dealing (T : Top K mg) (F_find_half : Fn P w K mg base 5 "find_half" ["group"] (sp_find_half K)) (M_Group_people : Mt P w K mg base 1 "Group" "people" ["self"] (sp_Group_people K)) (F : FunD K "dealing" "dealing" (defArgs s_dealing) (defBody s_dealing) (defScope s_dealing) [] [] f fd) : FnOk P w K mg base (L2.CX P w) 6 f fd ["group"] (sp_dealing K) := by
  have sc := sc_dealing
  refine F.ok sc (fun vs H Q E h => ?_) (fun cdv A outer s H vs Q E hr h => ⟨t_dealing K E, ?_, pure_dealing h⟩)
  · first | (obtain ⟨rfl, _⟩ := h; rfl) | (obtain ⟨_, rfl, _⟩ := h; rfl) | (obtain ⟨_, _, rfl, _⟩ := h; rfl) | (obtain ⟨_, _, _, rfl, _⟩ := h; rfl) | (obtain ⟨_, _, _, _, rfl, _⟩ := h; rfl) | (obtain ⟨_, _, _, _, _, rfl, _⟩ := h; rfl) | (obtain ⟨_, _, _, _, _, _, rfl, _⟩ := h; rfl) | (obtain ⟨_, _, _, _, _, _, _, rfl, _⟩ := h; rfl) | (obtain ⟨_, _, _, _, _, _, _, _, rfl, _⟩ := h; rfl) | (obtain ⟨_, _, _, _, _, _, _, _, _, rfl, _⟩ := h; rfl) | (obtain ⟨_, _, _, _, _, _, _, _, _, _, rfl, _⟩ := h; rfl) | (obtain ⟨_, _, _, _, _, _, _, _, _, _, _, rfl, _⟩ := h; rfl) | (obtain ⟨_, _, _, _, _, _, _, _, _, _, _, _, rfl, _⟩ := h; rfl) | (obtain ⟨_, _, _, _, _, _, _, _, _, _, _, _, _, rfl, _⟩ := h; rfl) | (obtain ⟨_, _, _, _, _, _, _, _, _, _, _, _, _, _, rfl, _⟩ := h; rfl) | (obtain ⟨_, _, _, _, _, _, _, _, _, _, _, _, _, _, _, rfl, _⟩ := h; rfl) | (obtain ⟨_, _, _, _, _, _, _, _, _, _, _, _, _, _, _, _, rfl, _⟩ := h; rfl) | (obtain ⟨_, _, _, _, _, _, _, _, _, _, _, _, _, _, _, _, _, rfl, _⟩ := h; rfl)
  · have tk : Takes (cxOf (L2.CX P w) P w K mg base n_dealing "dealing" (defScope s_dealing) f cdv A outer s H E) (WE0 E) := takes_of rfl rfl rfl rfl
    have po : PassesOwn (model P w) (cxOf (L2.CX P w) P w K mg base n_dealing "dealing" (defScope s_dealing) f cdv A outer s H E).A (cxOf (L2.CX P w) P w K mg base n_dealing "dealing" (defScope s_dealing) f cdv A outer s H E).env (cxOf (L2.CX P w) P w K mg base n_dealing "dealing" (defScope s_dealing) f cdv A outer s H E).xe := passes_of rfl
    exact (pss_cons (ps_set (i := 1) sc.nd rfl (by first | exact Or.inl rfl | exact Or.inr rfl) (pe_cl F_find_half hr (by decide) tk (pa_cons (pv 0) pa_nil)))
      (pss_cons (ps_set (i := 2) sc.nd rfl (by first | exact Or.inl rfl | exact Or.inr rfl) pe_dnewK)
      (pss_cons (ps_for po rfl (pi_list (pe_mt0 (c := "Group") M_Group_people hr (by decide) tk (pv 0))) (pg_name (i := 3) sc.nd rfl (by first | exact Or.inl rfl | exact Or.inr rfl)) (pss_cons (ps_if (pt_cmpR op_ne (pe_dget (hu_of hr) (pv 1) (pe_dget (hu_of hr) (pv 1) (pv 3) (fun _ _ => rfl)) (fun _ _ => rfl)) (pv 3) (nomark _)) (pss_one (ps_ret pe_non)) pss_nil)
      (pss_cons (ps_dput (hu_of hr) (pv 2) (pv 3) pe_non rfl)
      (pss_one (ps_if (pt_cmpR op_ne (pe_dget (hu_of hr) (pv 1) (pv 3) (fun _ _ => rfl)) (pv 3) (nomark _)) (pss_one (ps_dput (hu_of hr) (pv 2) (pv 3) (pe_dget (hu_of hr) (pv 1) (pv 3) (fun _ _ => rfl)) rfl)) pss_nil)))))
      (pss_one (ps_ret (pv 2))))))
abbrev n_odd : List Str := ["group", "lot"]
theorem sc_odd : FnScope n_odd ["group"] (defScope s_odd) := ⟨rfl, rfl, rfl, by decide +kernel, rfl, by decide +kernel, by decide +kernel⟩
theorem ok_odd (T : Top K mg) (F_lots : Fn P w K mg base 6 "lots" ["group"] (sp_lots K)) (F : FunD K "odd" "odd" (defArgs s_odd) (defBody s_odd) (defScope s_odd) [] [] f fd) : FnOk P w K mg base (L2.CX P w) 7 f fd ["group"] (sp_odd K) := by
  have sc := sc_odd
  refine F.ok sc (fun vs H Q E h => ?_) (fun cdv A outer s H vs Q E hr h => ⟨t_odd K E, ?_, pure_odd h⟩)
  · first | (obtain ⟨rfl, _⟩ := h; rfl) | (obtain ⟨_, rfl, _⟩ := h; rfl) | (obtain ⟨_, _, rfl, _⟩ := h; rfl) | (obtain ⟨_, _, _, rfl, _⟩ := h; rfl) | (obtain ⟨_, _, _, _, rfl, _⟩ := h; rfl) | (obtain ⟨_, _, _, _, _, rfl, _⟩ := h; rfl) | (obtain ⟨_, _, _, _, _, _, rfl, _⟩ := h; rfl) | (obtain ⟨_, _, _, _, _, _, _, rfl, _⟩ := h; rfl) | (obtain ⟨_, _, _, _, _, _, _, _, rfl, _⟩ := h; rfl) | (obtain ⟨_, _, _, _, _, _, _, _, _, rfl, _⟩ := h; rfl) | (obtain ⟨_, _, _, _, _, _, _, _, _, _, rfl, _⟩ := h; rfl) | (obtain ⟨_, _, _, _, _, _, _, _, _, _, _, rfl, _⟩ := h; rfl) | (obtain ⟨_, _, _, _, _, _, _, _, _, _, _, _, rfl, _⟩ := h; rfl) | (obtain ⟨_, _, _, _, _, _, _, _, _, _, _, _, _, rfl, _⟩ := h; rfl) | (obtain ⟨_, _, _, _, _, _, _, _, _, _, _, _, _, _, rfl, _⟩ := h; rfl) | (obtain ⟨_, _, _, _, _, _, _, _, _, _, _, _, _, _, _, rfl, _⟩ := h; rfl) | (obtain ⟨_, _, _, _, _, _, _, _, _, _, _, _, _, _, _, _, rfl, _⟩ := h; rfl) | (obtain ⟨_, _, _, _, _, _, _, _, _, _, _, _, _, _, _, _, _, rfl, _⟩ := h; rfl)
  · have tk : Takes (cxOf (L2.CX P w) P w K mg base n_odd "odd" (defScope s_odd) f cdv A outer s H E) (WE0 E) := takes_of rfl rfl rfl rfl
    have po : PassesOwn (model P w) (cxOf (L2.CX P w) P w K mg base n_odd "odd" (defScope s_odd) f cdv A outer s H E).A (cxOf (L2.CX P w) P w K mg base n_odd "odd" (defScope s_odd) f cdv A outer s H E).env (cxOf (L2.CX P w) P w K mg base n_odd "odd" (defScope s_odd) f cdv A outer s H E).xe := passes_of rfl
    exact (pss_one (ps_ret (pe_lc (own := [("lot", 1)]) (g := (gName 1)) (tt := (tTest (tOp rGeI (tCB (rLenA K) (tCons (tVar 1) tNil)) (tC (.int 3))))) rfl sc.nd (pi_list (pe_cl F_lots hr (by decide) tk (pa_cons (pv 0) pa_nil))) (blkOk_by (own := [("lot", 1)]) (N := n_odd) (sc := defScope (s_odd)) (by decide +kernel)) (fun _ _ _ _ _ => (pg_name (i := 1) sc.nd rfl (by first | exact Or.inl rfl | exact Or.inr rfl))) (fun _ _ _ _ _ => (pts_one (pt_cmpR oGeI (pe_callB cLenA (by rfl) T.f_len PySem.boot_len (pa_cons (pv 1) pa_nil)) pe_int (nomark _)))) (fun _ _ _ _ _ => (pv 1)))))
abbrev n_is_name : List Str := ["value", "letter"]
theorem sc_is_name : FnScope n_is_name ["value"] (defScope s_is_name) := ⟨rfl, rfl, rfl, by decide +kernel, rfl, by decide +kernel, by decide +kernel⟩
theorem ok_is_name (T : Top K mg)  (F : FunD K "is_name" "is_name" (defArgs s_is_name) (defBody s_is_name) (defScope s_is_name) [] [] f fd) : FnOk P w K mg base (L2.CX P w) 1 f fd ["value"] (sp_is_name K) := by
  have sc := sc_is_name
  refine F.ok sc (fun vs H Q E h => ?_) (fun cdv A outer s H vs Q E hr h => ⟨t_is_name K E, ?_, pure_is_name h⟩)
  · first | (obtain ⟨rfl, _⟩ := h; rfl) | (obtain ⟨_, rfl, _⟩ := h; rfl) | (obtain ⟨_, _, rfl, _⟩ := h; rfl) | (obtain ⟨_, _, _, rfl, _⟩ := h; rfl) | (obtain ⟨_, _, _, _, rfl, _⟩ := h; rfl) | (obtain ⟨_, _, _, _, _, rfl, _⟩ := h; rfl) | (obtain ⟨_, _, _, _, _, _, rfl, _⟩ := h; rfl) | (obtain ⟨_, _, _, _, _, _, _, rfl, _⟩ := h; rfl) | (obtain ⟨_, _, _, _, _, _, _, _, rfl, _⟩ := h; rfl) | (obtain ⟨_, _, _, _, _, _, _, _, _, rfl, _⟩ := h; rfl) | (obtain ⟨_, _, _, _, _, _, _, _, _, _, rfl, _⟩ := h; rfl) | (obtain ⟨_, _, _, _, _, _, _, _, _, _, _, rfl, _⟩ := h; rfl) | (obtain ⟨_, _, _, _, _, _, _, _, _, _, _, _, rfl, _⟩ := h; rfl) | (obtain ⟨_, _, _, _, _, _, _, _, _, _, _, _, _, rfl, _⟩ := h; rfl) | (obtain ⟨_, _, _, _, _, _, _, _, _, _, _, _, _, _, rfl, _⟩ := h; rfl) | (obtain ⟨_, _, _, _, _, _, _, _, _, _, _, _, _, _, _, rfl, _⟩ := h; rfl) | (obtain ⟨_, _, _, _, _, _, _, _, _, _, _, _, _, _, _, _, rfl, _⟩ := h; rfl) | (obtain ⟨_, _, _, _, _, _, _, _, _, _, _, _, _, _, _, _, _, rfl, _⟩ := h; rfl)
  · have tk : Takes (cxOf (L2.CX P w) P w K mg base n_is_name "is_name" (defScope s_is_name) f cdv A outer s H E) (WE0 E) := takes_of rfl rfl rfl rfl
    have po : PassesOwn (model P w) (cxOf (L2.CX P w) P w K mg base n_is_name "is_name" (defScope s_is_name) f cdv A outer s H E).A (cxOf (L2.CX P w) P w K mg base n_is_name "is_name" (defScope s_is_name) f cdv A outer s H E).env (cxOf (L2.CX P w) P w K mg base n_is_name "is_name" (defScope s_is_name) f cdv A outer s H E).xe := passes_of rfl
    exact (pss_cons (ps_if (PW.pt (pw_or (pt_not (pt_val (pe_callB call_isi (by rfl) T.f_isinstance (by decide +kernel) (pa_cons (pv 0) (pa_cons (pe_bltn (v := .ty "str") rfl T.f_str (by decide +kernel) rfl) pa_nil))))) (pw_or (pt_cmpR oLtI (pe_callB cLenA (by rfl) T.f_len PySem.boot_len (pa_cons (pv 0) pa_nil)) pe_int (nomark _)) (pw_or1 (pt_cmpR oGtI (pe_callB cLenA (by rfl) T.f_len PySem.boot_len (pa_cons (pv 0) pa_nil)) pe_int (nomark _)))))) (pss_one (ps_ret pe_bl)) pss_nil)
      (pss_cons (ps_for po rfl (pi_str (pv 0)) (pg_name (i := 1) sc.nd rfl (by first | exact Or.inl rfl | exact Or.inr rfl)) (pss_one (ps_if (pt_cmpR op_notInS (pv 1) (pe_glob rfl T.k_LETTERS.choose_spec ⟨_, rfl⟩) (by rfl)) (pss_one (ps_ret pe_bl)) pss_nil)))
      (pss_one (ps_ret pe_bl))))
abbrev n_BadPeople___init__ : List Str := ["self", "index"]
def t_BadPeople___init__ (K : PySem.W.Frag) (E : XK) : TS := (tSeq (tDrop (tVeI K (tCons (tVar 0) (tCons (tC (.str "the people are not a tuple of different names")) tNil))))
  (tOst K "index" (tVar 0) (tVar 1)))
theorem sc_BadPeople___init__ : FnScope n_BadPeople___init__ ["self", "index"] (defScope s_BadPeople___init__) := ⟨rfl, rfl, rfl, by decide +kernel, rfl, by decide +kernel, by decide +kernel⟩
theorem pure_BadPeople___init__ (T : Top K mg) {vs : List V} {H : Hp} {Q : VK} {E : XK} (h : (spI1 K (He.ga K "BadPeople") "index") vs H Q E) : t_BadPeople___init__ K E { nx := fun _ H' => Q .non H', rt := Q } (start n_BadPeople___init__ vs) H := by
  obtain ⟨a, v, rfl, ha, k⟩ := h
  show t_BadPeople___init__ K E _ [some (.ref a), some v] H
  exact xi1 T.ox_BadPeople T.na_BadPeople_index ha k
theorem ok_BadPeople___init__ (T : Top K mg)  (F : FunD K "__init__" "BadPeople.__init__" (defArgs s_BadPeople___init__) (defBody s_BadPeople___init__) (defScope s_BadPeople___init__) [] [] f fd) : FnOk P w K mg base (L2.CX P w) 1 f fd ["self", "index"] (spI1 K (He.ga K "BadPeople") "index") := by
  have sc := sc_BadPeople___init__
  refine F.ok sc (fun vs H Q E h => ?_) (fun cdv A outer s H vs Q E hr h => ⟨t_BadPeople___init__ K E, ?_, pure_BadPeople___init__ T h⟩)
  · first | (obtain ⟨rfl, _⟩ := h; rfl) | (obtain ⟨_, rfl, _⟩ := h; rfl) | (obtain ⟨_, _, rfl, _⟩ := h; rfl) | (obtain ⟨_, _, _, rfl, _⟩ := h; rfl) | (obtain ⟨_, _, _, _, rfl, _⟩ := h; rfl) | (obtain ⟨_, _, _, _, _, rfl, _⟩ := h; rfl) | (obtain ⟨_, _, _, _, _, _, rfl, _⟩ := h; rfl) | (obtain ⟨_, _, _, _, _, _, _, rfl, _⟩ := h; rfl) | (obtain ⟨_, _, _, _, _, _, _, _, rfl, _⟩ := h; rfl) | (obtain ⟨_, _, _, _, _, _, _, _, _, rfl, _⟩ := h; rfl) | (obtain ⟨_, _, _, _, _, _, _, _, _, _, rfl, _⟩ := h; rfl) | (obtain ⟨_, _, _, _, _, _, _, _, _, _, _, rfl, _⟩ := h; rfl) | (obtain ⟨_, _, _, _, _, _, _, _, _, _, _, _, rfl, _⟩ := h; rfl) | (obtain ⟨_, _, _, _, _, _, _, _, _, _, _, _, _, rfl, _⟩ := h; rfl) | (obtain ⟨_, _, _, _, _, _, _, _, _, _, _, _, _, _, rfl, _⟩ := h; rfl) | (obtain ⟨_, _, _, _, _, _, _, _, _, _, _, _, _, _, _, rfl, _⟩ := h; rfl) | (obtain ⟨_, _, _, _, _, _, _, _, _, _, _, _, _, _, _, _, rfl, _⟩ := h; rfl) | (obtain ⟨_, _, _, _, _, _, _, _, _, _, _, _, _, _, _, _, _, rfl, _⟩ := h; rfl)
  · have tk : Takes (cxOf (L2.CX P w) P w K mg base n_BadPeople___init__ "BadPeople.__init__" (defScope s_BadPeople___init__) f cdv A outer s H E) (WE0 E) := takes_of rfl rfl rfl rfl
    have po : PassesOwn (model P w) (cxOf (L2.CX P w) P w K mg base n_BadPeople___init__ "BadPeople.__init__" (defScope s_BadPeople___init__) f cdv A outer s H E).A (cxOf (L2.CX P w) P w K mg base n_BadPeople___init__ "BadPeople.__init__" (defScope s_BadPeople___init__) f cdv A outer s H E).env (cxOf (L2.CX P w) P w K mg base n_BadPeople___init__ "BadPeople.__init__" (defScope s_BadPeople___init__) f cdv A outer s H E).xe := passes_of rfl
    exact (pss_cons (ps_expr (pe_qinit T.g_QuietError T.qi (pa_cons (pv 0) (pa_cons pe_str pa_nil))))
      (pss_one (ps_ost (pv 0) (pv 1))))
abbrev n_check_people : List Str := ["people", "seen", "index", "item"]
theorem sc_check_people : FnScope n_check_people ["people"] (defScope s_check_people) := ⟨rfl, rfl, rfl, by decide +kernel, rfl, by decide +kernel, by decide +kernel⟩
theorem ok_check_people (T : Top K mg) (F_is_name : Fn P w K mg base 1 "is_name" ["value"] (sp_is_name K)) (Z_BadPeople : ErC P w K mg base "BadPeople" ["self", "index"] (spI1 K (He.ga K "BadPeople") "index")) (F : FunD K "check_people" "check_people" (defArgs s_check_people) (defBody s_check_people) (defScope s_check_people) [] [] f fd) : FnOk P w K mg base (L2.CX P w) 3 f fd ["people"] (sp_check_people K) := by
  have sc := sc_check_people
  refine F.ok sc (fun vs H Q E h => ?_) (fun cdv A outer s H vs Q E hr h => ⟨t_check_people K E, ?_, pure_check_people h⟩)
  · first | (obtain ⟨rfl, _⟩ := h; rfl) | (obtain ⟨_, rfl, _⟩ := h; rfl) | (obtain ⟨_, _, rfl, _⟩ := h; rfl) | (obtain ⟨_, _, _, rfl, _⟩ := h; rfl) | (obtain ⟨_, _, _, _, rfl, _⟩ := h; rfl) | (obtain ⟨_, _, _, _, _, rfl, _⟩ := h; rfl) | (obtain ⟨_, _, _, _, _, _, rfl, _⟩ := h; rfl) | (obtain ⟨_, _, _, _, _, _, _, rfl, _⟩ := h; rfl) | (obtain ⟨_, _, _, _, _, _, _, _, rfl, _⟩ := h; rfl) | (obtain ⟨_, _, _, _, _, _, _, _, _, rfl, _⟩ := h; rfl) | (obtain ⟨_, _, _, _, _, _, _, _, _, _, rfl, _⟩ := h; rfl) | (obtain ⟨_, _, _, _, _, _, _, _, _, _, _, rfl, _⟩ := h; rfl) | (obtain ⟨_, _, _, _, _, _, _, _, _, _, _, _, rfl, _⟩ := h; rfl) | (obtain ⟨_, _, _, _, _, _, _, _, _, _, _, _, _, rfl, _⟩ := h; rfl) | (obtain ⟨_, _, _, _, _, _, _, _, _, _, _, _, _, _, rfl, _⟩ := h; rfl) | (obtain ⟨_, _, _, _, _, _, _, _, _, _, _, _, _, _, _, rfl, _⟩ := h; rfl) | (obtain ⟨_, _, _, _, _, _, _, _, _, _, _, _, _, _, _, _, rfl, _⟩ := h; rfl) | (obtain ⟨_, _, _, _, _, _, _, _, _, _, _, _, _, _, _, _, _, rfl, _⟩ := h; rfl)
  · have tk : Takes (cxOf (L2.CX P w) P w K mg base n_check_people "check_people" (defScope s_check_people) f cdv A outer s H E) (WE0 E) := takes_of rfl rfl rfl rfl
    have po : PassesOwn (model P w) (cxOf (L2.CX P w) P w K mg base n_check_people "check_people" (defScope s_check_people) f cdv A outer s H E).A (cxOf (L2.CX P w) P w K mg base n_check_people "check_people" (defScope s_check_people) f cdv A outer s H E).env (cxOf (L2.CX P w) P w K mg base n_check_people "check_people" (defScope s_check_people) f cdv A outer s H E).xe := passes_of rfl
    exact (pss_cons (ps_if (PW.pt (pw_or (pt_not (pt_val (pe_callB call_isi (by rfl) T.f_isinstance (by decide +kernel) (pa_cons (pv 0) (pa_cons (pe_bltn (v := .ty "tuple") rfl T.f_tuple (by decide +kernel) rfl) pa_nil))))) (pw_or1 (pt_cmpR oGtI (pe_callB cLenA (by rfl) T.f_len PySem.boot_len (pa_cons (pv 0) pa_nil)) (pe_glob rfl T.k_MOST_PEOPLE.choose_spec ⟨_, rfl⟩) (nomark _))))) (pss_one (ps_rz1 Z_BadPeople hr (by decide) rfl tk (pe_un un_neg pe_int))) pss_nil)
      (pss_cons (ps_set (i := 1) sc.nd rfl (by first | exact Or.inl rfl | exact Or.inr rfl) (pe_lst pa_nil))
      (pss_one (ps_for po rfl (pi_enumT (by rfl) T.f_enumerate (pa_cons (pv 0) pa_nil)) (pg_tup rfl (pgs_cons (pg_name (i := 2) sc.nd rfl (by first | exact Or.inl rfl | exact Or.inr rfl)) (pgs_cons (pg_name (i := 3) sc.nd rfl (by first | exact Or.inl rfl | exact Or.inr rfl)) pgs_nil))) (pss_cons (ps_if (PW.pt (pw_or (pt_not (pt_val (pe_cl F_is_name hr (by decide) tk (pa_cons (pv 3) pa_nil)))) (pw_or1 (pt_cmpR op_in_seq (pv 3) (pv 1) (by rfl))))) (pss_one (ps_rz1 Z_BadPeople hr (by decide) rfl tk (pv 2))) pss_nil)
      (pss_one (ps_expr (pe_bm PySem.F.plainAttrs_list PySem.F.slot_list_append PySem.F.type_list_append mt_append (pv 1) (pa_cons (pv 3) pa_nil)))))))))
abbrev n_fits_wishes : List Str := ["value", "people", "person", "seen", "item"]
theorem sc_fits_wishes : FnScope n_fits_wishes ["value", "people", "person"] (defScope s_fits_wishes) := ⟨rfl, rfl, rfl, by decide +kernel, rfl, by decide +kernel, by decide +kernel⟩
theorem ok_fits_wishes (T : Top K mg)  (F : FunD K "fits_wishes" "fits_wishes" (defArgs s_fits_wishes) (defBody s_fits_wishes) (defScope s_fits_wishes) [] [] f fd) : FnOk P w K mg base (L2.CX P w) 1 f fd ["value", "people", "person"] (sp_fits_wishes K) := by
  have sc := sc_fits_wishes
  refine F.ok sc (fun vs H Q E h => ?_) (fun cdv A outer s H vs Q E hr h => ⟨t_fits_wishes K E, ?_, pure_fits_wishes h⟩)
  · first | (obtain ⟨rfl, _⟩ := h; rfl) | (obtain ⟨_, rfl, _⟩ := h; rfl) | (obtain ⟨_, _, rfl, _⟩ := h; rfl) | (obtain ⟨_, _, _, rfl, _⟩ := h; rfl) | (obtain ⟨_, _, _, _, rfl, _⟩ := h; rfl) | (obtain ⟨_, _, _, _, _, rfl, _⟩ := h; rfl) | (obtain ⟨_, _, _, _, _, _, rfl, _⟩ := h; rfl) | (obtain ⟨_, _, _, _, _, _, _, rfl, _⟩ := h; rfl) | (obtain ⟨_, _, _, _, _, _, _, _, rfl, _⟩ := h; rfl) | (obtain ⟨_, _, _, _, _, _, _, _, _, rfl, _⟩ := h; rfl) | (obtain ⟨_, _, _, _, _, _, _, _, _, _, rfl, _⟩ := h; rfl) | (obtain ⟨_, _, _, _, _, _, _, _, _, _, _, rfl, _⟩ := h; rfl) | (obtain ⟨_, _, _, _, _, _, _, _, _, _, _, _, rfl, _⟩ := h; rfl) | (obtain ⟨_, _, _, _, _, _, _, _, _, _, _, _, _, rfl, _⟩ := h; rfl) | (obtain ⟨_, _, _, _, _, _, _, _, _, _, _, _, _, _, rfl, _⟩ := h; rfl) | (obtain ⟨_, _, _, _, _, _, _, _, _, _, _, _, _, _, _, rfl, _⟩ := h; rfl) | (obtain ⟨_, _, _, _, _, _, _, _, _, _, _, _, _, _, _, _, rfl, _⟩ := h; rfl) | (obtain ⟨_, _, _, _, _, _, _, _, _, _, _, _, _, _, _, _, _, rfl, _⟩ := h; rfl)
  · have tk : Takes (cxOf (L2.CX P w) P w K mg base n_fits_wishes "fits_wishes" (defScope s_fits_wishes) f cdv A outer s H E) (WE0 E) := takes_of rfl rfl rfl rfl
    have po : PassesOwn (model P w) (cxOf (L2.CX P w) P w K mg base n_fits_wishes "fits_wishes" (defScope s_fits_wishes) f cdv A outer s H E).A (cxOf (L2.CX P w) P w K mg base n_fits_wishes "fits_wishes" (defScope s_fits_wishes) f cdv A outer s H E).env (cxOf (L2.CX P w) P w K mg base n_fits_wishes "fits_wishes" (defScope s_fits_wishes) f cdv A outer s H E).xe := passes_of rfl
    exact (pss_cons (ps_if (pt_not (pt_val (pe_callB call_isi (by rfl) T.f_isinstance (by decide +kernel) (pa_cons (pv 0) (pa_cons (pe_bltn (v := .ty "list") rfl T.f_list (by decide +kernel) rfl) pa_nil))))) (pss_one (ps_ret pe_bl)) pss_nil)
      (pss_cons (ps_set (i := 3) sc.nd rfl (by first | exact Or.inl rfl | exact Or.inr rfl) (pe_lst pa_nil))
      (pss_cons (ps_for po rfl (pi_list (pv 0)) (pg_name (i := 4) sc.nd rfl (by first | exact Or.inl rfl | exact Or.inr rfl)) (pss_cons (ps_if (PW.pt (pw_or (pt_not (pt_val (pe_callB call_isi (by rfl) T.f_isinstance (by decide +kernel) (pa_cons (pv 4) (pa_cons (pe_bltn (v := .ty "str") rfl T.f_str (by decide +kernel) rfl) pa_nil))))) (pw_or (pt_cmpR op_eq (pv 4) (pv 2) (nomark _)) (pw_or (pt_cmpR op_notIn_seq (pv 4) (pv 1) (by rfl)) (pw_or1 (pt_cmpR op_in_seq (pv 4) (pv 3) (by rfl))))))) (pss_one (ps_ret pe_bl)) pss_nil)
      (pss_one (ps_expr (pe_bm PySem.F.plainAttrs_list PySem.F.slot_list_append PySem.F.type_list_append mt_append (pv 3) (pa_cons (pv 4) pa_nil))))))
      (pss_one (ps_ret pe_bl)))))
abbrev n_same_keys : List Str := ["value", "people", "person"]
theorem sc_same_keys : FnScope n_same_keys ["value", "people"] (defScope s_same_keys) := ⟨rfl, rfl, rfl, by decide +kernel, rfl, by decide +kernel, by decide +kernel⟩
theorem ok_same_keys (T : Top K mg)  (F : FunD K "same_keys" "same_keys" (defArgs s_same_keys) (defBody s_same_keys) (defScope s_same_keys) [] [] f fd) : FnOk P w K mg base (L2.CX P w) 1 f fd ["value", "people"] (sp_same_keys K) := by
  have sc := sc_same_keys
  refine F.ok sc (fun vs H Q E h => ?_) (fun cdv A outer s H vs Q E hr h => ⟨t_same_keys K E, ?_, pure_same_keys h⟩)
  · first | (obtain ⟨rfl, _⟩ := h; rfl) | (obtain ⟨_, rfl, _⟩ := h; rfl) | (obtain ⟨_, _, rfl, _⟩ := h; rfl) | (obtain ⟨_, _, _, rfl, _⟩ := h; rfl) | (obtain ⟨_, _, _, _, rfl, _⟩ := h; rfl) | (obtain ⟨_, _, _, _, _, rfl, _⟩ := h; rfl) | (obtain ⟨_, _, _, _, _, _, rfl, _⟩ := h; rfl) | (obtain ⟨_, _, _, _, _, _, _, rfl, _⟩ := h; rfl) | (obtain ⟨_, _, _, _, _, _, _, _, rfl, _⟩ := h; rfl) | (obtain ⟨_, _, _, _, _, _, _, _, _, rfl, _⟩ := h; rfl) | (obtain ⟨_, _, _, _, _, _, _, _, _, _, rfl, _⟩ := h; rfl) | (obtain ⟨_, _, _, _, _, _, _, _, _, _, _, rfl, _⟩ := h; rfl) | (obtain ⟨_, _, _, _, _, _, _, _, _, _, _, _, rfl, _⟩ := h; rfl) | (obtain ⟨_, _, _, _, _, _, _, _, _, _, _, _, _, rfl, _⟩ := h; rfl) | (obtain ⟨_, _, _, _, _, _, _, _, _, _, _, _, _, _, rfl, _⟩ := h; rfl) | (obtain ⟨_, _, _, _, _, _, _, _, _, _, _, _, _, _, _, rfl, _⟩ := h; rfl) | (obtain ⟨_, _, _, _, _, _, _, _, _, _, _, _, _, _, _, _, rfl, _⟩ := h; rfl) | (obtain ⟨_, _, _, _, _, _, _, _, _, _, _, _, _, _, _, _, _, rfl, _⟩ := h; rfl)
  · have tk : Takes (cxOf (L2.CX P w) P w K mg base n_same_keys "same_keys" (defScope s_same_keys) f cdv A outer s H E) (WE0 E) := takes_of rfl rfl rfl rfl
    have po : PassesOwn (model P w) (cxOf (L2.CX P w) P w K mg base n_same_keys "same_keys" (defScope s_same_keys) f cdv A outer s H E).A (cxOf (L2.CX P w) P w K mg base n_same_keys "same_keys" (defScope s_same_keys) f cdv A outer s H E).env (cxOf (L2.CX P w) P w K mg base n_same_keys "same_keys" (defScope s_same_keys) f cdv A outer s H E).xe := passes_of rfl
    exact (pss_cons (ps_if (PW.pt (pw_or (pt_not (pt_val (pe_callB call_isi (by rfl) T.f_isinstance (by decide +kernel) (pa_cons (pv 0) (pa_cons (pe_bltn (v := .ty "dict") rfl T.f_dict (by decide +kernel) rfl) pa_nil))))) (pw_or1 (pt_cmpR op_ne (pe_callB cLenD (by rfl) T.f_len PySem.boot_len (pa_cons (pv 0) pa_nil)) (pe_callB cLenA (by rfl) T.f_len PySem.boot_len (pa_cons (pv 1) pa_nil)) (nomark _))))) (pss_one (ps_ret pe_bl)) pss_nil)
      (pss_cons (ps_for po rfl (pi_seq (pv 1)) (pg_name (i := 2) sc.nd rfl (by first | exact Or.inl rfl | exact Or.inr rfl)) (pss_one (ps_if (pt_cmp (pc_dnotin (hu_of hr) (pv 2) (pv 0))) (pss_one (ps_ret pe_bl)) pss_nil)))
      (pss_one (ps_ret pe_bl))))
abbrev n_BadWishes___init__ : List Str := ["self", "person"]
def t_BadWishes___init__ (K : PySem.W.Frag) (E : XK) : TS := (tSeq (tDrop (tVeI K (tCons (tVar 0) (tCons (tC (.str "the wishes do not fit the people")) tNil))))
  (tOst K "person" (tVar 0) (tVar 1)))
theorem sc_BadWishes___init__ : FnScope n_BadWishes___init__ ["self", "person"] (defScope s_BadWishes___init__) := ⟨rfl, rfl, rfl, by decide +kernel, rfl, by decide +kernel, by decide +kernel⟩
theorem pure_BadWishes___init__ (T : Top K mg) {vs : List V} {H : Hp} {Q : VK} {E : XK} (h : (spI1 K (He.ga K "BadWishes") "person") vs H Q E) : t_BadWishes___init__ K E { nx := fun _ H' => Q .non H', rt := Q } (start n_BadWishes___init__ vs) H := by
  obtain ⟨a, v, rfl, ha, k⟩ := h
  show t_BadWishes___init__ K E _ [some (.ref a), some v] H
  exact xi1 T.ox_BadWishes T.na_BadWishes_person ha k
theorem ok_BadWishes___init__ (T : Top K mg)  (F : FunD K "__init__" "BadWishes.__init__" (defArgs s_BadWishes___init__) (defBody s_BadWishes___init__) (defScope s_BadWishes___init__) [] [] f fd) : FnOk P w K mg base (L2.CX P w) 1 f fd ["self", "person"] (spI1 K (He.ga K "BadWishes") "person") := by
  have sc := sc_BadWishes___init__
  refine F.ok sc (fun vs H Q E h => ?_) (fun cdv A outer s H vs Q E hr h => ⟨t_BadWishes___init__ K E, ?_, pure_BadWishes___init__ T h⟩)
  · first | (obtain ⟨rfl, _⟩ := h; rfl) | (obtain ⟨_, rfl, _⟩ := h; rfl) | (obtain ⟨_, _, rfl, _⟩ := h; rfl) | (obtain ⟨_, _, _, rfl, _⟩ := h; rfl) | (obtain ⟨_, _, _, _, rfl, _⟩ := h; rfl) | (obtain ⟨_, _, _, _, _, rfl, _⟩ := h; rfl) | (obtain ⟨_, _, _, _, _, _, rfl, _⟩ := h; rfl) | (obtain ⟨_, _, _, _, _, _, _, rfl, _⟩ := h; rfl) | (obtain ⟨_, _, _, _, _, _, _, _, rfl, _⟩ := h; rfl) | (obtain ⟨_, _, _, _, _, _, _, _, _, rfl, _⟩ := h; rfl) | (obtain ⟨_, _, _, _, _, _, _, _, _, _, rfl, _⟩ := h; rfl) | (obtain ⟨_, _, _, _, _, _, _, _, _, _, _, rfl, _⟩ := h; rfl) | (obtain ⟨_, _, _, _, _, _, _, _, _, _, _, _, rfl, _⟩ := h; rfl) | (obtain ⟨_, _, _, _, _, _, _, _, _, _, _, _, _, rfl, _⟩ := h; rfl) | (obtain ⟨_, _, _, _, _, _, _, _, _, _, _, _, _, _, rfl, _⟩ := h; rfl) | (obtain ⟨_, _, _, _, _, _, _, _, _, _, _, _, _, _, _, rfl, _⟩ := h; rfl) | (obtain ⟨_, _, _, _, _, _, _, _, _, _, _, _, _, _, _, _, rfl, _⟩ := h; rfl) | (obtain ⟨_, _, _, _, _, _, _, _, _, _, _, _, _, _, _, _, _, rfl, _⟩ := h; rfl)
  · have tk : Takes (cxOf (L2.CX P w) P w K mg base n_BadWishes___init__ "BadWishes.__init__" (defScope s_BadWishes___init__) f cdv A outer s H E) (WE0 E) := takes_of rfl rfl rfl rfl
    have po : PassesOwn (model P w) (cxOf (L2.CX P w) P w K mg base n_BadWishes___init__ "BadWishes.__init__" (defScope s_BadWishes___init__) f cdv A outer s H E).A (cxOf (L2.CX P w) P w K mg base n_BadWishes___init__ "BadWishes.__init__" (defScope s_BadWishes___init__) f cdv A outer s H E).env (cxOf (L2.CX P w) P w K mg base n_BadWishes___init__ "BadWishes.__init__" (defScope s_BadWishes___init__) f cdv A outer s H E).xe := passes_of rfl
    exact (pss_cons (ps_expr (pe_qinit T.g_QuietError T.qi (pa_cons (pv 0) (pa_cons pe_str pa_nil))))
      (pss_one (ps_ost (pv 0) (pv 1))))
abbrev n_check_wishes : List Str := ["people", "wishes", "person"]
theorem sc_check_wishes : FnScope n_check_wishes ["people", "wishes"] (defScope s_check_wishes) := ⟨rfl, rfl, rfl, by decide +kernel, rfl, by decide +kernel, by decide +kernel⟩
theorem ok_check_wishes (T : Top K mg) (F_fits_wishes : Fn P w K mg base 1 "fits_wishes" ["value", "people", "person"] (sp_fits_wishes K)) (F_same_keys : Fn P w K mg base 1 "same_keys" ["value", "people"] (sp_same_keys K)) (Z_BadWishes : ErC P w K mg base "BadWishes" ["self", "person"] (spI1 K (He.ga K "BadWishes") "person")) (F : FunD K "check_wishes" "check_wishes" (defArgs s_check_wishes) (defBody s_check_wishes) (defScope s_check_wishes) [] [] f fd) : FnOk P w K mg base (L2.CX P w) 3 f fd ["people", "wishes"] (sp_check_wishes K) := by
  have sc := sc_check_wishes
  refine F.ok sc (fun vs H Q E h => ?_) (fun cdv A outer s H vs Q E hr h => ⟨t_check_wishes K E, ?_, pure_check_wishes h⟩)
  · first | (obtain ⟨rfl, _⟩ := h; rfl) | (obtain ⟨_, rfl, _⟩ := h; rfl) | (obtain ⟨_, _, rfl, _⟩ := h; rfl) | (obtain ⟨_, _, _, rfl, _⟩ := h; rfl) | (obtain ⟨_, _, _, _, rfl, _⟩ := h; rfl) | (obtain ⟨_, _, _, _, _, rfl, _⟩ := h; rfl) | (obtain ⟨_, _, _, _, _, _, rfl, _⟩ := h; rfl) | (obtain ⟨_, _, _, _, _, _, _, rfl, _⟩ := h; rfl) | (obtain ⟨_, _, _, _, _, _, _, _, rfl, _⟩ := h; rfl) | (obtain ⟨_, _, _, _, _, _, _, _, _, rfl, _⟩ := h; rfl) | (obtain ⟨_, _, _, _, _, _, _, _, _, _, rfl, _⟩ := h; rfl) | (obtain ⟨_, _, _, _, _, _, _, _, _, _, _, rfl, _⟩ := h; rfl) | (obtain ⟨_, _, _, _, _, _, _, _, _, _, _, _, rfl, _⟩ := h; rfl) | (obtain ⟨_, _, _, _, _, _, _, _, _, _, _, _, _, rfl, _⟩ := h; rfl) | (obtain ⟨_, _, _, _, _, _, _, _, _, _, _, _, _, _, rfl, _⟩ := h; rfl) | (obtain ⟨_, _, _, _, _, _, _, _, _, _, _, _, _, _, _, rfl, _⟩ := h; rfl) | (obtain ⟨_, _, _, _, _, _, _, _, _, _, _, _, _, _, _, _, rfl, _⟩ := h; rfl) | (obtain ⟨_, _, _, _, _, _, _, _, _, _, _, _, _, _, _, _, _, rfl, _⟩ := h; rfl)
  · have tk : Takes (cxOf (L2.CX P w) P w K mg base n_check_wishes "check_wishes" (defScope s_check_wishes) f cdv A outer s H E) (WE0 E) := takes_of rfl rfl rfl rfl
    have po : PassesOwn (model P w) (cxOf (L2.CX P w) P w K mg base n_check_wishes "check_wishes" (defScope s_check_wishes) f cdv A outer s H E).A (cxOf (L2.CX P w) P w K mg base n_check_wishes "check_wishes" (defScope s_check_wishes) f cdv A outer s H E).env (cxOf (L2.CX P w) P w K mg base n_check_wishes "check_wishes" (defScope s_check_wishes) f cdv A outer s H E).xe := passes_of rfl
    exact (pss_cons (ps_if (pt_not (pt_val (pe_cl F_same_keys hr (by decide) tk (pa_cons (pv 1) (pa_cons (pv 0) pa_nil))))) (pss_one (ps_rz1 Z_BadWishes hr (by decide) rfl tk pe_str)) pss_nil)
      (pss_one (ps_for po rfl (pi_list (pe_callB (cSortT rfl) (by rfl) T.f_sorted (by decide +kernel) (pa_cons (pv 0) pa_nil))) (pg_name (i := 2) sc.nd rfl (by first | exact Or.inl rfl | exact Or.inr rfl)) (pss_one (ps_if (pt_not (pt_val (pe_cl F_fits_wishes hr (by decide) tk (pa_cons (pe_dget (hu_of hr) (pv 1) (pv 2) (fun _ _ => rfl)) (pa_cons (pv 0) (pa_cons (pv 2) pa_nil)))))) (pss_one (ps_rz1 Z_BadWishes hr (by decide) rfl tk (pv 2))) pss_nil)))))
abbrev n_Group___init__ : List Str := ["self", "people", "wishes", "person", "row", "other", "at"]
theorem sc_Group___init__ : FnScope n_Group___init__ ["self", "people", "wishes"] (defScope s_Group___init__) := ⟨rfl, rfl, rfl, by decide +kernel, rfl, by decide +kernel, by decide +kernel⟩
theorem ok_Group___init__ (T : Top K mg) (F_check_people : Fn P w K mg base 3 "check_people" ["people"] (sp_check_people K)) (F_check_wishes : Fn P w K mg base 3 "check_wishes" ["people", "wishes"] (sp_check_wishes K)) (F : FunD K "__init__" "Group.__init__" (defArgs s_Group___init__) (defBody s_Group___init__) (defScope s_Group___init__) [] [] f fd) : FnOk P w K mg base (L2.CX P w) 4 f fd ["self", "people", "wishes"] (sp_Group___init__ K) := by
  have sc := sc_Group___init__
  refine F.ok sc (fun vs H Q E h => ?_) (fun cdv A outer s H vs Q E hr h => ⟨t_Group___init__ K E, ?_, pure_Group___init__ T.gk h⟩)
  · first | (obtain ⟨rfl, _⟩ := h; rfl) | (obtain ⟨_, rfl, _⟩ := h; rfl) | (obtain ⟨_, _, rfl, _⟩ := h; rfl) | (obtain ⟨_, _, _, rfl, _⟩ := h; rfl) | (obtain ⟨_, _, _, _, rfl, _⟩ := h; rfl) | (obtain ⟨_, _, _, _, _, rfl, _⟩ := h; rfl) | (obtain ⟨_, _, _, _, _, _, rfl, _⟩ := h; rfl) | (obtain ⟨_, _, _, _, _, _, _, rfl, _⟩ := h; rfl) | (obtain ⟨_, _, _, _, _, _, _, _, rfl, _⟩ := h; rfl) | (obtain ⟨_, _, _, _, _, _, _, _, _, rfl, _⟩ := h; rfl) | (obtain ⟨_, _, _, _, _, _, _, _, _, _, rfl, _⟩ := h; rfl) | (obtain ⟨_, _, _, _, _, _, _, _, _, _, _, rfl, _⟩ := h; rfl) | (obtain ⟨_, _, _, _, _, _, _, _, _, _, _, _, rfl, _⟩ := h; rfl) | (obtain ⟨_, _, _, _, _, _, _, _, _, _, _, _, _, rfl, _⟩ := h; rfl) | (obtain ⟨_, _, _, _, _, _, _, _, _, _, _, _, _, _, rfl, _⟩ := h; rfl) | (obtain ⟨_, _, _, _, _, _, _, _, _, _, _, _, _, _, _, rfl, _⟩ := h; rfl) | (obtain ⟨_, _, _, _, _, _, _, _, _, _, _, _, _, _, _, _, rfl, _⟩ := h; rfl) | (obtain ⟨_, _, _, _, _, _, _, _, _, _, _, _, _, _, _, _, _, rfl, _⟩ := h; rfl)
  · have tk : Takes (cxOf (L2.CX P w) P w K mg base n_Group___init__ "Group.__init__" (defScope s_Group___init__) f cdv A outer s H E) (WE0 E) := takes_of rfl rfl rfl rfl
    have po : PassesOwn (model P w) (cxOf (L2.CX P w) P w K mg base n_Group___init__ "Group.__init__" (defScope s_Group___init__) f cdv A outer s H E).A (cxOf (L2.CX P w) P w K mg base n_Group___init__ "Group.__init__" (defScope s_Group___init__) f cdv A outer s H E).env (cxOf (L2.CX P w) P w K mg base n_Group___init__ "Group.__init__" (defScope s_Group___init__) f cdv A outer s H E).xe := passes_of rfl
    exact (pss_cons (ps_expr (pe_cl F_check_people hr (by decide) tk (pa_cons (pv 1) pa_nil)))
      (pss_cons (ps_expr (pe_cl F_check_wishes hr (by decide) tk (pa_cons (pv 1) (pa_cons (pv 2) pa_nil))))
      (pss_cons (ps_fld (pv 0) (pe_callTy cListOf (by rfl) T.f_list (by decide +kernel) (pa_cons (pv 1) pa_nil)) rfl)
      (pss_cons (ps_fld (pv 0) (pe_dc (own := [("person", 3)]) (g := (gName 3)) (tt := tYes) rfl sc.nd (pi_tup (pv 1)) (blkOk_by (own := [("person", 3)]) (N := n_Group___init__) (sc := defScope (s_Group___init__)) (by decide +kernel)) (fun _ _ _ _ _ => (pg_name (i := 3) sc.nd rfl (by first | exact Or.inl rfl | exact Or.inr rfl))) (fun _ _ _ _ _ => pts_nil) (fun _ _ _ _ _ => (pv 3)) (fun _ _ _ _ _ => (pe_callTy cListOf (by rfl) T.f_list (by decide +kernel) (pa_cons (pe_dget (hu_of hr) (pv 2) (pv 3) (fun _ _ => rfl)) pa_nil)))) rfl)
      (pss_cons (ps_fld (pv 0) pe_dnewK rfl)
      (pss_cons (ps_fld (pv 0) pe_dnewK rfl)
      (pss_one (ps_for po rfl (pi_tup (pv 1)) (pg_name (i := 3) sc.nd rfl (by first | exact Or.inl rfl | exact Or.inr rfl)) (pss_cons (ps_setLc (i := 4) (own := [("other", 5)]) (g := (gName 5)) (tt := (tTest (tOp (rIn K false) (tVar 3) (tDGet (tVar 2) (tVar 5))))) rfl sc.nd rfl rfl (sw_true rfl rfl rfl (by decide +kernel)) (pi_list (pe_dget (hu_of hr) (pv 2) (pv 3) (fun _ _ => rfl))) (blkOk_by (own := [("other", 5)]) (N := n_Group___init__) (sc := defScope (s_Group___init__)) (by decide +kernel)) (fun _ _ _ _ _ => (pg_name (i := 5) sc.nd rfl (by first | exact Or.inl rfl | exact Or.inr rfl))) (fun _ _ _ _ _ => (pts_one (pt_cmpR op_in_seq (pv 3) (pe_dget (hu_of hr) (pv 2) (pv 5) (fun _ _ => rfl)) (by rfl)))) (fun _ _ _ _ _ => (pv 5)))
      (pss_cons (ps_dput (hu_of hr) (pe_fld (pv 0) rfl) (pv 3) (pv 4) rfl)
      (pss_one (ps_dput (hu_of hr) (pe_fld (pv 0) rfl) (pv 3) (pe_dc (own := [("at", 6), ("other", 5)]) (g := (gTup K 2 (gCons (gName 6) (gCons (gName 5) gNil)))) (tt := tYes) rfl sc.nd (pi_enum (by rfl) T.f_enumerate (pa_cons (pv 4) pa_nil)) (blkOk_by (own := [("at", 6), ("other", 5)]) (N := n_Group___init__) (sc := defScope (s_Group___init__)) (by decide +kernel)) (fun _ _ _ _ _ => (pg_tup rfl (pgs_cons (pg_name (i := 6) sc.nd rfl (by first | exact Or.inl rfl | exact Or.inr rfl)) (pgs_cons (pg_name (i := 5) sc.nd rfl (by first | exact Or.inl rfl | exact Or.inr rfl)) pgs_nil)))) (fun _ _ _ _ _ => pts_nil) (fun _ _ _ _ _ => (pv 5)) (fun _ _ _ _ _ => (pv 6))) rfl))))))))))))
abbrev n_law : List Str := ["_law_script", "_law_state", "_law_names_here", "_law_order", "_law_left", "_law_wishes", "_law_a", "_law_group", "_law_mutual_here", "_law_x", "_law_side", "_law_row_here", "_law_b"]
theorem sc_law : FnScope n_law ["_law_script"] (defScope s_law) := ⟨rfl, rfl, rfl, by decide +kernel, rfl, by decide +kernel, by decide +kernel⟩
theorem ok_law (T : Top K mg) (F__law_cell : Fn P w K mg base 1 "_law_cell" ["_law_script", "_law_k"] (sp__law_cell K)) (F__law_copy : Fn P w K mg base 1 "_law_copy" ["_law_wishes"] (sp__law_copy K)) (F__law_is_calm : Fn P w K mg base 3 "_law_is_calm" ["_law_mutual_here", "_law_x"] (sp__law_is_calm K)) (F__law_mixed : Fn P w K mg base 2 "_law_mixed" ["_law_state", "_law_items"] (sp__law_mixed K)) (F__law_mutual : Fn P w K mg base 1 "_law_mutual" ["_law_names_here", "_law_wishes"] (sp__law_mutual K)) (F__law_names : Fn P w K mg base 3 "_law_names" ["_law_state", "_law_many"] (sp__law_names K)) (F__law_row : Fn P w K mg base 1 "_law_row" ["_law_actual", "_law_due"] (sp__law_row K)) (F__law_take : Fn P w K mg base 1 "_law_take" ["_law_state", "_law_many"] (sp__law_take K)) (F_alone : Fn P w K mg base 7 "alone" ["group"] (sp_alone K)) (F_dealing : Fn P w K mg base 6 "dealing" ["group"] (sp_dealing K)) (F_odd : Fn P w K mg base 7 "odd" ["group"] (sp_odd K)) (X_Group : Mkr P w K mg base 4 "Group" ["self", "people", "wishes"] (sp_Group___init__ K)) (F : FunD K "law" "law" (defArgs s_law) (defBody s_law) (defScope s_law) [] [] f fd) : FnOk P w K mg base (L2.CX P w) 8 f fd ["_law_script"] (spLaw K) := by
  have sc := sc_law
  refine F.ok sc (fun vs H Q E h => ?_) (fun cdv A outer s H vs Q E hr h => ⟨t_law K E, ?_, pure_law T.gk h⟩)
  · first | (obtain ⟨rfl, _⟩ := h; rfl) | (obtain ⟨_, rfl, _⟩ := h; rfl) | (obtain ⟨_, _, rfl, _⟩ := h; rfl) | (obtain ⟨_, _, _, rfl, _⟩ := h; rfl) | (obtain ⟨_, _, _, _, rfl, _⟩ := h; rfl) | (obtain ⟨_, _, _, _, _, rfl, _⟩ := h; rfl) | (obtain ⟨_, _, _, _, _, _, rfl, _⟩ := h; rfl) | (obtain ⟨_, _, _, _, _, _, _, rfl, _⟩ := h; rfl) | (obtain ⟨_, _, _, _, _, _, _, _, rfl, _⟩ := h; rfl) | (obtain ⟨_, _, _, _, _, _, _, _, _, rfl, _⟩ := h; rfl) | (obtain ⟨_, _, _, _, _, _, _, _, _, _, rfl, _⟩ := h; rfl) | (obtain ⟨_, _, _, _, _, _, _, _, _, _, _, rfl, _⟩ := h; rfl) | (obtain ⟨_, _, _, _, _, _, _, _, _, _, _, _, rfl, _⟩ := h; rfl) | (obtain ⟨_, _, _, _, _, _, _, _, _, _, _, _, _, rfl, _⟩ := h; rfl) | (obtain ⟨_, _, _, _, _, _, _, _, _, _, _, _, _, _, rfl, _⟩ := h; rfl) | (obtain ⟨_, _, _, _, _, _, _, _, _, _, _, _, _, _, _, rfl, _⟩ := h; rfl) | (obtain ⟨_, _, _, _, _, _, _, _, _, _, _, _, _, _, _, _, rfl, _⟩ := h; rfl) | (obtain ⟨_, _, _, _, _, _, _, _, _, _, _, _, _, _, _, _, _, rfl, _⟩ := h; rfl)
  · have tk : Takes (cxOf (L2.CX P w) P w K mg base n_law "law" (defScope s_law) f cdv A outer s H E) (WE0 E) := takes_of rfl rfl rfl rfl
    have po : PassesOwn (model P w) (cxOf (L2.CX P w) P w K mg base n_law "law" (defScope s_law) f cdv A outer s H E).A (cxOf (L2.CX P w) P w K mg base n_law "law" (defScope s_law) f cdv A outer s H E).env (cxOf (L2.CX P w) P w K mg base n_law "law" (defScope s_law) f cdv A outer s H E).xe := passes_of rfl
    exact (pss_cons (ps_set (i := 1) sc.nd rfl (by first | exact Or.inl rfl | exact Or.inr rfl) (pe_cl F__law_cell hr (by decide) tk (pa_cons (pv 0) (pa_cons pe_int pa_nil))))
      (pss_cons (ps_set (i := 2) sc.nd rfl (by first | exact Or.inl rfl | exact Or.inr rfl) (pe_cl F__law_names hr (by decide) tk (pa_cons (pv 1) (pa_cons (pe_cl F__law_take hr (by decide) tk (pa_cons (pv 1) (pa_cons pe_int pa_nil))) pa_nil))))
      (pss_cons (ps_set (i := 3) sc.nd rfl (by first | exact Or.inl rfl | exact Or.inr rfl) (pe_cl F__law_mixed hr (by decide) tk (pa_cons (pv 1) (pa_cons (pv 2) pa_nil))))
      (pss_cons (ps_set (i := 4) sc.nd rfl (by first | exact Or.inl rfl | exact Or.inr rfl) (pe_slice sl_list (pv 3) po_none (po_some (pe_cl F__law_take hr (by decide) tk (pa_cons (pv 1) (pa_cons (pe_op oAddI (pe_callB cLenA (by rfl) T.f_len PySem.boot_len (pa_cons (pv 3) pa_nil)) pe_int) pa_nil))))))
      (pss_cons (ps_set (i := 5) sc.nd rfl (by first | exact Or.inl rfl | exact Or.inr rfl) pe_dnewK)
      (pss_cons (ps_for po rfl (pi_list (pv 2)) (pg_name (i := 6) sc.nd rfl (by first | exact Or.inl rfl | exact Or.inr rfl)) (pss_cons (ps_setLc (i := 10) (own := [("_law_b", 12)]) (g := (gName 12)) (tt := (tTest (tOp rNe (tOp (rIn K false) (tVar 12) (tVar 4)) (tOp (rIn K false) (tVar 6) (tVar 4))))) rfl sc.nd rfl rfl (sw_true rfl rfl rfl (by decide +kernel)) (pi_list (pv 2)) (blkOk_by (own := [("_law_b", 12)]) (N := n_law) (sc := defScope (s_law)) (by decide +kernel)) (fun _ _ _ _ _ => (pg_name (i := 12) sc.nd rfl (by first | exact Or.inl rfl | exact Or.inr rfl))) (fun _ _ _ _ _ => (pts_one (pt_cmpR op_ne (pe_cmpR op_in_seq (pv 12) (pv 4) (by rfl)) (pe_cmpR op_in_seq (pv 6) (pv 4) (by rfl)) (nomark _)))) (fun _ _ _ _ _ => (pv 12)))
      (pss_cons (ps_set (i := 11) sc.nd rfl (by first | exact Or.inl rfl | exact Or.inr rfl) (pe_cl F__law_mixed hr (by decide) tk (pa_cons (pv 1) (pa_cons (pv 10) pa_nil))))
      (pss_cons (ps_if (pt_cmpR op_eq (pe_cl F__law_take hr (by decide) tk (pa_cons (pv 1) (pa_cons pe_int pa_nil))) pe_int (nomark _)) (pss_one (ps_set (i := 11) sc.nd rfl (by first | exact Or.inl rfl | exact Or.inr rfl) (pe_slice sl_list (pv 11) po_none (po_some (pe_cl F__law_take hr (by decide) tk (pa_cons (pv 1) (pa_cons (pe_op oAddI (pe_callB cLenA (by rfl) T.f_len PySem.boot_len (pa_cons (pv 11) pa_nil)) pe_int) pa_nil))))))) pss_nil)
      (pss_cons (ps_for po rfl (pi_list (pv 2)) (pg_name (i := 12) sc.nd rfl (by first | exact Or.inl rfl | exact Or.inr rfl)) (pss_one (ps_if (PW.pt (pw_and (pt_cmpR oLtS (pv 6) (pv 12) (nomark _)) (pw_and (pt_cmpR op_notIn_seq (pv 12) (pv 10) (by rfl)) (pw_and1 (pt_cmpR op_eq (pe_cl F__law_take hr (by decide) tk (pa_cons (pv 1) (pa_cons pe_int pa_nil))) pe_int (nomark _)))))) (pss_one (ps_expr (pe_bm PySem.F.plainAttrs_list PySem.F.slot_list_insert PySem.F.type_list_insert mtInsert (pv 11) (pa_cons (pe_cl F__law_take hr (by decide) tk (pa_cons (pv 1) (pa_cons (pe_op oAddI (pe_callB cLenA (by rfl) T.f_len PySem.boot_len (pa_cons (pv 11) pa_nil)) pe_int) pa_nil))) (pa_cons (pv 12) pa_nil))))) pss_nil)))
      (pss_one (ps_dput (hu_of hr) (pv 5) (pv 6) (pv 11) rfl)))))))
      (pss_cons (ps_set (i := 7) sc.nd rfl (by first | exact Or.inl rfl | exact Or.inr rfl) (pe_mk X_Group hr (by decide) tk (pa_cons (pe_callTy cTupOf (by rfl) T.f_tuple (by decide +kernel) (pa_cons (pv 2) pa_nil)) (pa_cons (pe_cl F__law_copy hr (by decide) tk (pa_cons (pv 5) pa_nil)) pa_nil))))
      (pss_cons (ps_set (i := 8) sc.nd rfl (by first | exact Or.inl rfl | exact Or.inr rfl) (pe_cl F__law_mutual hr (by decide) tk (pa_cons (pv 2) (pa_cons (pv 5) pa_nil))))
      (pss_cons (ps_set (i := 9) sc.nd rfl (by first | exact Or.inl rfl | exact Or.inr rfl) (pe_cl F_dealing hr (by decide) tk (pa_cons (pv 7) pa_nil)))
      (pss_cons (ps_if (PW.pt (pw_or (pt_not (pt_val (pe_cl F__law_row hr (by decide) tk (pa_cons (pe_cl F_odd hr (by decide) tk (pa_cons (pv 7) pa_nil)) (pa_cons (pe_lst pa_nil) pa_nil))))) (pw_or1 (pt_not (pt_val (pe_cl F__law_is_calm hr (by decide) tk (pa_cons (pv 8) (pa_cons (pv 9) pa_nil)))))))) (pss_one (ps_ret pe_bl)) pss_nil)
      (pss_one (ps_ret (pe_cl F__law_row hr (by decide) tk (pa_cons (pe_cl F_alone hr (by decide) tk (pa_cons (pv 7) pa_nil)) (pa_cons (pe_callB cSortL (by rfl) T.f_sorted (by decide +kernel) (pa_cons (pe_lc (own := [("_law_a", 6)]) (g := (gName 6)) (tt := (tB (tIsN (tDGet (tVar 9) (tVar 6))))) rfl sc.nd (pi_list (pv 2)) (blkOk_by (own := [("_law_a", 6)]) (N := n_law) (sc := defScope (s_law)) (by decide +kernel)) (fun _ _ _ _ _ => (pg_name (i := 6) sc.nd rfl (by first | exact Or.inl rfl | exact Or.inr rfl))) (fun _ _ _ _ _ => (pts_one (pt_cmp (pc_isN (pe_dget (hu_of hr) (pv 9) (pv 6) (fun _ _ => rfl)))))) (fun _ _ _ _ _ => (pv 6))) pa_nil)) pa_nil)))))))))))))))
end
theorem facts {P : Program} {w : World} {K : PySem.W.Frag} {h : Heap} {mg : Str → Option Value} {f : Addr} (X : K.In h) (G : h.Ns mainGlobals mg) (hfa : mg ("law" : Str) = some (.ref f)) (c : SaysX ex fa fn K) :
    ∃ fd : FuncData, (∀ (s : Shared) (v : Value), BindsTo s fd ⟨[v], []⟩ [("_law_script", v)]) ∧ ∀ base : Heap, K.In base → base.Ns mainGlobals mg → FnOk P w K mg base (L2.CX P w) 8 f fd ["_law_script"] (spLaw K) := by
  have T : Top K mg := ⟨He.free_ok X G (c.two.fact 0 (f := He.Fa.free "abs") rfl),
    He.free_ok X G (c.two.fact 1 (f := He.Fa.free "dict") rfl),
    He.free_ok X G (c.two.fact 2 (f := He.Fa.free "enumerate") rfl),
    He.free_ok X G (c.two.fact 3 (f := He.Fa.free "int") rfl),
    He.free_ok X G (c.two.fact 4 (f := He.Fa.free "isinstance") rfl),
    He.free_ok X G (c.two.fact 5 (f := He.Fa.free "len") rfl),
    He.free_ok X G (c.two.fact 6 (f := He.Fa.free "list") rfl),
    He.free_ok X G (c.two.fact 7 (f := He.Fa.free "min") rfl),
    He.free_ok X G (c.two.fact 8 (f := He.Fa.free "range") rfl),
    He.free_ok X G (c.two.fact 9 (f := He.Fa.free "sorted") rfl),
    He.free_ok X G (c.two.fact 10 (f := He.Fa.free "str") rfl),
    He.free_ok X G (c.two.fact 11 (f := He.Fa.free "tuple") rfl),
    He.str_ok X G (c.two.fact 12 (f := He.Fa.str "LETTERS" "abcdefghijklmnopqrstuvwxyz") rfl),
    He.int_ok X G (c.two.fact 13 (f := He.Fa.int "MOST_PEOPLE" 16) rfl),
    He.glo_ok X G (c.two.fact 14 (f := He.Fa.glo "BadPeople") rfl),
    He.glo_ok X G (c.two.fact 15 (f := He.Fa.glo "BadWishes") rfl),
    He.glo_ok X G (c.two.fact 16 (f := He.Fa.glo "Group") rfl),
    He.glo_ok X G (c.two.fact 17 (f := He.Fa.glo "NoPerson") rfl),
    He.glo_ok X G (c.two.fact 18 (f := He.Fa.glo "QuietError") rfl),
    He.glo_ok X G (c.two.fact 19 (f := He.Fa.glo "_law_cell") rfl),
    He.glo_ok X G (c.two.fact 20 (f := He.Fa.glo "_law_copy") rfl),
    He.glo_ok X G (c.two.fact 21 (f := He.Fa.glo "_law_is_dealing") rfl),
    He.glo_ok X G (c.two.fact 22 (f := He.Fa.glo "_law_pairs") rfl),
    He.glo_ok X G (c.two.fact 23 (f := He.Fa.glo "_law_rather") rfl),
    He.glo_ok X G (c.two.fact 24 (f := He.Fa.glo "_law_quarrels") rfl),
    He.glo_ok X G (c.two.fact 25 (f := He.Fa.glo "_law_is_calm") rfl),
    He.glo_ok X G (c.two.fact 26 (f := He.Fa.glo "_law_take") rfl),
    He.glo_ok X G (c.two.fact 27 (f := He.Fa.glo "_law_mixed") rfl),
    He.glo_ok X G (c.two.fact 28 (f := He.Fa.glo "_law_mutual") rfl),
    He.glo_ok X G (c.two.fact 29 (f := He.Fa.glo "_law_name") rfl),
    He.glo_ok X G (c.two.fact 30 (f := He.Fa.glo "_law_names") rfl),
    He.glo_ok X G (c.two.fact 31 (f := He.Fa.glo "_law_row") rfl),
    He.glo_ok X G (c.two.fact 32 (f := He.Fa.glo "ask_all") rfl),
    He.glo_ok X G (c.two.fact 33 (f := He.Fa.glo "cycle_from") rfl),
    He.glo_ok X G (c.two.fact 34 (f := He.Fa.glo "in_order") rfl),
    He.glo_ok X G (c.two.fact 35 (f := He.Fa.glo "lower") rfl),
    He.glo_ok X G (c.two.fact 36 (f := He.Fa.glo "passed_on") rfl),
    He.glo_ok X G (c.two.fact 37 (f := He.Fa.glo "rings_of") rfl),
    He.glo_ok X G (c.two.fact 38 (f := He.Fa.glo "plain") rfl),
    He.glo_ok X G (c.two.fact 39 (f := He.Fa.glo "find_half") rfl),
    He.glo_ok X G (c.two.fact 40 (f := He.Fa.glo "lots") rfl),
    He.glo_ok X G (c.two.fact 41 (f := He.Fa.glo "alone") rfl),
    He.glo_ok X G (c.two.fact 42 (f := He.Fa.glo "dealing") rfl),
    He.glo_ok X G (c.two.fact 43 (f := He.Fa.glo "odd") rfl),
    He.glo_ok X G (c.two.fact 44 (f := He.Fa.glo "is_name") rfl),
    He.glo_ok X G (c.two.fact 45 (f := He.Fa.glo "check_people") rfl),
    He.glo_ok X G (c.two.fact 46 (f := He.Fa.glo "fits_wishes") rfl),
    He.glo_ok X G (c.two.fact 47 (f := He.Fa.glo "same_keys") rfl),
    He.glo_ok X G (c.two.fact 48 (f := He.Fa.glo "check_wishes") rfl),
    He.glo_ok X G (c.two.fact 49 (f := He.Fa.glo "law") rfl),
    c.ex 0 (b := (fun K => qInitB K "QuietError")) rfl,
    He.noat_ok (c.two.fact 50 (f := He.Fa.noat "BadPeople" "index") rfl),
    He.noat_ok (c.two.fact 51 (f := He.Fa.noat "BadWishes" "person") rfl),
    He.noat_ok (c.two.fact 52 (f := He.Fa.noat "NoPerson" "value") rfl),
    oexB_ok (c.ex 1 (b := (fun K => oexB K (He.ga K "BadPeople"))) rfl),
    He.meth_ok (c.two.fact 53 (f := He.Fa.meth "BadPeople" "__init__") rfl),
    of_decide_eq_true (c.ex 2 (b := (fun K => decide (PySem.W.typeIn K (.ref (He.ma K (He.ga K "BadPeople") "__init__")) = some (.type "function")))) rfl),
    oexB_ok (c.ex 3 (b := (fun K => oexB K (He.ga K "BadWishes"))) rfl),
    He.meth_ok (c.two.fact 54 (f := He.Fa.meth "BadWishes" "__init__") rfl),
    of_decide_eq_true (c.ex 4 (b := (fun K => decide (PySem.W.typeIn K (.ref (He.ma K (He.ga K "BadWishes") "__init__")) = some (.type "function")))) rfl),
    oexB_ok (c.ex 5 (b := (fun K => oexB K (He.ga K "NoPerson"))) rfl),
    He.meth_ok (c.two.fact 55 (f := He.Fa.meth "NoPerson" "__init__") rfl),
    of_decide_eq_true (c.ex 6 (b := (fun K => decide (PySem.W.typeIn K (.ref (He.ma K (He.ga K "NoPerson") "__init__")) = some (.type "function")))) rfl),
    He.meth_ok (c.two.fact 56 (f := He.Fa.meth "Group" "check") rfl),
    He.meth_ok (c.two.fact 57 (f := He.Fa.meth "Group" "open_to") rfl),
    He.meth_ok (c.two.fact 58 (f := He.Fa.meth "Group" "people") rfl),
    He.mkr_ok (c.two.fact 59 (f := He.Fa.mkr "Group") rfl),
    ⟨He.cls_ok (c.two.fact 60 (f := He.Fa.cls "Group") rfl), He.noat_ok (c.two.fact 61 (f := He.Fa.noat "Group" "names") rfl), He.noat_ok (c.two.fact 62 (f := He.Fa.noat "Group" "lists") rfl), He.noat_ok (c.two.fact 63 (f := He.Fa.noat "Group" "mutual") rfl), He.noat_ok (c.two.fact 64 (f := He.Fa.noat "Group" "places") rfl), insB_ok (He.cls_ok (c.two.fact 60 (f := He.Fa.cls "Group") rfl)) (c.ex 7 (b := (fun K => insB K (He.ga K "Group"))) rfl)⟩⟩
  obtain ⟨fd__law_cell, D__law_cell⟩ := c.two.def_ 0 (d := d__law_cell) rfl
  obtain ⟨fd__law_copy, D__law_copy⟩ := c.two.def_ 1 (d := d__law_copy) rfl
  obtain ⟨fd__law_is_dealing, D__law_is_dealing⟩ := c.two.def_ 2 (d := d__law_is_dealing) rfl
  obtain ⟨fd__law_pairs, D__law_pairs⟩ := c.two.def_ 3 (d := d__law_pairs) rfl
  obtain ⟨fd__law_rather, D__law_rather⟩ := c.two.def_ 4 (d := d__law_rather) rfl
  obtain ⟨fd__law_quarrels, D__law_quarrels⟩ := c.two.def_ 5 (d := d__law_quarrels) rfl
  obtain ⟨fd__law_is_calm, D__law_is_calm⟩ := c.two.def_ 6 (d := d__law_is_calm) rfl
  obtain ⟨fd__law_take, D__law_take⟩ := c.two.def_ 7 (d := d__law_take) rfl
  obtain ⟨fd__law_mixed, D__law_mixed⟩ := c.two.def_ 8 (d := d__law_mixed) rfl
  obtain ⟨fd__law_mutual, D__law_mutual⟩ := c.two.def_ 9 (d := d__law_mutual) rfl
  obtain ⟨fd__law_name, D__law_name⟩ := c.two.def_ 10 (d := d__law_name) rfl
  obtain ⟨fd__law_names, D__law_names⟩ := c.two.def_ 11 (d := d__law_names) rfl
  obtain ⟨fd__law_row, D__law_row⟩ := c.two.def_ 12 (d := d__law_row) rfl
  obtain ⟨fd_ask_all, D_ask_all⟩ := c.two.def_ 13 (d := d_ask_all) rfl
  obtain ⟨fd_cycle_from, D_cycle_from⟩ := c.two.def_ 14 (d := d_cycle_from) rfl
  obtain ⟨fd_in_order, D_in_order⟩ := c.two.def_ 15 (d := d_in_order) rfl
  obtain ⟨fd_lower, D_lower⟩ := c.two.def_ 16 (d := d_lower) rfl
  obtain ⟨fd_passed_on, D_passed_on⟩ := c.two.def_ 17 (d := d_passed_on) rfl
  obtain ⟨fd_rings_of, D_rings_of⟩ := c.two.def_ 18 (d := d_rings_of) rfl
  obtain ⟨fd_plain, D_plain⟩ := c.two.def_ 19 (d := d_plain) rfl
  obtain ⟨fd_NoPerson___init__, D_NoPerson___init__⟩ := c.two.def_ 20 (d := d_NoPerson___init__) rfl
  obtain ⟨fd_Group_check, D_Group_check⟩ := c.two.def_ 21 (d := d_Group_check) rfl
  obtain ⟨fd_Group_open_to, D_Group_open_to⟩ := c.two.def_ 22 (d := d_Group_open_to) rfl
  obtain ⟨fd_Group_people, D_Group_people⟩ := c.two.def_ 23 (d := d_Group_people) rfl
  obtain ⟨fd_find_half, D_find_half⟩ := c.two.def_ 24 (d := d_find_half) rfl
  obtain ⟨fd_lots, D_lots⟩ := c.two.def_ 25 (d := d_lots) rfl
  obtain ⟨fd_alone, D_alone⟩ := c.two.def_ 26 (d := d_alone) rfl
  obtain ⟨fd_dealing, D_dealing⟩ := c.two.def_ 27 (d := d_dealing) rfl
  obtain ⟨fd_odd, D_odd⟩ := c.two.def_ 28 (d := d_odd) rfl
  obtain ⟨fd_is_name, D_is_name⟩ := c.two.def_ 29 (d := d_is_name) rfl
  obtain ⟨fd_BadPeople___init__, D_BadPeople___init__⟩ := c.two.def_ 30 (d := d_BadPeople___init__) rfl
  obtain ⟨fd_check_people, D_check_people⟩ := c.two.def_ 31 (d := d_check_people) rfl
  obtain ⟨fd_fits_wishes, D_fits_wishes⟩ := c.two.def_ 32 (d := d_fits_wishes) rfl
  obtain ⟨fd_same_keys, D_same_keys⟩ := c.two.def_ 33 (d := d_same_keys) rfl
  obtain ⟨fd_BadWishes___init__, D_BadWishes___init__⟩ := c.two.def_ 34 (d := d_BadWishes___init__) rfl
  obtain ⟨fd_check_wishes, D_check_wishes⟩ := c.two.def_ 35 (d := d_check_wishes) rfl
  obtain ⟨fd_Group___init__, D_Group___init__⟩ := c.two.def_ 36 (d := d_Group___init__) rfl
  obtain ⟨fd_law, D_law⟩ := c.two.def_ 37 (d := d_law) rfl
  have e := hfa.symm.trans T.g_law
  cases e
  have b := FunD.bindsA (ps := ["_law_script"]) D_law fun _ _ _ _ _ _ us hl => match us, hl with | [_], _ => rfl
  refine ⟨fd_law, fun s v => b s [v] rfl, fun base _ _ => ?_⟩
  have F__law_cell : Fn P w K mg base 1 "_law_cell" ["_law_script", "_law_k"] (sp__law_cell K) := ⟨_, _, T.g__law_cell, D__law_cell.kp, (FunD.bindsN (ps := ["_law_script", "_law_k"]) D__law_cell fun _ _ _ _ _ _ us hl => match us, hl with | [_, _], _ => rfl), (ok__law_cell T  D__law_cell)⟩
  have F__law_copy : Fn P w K mg base 1 "_law_copy" ["_law_wishes"] (sp__law_copy K) := ⟨_, _, T.g__law_copy, D__law_copy.kp, (FunD.bindsN (ps := ["_law_wishes"]) D__law_copy fun _ _ _ _ _ _ us hl => match us, hl with | [_], _ => rfl), (ok__law_copy T  D__law_copy)⟩
  have F__law_is_dealing : Fn P w K mg base 1 "_law_is_dealing" ["_law_mutual_here", "_law_x"] (sp__law_is_dealing K) := ⟨_, _, T.g__law_is_dealing, D__law_is_dealing.kp, (FunD.bindsN (ps := ["_law_mutual_here", "_law_x"]) D__law_is_dealing fun _ _ _ _ _ _ us hl => match us, hl with | [_, _], _ => rfl), (ok__law_is_dealing T  D__law_is_dealing)⟩
  have F__law_pairs : Fn P w K mg base 1 "_law_pairs" ["_law_mutual_here"] (sp__law_pairs K) := ⟨_, _, T.g__law_pairs, D__law_pairs.kp, (FunD.bindsN (ps := ["_law_mutual_here"]) D__law_pairs fun _ _ _ _ _ _ us hl => match us, hl with | [_], _ => rfl), (ok__law_pairs T  D__law_pairs)⟩
  have F__law_rather : Fn P w K mg base 1 "_law_rather" ["_law_mutual_here", "_law_a", "_law_b", "_law_held"] (sp__law_rather K) := ⟨_, _, T.g__law_rather, D__law_rather.kp, (FunD.bindsN (ps := ["_law_mutual_here", "_law_a", "_law_b", "_law_held"]) D__law_rather fun _ _ _ _ _ _ us hl => match us, hl with | [_, _, _, _], _ => rfl), (ok__law_rather T  D__law_rather)⟩
  have F__law_quarrels : Fn P w K mg base 2 "_law_quarrels" ["_law_mutual_here", "_law_x"] (sp__law_quarrels K) := ⟨_, _, T.g__law_quarrels, D__law_quarrels.kp, (FunD.bindsN (ps := ["_law_mutual_here", "_law_x"]) D__law_quarrels fun _ _ _ _ _ _ us hl => match us, hl with | [_, _], _ => rfl), (ok__law_quarrels T F__law_pairs F__law_rather D__law_quarrels)⟩
  have F__law_is_calm : Fn P w K mg base 3 "_law_is_calm" ["_law_mutual_here", "_law_x"] (sp__law_is_calm K) := ⟨_, _, T.g__law_is_calm, D__law_is_calm.kp, (FunD.bindsN (ps := ["_law_mutual_here", "_law_x"]) D__law_is_calm fun _ _ _ _ _ _ us hl => match us, hl with | [_, _], _ => rfl), (ok__law_is_calm T F__law_is_dealing F__law_quarrels D__law_is_calm)⟩
  have F__law_take : Fn P w K mg base 1 "_law_take" ["_law_state", "_law_many"] (sp__law_take K) := ⟨_, _, T.g__law_take, D__law_take.kp, (FunD.bindsN (ps := ["_law_state", "_law_many"]) D__law_take fun _ _ _ _ _ _ us hl => match us, hl with | [_, _], _ => rfl), (ok__law_take T  D__law_take)⟩
  have F__law_mixed : Fn P w K mg base 2 "_law_mixed" ["_law_state", "_law_items"] (sp__law_mixed K) := ⟨_, _, T.g__law_mixed, D__law_mixed.kp, (FunD.bindsN (ps := ["_law_state", "_law_items"]) D__law_mixed fun _ _ _ _ _ _ us hl => match us, hl with | [_, _], _ => rfl), (ok__law_mixed T F__law_take D__law_mixed)⟩
  have F__law_mutual : Fn P w K mg base 1 "_law_mutual" ["_law_names_here", "_law_wishes"] (sp__law_mutual K) := ⟨_, _, T.g__law_mutual, D__law_mutual.kp, (FunD.bindsN (ps := ["_law_names_here", "_law_wishes"]) D__law_mutual fun _ _ _ _ _ _ us hl => match us, hl with | [_, _], _ => rfl), (ok__law_mutual T  D__law_mutual)⟩
  have F__law_name : Fn P w K mg base 2 "_law_name" ["_law_state", "_law_taken"] (sp__law_name K) := ⟨_, _, T.g__law_name, D__law_name.kp, (FunD.bindsN (ps := ["_law_state", "_law_taken"]) D__law_name fun _ _ _ _ _ _ us hl => match us, hl with | [_, _], _ => rfl), (ok__law_name T F__law_take D__law_name)⟩
  have F__law_names : Fn P w K mg base 3 "_law_names" ["_law_state", "_law_many"] (sp__law_names K) := ⟨_, _, T.g__law_names, D__law_names.kp, (FunD.bindsN (ps := ["_law_state", "_law_many"]) D__law_names fun _ _ _ _ _ _ us hl => match us, hl with | [_, _], _ => rfl), (ok__law_names T F__law_name D__law_names)⟩
  have F__law_row : Fn P w K mg base 1 "_law_row" ["_law_actual", "_law_due"] (sp__law_row K) := ⟨_, _, T.g__law_row, D__law_row.kp, (FunD.bindsN (ps := ["_law_actual", "_law_due"]) D__law_row fun _ _ _ _ _ _ us hl => match us, hl with | [_, _], _ => rfl), (ok__law_row T  D__law_row)⟩
  have F_ask_all : Fn P w K mg base 1 "ask_all" ["lists"] (sp_ask_all K) := ⟨_, _, T.g_ask_all, D_ask_all.kp, (FunD.bindsN (ps := ["lists"]) D_ask_all fun _ _ _ _ _ _ us hl => match us, hl with | [_], _ => rfl), (ok_ask_all T  D_ask_all)⟩
  have F_cycle_from : Fn P w K mg base 1 "cycle_from" ["start", "step"] (sp_cycle_from K) := ⟨_, _, T.g_cycle_from, D_cycle_from.kp, (FunD.bindsN (ps := ["start", "step"]) D_cycle_from fun _ _ _ _ _ _ us hl => match us, hl with | [_, _], _ => rfl), (ok_cycle_from T  D_cycle_from)⟩
  have F_in_order : Fn P w K mg base 1 "in_order" ["lists", "asks", "holds"] (sp_in_order K) := ⟨_, _, T.g_in_order, D_in_order.kp, (FunD.bindsN (ps := ["lists", "asks", "holds"]) D_in_order fun _ _ _ _ _ _ us hl => match us, hl with | [_, _, _], _ => rfl), (ok_in_order T  D_in_order)⟩
  have F_lower : Fn P w K mg base 1 "lower" ["lists", "asks", "holds", "a"] (sp_lower K) := ⟨_, _, T.g_lower, D_lower.kp, (FunD.bindsN (ps := ["lists", "asks", "holds", "a"]) D_lower fun _ _ _ _ _ _ us hl => match us, hl with | [_, _, _, _], _ => rfl), (ok_lower T  D_lower)⟩
  have F_passed_on : Fn P w K mg base 2 "passed_on" ["lists", "asks", "holds"] (sp_passed_on K) := ⟨_, _, T.g_passed_on, D_passed_on.kp, (FunD.bindsN (ps := ["lists", "asks", "holds"]) D_passed_on fun _ _ _ _ _ _ us hl => match us, hl with | [_, _, _], _ => rfl), (ok_passed_on T F_cycle_from F_in_order F_lower D_passed_on)⟩
  have F_rings_of : Fn P w K mg base 1 "rings_of" ["x"] (sp_rings_of K) := ⟨_, _, T.g_rings_of, D_rings_of.kp, (FunD.bindsN (ps := ["x"]) D_rings_of fun _ _ _ _ _ _ us hl => match us, hl with | [_], _ => rfl), (ok_rings_of T  D_rings_of)⟩
  have F_plain : Fn P w K mg base 2 "plain" ["x"] (sp_plain K) := ⟨_, _, T.g_plain, D_plain.kp, (FunD.bindsN (ps := ["x"]) D_plain fun _ _ _ _ _ _ us hl => match us, hl with | [_], _ => rfl), (ok_plain T F_rings_of D_plain)⟩
  have Z_NoPerson : ErC P w K mg base "NoPerson" ["self", "value"] (spI1 K (He.ga K "NoPerson") "value") := ⟨_, _, T.g_NoPerson, T.ox_NoPerson, T.mi_NoPerson.at_, T.ti_NoPerson, (FunD.bindsN (ps := ["self", "value"]) D_NoPerson___init__ fun _ _ _ _ _ _ us hl => match us, hl with | [_, _], _ => rfl), (ok_NoPerson___init__ T  D_NoPerson___init__)⟩
  have M_Group_check : Mt P w K mg base 3 "Group" "check" ["self", "a"] (sp_Group_check K) := ⟨_, _, T.gk.cl, T.me_Group_check, (FunD.bindsN (ps := ["self", "a"]) D_Group_check fun _ _ _ _ _ _ us hl => match us, hl with | [_, _], _ => rfl), (ok_Group_check T Z_NoPerson D_Group_check)⟩
  have M_Group_open_to : Mt P w K mg base 4 "Group" "open_to" ["self", "a"] (sp_Group_open_to K) := ⟨_, _, T.gk.cl, T.me_Group_open_to, (FunD.bindsN (ps := ["self", "a"]) D_Group_open_to fun _ _ _ _ _ _ us hl => match us, hl with | [_, _], _ => rfl), (ok_Group_open_to T M_Group_check D_Group_open_to)⟩
  have M_Group_people : Mt P w K mg base 1 "Group" "people" ["self"] (sp_Group_people K) := ⟨_, _, T.gk.cl, T.me_Group_people, (FunD.bindsN (ps := ["self"]) D_Group_people fun _ _ _ _ _ _ us hl => match us, hl with | [_], _ => rfl), (ok_Group_people T  D_Group_people)⟩
  have F_find_half : Fn P w K mg base 5 "find_half" ["group"] (sp_find_half K) := ⟨_, _, T.g_find_half, D_find_half.kp, (FunD.bindsN (ps := ["group"]) D_find_half fun _ _ _ _ _ _ us hl => match us, hl with | [_], _ => rfl), (ok_find_half T F_ask_all F_passed_on F_plain M_Group_open_to M_Group_people D_find_half)⟩
  have F_lots : Fn P w K mg base 6 "lots" ["group"] (sp_lots K) := ⟨_, _, T.g_lots, D_lots.kp, (FunD.bindsN (ps := ["group"]) D_lots fun _ _ _ _ _ _ us hl => match us, hl with | [_], _ => rfl), (ok_lots T F_find_half F_rings_of D_lots)⟩
  have F_alone : Fn P w K mg base 7 "alone" ["group"] (sp_alone K) := ⟨_, _, T.g_alone, D_alone.kp, (FunD.bindsN (ps := ["group"]) D_alone fun _ _ _ _ _ _ us hl => match us, hl with | [_], _ => rfl), (ok_alone T F_lots D_alone)⟩
  have F_dealing : Fn P w K mg base 6 "dealing" ["group"] (sp_dealing K) := ⟨_, _, T.g_dealing, D_dealing.kp, (FunD.bindsN (ps := ["group"]) D_dealing fun _ _ _ _ _ _ us hl => match us, hl with | [_], _ => rfl), (ok_dealing T F_find_half M_Group_people D_dealing)⟩
  have F_odd : Fn P w K mg base 7 "odd" ["group"] (sp_odd K) := ⟨_, _, T.g_odd, D_odd.kp, (FunD.bindsN (ps := ["group"]) D_odd fun _ _ _ _ _ _ us hl => match us, hl with | [_], _ => rfl), (ok_odd T F_lots D_odd)⟩
  have F_is_name : Fn P w K mg base 1 "is_name" ["value"] (sp_is_name K) := ⟨_, _, T.g_is_name, D_is_name.kp, (FunD.bindsN (ps := ["value"]) D_is_name fun _ _ _ _ _ _ us hl => match us, hl with | [_], _ => rfl), (ok_is_name T  D_is_name)⟩
  have Z_BadPeople : ErC P w K mg base "BadPeople" ["self", "index"] (spI1 K (He.ga K "BadPeople") "index") := ⟨_, _, T.g_BadPeople, T.ox_BadPeople, T.mi_BadPeople.at_, T.ti_BadPeople, (FunD.bindsN (ps := ["self", "index"]) D_BadPeople___init__ fun _ _ _ _ _ _ us hl => match us, hl with | [_, _], _ => rfl), (ok_BadPeople___init__ T  D_BadPeople___init__)⟩
  have F_check_people : Fn P w K mg base 3 "check_people" ["people"] (sp_check_people K) := ⟨_, _, T.g_check_people, D_check_people.kp, (FunD.bindsN (ps := ["people"]) D_check_people fun _ _ _ _ _ _ us hl => match us, hl with | [_], _ => rfl), (ok_check_people T F_is_name Z_BadPeople D_check_people)⟩
  have F_fits_wishes : Fn P w K mg base 1 "fits_wishes" ["value", "people", "person"] (sp_fits_wishes K) := ⟨_, _, T.g_fits_wishes, D_fits_wishes.kp, (FunD.bindsN (ps := ["value", "people", "person"]) D_fits_wishes fun _ _ _ _ _ _ us hl => match us, hl with | [_, _, _], _ => rfl), (ok_fits_wishes T  D_fits_wishes)⟩
  have F_same_keys : Fn P w K mg base 1 "same_keys" ["value", "people"] (sp_same_keys K) := ⟨_, _, T.g_same_keys, D_same_keys.kp, (FunD.bindsN (ps := ["value", "people"]) D_same_keys fun _ _ _ _ _ _ us hl => match us, hl with | [_, _], _ => rfl), (ok_same_keys T  D_same_keys)⟩
  have Z_BadWishes : ErC P w K mg base "BadWishes" ["self", "person"] (spI1 K (He.ga K "BadWishes") "person") := ⟨_, _, T.g_BadWishes, T.ox_BadWishes, T.mi_BadWishes.at_, T.ti_BadWishes, (FunD.bindsN (ps := ["self", "person"]) D_BadWishes___init__ fun _ _ _ _ _ _ us hl => match us, hl with | [_, _], _ => rfl), (ok_BadWishes___init__ T  D_BadWishes___init__)⟩
  have F_check_wishes : Fn P w K mg base 3 "check_wishes" ["people", "wishes"] (sp_check_wishes K) := ⟨_, _, T.g_check_wishes, D_check_wishes.kp, (FunD.bindsN (ps := ["people", "wishes"]) D_check_wishes fun _ _ _ _ _ _ us hl => match us, hl with | [_, _], _ => rfl), (ok_check_wishes T F_fits_wishes F_same_keys Z_BadWishes D_check_wishes)⟩
  have X_Group : Mkr P w K mg base 4 "Group" ["self", "people", "wishes"] (sp_Group___init__ K) := ⟨_, _, T.g_Group, T.mk_Group, (FunD.bindsN (ps := ["self", "people", "wishes"]) D_Group___init__ fun _ _ _ _ _ _ us hl => match us, hl with | [_, _, _], _ => rfl), (ok_Group___init__ T F_check_people F_check_wishes D_Group___init__)⟩
  exact (ok_law T F__law_cell F__law_copy F__law_is_calm F__law_mixed F__law_mutual F__law_names F__law_row F__law_take F_alone F_dealing F_odd X_Group D_law)
end Hd
open PySem PySem.W PySem.Calls PyProof.Rows
theorem PySem.Challenge.cw_quietpairs_k26_whole_two_sides_holds : PySem.Challenge.rw_quietpairs_k26_whole_two_sides.Holds := by
  w_on; o_law
  refine HandSHeadRun.head_any (r := OpenLaw.row PySem.Challenge.rw_quietpairs_k26_whole_two_sides) (q := view (OpenLaw.row PySem.Challenge.rw_quietpairs_k26_whole_two_sides).prog [44]) (H := Hd.hk) (ob := Hd.ob) (M := 20000) (loose := Hd.loose) (d := HandSHeadRun.topDef (OpenLaw.row PySem.Challenge.rw_quietpairs_k26_whole_two_sides).prog 44) (kwd := []) Hd.ob_eq
    (by kernel_rfl) (fun s => by kernel_rfl) Hd.run (by kernel_rfl) (by kernel_rfl) (by kernel_rfl) (by rfl) (by first | assumption | decide +kernel) (by decide +kernel) ⟨rfl, rfl, rfl, rfl, rfl, by decide +kernel⟩ ?hw ?hc
  case hw => w_witness2
  case hc =>
    refine L2.walk_ofE (l := PySem.Challenge.rw_quietpairs_k26_whole_two_sides) (n := 63) (k := 8) (x := "_law_script") (CX := Q.CXE (PySem.Challenge.rw_quietpairs_k26_whole_two_sides).prog) rfl (by decide) (by kernel_rfl) ⟨rfl, by decide, by decide⟩ ?F Q.cxe_no
    intro w mg fa h Y G hmg0
    obtain ⟨K, KX, c⟩ := Y
    have hmg : mg ("law" : PySem.Str) = some (.ref fa) := by
      have e : (HandSHeadRun.topDef (OpenLaw.row PySem.Challenge.rw_quietpairs_k26_whole_two_sides).prog 44).name = ("law" : PySem.Str) := by kernel_rfl
      rw [← e]
      exact hmg0
    obtain ⟨fd, hb, hF⟩ := Hd.facts (P := (PySem.Challenge.rw_quietpairs_k26_whole_two_sides).prog) (w := w) KX G hmg c
    exact ⟨K, fd, Q.spLaw K, KX, hb, fun H a ns hl _ hS => ⟨a, ns, rfl, hl, hS, fun _ => rfl⟩, fun base h1 h2 => Q.fnok_cxe (hF base h1 h2)⟩
