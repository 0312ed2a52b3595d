import PyProof.Rows.All
import Wide.All
import OpenK.AllK
import Wide.FinOn
import KE.KStateDown
import HandS.ForMost
import HandS.Exc
import HandS.TryOnly
import HandS.ExcOwn
import HandS.ExcInit
import HandS.ExcField
import HandS.More
import HandS.WordsExc
import HandS.IsInst
import HandS.Defaults
import HandS.DictComp
import HandS.Flow
import HandS.Head0
import HandS.Head1
import HandS.Head2
import HandS.HeadEnd
import HandS.HeadHook1
import HandS.HeadHook2
import HandS.Steps
import HandS.Walk
import KE.GoesMore
import KE.GoesEnum
import HandS.SortRule
import OpenK.KMeth
import OpenK.KOps
import HandS.OwnEq
import HandS.DeepEq
import KE.KEqDict
import PyProof.InstNe
import HandS.Conv
import HandS.Iter
import PySem.Challenge.RW_quietpairs_k06_equal_groups
set_option Elab.async false
set_option linter.all false
set_option maxRecDepth 100000
set_option maxHeartbeats 4000000
namespace Q
open PySem PySem.Spec PyProof.Rows L2

/-! ### data as trees, and how a heap shows them -/
inductive D where
  | non | bl (b : Bool) | int (i : Int) | str (x : Str)
  | lst (xs : List D) | tup (xs : List D) | dct (kvs : List (Key × D)) | obj (a C : Addr)
/-- what the written part says of a class whose instances are asked by isinstance -/
structure InsK (K : PySem.W.Frag) (C : Addr) : Prop where
  cl : Cls K C
  ha : PySem.W.findIn K (.ref C) "__class__" = some (some (.builtin "object.__class__"))
  hn : PySem.W.specialIn K (.builtin "object.__class__") "__get__" = some (some (.builtin "getset_descriptor.__get__"))
  tk : PySem.W.takesIn K (.builtin "object.__class__") = some true
  mo : PySem.W.mroIn K C (.type "object") = some true
  no : ∀ T ∈ (["str", "int", "bool", "list", "tuple", "dict"] : List String), PySem.W.kitOne K (.ref C) (.type T) = some false
def insB (K : PySem.W.Frag) (C : Addr) : Bool := decide (PySem.W.findIn K (.ref C) "__class__" = some (some (.builtin "object.__class__"))) && (decide (PySem.W.specialIn K (.builtin "object.__class__") "__get__" = some (some (.builtin "getset_descriptor.__get__"))) &&
  (decide (PySem.W.takesIn K (.builtin "object.__class__") = some true) && (decide (PySem.W.mroIn K C (.type "object") = some true) && (["str", "int", "bool", "list", "tuple", "dict"] : List String).all fun T => decide (PySem.W.kitOne K (.ref C) (.type T) = some false))))
theorem insB_ok {K : PySem.W.Frag} {C : Addr} (c : Cls K C) (h : insB K C = true) : InsK K C := by
  obtain ⟨h1, h⟩ := Bool.and_eq_true_iff.mp h
  obtain ⟨h2, h⟩ := Bool.and_eq_true_iff.mp h
  obtain ⟨h3, h⟩ := Bool.and_eq_true_iff.mp h
  obtain ⟨h4, h5⟩ := Bool.and_eq_true_iff.mp h
  exact ⟨c, of_decide_eq_true h1, of_decide_eq_true h2, of_decide_eq_true h3, of_decide_eq_true h4, fun T m => of_decide_eq_true (List.all_eq_true.mp h5 T m)⟩
mutual
inductive Rep (K : PySem.W.Frag) (B : Hp) : V → D → Prop
  | non : Rep K B .non .non
  | bl (b : Bool) : Rep K B (.bl b) (.bl b)
  | int (i : Int) : Rep K B (.int i) (.int i)
  | str {x : Str} : x.length ≤ 1000000 → Rep K B (.str x) (.str x)
  | lst {a : Addr} {xs : List V} {ds : List D} : B a = some (.lst xs) → xs.length ≤ 100000 → Reps K B xs ds → Rep K B (.ref a) (.lst ds)
  | tup {a : Addr} {xs : List V} {ds : List D} : B a = some (.tup xs) → Reps K B xs ds → Rep K B (.ref a) (.tup ds)
  | dct {a : Addr} {xs : List (Key × V)} {ds : List (Key × D)} : B a = some (.dK xs) → RepK K B xs ds → Rep K B (.ref a) (.dct ds)
  | obj {a C dx : Addr} {fs : List (Str × V)} : B a = some (.ins C dx fs) → InsK K C → Rep K B (.ref a) (.obj a C)
inductive Reps (K : PySem.W.Frag) (B : Hp) : List V → List D → Prop
  | nil : Reps K B [] []
  | cons {v : V} {vs : List V} {d : D} {ds : List D} : Rep K B v d → Reps K B vs ds → Reps K B (v :: vs) (d :: ds)
inductive RepK (K : PySem.W.Frag) (B : Hp) : List (Key × V) → List (Key × D) → Prop
  | nil : RepK K B [] []
  | cons {k : Key} {v : V} {vs : List (Key × V)} {d : D} {ds : List (Key × D)} : Rep K B v d → RepK K B vs ds → RepK K B ((k, v) :: vs) ((k, d) :: ds)
end
section
variable {K : PySem.W.Frag}
mutual
theorem Rep.mono {B B' : Hp} (s : Same B B') : ∀ {v : V} {d : D}, Rep K B v d → Rep K B' v d
  | _, _, .non => .non
  | _, _, .bl b => .bl b
  | _, _, .int i => .int i
  | _, _, .str h => .str h
  | _, _, .lst h z r => .lst (s _ _ h) z (Reps.mono s r)
  | _, _, .tup h r => .tup (s _ _ h) (Reps.mono s r)
  | _, _, .dct h r => .dct (s _ _ h) (RepK.mono s r)
  | _, _, .obj h i => .obj (s _ _ h) i
theorem Reps.mono {B B' : Hp} (s : Same B B') : ∀ {v : List V} {d : List D}, Reps K B v d → Reps K B' v d
  | _, _, .nil => .nil
  | _, _, .cons h r => .cons (Rep.mono s h) (Reps.mono s r)
theorem RepK.mono {B B' : Hp} (s : Same B B') : ∀ {v : List (Key × V)} {d : List (Key × D)}, RepK K B v d → RepK K B' v d
  | _, _, .nil => .nil
  | _, _, .cons h r => .cons (Rep.mono s h) (RepK.mono s r)
end
theorem Reps.length {B : Hp} : ∀ {v : List V} {d : List D}, Reps K B v d → v.length = d.length
  | _, _, .nil => rfl
  | _, _, .cons _ r => by simp [Reps.length r]
theorem RepK.length {B : Hp} : ∀ {v : List (Key × V)} {d : List (Key × D)}, RepK K B v d → v.length = d.length
  | _, _, .nil => rfl
  | _, _, .cons _ r => by simp [RepK.length r]
theorem Reps.get {B : Hp} : ∀ {vs : List V} {ds : List D} {i : Nat} {v : V}, Reps K B vs ds → vs[i]? = some v → ∃ d, ds[i]? = some d ∧ Rep K B v d
  | _, _, _, _, .nil, e => by simp at e
  | _, _, 0, _, .cons h _, e => by simp at e; subst e; exact ⟨_, rfl, h⟩
  | _, _, i + 1, v, .cons _ r, e => by
    obtain ⟨d, h1, h2⟩ := Reps.get (i := i) (v := v) r (by simpa using e)
    exact ⟨d, by simpa using h1, h2⟩
theorem Reps.append {B : Hp} : ∀ {vs ws : List V} {ds es : List D}, Reps K B vs ds → Reps K B ws es → Reps K B (vs ++ ws) (ds ++ es)
  | _, _, _, _, .nil, s => s
  | _, _, _, _, .cons h r, s => .cons h (Reps.append r s)
theorem Reps.set {B : Hp} {v : V} {d : D} (h : Rep K B v d) : ∀ {vs : List V} {ds : List D} (i : Nat), Reps K B vs ds → Reps K B (vs.set i v) (ds.set i d)
  | _, _, _, .nil => .nil
  | _, _, 0, .cons _ r => .cons h r
  | _, _, i + 1, .cons q r => .cons q (Reps.set h i r)
theorem reps_str {B : Hp} : ∀ {xs : List Str}, (∀ x ∈ xs, x.length ≤ 1000000) → Reps K B (xs.map V.str) (xs.map D.str)
  | [], _ => .nil
  | x :: r, h => .cons (.str (h x List.mem_cons_self)) (reps_str fun y m => h y (List.mem_cons_of_mem _ m))
theorem reps_str_eq {B : Hp} : ∀ {vs : List V} {xs : List Str}, Reps K B vs (xs.map D.str) → vs = xs.map V.str
  | _, [], h => by cases h; rfl
  | _, x :: r, h => by
    cases h with
    | cons a b => cases a; rw [reps_str_eq b]; rfl
def D.strs (xs : List Str) : D := .lst (xs.map .str)
theorem rep_strs {B : Hp} {a : Addr} {xs : List Str} (hx : ∀ x ∈ xs, x.length ≤ 1000000) (hz : xs.length ≤ 100000) (h : B a = some (.lst (xs.map V.str))) : Rep K B (.ref a) (D.strs xs) := .lst h (by rw [List.length_map]; exact hz) (reps_str hx)
theorem rep_strs_inv {B : Hp} {v : V} {xs : List Str} (h : Rep K B v (D.strs xs)) : ∃ a, v = .ref a ∧ B a = some (.lst (xs.map V.str)) := by
  unfold D.strs at h
  cases h with
  | lst h _ r => exact ⟨_, rfl, by rw [h, reps_str_eq r]⟩
end

/-! ### the frame: B what stands still, H what stands, M what may still change (its own things; S: handed in) -/
structure HS (S : List Addr) (B0 H0 B H : Hp) (M : List (Addr × HO)) : Prop where
  bb : Same B0 B
  bh : Same B H
  fr : ∀ b o, b ∉ S → B0 b = none → H0 b = some o → B b = none ∧ H b = some o
  mu : ∀ p ∈ M, B p.1 = none ∧ H p.1 = some p.2 ∧ (H0 p.1 = none ∨ p.1 ∈ S)
  nd : (M.map (·.1)).Nodup
section
variable {S : List Addr} {B0 H0 B H B' H' : Hp} {M M' : List (Addr × HO)} {p : Addr} {o o' : HO}
theorem HS.start (h : Same B H) : HS [] B H B H [] := ⟨Same.refl _, h, fun _ _ _ a b => ⟨a, b⟩, fun _ z => (nomatch z), List.nodup_nil⟩
theorem HS.startS (h : Same B H) (hb : B p = none) (hp : H p = some o) : HS [p] B H B H [(p, o)] :=
  ⟨Same.refl _, h, fun _ _ _ a b => ⟨a, b⟩, fun q z => by
    have e : q = (p, o) := by simpa using z
    subst e
    exact ⟨hb, hp, .inr (by simp)⟩, by simp⟩
theorem HS.get (h : HS S B0 H0 B H M) (m : (p, o) ∈ M) : H p = some o := (h.mu _ m).2.1
theorem HS.up (h : HS S B0 H0 B H M) {a : Addr} {u : HO} (e : B a = some u) : H a = some u := h.bh _ _ e
theorem HS.len {B0' : Hp} (h : HS S B0 H0 B H M) (s : Same B0' B0) : Same B0' B := s.trans h.bb
theorem ne_of_in {H : Hp} {a b : Addr} {o : HO} (h : H a = some o) (h' : H b = none) : a ≠ b := ne_of_none h h'
theorem same_none {A B : Hp} (s : Same A B) {a : Addr} (h : B a = none) : A a = none := Same.free s h
/-- a new thing that may change -/
theorem HS.new (h : HS S B0 H0 B H M) (hp : H p = none) : HS S B0 H0 B (upd H p o) ((p, o) :: M) := by
  have hB : B p = none := same_none h.bh hp
  refine ⟨h.bb, fun b u e => ?_, fun b u n1 n2 e => ?_, fun q m => ?_, ?_⟩
  · rw [upd_ne (ne_of_none (h.bh _ _ e) hp)]; exact h.bh _ _ e
  · obtain ⟨x, y⟩ := h.fr b u n1 n2 e
    exact ⟨x, by rw [upd_ne (ne_of_none y hp)]; exact y⟩
  · rcases List.mem_cons.mp m with rfl | m
    · refine ⟨hB, upd_same, ?_⟩
      by_cases hs : p ∈ S
      · exact .inr hs
      · left
        cases q : H0 p with
        | none => rfl
        | some u =>
          cases qb : B0 p with
          | some w => rw [h.bh _ _ (h.bb _ _ qb)] at hp; cases hp
          | none => rw [(h.fr p u hs qb q).2] at hp; cases hp
    · obtain ⟨x, y, z⟩ := h.mu q m
      exact ⟨x, by rw [upd_ne (ne_of_none y hp)]; exact y, z⟩
  · rw [List.map_cons, List.nodup_cons]
    refine ⟨fun z => ?_, h.nd⟩
    obtain ⟨q, m, e⟩ := List.mem_map.mp z
    obtain ⟨_, y, _⟩ := h.mu q m
    rw [e, hp] at y; cases y
/-- it is changed -/
def setM (p : Addr) (o : HO) : List (Addr × HO) → List (Addr × HO)
  | [] => []
  | (q, u) :: r => if q = p then (q, o) :: r else (q, u) :: setM p o r
theorem setM_map (p : Addr) (o : HO) : ∀ M : List (Addr × HO), (setM p o M).map (·.1) = M.map (·.1)
  | [] => rfl
  | (q, u) :: r => by
    unfold setM
    by_cases e : q = p
    · rw [if_pos e]; rfl
    · rw [if_neg e, List.map_cons, List.map_cons, setM_map p o r]
theorem mem_setM {p : Addr} {o : HO} {x : Addr × HO} : ∀ {M : List (Addr × HO)}, (M.map (·.1)).Nodup → x ∈ setM p o M → (x = (p, o) ∧ ∃ u, (p, u) ∈ M) ∨ (x.1 ≠ p ∧ x ∈ M)
  | [], _, h => nomatch h
  | (q, u) :: r, nd, h => by
    unfold setM at h
    rw [List.map_cons, List.nodup_cons] at nd
    by_cases e : q = p
    · rw [if_pos e] at h
      rcases List.mem_cons.mp h with rfl | h
      · exact .inl ⟨by rw [e], u, by rw [e]; exact List.mem_cons_self⟩
      · refine .inr ⟨fun z => nd.1 (List.mem_map.mpr ⟨x, h, z.trans e.symm⟩), List.mem_cons_of_mem _ h⟩
    · rw [if_neg e] at h
      rcases List.mem_cons.mp h with rfl | h
      · exact .inr ⟨e, List.mem_cons_self⟩
      · rcases mem_setM nd.2 h with ⟨a, u', b⟩ | ⟨a, b⟩
        · exact .inl ⟨a, u', List.mem_cons_of_mem _ b⟩
        · exact .inr ⟨a, List.mem_cons_of_mem _ b⟩
theorem HS.set (h : HS S B0 H0 B H M) (m : (p, o) ∈ M) : HS S B0 H0 B (upd H p o') (setM p o' M) := by
  obtain ⟨hB, hH, hs⟩ := h.mu _ m
  dsimp only at hB hH hs
  refine ⟨h.bb, fun b u e => ?_, fun b u n1 n2 e => ?_, fun q mq => ?_, by rw [setM_map]; exact h.nd⟩
  · rw [upd_ne (ne_of_none e hB)]; exact h.bh _ _ e
  · obtain ⟨x, y⟩ := h.fr b u n1 n2 e
    refine ⟨x, ?_⟩
    have : b ≠ p := fun z => by
      subst z
      rcases hs with k | k
      · rw [k] at e; cases e
      · exact n1 k
    rw [upd_ne this]; exact y
  · rcases mem_setM h.nd mq with ⟨rfl, _⟩ | ⟨a, b⟩
    · exact ⟨hB, upd_same, hs⟩
    · obtain ⟨x, y, z⟩ := h.mu q b
      exact ⟨x, by rw [upd_ne a]; exact y, z⟩
theorem HS.set0 (h : HS S B0 H0 B H ((p, o) :: M)) : HS S B0 H0 B (upd H p o') ((p, o') :: M) := by
  have q := h.set (o' := o') (p := p) (o := o) List.mem_cons_self
  unfold setM at q
  rw [if_pos rfl] at q
  exact q
/-- it stands still from now on -/
theorem HS.freeze (h : HS S B0 H0 B H ((p, o) :: M)) (h0 : H0 p = none) : HS S B0 H0 (upd B p o) H M ∧ Same B (upd B p o) := by
  obtain ⟨hB, hH, hs⟩ := h.mu (p, o) List.mem_cons_self
  dsimp only at hB hH hs
  have nd := h.nd
  rw [List.map_cons, List.nodup_cons] at nd
  have sB : Same B (upd B p o) := fun b u e => by rw [upd_ne (ne_of_none e hB)]; exact e
  refine ⟨⟨h.bb.trans sB, fun b u e => ?_, fun b u n1 n2 e => ?_, fun q m => ?_, nd.2⟩, sB⟩
  · by_cases z : b = p
    · subst z; rw [upd_same] at e; cases e; exact hH
    · rw [upd_ne z] at e; exact h.bh _ _ e
  · obtain ⟨x, y⟩ := h.fr b u n1 n2 e
    refine ⟨?_, y⟩
    have : b ≠ p := fun z => by subst z; rw [h0] at e; cases e
    rw [upd_ne this]; exact x
  · obtain ⟨x, y, z⟩ := h.mu q (List.mem_cons_of_mem _ m)
    have : q.1 ≠ p := fun e => nd.1 (List.mem_map.mpr ⟨q, m, e⟩)
    exact ⟨by rw [upd_ne this]; exact x, y, z⟩
theorem HS.drop (h : HS S B0 H0 B H ((p, o) :: M)) : HS S B0 H0 B H M :=
  ⟨h.bb, h.bh, h.fr, fun q m => h.mu q (List.mem_cons_of_mem _ m), by have nd := h.nd; rw [List.map_cons, List.nodup_cons] at nd; exact nd.2⟩
theorem HS.swap {q : Addr} {u : HO} (h : HS S B0 H0 B H ((p, o) :: (q, u) :: M)) : HS S B0 H0 B H ((q, u) :: (p, o) :: M) :=
  ⟨h.bb, h.bh, h.fr, fun x m => h.mu x (by
    rcases List.mem_cons.mp m with rfl | m
    · exact List.mem_cons_of_mem _ List.mem_cons_self
    · rcases List.mem_cons.mp m with rfl | m
      · exact List.mem_cons_self
      · exact List.mem_cons_of_mem _ (List.mem_cons_of_mem _ m)), by
    have nd := h.nd
    simp only [List.map_cons, List.nodup_cons, List.mem_cons, not_or] at nd ⊢
    exact ⟨⟨fun e => nd.1.1 e.symm, nd.2.1⟩, nd.1.2, nd.2.2⟩⟩
theorem HS.all (h : HS S B0 H0 B H M) : HS S B0 H0 B H [] := ⟨h.bb, h.bh, h.fr, fun _ z => (nomatch z), List.nodup_nil⟩
/-- a call that changes nothing that stood -/
theorem HS.call (h : HS S B0 H0 B H M) (c : HS [] B H B' H' []) : HS S B0 H0 B' H' M := by
  refine ⟨h.bb.trans c.bb, c.bh, fun b u n1 n2 e => ?_, fun q m => ?_, h.nd⟩
  · obtain ⟨x, y⟩ := h.fr b u n1 n2 e
    exact c.fr b u (by simp) x y
  · obtain ⟨x, y, z⟩ := h.mu q m
    obtain ⟨x', y'⟩ := c.fr q.1 q.2 (by simp) x y
    exact ⟨x', y', z⟩
/-- a call that changes the first of what may change -/
theorem HS.call1 (h : HS S B0 H0 B H ((p, o) :: M)) (c : HS [p] B H B' H' [(p, o')]) : HS S B0 H0 B' H' ((p, o') :: M) := by
  have nd := h.nd
  rw [List.map_cons, List.nodup_cons] at nd
  obtain ⟨hB, hH, hs⟩ := h.mu (p, o) List.mem_cons_self
  dsimp only at hB hH hs
  obtain ⟨c1, c2, _⟩ := c.mu (p, o') List.mem_cons_self
  dsimp only at c1 c2
  refine ⟨h.bb.trans c.bb, c.bh, fun b u n1 n2 e => ?_, fun q m => ?_, by rw [List.map_cons, List.nodup_cons]; exact nd⟩
  · obtain ⟨x, y⟩ := h.fr b u n1 n2 e
    have : b ≠ p := fun z => by
      subst z
      rcases hs with k | k
      · rw [k] at e; cases e
      · exact n1 k
    exact c.fr b u (by simpa using this) x y
  · rcases List.mem_cons.mp m with rfl | m
    · exact ⟨c1, c2, hs⟩
    · obtain ⟨x, y, z⟩ := h.mu q (List.mem_cons_of_mem _ m)
      have : q.1 ≠ p := fun e => nd.1 (List.mem_map.mpr ⟨q, m, e⟩)
      obtain ⟨x', y'⟩ := c.fr q.1 q.2 (by simpa using this) x y
      exact ⟨x', y', z⟩
end
/-- what a def promises where it comes back: R of the value in what stands still; where it raises: the class's name and the error's fields -/
def Ret (B H : Hp) (Qv : VK) (R : Hp → V → Prop) : Prop := ∀ B' H' v, HS [] B H B' H' [] → R B' v → Qv v H'
def Thr (K : PySem.W.Frag) (B H : Hp) (E : XK) (c : Str) (fs : List (Str × V)) : Prop := ∀ B' H' d, HS [] B H B' H' [] → B' d = none → H' d = some (.xd fs) → E (.ref (He.ga K c)) (some d) H'
def Thr0 (K : PySem.W.Frag) (B H : Hp) (E : XK) (c : Str) : Prop := ∀ B' H', HS [] B H B' H' [] → E (.ref (He.ga K c)) none H'
end Q

set_option Elab.async false
set_option linter.all false
set_option maxRecDepth 100000
set_option maxHeartbeats 4000000
namespace Q
open PySem PySem.Spec PyProof.Rows L2
/-! ### calls whose errors are wished for at the caller's slots -/
def tCl (sp : Sp) (W : WX) (t : TA) : TE := fun σ H Q => t σ H fun vs H1 => sp vs H1 Q fun c d H' => W c d σ H'
def tMt (C : Addr) (m : Str) (sp : Sp) (W : WX) (ta : TE) (t : TA) : TE := fun σ H Q => ta σ H fun x H1 => ∃ a dx fs, x = .ref a ∧ H1 a = some (.ins C dx fs) ∧ fs.lookup m = none ∧
  t σ H1 fun vs H2 => sp (x :: vs) H2 Q fun c d H' => W c d σ H'
def tMk (C : Addr) (sp : Sp) (W : WX) (t : TA) : TE := fun σ H Q => t σ H fun vs H1 => ∀ x dx, H1 x = none → H1 dx = none → dx ≠ x →
  sp (.ref x :: vs) (upd (upd H1 dx (.own x)) x (.ins C dx [])) (fun v H2 => v = .non ∧ Q (.ref x) H2) fun c d H' => W c d σ H'
/-- a def of the module by its name -/
def Fn (P : Program) (w : World) (K : PySem.W.Frag) (mg : Str → Option Value) (base : Heap) (k : Nat) (x : Str) (ps : List Str) (sp : Sp) : Prop :=
  ∃ f fd, mg x = some (.ref f) ∧ PySem.W.keepIn K (.ref f) = true ∧ Binds K fd ps [] ∧ FnOk P w K mg base (L2.CX P w) k f fd ps sp
/-- a method of a class of the module -/
def Mt (P : Program) (w : World) (K : PySem.W.Frag) (mg : Str → Option Value) (base : Heap) (k : Nat) (c m : Str) (ps : List Str) (sp : Sp) : Prop :=
  ∃ f fd, Cls K (He.ga K c) ∧ Meth K (He.ga K c) m f ∧ Binds K fd ps [] ∧ FnOk P w K mg base (L2.CX P w) k f fd ps sp
/-- a class that is made by its __init__ -/
def Mkr (P : Program) (w : World) (K : PySem.W.Frag) (mg : Str → Option Value) (base : Heap) (k : Nat) (c : Str) (ps : List Str) (sp : Sp) : Prop :=
  ∃ f fd, mg c = some (.ref (He.ga K c)) ∧ Mk K (He.ga K c) f ∧ Binds K fd ps [] ∧ FnOk P w K mg base (L2.CX P w) k f fd ps sp
section
variable {X : Cx} {k j : Nat} {c x m : Str} {ps : List Str} {sp : Sp} {W : WX} {p pos apos : Pos} {e o : Expr} {es : List Expr} {ta : TE} {t : TA}
theorem pe_cl (F : Fn X.prog X.w X.K X.mg X.base k x ps sp) (hr : Room j X.A) (hj : k ≤ j) (tk : Takes X W) (ha : PA X (e :: es) t) (hg : Gl X x := by rfl)
    (hdb : (x == ("__debug__" : Str)) = false := by decide) (he : starEach (e :: es) X.env = (false, eval e X.env) :: starEach es X.env := by rfl) (hpl : (backTo pos (starEach es X.env)).any (·.1) = false := by rfl) :
    PE X (.Call (.Name x p) (e :: es) [] pos) (tCl sp W t) := by
  obtain ⟨f, fd, hm, hk, hb, F⟩ := F
  exact pe_callS (E := WE W) F (hr.mono hj) hg hm hk hb (passAt tk) ha hdb he hpl
theorem pe_cl0 (F : Fn X.prog X.w X.K X.mg X.base k x ps sp) (hr : Room j X.A) (hj : k ≤ j) (tk : Takes X W) (hg : Gl X x := by rfl)
    (hdb : (x == ("__debug__" : Str)) = false := by decide) : PE X (.Call (.Name x p) [] [] pos) (tCl sp W tNil) := by
  obtain ⟨f, fd, hm, hk, hb, F⟩ := F
  refine ⟨fun pins s σ H Q I h => ?_⟩
  refine wpAny_Call_Name_kw (ld_glob I hg hm ?_ hdb)
  exact PySem.W.callWith_K0 I.kIn hk (run_fnS (E := WE W) (us := []) (vs := []) F (hr.mono hj) hb (passAt tk σ) I .nil h)
theorem pe_mt {pl : Sem Bool} (F : Mt X.prog X.w X.K X.mg X.base k c m ps sp) (hr : Room j X.A) (hj : k ≤ j) (tk : Takes X W) (he : PE X o ta) (ha : PA X (e :: es) t)
    (hst : starEach (e :: es) X.env = (false, eval e X.env) :: starEach es X.env := by rfl) (hpl : (backTo pos (starEach es X.env)).any (·.1) = false := by rfl)
    (ht : eval (.Call (.Attribute o m apos) (e :: es) [] pos) X.env = (do
      let ov ← eval o X.env
      standAt apos.atName
      let (f, first) ← holding [ov] (getMethod ov m pl)
      callWith pos f first (backTo pos (starEach (e :: es) X.env)) (backToKw pos (keywordEach [] X.env))) := by rfl) :
    PE X (.Call (.Attribute o m apos) (e :: es) [] pos) (tMt (He.ga X.K c) m sp W ta t) := by
  obtain ⟨f, fd, c, hm, hb, F⟩ := F
  refine ⟨fun pins s σ H Q I h => ?_⟩
  refine PySem.W.methodCall_KW (pl := pl) (thn (he.run pins s σ H _ I h) fun u s1 ⟨x, H1, I1, rx, a, dx, fs, ex, ea, l, q⟩ => ?_) ht
  subst ex
  obtain rfl : u = Value.ref a := rx
  refine getmeth_ok I1 ea c hm l ?_
  refine PySem.W.callWith_K (first := [.ref a]) (h₀ := X.base) I.ok.mod.kin hm.kp (thn (ha.run pos pins s1 σ H1 _ I1 q) fun us s2 ⟨vs, H2, I2, r, q2⟩ => ⟨I2.kIn, ?_⟩) hst hpl
  exact run_fnS (E := WE W) (us := .ref a :: us) (vs := .ref a :: vs) F (hr.mono hj) hb (passAt tk σ) I2 (.cons rfl r) q2
theorem pe_mt0 {pl : Sem Bool} (F : Mt X.prog X.w X.K X.mg X.base k c m ps sp) (hr : Room j X.A) (hj : k ≤ j) (tk : Takes X W) (he : PE X o ta)
    (ht : eval (.Call (.Attribute o m apos) [] [] pos) X.env = (do
      let ov ← eval o X.env
      standAt apos.atName
      let (f, first) ← holding [ov] (getMethod ov m pl)
      callWith pos f first (backTo pos (starEach [] X.env)) (backToKw pos (keywordEach [] X.env))) := by rfl) :
    PE X (.Call (.Attribute o m apos) [] [] pos) (tMt (He.ga X.K c) m sp W ta tNil) := by
  obtain ⟨f, fd, c, hm, hb, F⟩ := F
  refine ⟨fun pins s σ H Q I h => ?_⟩
  refine PySem.W.methodCall_KW (pl := pl) (thn (he.run pins s σ H _ I h) fun u s1 ⟨x, H1, I1, rx, a, dx, fs, ex, ea, l, q⟩ => ?_) ht
  subst ex
  obtain rfl : u = Value.ref a := rx
  refine getmeth_ok I1 ea c hm l ?_
  exact PySem.W.callWith_K0 (first := [.ref a]) I1.kIn hm.kp (run_fnS (E := WE W) (us := [.ref a]) (vs := [.ref a]) F (hr.mono hj) hb (passAt tk σ) I1 (.cons rfl .nil) q)
theorem run_mk {f C : Addr} {fd : FuncData} {E : XK} {pins : List (Addr × Obj)} {σ : L2.St} {H : Hp} {s : Shared} {Q : VK} {us : List Value} {vs : List V} (M : Mk X.K C f) (F : FnOk X.prog X.w X.K X.mg X.base (L2.CX X.prog X.w) k f fd ps sp) (hr : Room (k + 1) X.A) (hb : Binds X.K fd ps [])
    (hx : PassesAt (L2.CX X.prog X.w) X σ E) (I : Inv X pins σ H s) (r : Vals vs us)
    (h : ∀ x dx, H x = none → H dx = none → dx ≠ x → sp (.ref x :: vs) (upd (upd H dx (.own x)) x (.ins C dx [])) (fun v H2 => v = .non ∧ Q (.ref x) H2) E) :
    wpAny (model X.prog X.w) X.A (call (.ref C) us) (EP X pins σ Q) X.xe s := by
  have hq := h (s.heap.objs.size + 1) s.heap.objs.size (I.hok.fresh (Nat.le_succ _)) (I.hok.fresh (Nat.le_refl _)) (Nat.ne_of_lt (Nat.lt_succ_self _))
  have I2 := Inv.made (C := C) I
  have r2 : Vals (V.ref (s.heap.objs.size + 1) :: vs) (Value.ref (s.heap.objs.size + 1) :: us) := .cons rfl r
  have hl : (Value.ref (s.heap.objs.size + 1) :: us ++ []).length = ps.length := by
    have e := r2.length
    rw [F.len _ _ _ _ hq] at e
    rw [List.append_nil]
    exact e.symm
  have bb := hb _ (Value.ref (s.heap.objs.size + 1) :: us) I2.kIn hl
  rw [List.append_nil] at bb
  refine wpAny_call (make_map (f := f) I.kIn M.makes M.init (beq_iff_eq.mp M.fn) (codeAny_mono (F.run _ X.stack _ _ ⟨Value.ref (s.heap.objs.size + 1) :: us, []⟩ (Value.ref (s.heap.objs.size + 1) :: us) _ _ E (hr.make C us [])
    (I2.env0.make C us []) bb r2 hq) fun r s' hq' => ?_))
  cases r with
  | error e => exact hx pins _ _ e s' I2 hq'
  | ok fl =>
    cases fl with
    | ret u =>
      obtain ⟨v, H', I3, rv, ev, q3⟩ := I2.after hq'
      subst ev
      exact ⟨rv, ⟨V.ref (s.heap.objs.size + 1), H', I3, rfl, q3⟩⟩
    | next => exact False.elim hq'
    | brk => exact False.elim hq'
    | cont => exact False.elim hq'
theorem pe_mk (F : Mkr X.prog X.w X.K X.mg X.base k x ps sp) (hr : Room j X.A) (hj : k + 1 ≤ j) (tk : Takes X W) (ha : PA X (e :: es) t) (hg : Gl X x := by rfl)
    (hdb : (x == ("__debug__" : Str)) = false := by decide) (he : starEach (e :: es) X.env = (false, eval e X.env) :: starEach es X.env := by rfl) (hpl : (backTo pos (starEach es X.env)).any (·.1) = false := by rfl) :
    PE X (.Call (.Name x p) (e :: es) [] pos) (tMk (He.ga X.K x) sp W t) := by
  obtain ⟨f, fd, hm, M, hb, F⟩ := F
  refine ⟨fun pins s σ H Q I h => ?_⟩
  refine wpAny_Call_Name_kw (ld_glob I hg hm ?_ hdb)
  refine PySem.W.callWith_K (h₀ := X.base) I.ok.mod.kin M.kp (thn (ha.run pos pins s σ H _ I h) fun us s1 ⟨vs, H1, I1, r, q⟩ => ⟨I1.kIn, ?_⟩) he hpl
  exact run_mk M F (hr.mono hj) hb (passAt tk σ) I1 r q
end
/-! ### errors of the package -/
def qInitB (K : PySem.W.Frag) (c : Str) : Bool := PySem.W.readsIn K (He.ga K c) (.type "type") && (decide (PySem.W.specialIn K (.ref (He.ga K c)) "__getattribute__" = some (some (.builtin "type.__getattribute__"))) &&
  (match PySem.W.findCls K (.ref (He.ga K c)) (.type "type") "__init__" with
    | some (.val (.builtin "ValueError.__init__")) => true
    | _ => false))
theorem qInitB_ok {K : PySem.W.Frag} {c : Str} (h : qInitB K c = true) : PySem.W.readsIn K (He.ga K c) (.type "type") = true ∧ PySem.W.specialIn K (.ref (He.ga K c)) "__getattribute__" = some (some (.builtin "type.__getattribute__")) ∧
    PySem.W.findCls K (.ref (He.ga K c)) (.type "type") "__init__" = some (.val (.builtin "ValueError.__init__")) := by
  obtain ⟨h1, h⟩ := Bool.and_eq_true_iff.mp h
  obtain ⟨h2, h3⟩ := Bool.and_eq_true_iff.mp h
  refine ⟨h1, of_decide_eq_true h2, ?_⟩
  split at h3
  · assumption
  · cases h3
section
variable {X : Cx} {e : Expr} {es : List Expr} {ta : TA} {p1 p2 pos : Pos} {c : Str}
theorem pe_qinit {pl : Sem Bool} (hm : X.mg c = some (.ref (He.ga X.K c))) (q : qInitB X.K c = true) (ha : PA X (e :: es) ta) (hg : Gl X c := by rfl) (hdb : (c == ("__debug__" : Str)) = false := by decide)
    (hc : eval (.Call (.Attribute (.Name c p1) "__init__" p2) (e :: es) [] pos) X.env = (do
      let ov ← eval (.Name c p1) X.env
      standAt p2.atName
      let (f, first) ← holding [ov] (getMethod ov "__init__" pl)
      callWith pos f first (backTo pos (starEach (e :: es) X.env)) (backToKw pos (keywordEach [] X.env))) := by rfl)
    (he : starEach (e :: es) X.env = (false, eval e X.env) :: starEach es X.env := by rfl) (hpl : (backTo pos (starEach es X.env)).any (·.1) = false := by rfl) :
    PE X (.Call (.Attribute (.Name c p1) "__init__" p2) (e :: es) [] pos) (tVeI X.K ta) := by
  obtain ⟨q1, q2, q3⟩ := qInitB_ok q
  refine ⟨fun pins s σ H Q I h => ?_⟩
  refine PySem.W.methodCall_KW (ld_glob I hg hm ?_ hdb) hc
  refine PySem.W.method_cls I.kIn q2 (PySem.W.cls_value I.kIn q1 q3 (by decide +kernel) ?_)
  show wpAny _ _ (callWith pos (Value.builtin "ValueError.__init__") [] (backTo pos (starEach (e :: es) X.env)) []) _ _ _
  refine PyProof.Rows.callWith_method1 (thn (ha.run pos pins _ σ H _ (I.tok _) h) fun us s1 ⟨vs, H1, I1, r1, a, C, ws, ev, hl, T, ea, q⟩ => ?_) he hpl
  subst ev
  cases r1 with
  | @cons _ u0 _ ur ra rw' =>
    obtain rfl : u0 = Value.ref a := ra
    have hlen : ur.length ≤ sizeLine := by
      rw [← Paired.length rw', sizeLine_eq]
      omega
    exact oinit_ok T I1 ea hlen fun s' J => ⟨.non, H1, J, rfl, q⟩
end
def oexB (K : PySem.W.Frag) (C : Addr) : Bool := (match K.lookup C with
  | some ⟨.type "type", _, .cls cd, sl⟩ => (match cd.mro, sl.toList with
    | .ref C' :: bm, [_, _, _, _, some (.builtin n), _] => C' == C && n == "ValueError.__new__" && !cd.hasDel && cd.hasDict && PySem.HandSPX.refsVE bm
    | _, _ => false)
  | _ => false) && (decide (PySem.W.findIn K (.ref C) "__setattr__" = some (some (.builtin "object.__setattr__"))) && (decide (PySem.W.subIn K (.ref C) (.type "BaseException") = some true) &&
    (decide (PySem.W.typeIn K (.ref C) = some (.type "type")) && PySem.W.keepIn K (.ref C))))
theorem oexB_ok {K : PySem.W.Frag} {C : Addr} (h : oexB K C = true) : OexC K C := by
  obtain ⟨q, h⟩ := Bool.and_eq_true_iff.mp h
  obtain ⟨h2, h⟩ := Bool.and_eq_true_iff.mp h
  obtain ⟨h3, h⟩ := Bool.and_eq_true_iff.mp h
  obtain ⟨h4, h5⟩ := Bool.and_eq_true_iff.mp h
  refine ⟨?_, of_decide_eq_true h2, of_decide_eq_true h3, of_decide_eq_true h4, h5⟩
  split at q
  · rename_i dd cd sl ho
    split at q
    · rename_i C' bm k0 k1 k2 k3 n k5 hm hs
      simp only [Bool.and_eq_true, beq_iff_eq, Bool.not_eq_true'] at q
      obtain ⟨⟨⟨⟨rfl, rfl⟩, hdel⟩, hdi⟩, ht⟩ := q
      obtain ⟨nm, bs, mro, ns, qn, hd, sn, sub, ab, col, del⟩ := cd
      dsimp only at hm hdel hdi
      subst hm hdel hdi
      have hsl : sl = #[k0, k1, k2, k3, some (.builtin "ValueError.__new__"), k5] := by
        obtain ⟨l⟩ := sl
        simp only at hs
        rw [hs]
      subst hsl
      exact ⟨nm, qn, ns, bs, bm, sn, sub, ab, col, dd, k0, k1, k2, k3, k5, ho, ht⟩
    · cases q
  · cases q
/-- what an __init__ of one field does; of two -/
def spI1 (K : PySem.W.Frag) (C : Addr) (f : Str) : Sp := fun vs H Q _ => ∃ a v, vs = [.ref a, v] ∧ H a = some (exo a C none) ∧ ∀ dx, H dx = none → dx ≠ a → Q .non (upd (upd H dx (exd dx [(f, v)])) a (exo a C (some dx)))
def spI2 (K : PySem.W.Frag) (C : Addr) (f g : Str) : Sp := fun vs H Q _ => ∃ a v u, vs = [.ref a, v, u] ∧ H a = some (exo a C none) ∧ ∀ dx, H dx = none → dx ≠ a → Q .non (upd (upd (upd H dx (exd dx [(f, v)])) a (exo a C (some dx))) dx (exd dx [(g, u), (f, v)]))
/-- an error class of the package with an __init__ -/
def ErC (P : Program) (w : World) (K : PySem.W.Frag) (mg : Str → Option Value) (base : Heap) (c : Str) (ps : List Str) (sp : Sp) : Prop :=
  ∃ f fd, mg c = some (.ref (He.ga K c)) ∧ OexC K (He.ga K c) ∧ PySem.W.findIn K (.ref (He.ga K c)) "__init__" = some (some (.ref f)) ∧ PySem.W.typeIn K (.ref f) = some (.type "function") ∧ Binds K fd ps [] ∧ FnOk P w K mg base (L2.CX P w) 1 f fd ps sp
/-- raise X(e); raise X(e, f) -/
def tRz1 (C : Addr) (f : Str) (te : TE) (W : WX) : TS := fun _ σ H => te σ H fun v H1 => ∀ d, H1 d = none → W (.ref C) (some d) σ (upd H1 d (.xd [(f, v)]))
def tRz2 (C : Addr) (f g : Str) (te tu : TE) (W : WX) : TS := fun _ σ H => te σ H fun v H1 => tu σ H1 fun u H2 => ∀ d, H2 d = none → W (.ref C) (some d) σ (upd H2 d (.xd [(g, u), (f, v)]))
theorem passNo {X : Cx} : Passes (L2.CX X.prog X.w) X (fun _ _ _ => False) := fun _ _ _ _ _ _ _ h => by
  obtain ⟨_, _, _, _, _, _, _, _, _, _, _, _, z⟩ := h
  exact z.elim
def tMono (te : TE) : TE := fun σ H Q => ∃ R : VK, te σ H R ∧ ∀ v H1, R v H1 → Q v H1
theorem pe_mono {X : Cx} {e : Expr} {te : TE} (h : PE X e te) : PE X e (tMono te) := ⟨fun pins s σ H Q I ⟨R, h1, h2⟩ => thn (h.run pins s σ H R I h1) fun _ _ ⟨v, H', I', r, q⟩ => ⟨v, H', I', r, h2 _ _ q⟩⟩
section
variable {X : Cx} {j : Nat} {W : WX} {x f g : Str} {ps : List Str} {e1 e2 : Expr} {te tu : TE} {p pos pos' : Pos}
theorem heap_rz {H : Hp} {a d C : Addr} {fs gs : List (Str × V)} (ha : H a = none) (hd : d ≠ a) :
    upd (del (upd (upd (upd H a (exo a C none)) d (exd d gs)) a (exo a C (some d))) a) d (.xd fs) = upd H d (.xd fs) := by
  funext b
  by_cases h1 : b = d
  · rw [h1, upd_same, upd_same]
  · rw [upd_ne h1, upd_ne h1]
    by_cases h2 : b = a
    · rw [h2, del_same, ha]
    · rw [del_ne h2, upd_ne h2, upd_ne h1, upd_ne h2]
theorem heap_rz2 {H : Hp} {a d C : Addr} {fs gs ks : List (Str × V)} (ha : H a = none) (hd : d ≠ a) :
    upd (del (upd (upd (upd (upd H a (exo a C none)) d (exd d gs)) a (exo a C (some d))) d (exd d ks)) a) d (.xd fs) = upd H d (.xd fs) := by
  funext b
  by_cases h1 : b = d
  · rw [h1, upd_same, upd_same]
  · rw [upd_ne h1, upd_ne h1]
    by_cases h2 : b = a
    · rw [h2, del_same, ha]
    · rw [del_ne h2, upd_ne h1, upd_ne h2, upd_ne h1, upd_ne h2]
theorem ps_rz1 (F : ErC X.prog X.w X.K X.mg X.base x ps (spI1 X.K (He.ga X.K x) f)) (hr : Room j X.A) (hj : 2 ≤ j) (hc : X.calm = true) (tk : Takes X W) (ha : PE X e1 te) (hg : Gl X x := by rfl)
    (hdb : (x == ("__debug__" : Str)) = false := by decide) (he : starEach (e1 :: []) X.env = (false, eval e1 X.env) :: starEach [] X.env := by rfl) (hpl : (backTo pos (starEach [] X.env)).any (·.1) = false := by rfl) :
    PS X (.Raise (some (.Call (.Name x p) [e1] [] pos)) none pos') (tRz1 (He.ga X.K x) f te W) := by
  obtain ⟨fI, fd, hm, T, iC, tI, hb, F⟩ := F
  have R := ps_raise (pos := pos') hc tk (pmk_oex (p := p) (pos := pos) T iC tI F (hr.mono hj) hb (.nil (F := RelV)) passNo hg hm (pa_cons (pe_mono ha) pa_nil he) hdb he hpl)
  refine ⟨fun pins s σ H Q I h => R.run pins s σ H Q I ?_⟩
  refine ⟨_, h, fun v H1 q => ⟨by simp, fun a na => ⟨a, v, rfl, upd_same, fun d hd da => ?_⟩⟩⟩
  have hd1 : H1 d = none := by rw [upd_ne da] at hd; exact hd
  refine ⟨rfl, d, _, upd_same, by rw [upd_ne da, upd_same], hd1, ?_⟩
  rw [heap_rz na da]
  exact q d hd1
theorem ps_rz2 (F : ErC X.prog X.w X.K X.mg X.base x ps (spI2 X.K (He.ga X.K x) f g)) (hr : Room j X.A) (hj : 2 ≤ j) (hc : X.calm = true) (tk : Takes X W) (ha : PE X e1 te) (hb2 : PE X e2 tu) (hg : Gl X x := by rfl)
    (hdb : (x == ("__debug__" : Str)) = false := by decide) (he : starEach (e1 :: [e2]) X.env = (false, eval e1 X.env) :: starEach [e2] X.env := by rfl) (he2 : starEach (e2 :: []) X.env = (false, eval e2 X.env) :: starEach [] X.env := by rfl)
    (hpl : (backTo pos (starEach [e2] X.env)).any (·.1) = false := by rfl) :
    PS X (.Raise (some (.Call (.Name x p) [e1, e2] [] pos)) none pos') (tRz2 (He.ga X.K x) f g te tu W) := by
  obtain ⟨fI, fd, hm, T, iC, tI, hb, F⟩ := F
  have R := ps_raise (pos := pos') hc tk (pmk_oex (p := p) (pos := pos) T iC tI F (hr.mono hj) hb (.nil (F := RelV)) passNo hg hm (pa_cons (pe_mono ha) (pa_cons (pe_mono hb2) pa_nil he2) he) hdb he hpl)
  refine ⟨fun pins s σ H Q I h => R.run pins s σ H Q I ?_⟩
  refine ⟨_, h, fun v H1 q => ⟨_, q, fun u H2 q => ⟨by simp, fun a na => ⟨a, v, u, rfl, upd_same, fun d hd da => ?_⟩⟩⟩⟩
  have hd1 : H2 d = none := by rw [upd_ne da] at hd; exact hd
  refine ⟨rfl, d, _, by rw [upd_ne (Ne.symm da), upd_same], upd_same, hd1, ?_⟩
  rw [heap_rz2 na da]
  exact q d hd1
end
end Q

set_option Elab.async false
set_option linter.all false
set_option maxRecDepth 100000
set_option maxHeartbeats 4000000
namespace Q
open PySem PySem.Spec PyProof.Rows L2
/-! ### operators by name -/
def rAddI : R2 := rI0 fun i j => .int (i + j)
def rSubI : R2 := rI0 fun i j => .int (i - j)
def rMulI : R2 := rI CMul fun i j => .int (i * j)
def rModI : R2 := rI (fun _ j => 0 < j) fun i j => .int (i % j)
def rDivI : R2 := rI CDiv fun i j => .int (i / j)
def rPowI : R2 := rI CPow fun i j => .int (i ^ j.toNat)
def rLtI : R2 := rI0 fun i j => .bl (decide (i < j))
def rLeI : R2 := rI0 fun i j => .bl (decide (i ≤ j))
def rGtI : R2 := rI0 fun i j => .bl (decide (j < i))
def rGeI : R2 := rI0 fun i j => .bl (decide (j ≤ i))
def rLtS : R2 := fun x y H Q => ∃ i j, x = .str i ∧ y = .str j ∧ Q (.bl (decide (i.cps.toList < j.cps.toList))) H
def rAddS : R2 := fun x y H Q => ∃ i j, x = .str i ∧ y = .str j ∧ i.length + j.length ≤ sizeLine ∧ Q (.str (i ++ j)) H
def rLenA (K : PySem.W.Frag) : List V → Hp → VK → Prop := fun xs H Q => ∃ x n, xs = [x] ∧ LenV K x H n ∧ Q (.int n) H
def rLenD : List V → Hp → VK → Prop := fun xs H Q => ∃ a kvs, xs = [V.ref a] ∧ H a = some (.dK kvs) ∧ Q (.int (kvs.length : Nat)) H
def rAbs : List V → Hp → VK → Prop := fun xs H Q => ∃ i, xs = [.int i] ∧ Q (.int (if i < 0 then -i else i)) H
def rMin2 : List V → Hp → VK → Prop := fun xs H Q => ∃ i j, xs = [.int i, .int j] ∧ Q (.int (if j < i then j else i)) H
def rMax2 : List V → Hp → VK → Prop := fun xs H Q => ∃ i j, xs = [.int i, .int j] ∧ Q (.int (if j > i then j else i)) H
def rInt1 : List V → Hp → VK → Prop := fun xs H Q => (∃ i, xs = [.int i] ∧ Q (.int i) H) ∨ ∃ k, xs = [.bl k] ∧ Q (.int (if k then 1 else 0)) H
def rListOf (K : PySem.W.Frag) : List V → Hp → VK → Prop := fun xs H Q => ∃ p ys, xs = [.ref p] ∧ (SqL K H p ys ∨ SqT K H p ys) ∧ ∀ l, H l = none → Q (.ref l) (upd H l (.lst ys))
def rTupOf (K : PySem.W.Frag) : List V → Hp → VK → Prop := fun xs H Q => ∃ p ys, xs = [.ref p] ∧ ((SqL K H p ys ∧ ∀ l, H l = none → Q (.ref l) (upd H l (.tup ys))) ∨ (SqT K H p ys ∧ Q (.ref p) H))
def tTr (K : PySem.W.Frag) (ta : TE) : TT := fun σ H Q => ta σ H fun x H' => ∃ k, TruV K x H' k ∧ Q k H'
def rJoin (K : PySem.W.Frag) : V → List V → Hp → VK → Prop := fun x xs H Q => ∃ a p, ∃ ys : List Str, x = .str a ∧ xs = [.ref p] ∧ (SqL K H p (ys.map V.str) ∨ SqT K H p (ys.map V.str)) ∧
      (ys.map (·.length)).sum + ys.length * a.length ≤ 16777216 ∧ Q (.str (Txt.join a ys)) H
section
variable {X : Cx}
theorem oAddI : OpR X (binaryOp .Add) rAddI := op_add
theorem oSubI : OpR X (binaryOp .Sub) rSubI := op_sub
theorem oMulI : OpR X (binaryOp .Mult) rMulI := op_mul
theorem oModI : OpR X (binaryOp .Mod) rModI := op_mod
theorem oDivI : OpR X (binaryOp .FloorDiv) rDivI := op_fdiv
theorem oPowI : OpR X (binaryOp .Pow) rPowI := op_pow
theorem oLtI : OpR X (compareOp .Lt) rLtI := op_lt
theorem oLeI : OpR X (compareOp .LtE) rLeI := op_le
theorem oGtI : OpR X (compareOp .Gt) rGtI := op_gt
theorem oGeI : OpR X (compareOp .GtE) rGeI := op_ge
theorem oLtS : OpR X (compareOp .Lt) rLtS := op_lt_str
theorem oAddS : OpR X (binaryOp .Add) rAddS := op_add_str
theorem cLenA : CallR X (.builtin "len") (rLenA X.K) := call_len
theorem cLenD : CallR X (.builtin "len") rLenD := call_lenD
theorem cAbs : CallR X (.builtin "abs") rAbs := call_abs
theorem cMin2 (hc : X.calm = true) : CallR X (.builtin "min") rMin2 := call_min2 hc
theorem cMax2 (hc : X.calm = true) : CallR X (.builtin "max") rMax2 := call_max2 hc
theorem cInt1 : CallR X (.type "int") rInt1 := call_int1
theorem cListOf : CallR X (.type "list") (rListOf X.K) := call_list_of
theorem cTupOf : CallR X (.type "tuple") (rTupOf X.K) := call_tuple_of
theorem pt_tr {a : Expr} {ta : TE} (ha : PE X a ta) (he : ∀ whole, isTrue a X.env whole = (do let v ← whole; standAt a.pos; holding [v] (truthy v)) := by intro _; rfl) : PT X a (tTr X.K ta) := pt_truth ha he
end
/-! ### one step of a reading -/
section
variable {K : PySem.W.Frag} {σ : L2.St} {H : Hp} {Q : VK} {Qb : Bool → Hp → Prop} {Qa : List V → Hp → Prop} {Qs : L2.St → Hp → Prop} {De : Ends} {t u : TS} {c c2 : TT} {te ta tb : TE} {tl tr : TA} {g : TG} {i : Nat} {v : V} {W : WX} {r : R2} {sp : Sp} {b : Bool} {m n : Int} {x y : Str} {p : Addr}
theorem x_seq (h : t { De with nx := u De } σ H) : tSeq t u De σ H := h
theorem x_next (h : De.nx σ H) : tNext De σ H := h
theorem x_asg (h : te σ H fun x H1 => g x σ H1 De.nx) : tAsg te g De σ H := h
theorem x_gname (h : Qs (σ.set i (some v)) H) : gName i v σ H Qs := h
theorem x_var (e : σ[i]? = some (some v)) (h : Q v H) : tVar i σ H Q := ⟨v, e, h⟩
theorem x_c (h : Q v H) : tC v σ H Q := h
theorem x_op (h : ta σ H fun x H1 => tb σ H1 fun y H2 => r x y H2 Q) : tOp r ta tb σ H Q := h
theorem x_ret (h : te σ H De.rt) : tRet te De σ H := h
theorem x_retN (h : De.rt .non H) : tRetN De σ H := h
theorem x_drop (h : te σ H fun _ H1 => De.nx σ H1) : tDrop te De σ H := h
theorem x_cont (h : De.ct σ H) : tCont De σ H := h
theorem x_break (h : De.bk σ H) : tBreak De σ H := h
theorem x_if (h : c σ H fun b H1 => if b = true then t De σ H1 else u De σ H1) : tIfS c t u De σ H := h
theorem x_and (h : c σ H fun b H1 => if b = true then c2 σ H1 Qb else Qb false H1) : tAnd c c2 σ H Qb := h
theorem x_or (h : c σ H fun b H1 => if b = true then Qb true H1 else c2 σ H1 Qb) : tOr c c2 σ H Qb := h
theorem x_not (h : c σ H fun b H1 => Qb (!b) H1) : tNot c σ H Qb := h
theorem x_andV (h : ta σ H fun x H1 => ∃ c, x = .bl c ∧ if c = true then tb σ H1 Q else Q (.bl false) H1) : tAndV ta tb σ H Q := h
theorem x_orV (h : ta σ H fun x H1 => ∃ c, x = .bl c ∧ if c = true then Q (.bl true) H1 else tb σ H1 Q) : tOrV ta tb σ H Q := h
theorem x_notV (h : ta σ H fun x H1 => ∃ c, x = .bl c ∧ Q (.bl (!c)) H1) : tNotV ta σ H Q := h
theorem x_ifE (h : c σ H fun b H1 => if b = true then ta σ H1 Q else tb σ H1 Q) : tIf c ta tb σ H Q := h
theorem x_test (h : te σ H fun x H1 => ∃ k, x = .bl k ∧ Qb k H1) : tTest te σ H Qb := h
theorem x_tB (h : te σ H fun x H1 => ∃ k, x = .bl k ∧ Qb k H1) : tB te σ H Qb := h
theorem x_tr (h : te σ H fun x H1 => ∃ k, TruV K x H1 k ∧ Qb k H1) : tTr K te σ H Qb := h
theorem x_exb {Qc : Bool → Prop} (h : Qc b) : ∃ k, V.bl b = .bl k ∧ Qc k := ⟨b, rfl, h⟩
theorem x_cb {rr : List V → Hp → VK → Prop} (h : tl σ H fun vs H1 => rr vs H1 Q) : tCB rr tl σ H Q := h
theorem x_cons (h : ta σ H fun x H1 => tr σ H1 fun xs H2 => Qa (x :: xs) H2) : tCons ta tr σ H Qa := h
theorem x_nil (h : Qa [] H) : tNil σ H Qa := h
theorem x_cl (h : tl σ H fun vs H1 => sp vs H1 Q fun c d H' => W c d σ H') : tCl sp W tl σ H Q := h
theorem x_isN (h : ta σ H fun x H1 => Q (.bl (decide (x = .non))) H1) : tIsN ta σ H Q := h
theorem x_notN (h : ta σ H fun x H1 => Q (.bl (!decide (x = .non))) H1) : tNotN ta σ H Q := h
theorem x_addI (h : Q (.int (m + n)) H) : rAddI (.int m) (.int n) H Q := ⟨m, n, rfl, rfl, h⟩
theorem x_subI (h : Q (.int (m - n)) H) : rSubI (.int m) (.int n) H Q := ⟨m, n, rfl, rfl, h⟩
theorem x_mulI (hc : CMul m n) (h : Q (.int (m * n)) H) : rMulI (.int m) (.int n) H Q := ⟨m, n, rfl, rfl, hc, h⟩
theorem x_modI (hc : 0 < n) (h : Q (.int (m % n)) H) : rModI (.int m) (.int n) H Q := ⟨m, n, rfl, rfl, hc, h⟩
theorem x_divI (hc : CDiv m n) (h : Q (.int (m / n)) H) : rDivI (.int m) (.int n) H Q := ⟨m, n, rfl, rfl, hc, h⟩
theorem x_powI (hc : CPow m n) (h : Q (.int (m ^ n.toNat)) H) : rPowI (.int m) (.int n) H Q := ⟨m, n, rfl, rfl, hc, h⟩
theorem x_ltI (h : Q (.bl (decide (m < n))) H) : rLtI (.int m) (.int n) H Q := ⟨m, n, rfl, rfl, h⟩
theorem x_leI (h : Q (.bl (decide (m ≤ n))) H) : rLeI (.int m) (.int n) H Q := ⟨m, n, rfl, rfl, h⟩
theorem x_gtI (h : Q (.bl (decide (n < m))) H) : rGtI (.int m) (.int n) H Q := ⟨m, n, rfl, rfl, h⟩
theorem x_geI (h : Q (.bl (decide (n ≤ m))) H) : rGeI (.int m) (.int n) H Q := ⟨m, n, rfl, rfl, h⟩
theorem x_ltS (h : Q (.bl (decide (x.cps.toList < y.cps.toList))) H) : rLtS (.str x) (.str y) H Q := ⟨x, y, rfl, rfl, h⟩
theorem x_addS (hl : x.length + y.length ≤ sizeLine) (h : Q (.str (x ++ y)) H) : rAddS (.str x) (.str y) H Q := ⟨x, y, rfl, rfl, hl, h⟩
theorem x_eq {a b : V} (hs : scal a b = true) (h : Q (.bl (decide (a = b))) H) : rEq a b H Q := ⟨hs, h⟩
theorem x_ne {a b : V} (hs : scal a b = true) (h : Q (.bl (!decide (a = b))) H) : rNe a b H Q := ⟨hs, h⟩
theorem x_lenS (hl : x.length ≤ sizeLine) (h : Q (.int (x.length : Nat)) H) : rLenA K [.str x] H Q := ⟨_, _, rfl, ⟨hl, rfl⟩, h⟩
theorem x_lenL {xs : List V} (hp : SqL K H p xs) (h : Q (.int (xs.length : Nat)) H) : rLenA K [.ref p] H Q := ⟨_, _, rfl, .inl ⟨_, hp, rfl⟩, h⟩
theorem x_lenT {xs : List V} (hp : SqT K H p xs) (h : Q (.int (xs.length : Nat)) H) : rLenA K [.ref p] H Q := ⟨_, _, rfl, .inr ⟨_, hp, rfl⟩, h⟩
theorem x_lenD {kvs : List (Key × V)} (hp : H p = some (.dK kvs)) (h : Q (.int (kvs.length : Nat)) H) : rLenD [.ref p] H Q := ⟨_, _, rfl, hp, h⟩
theorem x_abs (h : Q (.int (if m < 0 then -m else m)) H) : rAbs [.int m] H Q := ⟨m, rfl, h⟩
theorem x_min2 (h : Q (.int (if n < m then n else m)) H) : rMin2 [.int m, .int n] H Q := ⟨m, n, rfl, h⟩
theorem x_max2 (h : Q (.int (if n > m then n else m)) H) : rMax2 [.int m, .int n] H Q := ⟨m, n, rfl, h⟩
theorem x_int1 (h : Q (.int m) H) : rInt1 [.int m] H Q := .inl ⟨m, rfl, h⟩
theorem x_isi {a : V} {T : String} {tv : Value} (ty : TyX K H a tv) (k : PySem.W.kitOne K tv (.type T) = some b) (h : Q (.bl b) H) : rIsi K [a, .ty T] H Q := ⟨a, .ty T, tv, .type T, b, rfl, .ty T, ty, k, h⟩
theorem x_tt (A B : Prop) (h : A) : if true = true then A else B := by rw [if_pos rfl]; exact h
theorem x_ff (A B : Prop) (h : B) : if false = true then A else B := by rw [if_neg (by decide)]; exact h
theorem x_ite {A B : Prop} (h1 : b = true → A) (h2 : b = false → B) : if b = true then A else B := by
  cases b with
  | true => rw [if_pos rfl]; exact h1 rfl
  | false => rw [if_neg (by decide)]; exact h2 rfl
theorem x_ixL {xs : List V} (hp : SqL K H p xs) (e : atI xs m = some v) (h : Q v H) : rIxL K (.ref p) (.int m) H Q := ⟨p, xs, m, v, rfl, rfl, hp, e, h⟩
theorem x_ixT {xs : List V} (hp : SqT K H p xs) (e : atI xs m = some v) (h : Q v H) : rIxT K (.ref p) (.int m) H Q := ⟨p, xs, m, v, rfl, rfl, hp, e, h⟩
theorem x_ixS {k : Nat} (hl : x.length ≤ sizeLine) (e : atI x.cps.toList m = some k) (h : Q (.str ⟨#[k]⟩) H) : rIxS (.str x) (.int m) H Q := ⟨x, m, k, rfl, rfl, hl, e, h⟩
theorem x_notInS {k : Nat} (h : Q (.bl (!decide (k ∈ y.cps.toList))) H) : rNotInS (.str ⟨#[k]⟩) (.str y) H Q := ⟨k, y, rfl, rfl, h⟩
theorem x_inL {a : V} {xs : List V} (hp : SqL K H p xs) (f1 : flatV a = true) (f2 : xs.all flatV = true) (h : Q (.bl (inV a xs)) H) : rIn K false a (.ref p) H Q := ⟨p, xs, rfl, .inl hp, f1, f2, h⟩
theorem x_inT {a : V} {xs : List V} (hp : SqT K H p xs) (f1 : flatV a = true) (f2 : xs.all flatV = true) (h : Q (.bl (inV a xs)) H) : rIn K false a (.ref p) H Q := ⟨p, xs, rfl, .inr hp, f1, f2, h⟩
theorem x_ninL {a : V} {xs : List V} (hp : SqL K H p xs) (f1 : flatV a = true) (f2 : xs.all flatV = true) (h : Q (.bl (!inV a xs)) H) : rIn K true a (.ref p) H Q := ⟨p, xs, rfl, .inl hp, f1, f2, h⟩
theorem x_ninT {a : V} {xs : List V} (hp : SqT K H p xs) (f1 : flatV a = true) (f2 : xs.all flatV = true) (h : Q (.bl (!inV a xs)) H) : rIn K true a (.ref p) H Q := ⟨p, xs, rfl, .inr hp, f1, f2, h⟩
/-- a new thing at p -/
theorem x_new {S : List Addr} {B0 H0 B : Hp} {M : List (Addr × HO)} {Qp : Addr → Hp → Prop} {o : HO} (hs : HS S B0 H0 B H M) (h : ∀ p H', HS S B0 H0 B H' ((p, o) :: M) → H p = none → Qp p H') : ∀ p, H p = none → Qp p (upd H p o) :=
  fun p hp => h p _ (hs.new hp) hp
/-- a new thing that never changes (a tuple, or a list nobody changes) -/
theorem x_newF {S : List Addr} {B0 H0 B : Hp} {M : List (Addr × HO)} {Qp : Addr → Hp → Prop} {o : HO} (hs : HS S B0 H0 B H M) (h : ∀ p B' H', HS S B0 H0 B' H' M → Same B B' → B' p = some o → H p = none → Qp p H') : ∀ p, H p = none → Qp p (upd H p o) := fun p hp => by
  have h1 := hs.new (o := o) hp
  have h0 : H0 p = none ∨ p ∈ S := (h1.mu (p, o) List.mem_cons_self).2.2
  have nd := h1.nd
  have hB : B p = none := same_none hs.bh hp
  have sB : Same B (upd B p o) := fun b u e => by rw [upd_ne (ne_of_none e hB)]; exact e
  refine h p (upd B p o) _ ⟨hs.bb.trans sB, fun b u e => ?_, fun b u n1 n2 e => ?_, fun q m => ?_, hs.nd⟩ sB upd_same hp
  · by_cases z : b = p
    · subst z; rw [upd_same] at e; cases e; exact upd_same
    · rw [upd_ne z] at e ⊢; exact hs.bh _ _ e
  · obtain ⟨a1, a2⟩ := hs.fr b u n1 n2 e
    have nb : b ≠ p := ne_of_none a2 hp
    exact ⟨by rw [upd_ne nb]; exact a1, by rw [upd_ne nb]; exact a2⟩
  · obtain ⟨a1, a2, a3⟩ := hs.mu q m
    have nb : q.1 ≠ p := ne_of_none a2 hp
    exact ⟨by rw [upd_ne nb]; exact a1, by rw [upd_ne nb]; exact a2, a3⟩
end
/-! ### isinstance of any data -/
def D.isT : String → D → Bool
  | "str", .str _ => true
  | "int", .int _ => true
  | "int", .bl _ => true
  | "bool", .bl _ => true
  | "list", .lst _ => true
  | "tuple", .tup _ => true
  | "dict", .dct _ => true
  | _, _ => false
theorem x_isiD {K : PySem.W.Frag} {S : List Addr} {B0 H0 B H : Hp} {M : List (Addr × HO)} {Q : VK} {v : V} {d : D} {T : String} (hs : HS S B0 H0 B H M) (r : Rep K B v d) (hT : T ∈ (["str", "int", "bool", "list", "tuple", "dict"] : List String)) (h : Q (.bl (d.isT T)) H) :
    rIsi K [v, .ty T] H Q := by
  have go : ∀ {tv : String} {b : Bool}, TyX K H v (.type tv) → kitB tv T = some b → d.isT T = b → rIsi K [v, .ty T] H Q := fun {tv b} ty k e => ⟨v, .ty T, _, .type T, b, rfl, .ty T, ty, kit_ty k, by rw [← e]; exact h⟩
  simp only [List.mem_cons, List.not_mem_nil, or_false] at hT
  cases r with
  | non => rcases hT with rfl | rfl | rfl | rfl | rfl | rfl <;> first | exact go (b := false) (.base .non) (by decide +kernel) rfl | exact go (b := true) (.base .non) (by decide +kernel) rfl
  | bl b => rcases hT with rfl | rfl | rfl | rfl | rfl | rfl <;> first | exact go (b := false) (.base (.bl b)) (by decide +kernel) rfl | exact go (b := true) (.base (.bl b)) (by decide +kernel) rfl
  | int i => rcases hT with rfl | rfl | rfl | rfl | rfl | rfl <;> first | exact go (b := false) (.base (.int i)) (by decide +kernel) rfl | exact go (b := true) (.base (.int i)) (by decide +kernel) rfl
  | str _ => rcases hT with rfl | rfl | rfl | rfl | rfl | rfl <;> first | exact go (b := false) (.base (.str _)) (by decide +kernel) rfl | exact go (b := true) (.base (.str _)) (by decide +kernel) rfl
  | lst e _ _ => rcases hT with rfl | rfl | rfl | rfl | rfl | rfl <;> first | exact go (b := false) (.base (.lst (hs.up e))) (by decide +kernel) rfl | exact go (b := true) (.base (.lst (hs.up e))) (by decide +kernel) rfl
  | tup e _ => rcases hT with rfl | rfl | rfl | rfl | rfl | rfl <;> first | exact go (b := false) (.base (.tup (hs.up e))) (by decide +kernel) rfl | exact go (b := true) (.base (.tup (hs.up e))) (by decide +kernel) rfl
  | dct e _ => rcases hT with rfl | rfl | rfl | rfl | rfl | rfl <;> first | exact go (b := false) (.base (.dK (hs.up e))) (by decide +kernel) rfl | exact go (b := true) (.base (.dK (hs.up e))) (by decide +kernel) rfl
  | obj e i =>
    refine ⟨_, .ty T, _, .type T, false, rfl, .ty T, .base (.ins (hs.up e) i.cl i.ha i.hn i.tk i.mo), i.no T (by simp only [List.mem_cons, List.not_mem_nil, or_false]; exact hT), ?_⟩
    rcases hT with rfl | rfl | rfl | rfl | rfl | rfl <;> exact h
theorem bstep {B B' : Hp} {a : Addr} {o : HO} (s : Same B B') (e : B a = some o) : B' a = some o := s _ _ e
theorem atI0 {α : Type} {a : α} {r : List α} : atI (a :: r) 0 = some a := by simp [atI, ixN]
theorem small_le {n : Nat} (h : n ≤ 1000000) : n ≤ sizeLine := Nat.le_trans h (by rw [sizeLine_eq]; decide)
theorem small_lt {n : Nat} (h : n ≤ 1000000) : n < sizeLine := Nat.lt_of_le_of_lt h (by rw [sizeLine_eq]; decide)
end Q

set_option Elab.async false
set_option linter.all false
set_option maxRecDepth 100000
set_option maxHeartbeats 4000000
namespace Q
open PySem PySem.Spec PyProof.Rows L2
/-! ### loops: a state s of one's own, from which the slots and what may change follow -/
def LI {α : Type} (S : List Addr) (B0 H0 B : Hp) (σf : α → L2.St) (Mf : α → List (Addr × HO)) (P : Nat → α → Hp → Prop) (i : Nat) (σ : L2.St) (H : Hp) : Prop :=
  ∃ s B1, σ = σf s ∧ Same B B1 ∧ HS S B0 H0 B1 H (Mf s) ∧ P i s B1
abbrev LoopW (J : It) (g : TG) (tb : TS) (De : Ends) (σ : L2.St) (H : Hp) : Prop := ∃ W : Nat → Nat → L2.St → Hp → Prop, (∃ m, W 0 m σ H) ∧ ∀ i m σ H, W i m σ H →
  (J.stop i H ∧ De.nx σ H) ∨ (J.go i H ∧ ∃ N : L2.St → Hp → Prop, (∀ σ' H', N σ' H' → ∃ m', m' < m ∧ W (i + 1) m' σ' H') ∧ ∀ x H', J.yld i H x H' → g x σ H' fun σ2 H2 => tb { De with nx := N, ct := N, bk := De.nx } σ2 H2)
theorem x_for {wi : TI} {g : TG} {tb : TS} {De : Ends} {σ : L2.St} {H : Hp} (h : wi σ H fun J H1 => LoopW J g tb De σ H1) : tFor wi g tb De σ H := h
theorem x_iList {K : PySem.W.Frag} {te : TE} {σ : L2.St} {H : Hp} {R : It → Hp → Prop} (h : te σ H fun x H1 => ∃ a, x = .ref a ∧ (∃ xs, SqL K H1 a xs) ∧ R (Itl K a) H1) : iList K te σ H R := h
theorem x_iTup {K : PySem.W.Frag} {te : TE} {σ : L2.St} {H : Hp} {R : It → Hp → Prop} (h : te σ H fun x H1 => ∃ a, x = .ref a ∧ (∃ xs, SqT K H1 a xs) ∧ R (Itt K a) H1) : iTup K te σ H R := h
theorem x_iStr {te : TE} {σ : L2.St} {H : Hp} {R : It → Hp → Prop} (h : te σ H fun v H1 => ∃ x, v = .str x ∧ R (Its x) H1) : iStr te σ H R := h
theorem x_iRng1 {ta : TA} {σ : L2.St} {H : Hp} {R : It → Hp → Prop} (h : ta σ H fun vs H1 => ∃ j : Int, vs = [.int j] ∧ -(2 ^ 62) ≤ j ∧ j < 2 ^ 62 ∧ R (Itr 0 j.toNat) H1) : iRng1 ta σ H R := h
theorem x_iRng2 {ta : TA} {σ : L2.St} {H : Hp} {R : It → Hp → Prop} (h : ta σ H fun vs H1 => ∃ i j : Int, vs = [.int i, .int j] ∧ (-(2 ^ 62) ≤ i ∧ i < 2 ^ 62 ∧ -(2 ^ 62) ≤ j ∧ j < 2 ^ 62) ∧ R (Itr i (j - i).toNat) H1) : iRng2 ta σ H R := h
/-- a list or a tuple -/
def iSeq (K : PySem.W.Frag) (te : TE) : TI := fun σ H R => iList K te σ H R ∨ iTup K te σ H R
theorem pi_seq {X : Cx} {tg l : Expr} {tl : TE} (hl : PE X l tl) : PI X tg l (iSeq X.K tl) :=
  ⟨fun pins s σ H R I h => h.elim (fun h => (pi_list (tg := tg) hl).run pins s σ H R I h) fun h => (pi_tup (tg := tg) hl).run pins s σ H R I h⟩
def iEnumS (K : PySem.W.Frag) (ta : TA) : TI := iEnum K ta
section
variable {α : Type} {K : PySem.W.Frag} {S : List Addr} {B0 H0 B : Hp} {σf : α → L2.St} {Mf : α → List (Addr × HO)} {P : Nat → α → Hp → Prop} {a : Addr} {xs : List V} {g : TG} {tb : TS} {De : Ends} {H : Hp} {s0 : α}
theorem l_list (hs : HS S B0 H0 B H (Mf s0)) (ea : B a = some (.lst xs)) (h0 : P 0 s0 B)
    (hb : ∀ i x s B1 H1, xs[i]? = some x → Same B B1 → HS S B0 H0 B1 H1 (Mf s) → P i s B1 → g x (σf s) H1 fun σ2 H2 => tb { De with nx := LI S B0 H0 B σf Mf P (i + 1), ct := LI S B0 H0 B σf Mf P (i + 1), bk := De.nx } σ2 H2)
    (hd : ∀ s B1 H1, Same B B1 → HS S B0 H0 B1 H1 (Mf s) → P xs.length s B1 → De.nx (σf s) H1) : LoopW (Itl K a) g tb De (σf s0) H :=
  for_list (K := K) (a := a) (xs := xs) (LI S B0 H0 B σf Mf P) ⟨s0, B, rfl, Same.refl _, hs, h0⟩ (fun i σ H' _ ⟨s, B1, _, sb, hs', _⟩ => SqL.of (hs'.up (sb _ _ ea)))
    (fun i x σ H' hi ⟨s, B1, e, sb, hs', p⟩ => by rw [e]; exact hb i x s B1 H' hi sb hs' p) fun σ H' ⟨s, B1, e, sb, hs', p⟩ => by rw [e]; exact hd s B1 H' sb hs' p
theorem l_tup (hs : HS S B0 H0 B H (Mf s0)) (ea : B a = some (.tup xs)) (h0 : P 0 s0 B)
    (hb : ∀ i x s B1 H1, xs[i]? = some x → Same B B1 → HS S B0 H0 B1 H1 (Mf s) → P i s B1 → g x (σf s) H1 fun σ2 H2 => tb { De with nx := LI S B0 H0 B σf Mf P (i + 1), ct := LI S B0 H0 B σf Mf P (i + 1), bk := De.nx } σ2 H2)
    (hd : ∀ s B1 H1, Same B B1 → HS S B0 H0 B1 H1 (Mf s) → P xs.length s B1 → De.nx (σf s) H1) : LoopW (Itt K a) g tb De (σf s0) H :=
  for_tup (K := K) (a := a) (xs := xs) (LI S B0 H0 B σf Mf P) ⟨s0, B, rfl, Same.refl _, hs, h0⟩ (fun i σ H' _ ⟨s, B1, _, sb, hs', _⟩ => SqT.of (hs'.up (sb _ _ ea)))
    (fun i x σ H' hi ⟨s, B1, e, sb, hs', p⟩ => by rw [e]; exact hb i x s B1 H' hi sb hs' p) fun σ H' ⟨s, B1, e, sb, hs', p⟩ => by rw [e]; exact hd s B1 H' sb hs' p
theorem l_range {lo : Int} {n : Nat} (hs : HS S B0 H0 B H (Mf s0)) (h0 : P 0 s0 B)
    (hb : ∀ i s B1 H1, i < n → Same B B1 → HS S B0 H0 B1 H1 (Mf s) → P i s B1 → g (.int (lo + i)) (σf s) H1 fun σ2 H2 => tb { De with nx := LI S B0 H0 B σf Mf P (i + 1), ct := LI S B0 H0 B σf Mf P (i + 1), bk := De.nx } σ2 H2)
    (hd : ∀ s B1 H1, Same B B1 → HS S B0 H0 B1 H1 (Mf s) → P n s B1 → De.nx (σf s) H1) : LoopW (Itr lo n) g tb De (σf s0) H :=
  for_range (lo := lo) (n := n) (LI S B0 H0 B σf Mf P) ⟨s0, B, rfl, Same.refl _, hs, h0⟩
    (fun i σ H' hi ⟨s, B1, e, sb, hs', p⟩ => by rw [e]; exact hb i s B1 H' hi sb hs' p) fun σ H' ⟨s, B1, e, sb, hs', p⟩ => by rw [e]; exact hd s B1 H' sb hs' p
theorem l_str {z : Str} (hs : HS S B0 H0 B H (Mf s0)) (h0 : P 0 s0 B)
    (hb : ∀ i c s B1 H1, z.cps.toList[i]? = some c → Same B B1 → HS S B0 H0 B1 H1 (Mf s) → P i s B1 → g (.str ⟨#[c]⟩) (σf s) H1 fun σ2 H2 => tb { De with nx := LI S B0 H0 B σf Mf P (i + 1), ct := LI S B0 H0 B σf Mf P (i + 1), bk := De.nx } σ2 H2)
    (hd : ∀ s B1 H1, Same B B1 → HS S B0 H0 B1 H1 (Mf s) → P z.cps.toList.length s B1 → De.nx (σf s) H1) : LoopW (Its z) g tb De (σf s0) H := by
  refine for_it walk_str (LI S B0 H0 B σf Mf P) ⟨s0, B, rfl, Same.refl _, hs, h0⟩ (fun _ _ _ _ _ => trivial) (fun i x σ H' H2 hi ⟨s, B1, e, sb, hs', p⟩ y => ?_) fun σ H' ⟨s, B1, e, sb, hs', p⟩ => ?_
  · obtain ⟨rfl, c, hc, rfl⟩ := y
    rw [e]
    exact hb i c s B1 _ (by rw [Array.getElem?_toList]; exact hc) sb hs' p
  · rw [e]
    exact hd s B1 H' sb hs' (by rw [Array.length_toList]; exact p)
/-- enumerate: a new pair each turn, which stands still -/
theorem l_enum (hs : HS S B0 H0 B H (Mf s0)) (ea : B a = some (.lst xs)) (h0 : P 0 s0 B)
    (hb : ∀ i x s T B1 H1, xs[i]? = some x → Same B B1 → HS S B0 H0 B1 H1 (Mf s) → P i s B1 → B1 T = some (.tup [.int (i : Nat), x]) → g (.ref T) (σf s) H1 fun σ2 H2 => tb { De with nx := LI S B0 H0 B σf Mf P (i + 1), ct := LI S B0 H0 B σf Mf P (i + 1), bk := De.nx } σ2 H2)
    (hd : ∀ s B1 H1, Same B B1 → HS S B0 H0 B1 H1 (Mf s) → P xs.length s B1 → De.nx (σf s) H1)
    (hm : ∀ i s B1 B2, P i s B1 → Same B1 B2 → P i s B2) : LoopW (Ite K a) g tb De (σf s0) H := by
  refine for_it (walk_enum (xs := xs)) (LI S B0 H0 B σf Mf P) ⟨s0, B, rfl, Same.refl _, hs, h0⟩ (fun i σ H' _ ⟨s, B1, _, sb, hs', _⟩ => SqL.of (hs'.up (sb _ _ ea))) (fun i x σ H' H2 hi ⟨s, B1, e, sb, hs', p⟩ y => ?_) fun σ H' ⟨s, B1, e, sb, hs', p⟩ => ?_
  · obtain ⟨T, v, u, rfl, hT, rfl, e1, e2⟩ := y
    cases e1
    rw [e]
    exact x_newF (Qp := fun T H2 => g (.ref T) (σf s) H2 fun σ2 H2 => tb { De with nx := LI S B0 H0 B σf Mf P (i + 1), ct := LI S B0 H0 B σf Mf P (i + 1), bk := De.nx } σ2 H2) hs' (fun p B' H' h1 h2 h3 _ => hb i u s p B' H' e2 (sb.trans h2) h1 (hm i s B1 B' ‹_› h2) h3) T hT
  · rw [e]
    exact hd s B1 H' sb hs' p
end
/-! ### comprehensions -/
abbrev CompW (J : It) (g : TG) (tt : TT) (te : TE) (vs : List Nat) (σ : L2.St) (D : Addr) (H1 : Hp) (Q : VK) : Prop := ∃ W : Nat → Nat → Hp → Prop, (∃ m, W 0 m (upd H1 D (.lst []))) ∧ ∀ i m H, W i m H →
  (J.stop i H ∧ Q (.ref D) H) ∨ (J.go i H ∧ ∃ Nx : Hp → Prop, (∀ H', Nx H' → ∃ m', m' < m ∧ W (i + 1) m' H') ∧ ∀ x H', J.yld i H x H' → g x (wipe σ vs) H' fun σ2 H2 => wipe σ2 vs = wipe σ vs ∧ tt σ2 H2 fun b H3 =>
    if b = true then te σ2 H3 fun y H4 => ∃ acc, H4 D = some (.lst acc) ∧ acc.length < sizeLine ∧ Nx (upd H4 D (.lst (acc ++ [y]))) else Nx H3)
theorem x_lc {wi : TI} {g : TG} {tt : TT} {te : TE} {vs : List Nat} {σ : L2.St} {H : Hp} {Q : VK} (h : wi σ H fun J H1 => ∀ D, H1 D = none → CompW J g tt te vs σ D H1 Q) : tLc wi g tt te vs σ H Q := h
/-- the list so far stands at D, ahead of what else may change (which follows from a state s of one's own) -/
def CI {α : Type} (S : List Addr) (B0 H0 B : Hp) (Mf : α → List (Addr × HO)) (D : Addr) (P : Nat → α → List V → Hp → Prop) (i : Nat) (H : Hp) : Prop :=
  ∃ s acc B1, Same B B1 ∧ HS S B0 H0 B1 H ((D, .lst acc) :: Mf s) ∧ acc.length ≤ i ∧ P i s acc B1
section
variable {α : Type} {K : PySem.W.Frag} {S : List Addr} {B0 H0 B : Hp} {Mf : α → List (Addr × HO)} {P : Nat → α → List V → Hp → Prop} {a D : Addr} {xs : List V} {g : TG} {tt : TT} {te : TE} {vs : List Nat} {σ : L2.St} {H1 : Hp} {Q : VK} {s0 : α}
theorem c_keep {B2 H4 : Hp} {i : Nat} {s : α} {acc : List V} {y : V} (sb : Same B B2) (hs : HS S B0 H0 B2 H4 ((D, .lst acc) :: Mf s)) (hi : acc.length ≤ i) (hz : i < 1000000) (p : P (i + 1) s (acc ++ [y]) B2) :
    ∃ acc', H4 D = some (.lst acc') ∧ acc'.length < sizeLine ∧ CI S B0 H0 B Mf D P (i + 1) (upd H4 D (.lst (acc' ++ [y]))) :=
  ⟨acc, hs.get List.mem_cons_self, small_lt (by omega), s, acc ++ [y], B2, sb, hs.set0, by simp; omega, p⟩
theorem c_left {B2 H4 : Hp} {i : Nat} {s : α} {acc : List V} (sb : Same B B2) (hs : HS S B0 H0 B2 H4 ((D, .lst acc) :: Mf s)) (hi : acc.length ≤ i) (p : P (i + 1) s acc B2) : CI S B0 H0 B Mf D P (i + 1) H4 := ⟨s, acc, B2, sb, hs, by omega, p⟩
theorem c_list (hs : HS S B0 H0 B H1 (Mf s0)) (hD : H1 D = none) (ea : B a = some (.lst xs)) (h0 : P 0 s0 [] B)
    (hb : ∀ i x s acc B1 H', xs[i]? = some x → acc.length ≤ i → Same B B1 → HS S B0 H0 B1 H' ((D, .lst acc) :: Mf s) → P i s acc B1 → g x (wipe σ vs) H' fun σ2 H2 => wipe σ2 vs = wipe σ vs ∧ tt σ2 H2 fun b H3 =>
      if b = true then te σ2 H3 fun y H4 => ∃ acc', H4 D = some (.lst acc') ∧ acc'.length < sizeLine ∧ CI S B0 H0 B Mf D P (i + 1) (upd H4 D (.lst (acc' ++ [y]))) else CI S B0 H0 B Mf D P (i + 1) H3)
    (hd : ∀ s acc B1 H', Same B B1 → HS S B0 H0 B1 H' ((D, .lst acc) :: Mf s) → acc.length ≤ xs.length → P xs.length s acc B1 → Q (.ref D) H') : CompW (Itl K a) g tt te vs σ D H1 Q :=
  lc_list (K := K) (a := a) (xs := xs) (CI S B0 H0 B Mf D P) ⟨s0, [], B, Same.refl _, hs.new hD, Nat.le_refl _, h0⟩ (fun i H' _ ⟨s, acc, B1, sb, hs', _⟩ => SqL.of (hs'.up (sb _ _ ea)))
    (fun i x H' hi ⟨s, acc, B1, sb, hs', hl, p⟩ => hb i x s acc B1 H' hi hl sb hs' p) fun H' ⟨s, acc, B1, sb, hs', hl, p⟩ => hd s acc B1 H' sb hs' hl p
theorem c_tup (hs : HS S B0 H0 B H1 (Mf s0)) (hD : H1 D = none) (ea : B a = some (.tup xs)) (h0 : P 0 s0 [] B)
    (hb : ∀ i x s acc B1 H', xs[i]? = some x → acc.length ≤ i → Same B B1 → HS S B0 H0 B1 H' ((D, .lst acc) :: Mf s) → P i s acc B1 → g x (wipe σ vs) H' fun σ2 H2 => wipe σ2 vs = wipe σ vs ∧ tt σ2 H2 fun b H3 =>
      if b = true then te σ2 H3 fun y H4 => ∃ acc', H4 D = some (.lst acc') ∧ acc'.length < sizeLine ∧ CI S B0 H0 B Mf D P (i + 1) (upd H4 D (.lst (acc' ++ [y]))) else CI S B0 H0 B Mf D P (i + 1) H3)
    (hd : ∀ s acc B1 H', Same B B1 → HS S B0 H0 B1 H' ((D, .lst acc) :: Mf s) → acc.length ≤ xs.length → P xs.length s acc B1 → Q (.ref D) H') : CompW (Itt K a) g tt te vs σ D H1 Q :=
  lc_tup (K := K) (a := a) (xs := xs) (CI S B0 H0 B Mf D P) ⟨s0, [], B, Same.refl _, hs.new hD, Nat.le_refl _, h0⟩ (fun i H' _ ⟨s, acc, B1, sb, hs', _⟩ => SqT.of (hs'.up (sb _ _ ea)))
    (fun i x H' hi ⟨s, acc, B1, sb, hs', hl, p⟩ => hb i x s acc B1 H' hi hl sb hs' p) fun H' ⟨s, acc, B1, sb, hs', hl, p⟩ => hd s acc B1 H' sb hs' hl p
theorem c_range {lo : Int} {n : Nat} (hs : HS S B0 H0 B H1 (Mf s0)) (hD : H1 D = none) (h0 : P 0 s0 [] B)
    (hb : ∀ i s acc B1 H', i < n → acc.length ≤ i → Same B B1 → HS S B0 H0 B1 H' ((D, .lst acc) :: Mf s) → P i s acc B1 → g (.int (lo + i)) (wipe σ vs) H' fun σ2 H2 => wipe σ2 vs = wipe σ vs ∧ tt σ2 H2 fun b H3 =>
      if b = true then te σ2 H3 fun y H4 => ∃ acc', H4 D = some (.lst acc') ∧ acc'.length < sizeLine ∧ CI S B0 H0 B Mf D P (i + 1) (upd H4 D (.lst (acc' ++ [y]))) else CI S B0 H0 B Mf D P (i + 1) H3)
    (hd : ∀ s acc B1 H', Same B B1 → HS S B0 H0 B1 H' ((D, .lst acc) :: Mf s) → acc.length ≤ n → P n s acc B1 → Q (.ref D) H') : CompW (Itr lo n) g tt te vs σ D H1 Q :=
  lc_range (lo := lo) (n := n) (CI S B0 H0 B Mf D P) ⟨s0, [], B, Same.refl _, hs.new hD, Nat.le_refl _, h0⟩
    (fun i H' hi ⟨s, acc, B1, sb, hs', hl, p⟩ => hb i s acc B1 H' hi hl sb hs' p) fun H' ⟨s, acc, B1, sb, hs', hl, p⟩ => hd s acc B1 H' sb hs' hl p
end
end Q

set_option Elab.async false
set_option linter.all false
set_option maxRecDepth 100000
set_option maxHeartbeats 4000000
namespace Q
open PySem PySem.Spec PyProof.Rows L2
abbrev WE0 (E : XK) : WX := fun c d _ H' => E c d H'
abbrev W0 : WX := fun _ _ _ _ => False
def rNegI : V → Hp → VK → Prop := rU fun i => .int (-i)
theorem x_un {r : V → Hp → VK → Prop} {ta : TE} {σ : L2.St} {H : Hp} {Q : VK} (h : ta σ H fun x H1 => r x H1 Q) : tUn r ta σ H Q := h
theorem x_neg {m : Int} {H : Hp} {Q : VK} (h : Q (.int (-m)) H) : rNegI (.int m) H Q := ⟨m, rfl, h⟩
def tTryAs (K : PySem.W.Frag) (c : Value) (i : Nat) (ts : Addr → Value → Option Addr → TS) (Wout : WX) (tb : WX → TS) : TS := fun De σ H => tb (wAs K c i ts Wout De) De σ H
def tTryOnly (K : PySem.W.Frag) (c : Value) (ts : Addr → Value → Option Addr → TS) (Wout : WX) (tb : WX → TS) : TS := fun De σ H => tb (wOnly K c ts Wout De) De σ H
/-! ### enumerate of a tuple -/
theorem meets_enumT (l : Addr) (items : Array Value) :
    Meets (Builtin.«enumerate.__new__» ⟨[.type "enumerate", .ref l], []⟩) (fun _ R s => s.heap.IsTuple l items ∧
      R (.ok (.ret (.ref (s.heap.push { cls := .type "tuple_iterator", data := .fields #[.ref l, .int 0 0] }).objs.size)))
        { s with heap := (s.heap.push { cls := .type "tuple_iterator", data := .fields #[.ref l, .int 0 0] }).push { cls := .type "enumerate", data := .fields #[.none, .bool false, .ref s.heap.objs.size, rawInt 0, .none, .none] } }) :=
  .of_wp fun prog w A R s h => by
    obtain ⟨hp, g, d, tk, os⟩ := s; obtain ⟨hl, h⟩ := h
    have hsub := sub_enumerate
    have hL : Heap.IsTuple (Shared.heap ⟨hp, g, d, tk, os⟩) l items := hl
    obtain ⟨ob, hob, hcl, n, hdt⟩ := id hl
    have q1 : ∀ {A' : Around} {E : Value → Shared → Prop} {Q : Value → Shared → Prop}, Q (.ref hp.objs.size) ⟨hp.push { cls := .type "tuple_iterator", data := .fields #[.ref l, .int 0 0] }, g, d, tk, os⟩ → wpAny (model prog w) A' (pyIter (.ref l)) Q E ⟨hp, g, d, tk, os⟩ :=
      fun q => (begins_tuple l items).iter prog w _ _ ⟨hp, g, d, tk, os⟩ _ hl q
    wp_walk using q1
    refine wpAny_stack_any fun st => wpAny_pure ?_
    split
    · rename_i c _ _ _ _ _
      cases (c == Value.type "enumerate")
      · wp_walk using q1
        exact ⟨_, rfl, h⟩
      · wp_walk using q1
        exact ⟨_, rfl, h⟩
    · wp_walk using q1
      exact ⟨_, rfl, h⟩
theorem call_enumT {prog : Program} {w : World} {A : Around} {E : Value → Shared → Prop} {s : Shared} {l : Addr} {items : Array Value} {Q : Value → Shared → Prop} (hL : s.heap.IsTuple l items)
    (h : ∀ h', IsEnum h' (s.heap.objs.size + 1) s.heap.objs.size 0 .none → h'.IsTupleIter s.heap.objs.size l 0 → h'.objs.size = s.heap.objs.size + 2 →
      (∀ b o, s.heap.get? b = some o → h'.get? b = some o) → Q (.ref (s.heap.objs.size + 1)) { s with heap := h' }) :
    wpAny (model prog w) A (call (.type "enumerate") [.ref l]) Q E s := by
  refine callType_new F.called_enumerate (by decide) (F.typeCall_enumerate_1 _) (F.newCall_enumerate_1 _) (fun obj => F.args_object_init_2 obj _) F.entry_enumerate_new
    (meets_enumT l items) ⟨hL, ?_⟩
  have hz : (s.heap.push { cls := .type "tuple_iterator", data := .fields #[.ref l, .int 0 0] }).objs.size = s.heap.objs.size + 1 := Heap.size_push ..
  show _ ∧ _
  rw [hz]
  have he : IsEnum ((s.heap.push { cls := .type "tuple_iterator", data := .fields #[.ref l, .int 0 0] }).push
      { cls := .type "enumerate", data := .fields #[.none, .bool false, .ref s.heap.objs.size, rawInt 0, .none, .none] }) (s.heap.objs.size + 1) s.heap.objs.size 0 .none := by
    have := Heap.get?_push_size (s.heap.push { cls := .type "tuple_iterator", data := .fields #[.ref l, .int 0 0] })
      (o := { cls := .type "enumerate", data := .fields #[.none, .bool false, .ref s.heap.objs.size, rawInt 0, .none, .none] }) rfl
    rw [hz] at this; exact this
  refine ⟨⟨_, he, rfl⟩, h _ he ⟨_, Heap.get?_push_of_some _ (Heap.get?_push_size _ rfl), rfl, rfl⟩ (by rw [Heap.size_push, hz]) fun b o x => Heap.get?_push_of_some _ (Heap.get?_push_of_some _ x)⟩
def IteT (K : PySem.W.Frag) (a : Addr) : It :=
  ⟨fun i H => ∃ (xs : List V) (x : V), SqT K H a xs ∧ xs[i]? = some x, fun i H v H' => ∃ T x, v = .ref T ∧ H T = none ∧ H' = upd H T (.tup [.int (i : Nat), x]) ∧ ∀ xs, SqT K H a xs → xs[i]? = some x, fun i H => ∃ xs : List V, SqT K H a xs ∧ xs.length ≤ i⟩
theorem turn_enumT {P : Program} {w : World} {K : PySem.W.Frag} {elts : List Expr} {kk : Nat} {tpos : Pos} (a e it : Addr) (hai : a ≠ it) (hea : e ≠ a) :
    Turn P w K (.Tuple elts kk tpos) (IteT K a) [e, it] e (fun i h => (∃ old, IsEnum h e it ((i : Nat) : Int) old) ∧ h.IsTupleIter it a i ∧ e ≠ it) where
  mem := by simp
  obj := fun i h st b hb => by
    obtain ⟨⟨old, he⟩, ⟨o, ho, hc, hd⟩, _⟩ := st
    have e' : b = e ∨ b = it := by simpa using hb
    rcases e' with z | z
    · rw [z]; exact ⟨_, he, fun v q => nomatch q⟩
    · rw [z]; exact ⟨o, ho, fun v q => by rw [hd] at q; cases q⟩
  keep := fun i h h' st k => let ⟨⟨old, he⟩, hi, hne⟩ := st; ⟨⟨old, k e (by simp) _ he⟩, hi.at fun o q => k it (by simp) o q, hne⟩
  item := by
    intro X hP hw hK hc i pins s σ H E I hf st hg
    subst hP hw hK
    obtain ⟨⟨old, he⟩, hit, hne⟩ := st
    obtain ⟨xs, x, hq, hx⟩ := hg
    obtain ⟨its, rv, p, hz⟩ := I.tuple hq
    obtain ⟨u, hu, ru⟩ := rv.get hx
    have hel : e < s.heap.objs.size := Heap.lt_size he
    have hil : it < s.heap.objs.size := by obtain ⟨_, q, _⟩ := hit; exact Heap.lt_size q
    have hlt : i < its.toArray.size := by
      have := (List.getElem?_eq_some_iff.mp hu).1
      simpa using this
    refine wpAny_pyNext_enum_itemD (Draws.tuple (A := X.A.in1) (I.ok.hd hc) it a hai its.toArray) he ⟨hit, p⟩ hlt hne (by simp [hne, hea]) fun y h' tk hy ho hst hT hsz hk => ?_
    have ey : y = u := by
      have h1 : its[i]? = some y := by simpa using hy
      rw [hu] at h1; exact (Option.some.inj h1).symm
    subst ey
    refine ⟨_, rfl, wpAny_letOwnedTupleGo_enum (s := { s with heap := h', toks := tk + 1 }) ho fun h'' he' sb => ?_⟩
    have hT2 : h''.get? s.heap.objs.size = some { cls := .type "tuple", data := .seq #[.int i tk, y] } := (sb.2 _ (Nat.ne_of_gt hel)).trans hT
    have new : ObjOk X.prog X.w (upd H s.heap.objs.size (.tup [.int (i : Nat), x])) h'' s.heap.objs.size (.tup [.int (i : Nat), x]) :=
      ⟨by show 2 ≤ sizeLine; decide, [.int i tk, y], .cons ⟨_, rfl⟩ (.cons ru .nil), ⟨_, hT2, rfl, _, rfl⟩⟩
    have I1 : Inv X pins σ (upd H s.heap.objs.size (.tup [.int (i : Nat), x])) { s with heap := h'', toks := tk + 1 } :=
      I.turnedNew (ch := [e, it]) (fun b ob hb q => (sb.2 b (fun z => hb (by simp [z]))).trans (hk b ob (fun z => hb (by simp [z])) (fun z => hb (by simp [z])) q)) hf (Nat.le_refl _) new
    refine ⟨.ref s.heap.objs.size, _, I1, rfl, ⟨_, x, rfl, I.hok.fresh (Nat.le_refl _), rfl, fun ys hy => by rw [I.tuple_inj hy hq]; exact hx⟩, ⟨⟨y, ?_⟩, hst.1.at fun o q => (sb.2 it (Ne.symm hne)).trans q, hne⟩, fun b hb => ?_⟩
    · have e1 : ((i + 1 : Nat) : Int) = (i : Int) + 1 := by omega
      rw [e1]; exact he'
    · have hb' : b < s.heap.objs.size := by
        have e' : b = e ∨ b = it := by simpa using hb
        rcases e' with z | z
        · rw [z]; exact hel
        · rw [z]; exact hil
      rw [upd_ne (Nat.ne_of_lt hb')]
      exact (hf b hb).1
  done := by
    intro X hP hw hK hc i pins s σ H E I hf st hg
    subst hP hw hK
    obtain ⟨⟨old, he⟩, hit, hne⟩ := st
    obtain ⟨xs, hq, hx⟩ := hg
    obtain ⟨its, rv, p, hz⟩ := I.tuple hq
    obtain ⟨f0, f1, f2, f3, f4, f5⟩ := hf it (by simp)
    have hl := rv.length
    have hTy : s.TypeIs (.ref e) "enumerate" := ⟨_, he, rfl⟩
    unfold pyNext
    refine wpAny_bind (wpAny_attempt (wpAny_callSpecial?_slot (name := Str.ofString "__next__") hTy F.slot_enumerate_next
      (wpAny_call_entry F.slot_enumerate_next hTy F.entry_enumerate_next ?_ (F.args_enumerate_next_1 _))))
    show wpAny _ _ (field (.ref e) 2 >>= _) _ _ _
    refine wpAny_bind (wpAny_field he rfl (x := .ref it) rfl ?_)
    refine wpAny_bind (wpAny_nextOf_tuple_end (A := X.A.in1) (I.ok.hd hc) hit (show s.heap.IsTuple a its.toArray from p) (by simp; omega) fun h' x he' hx' => ?_)
    obtain ⟨o, ho, hcx⟩ := hx'
    refine wpAny_bind (wpAny_isInstance (T := "StopIteration") (b := true) ⟨o, ho, hcx⟩ isSubtype_stop ?_)
    exact wpAny_pure ⟨rfl, I.turned (t' := s.toks) (fun b o hb q => he' b o hb q) f0 f1 f3 f4 f5⟩
  self := fun A i s Q E st h => let ⟨⟨_, he⟩, _⟩ := st; wpAny_pyIter_enum he h
def iEnumT (K : PySem.W.Frag) (ta : TA) : TI := fun σ H R => ta σ H fun vs H1 => ∃ a xs, vs = [.ref a] ∧ SqT K H1 a xs ∧ R (IteT K a) H1
theorem pi_enumT {X : Cx} {e : Expr} {ta : TA} {p pos tpos : Pos} {elts : List Expr} {kk : Nat} (hg : Gl X "enumerate") (hm : X.mg "enumerate" = none) (ha : PA X [e] ta) (hs : starEach [e] X.env = [(false, eval e X.env)] := by rfl) :
    PI X (.Tuple elts kk tpos) (.Call (.Name "enumerate" p) [e] [] pos) (iEnumT X.K ta) := by
  refine ⟨fun pins s σ H R I h => ?_⟩
  refine Call_ (ld_blt I hg hm boot_enumerate (PyProof.Rows.callWith_type1 (thn (ha.run pos pins s σ H _ I h) fun us s1 ⟨vs, H1, I1, r1, q1⟩ => ?_) hs rfl))
  obtain ⟨a, xs, ex, hq, q⟩ := q1
  subst ex
  cases r1 with
  | cons r rr =>
    cases rr
    cases r
    obtain ⟨its, rv, p', hz⟩ := I1.tuple hq
    have ha : a < s1.heap.objs.size := by obtain ⟨o, e1, _⟩ := p'; exact Heap.lt_size e1
    refine call_enumT (show s1.heap.IsTuple a its.toArray from p') fun h' he hit hsz hk => wpAny_pyIter_enum he ?_
    have I2 : Inv X pins σ H1 { s1 with heap := h' } := I1.kept (t' := s1.toks) hk
    refine ⟨s1.heap.objs.size + 1, [s1.heap.objs.size + 1, s1.heap.objs.size], _, _, H1, rfl, I2, turn_enumT a (s1.heap.objs.size + 1) s1.heap.objs.size (Nat.ne_of_lt ha) (Nat.ne_of_gt (Nat.lt_succ_of_lt ha)), ⟨⟨.none, he⟩, hit, Nat.succ_ne_self _⟩, fun b hb => ?_, q⟩
    have e' : b = s1.heap.objs.size + 1 ∨ b = s1.heap.objs.size := by simpa using hb
    have hle : s1.heap.objs.size ≤ b := by
      rcases e' with z | z
      · rw [z]; exact Nat.le_add_right _ _
      · rw [z]; exact Nat.le_refl _
    exact I1.fpOk hle (I1.hok.fresh hle)
theorem walk_enumT {K : PySem.W.Frag} {a : Addr} {xs : List V} : Walk (IteT K a) xs.length (fun H => SqT K H a xs) (YPair (fun i => some (.int (i : Nat))) (fun i => xs[i]?)) := by
  refine ⟨fun i _ hi q => ⟨xs, xs[i], q, by simp [hi]⟩, fun _ q => ⟨xs, q, Nat.le_refl _⟩, fun i H v H' _ q y => ?_⟩
  obtain ⟨T, x, h1, h2, h3, h4⟩ := y
  exact ⟨T, .int (i : Nat), x, h1, h2, h3, rfl, h4 xs q⟩
theorem x_iEnumT {K : PySem.W.Frag} {ta : TA} {σ : L2.St} {H : Hp} {R : It → Hp → Prop} (h : ta σ H fun vs H1 => ∃ a xs, vs = [.ref a] ∧ SqT K H1 a xs ∧ R (IteT K a) H1) : iEnumT K ta σ H R := h
theorem x_iEnum {K : PySem.W.Frag} {ta : TA} {σ : L2.St} {H : Hp} {R : It → Hp → Prop} (h : ta σ H fun vs H1 => ∃ a xs, vs = [.ref a] ∧ SqL K H1 a xs ∧ R (Ite K a) H1) : iEnum K ta σ H R := h
section
variable {α : Type} {K : PySem.W.Frag} {S : List Addr} {B0 H0 B : Hp} {σf : α → L2.St} {Mf : α → List (Addr × HO)} {P : Nat → α → Hp → Prop} {a : Addr} {xs : List V} {g : TG} {tb : TS} {De : Ends} {H : Hp} {s0 : α}
theorem l_enumT (hs : HS S B0 H0 B H (Mf s0)) (ea : B a = some (.tup xs)) (h0 : P 0 s0 B)
    (hb : ∀ i x s T B1 H1, xs[i]? = some x → Same B B1 → HS S B0 H0 B1 H1 (Mf s) → P i s B1 → B1 T = some (.tup [.int (i : Nat), x]) → g (.ref T) (σf s) H1 fun σ2 H2 => tb { De with nx := LI S B0 H0 B σf Mf P (i + 1), ct := LI S B0 H0 B σf Mf P (i + 1), bk := De.nx } σ2 H2)
    (hd : ∀ s B1 H1, Same B B1 → HS S B0 H0 B1 H1 (Mf s) → P xs.length s B1 → De.nx (σf s) H1)
    (hm : ∀ i s B1 B2, P i s B1 → Same B1 B2 → P i s B2) : LoopW (IteT K a) g tb De (σf s0) H := by
  refine for_it (walk_enumT (xs := xs)) (LI S B0 H0 B σf Mf P) ⟨s0, B, rfl, Same.refl _, hs, h0⟩ (fun i σ H' _ ⟨s, B1, _, sb, hs', _⟩ => SqT.of (hs'.up (sb _ _ ea))) (fun i x σ H' H2 hi ⟨s, B1, e, sb, hs', p⟩ y => ?_) fun σ H' ⟨s, B1, e, sb, hs', p⟩ => ?_
  · obtain ⟨T, v, u, rfl, hT, rfl, e1, e2⟩ := y
    cases e1
    rw [e]
    exact x_newF (Qp := fun T H2 => g (.ref T) (σf s) H2 fun σ2 H2 => tb { De with nx := LI S B0 H0 B σf Mf P (i + 1), ct := LI S B0 H0 B σf Mf P (i + 1), bk := De.nx } σ2 H2) hs' (fun p B' H' h1 h2 h3 _ => hb i u s p B' H' e2 (sb.trans h2) h1 (hm i s B1 B' ‹_› h2) h3) T hT
  · rw [e]
    exact hd s B1 H' sb hs' p
end
/-! ### sorted of texts: a list, a tuple, a dict's keys -/
def rSortL (K : PySem.W.Frag) : List V → Hp → VK → Prop := rSortedS K
theorem cSortL {X : Cx} : CallR X (.builtin "sorted") (rSortL X.K) := cr_sortedS
def rSortD : List V → Hp → VK → Prop := fun xs H Q => ∃ (a : Addr) (kvs : List (Key × V)) (ks : List Str), xs = [.ref a] ∧ Rd H a (.dK kvs) ∧ kvs.map (·.1) = ks.map Sum.inr ∧ ks.length < 64 ∧
    ∀ ys p, ys.Perm ks → sortedS ys = true → H p = none → Q (.ref p) (upd H p (.lst (ys.map V.str)))
theorem cSortD {X : Cx} (hc : X.calm = true) : CallR X (.builtin "sorted") rSortD := call_sortedD hc
def rSortT (K : PySem.W.Frag) : List V → Hp → VK → Prop := fun vs H Q => ∃ (a : Addr) (xs : List Str), vs = [V.ref a] ∧ SqT K H a (xs.map V.str) ∧ xs.length < 64 ∧
  ∀ (ys : List Str) (p : Addr), ys.Perm xs → sortedS ys = true → H p = none → Q (.ref p) (upd H p (.lst (ys.map V.str)))
theorem cSortT {X : Cx} (hc : X.calm = true) : CallR X (.builtin "sorted") (rSortT X.K) := by
  intro pins s σ H xs us Q I r q
  obtain ⟨a, ks, ex, hd, h64, q⟩ := q
  subst ex
  obtain ⟨u, eu, rx⟩ := vals1 r
  subst eu
  cases rx
  obtain ⟨its, rv, ⟨o, ho, hcl, n, hdt⟩, hz⟩ := I.tuple hd
  have hal : its.length = ks.length := by rw [← rv.length, List.length_map]
  have hS : StrsAre its ks := rv.strs
  refine Calls.call_function_entry PyProof.Rows.kind_sorted PyProof.Rows.plain_sorted PyProof.Rows.entry_sorted (PyProof.Rows.args_sorted1 _) ?_
  unfold Builtin.«sorted»
  refine wpAny_bind (m := checkCount "sorted" 1 1 _) (wpAny_pure ?_)
  refine wpAny_bind (wpAny_collect_seq (A := X.A.in1) a (.inr rfl) ho hcl hdt (fun h' hk => ?_) (by simp; rw [hal]; rw [sizeLine_eq]; omega))
  have I1 : Inv X pins σ H { s with heap := h', toks := s.toks } := I.kept hk
  show wpAny _ _ _ _ _ { s with heap := h' }
  refine wpAny_bind (wpAny_newList ?_ (by simp; rw [hal, sizeLine_eq]; omega))
  have el : its.toArray.toList = its := by simp
  rw [el]
  have hoL : (h'.push (seqObj "list" its.toArray 0)).get? h'.objs.size = some (seqObj "list" its.toArray 0) := Heap.get?_push_size _ rfl
  show wpAny _ _ _ _ _ { s with heap := h'.push (seqObj "list" its.toArray 0) }
  refine wpAny_bind (wpAny_holding (wpAny_call_entry PyProof.Rows.slot_list_sort ⟨_, hoL, rfl⟩ PyProof.Rows.entry_list_sort
    (list_sort_treeK strKind_oneLt (s := { s with heap := h'.push (seqObj "list" its.toArray 0) }) hoL hS.keysOf (fun v₁ v₂ rest e => keyKind_strs (by rw [← e]; exact hS)) (by rw [hal]; exact h64) fun st' hp hs => ⟨_, rfl, ?_⟩)
    (PyProof.Rows.args_list_sort _)))
  obtain ⟨ys, g1, g2, g3⟩ := sorted_out_str hS hp hs
  obtain ⟨e', he'⟩ := PyProof.Rows.sortedHeap_at (vs := its) (out := (arrOf st').map (·.2)) hoL
  have hlen : (ys.map V.str).length ≤ sizeLine := by
    rw [List.length_map, g2.length_eq]
    exact Nat.le_trans (Nat.le_of_lt h64) (by decide)
  refine wpAny_pure ⟨_, rfl, .ref h'.objs.size, upd H h'.objs.size (.lst (ys.map V.str)), I1.laid (t' := s.toks) (fun b u e => ?_) (Nat.le_refl _)
    (show ObjOk X.prog X.w _ _ _ (.lst (ys.map V.str)) from ⟨hlen, ((arrOf st').map (·.2)).toList, e', vals_of_strs g1, by rw [Array.toArray_toList]; exact he'⟩), rfl, q ys _ g2 g3 (I1.hok.fresh (Nat.le_refl _))⟩
  have hb : b < h'.objs.size := Heap.lt_size e
  rw [PyProof.Rows.sortedHeap_old (Nat.ne_of_lt hb) (by rw [size_push']; exact Nat.lt_succ_of_lt hb)]
  exact Heap.get?_push_of_some _ e
def rSortS (K : PySem.W.Frag) : List V → Hp → VK → Prop := fun vs H Q => rSortL K vs H Q ∨ rSortT K vs H Q
theorem cSortS {X : Cx} (hc : X.calm = true) : CallR X (.builtin "sorted") (rSortS X.K) := fun pins s σ H xs us Q I r h => h.elim (fun h => cSortL pins s σ H xs us Q I r h) fun h => cSortT hc pins s σ H xs us Q I r h
end Q

set_option Elab.async false
set_option linter.all false
set_option maxRecDepth 100000
set_option maxHeartbeats 4000000
namespace Q
open PySem PySem.Spec PyProof.Rows L2
section
variable {K : PySem.W.Frag} {σ : L2.St} {H : Hp} {Q : VK} {Qs : L2.St → Hp → Prop} {De : Ends} {te tu td ty tv to ta : TE} {tl : TA} {v y : V} {W : WX} {x : Str} {p C dx l : Addr} {fs : List (Str × V)} {f : Str} {S : List Addr} {B0 H0 B : Hp} {M : List (Addr × HO)} {kvs : List (Key × V)} {xs : List V}
/-! ### more steps: dicts, lists, fields, targets, errors -/
/-- a new thing o, and what is wanted of it -/
def New (o : HO) (Q : VK) (H : Hp) : Prop := ∀ p, H p = none → Q (.ref p) (upd H p o)
def NewL (Q : VK) (xs : List V) (H : Hp) : Prop := xs.length ≤ sizeLine ∧ New (.lst xs) Q H
def NewT (Q : VK) (xs : List V) (H : Hp) : Prop := xs.length ≤ sizeLine ∧ New (.tup xs) Q H
def Rz (W : WX) (C : Addr) (fs : List (Str × V)) (σ : L2.St) (H : Hp) : Prop := ∀ d, H d = none → W (.ref C) (some d) σ (upd H d (.xd fs))
def SetF (K : PySem.W.Frag) (f : Str) (R : Hp → Prop) (x y : V) (H : Hp) : Prop := ∃ a C dx fs, x = .ref a ∧ H a = some (.ins C dx fs) ∧ Cls K C ∧ NoAttr K C f ∧ fs.length < 1000 ∧ R (upd H a (.ins C dx (putF f y fs)))
def Mkd (C : Addr) (sp : Sp) (W : WX) (σ : L2.St) (Q : VK) (vs : List V) (H : Hp) : Prop := ∀ x dx, H x = none → H dx = none → dx ≠ x → sp (.ref x :: vs) (upd (upd H dx (.own x)) x (.ins C dx [])) (fun v H2 => v = .non ∧ Q (.ref x) H2) fun c d H' => W c d σ H'
theorem new_M {o : HO} (hs : HS S B0 H0 B H M) (k : ∀ p H', HS S B0 H0 B H' ((p, o) :: M) → H p = none → Q (.ref p) H') : New o Q H := x_new (Qp := fun p H' => Q (.ref p) H') hs k
theorem new_F {o : HO} (hs : HS S B0 H0 B H M) (k : ∀ p B' H', HS S B0 H0 B' H' M → Same B B' → B' p = some o → H p = none → Q (.ref p) H') : New o Q H := x_newF (Qp := fun p H' => Q (.ref p) H') hs k
theorem x_newL (hz : xs.length ≤ 1000000) (h : New (.lst xs) Q H) : NewL Q xs H := ⟨small_le hz, h⟩
theorem x_newT (hz : xs.length ≤ 1000000) (h : New (.tup xs) Q H) : NewT Q xs H := ⟨small_le hz, h⟩
theorem x_lst (h : tl σ H (NewL Q)) : tLst tl σ H Q := h
theorem x_tup (h : tl σ H (NewT Q)) : tTup tl σ H Q := h
theorem x_dget (h : td σ H fun x H1 => ty σ H1 fun y H2 => ∃ a v, x = .ref a ∧ DGet H2 a y (some v) ∧ Q v H2) : tDGet td ty σ H Q := h
theorem x_dgS {R : V → Prop} (hd : H p = some (.dK kvs)) (e : valV kvs (.inr x) = some v) (h : R v) : ∃ a v, V.ref p = .ref a ∧ DGet H a (.str x) (some v) ∧ R v := ⟨p, v, rfl, by rw [← e]; exact DGet.k (k := .inr x) hd, h⟩
theorem x_din (h : ty σ H fun y H1 => td σ H1 fun x H2 => ∃ a o, x = .ref a ∧ DGet H2 a y o ∧ Q (.bl o.isSome) H2) : tDIn ty td σ H Q := h
theorem x_dnin (h : ty σ H fun y H1 => td σ H1 fun x H2 => ∃ a o, x = .ref a ∧ DGet H2 a y o ∧ Q (.bl (!o.isSome)) H2) : tDNotIn ty td σ H Q := h
theorem x_dinO {R : Option V → Prop} (hd : H p = some (.dK kvs)) (h : R (valV kvs (.inr x))) : ∃ a o, V.ref p = .ref a ∧ DGet H a (.str x) o ∧ R o := ⟨p, _, rfl, DGet.k (k := .inr x) hd, h⟩
theorem x_dputU (h : tv σ H fun v H1 => td σ H1 fun x H2 => ty σ H2 fun y H3 => ∃ a H4, x = .ref a ∧ DPut H3 a y v H4 ∧ De.nx σ H4) : sDPut td ty tv De σ H := h
theorem x_dput {R : Hp → Prop} (hs : HS S B0 H0 B H ((p, .dK kvs) :: M)) (hz : kvs.length ≤ 1000000) (h : ∀ H', HS S B0 H0 B H' ((p, .dK (putK kvs (.inr x) v)) :: M) → R H') : ∃ a H4, V.ref p = .ref a ∧ DPut H a (.str x) v H4 ∧ R H4 :=
  ⟨p, _, rfl, DPut.k (k := .inr x) (hs.get List.mem_cons_self) (small_lt hz), h _ hs.set0⟩
theorem x_dnew (h : New (.dK []) Q H) : tDNewK σ H Q := h
theorem x_bm {T : String} {r : V → List V → Hp → VK → Prop} (h : to σ H fun x H1 => tyV K T x H1 ∧ tl σ H1 fun xs H2 => r x xs H2 Q) : tBM K T r to tl σ H Q := h
theorem x_bm0 {T : String} {r : V → List V → Hp → VK → Prop} (h : to σ H fun x H1 => tyV K T x H1 ∧ r x [] H1 Q) : tBM0 K T r to σ H Q := h
theorem x_tyL {R : Prop} (hl : SqL K H l xs) (h : R) : tyV K "list" (.ref l) H ∧ R := ⟨Or.inl ⟨rfl, _, hl⟩, h⟩
theorem x_append (hs : HS S B0 H0 B H ((l, .lst xs) :: M)) (hz : xs.length ≤ 1000000) (h : ∀ H', HS S B0 H0 B H' ((l, .lst (xs ++ [y])) :: M) → Q .non H') : rAppend (.ref l) [y] H Q :=
  ⟨l, xs, y, rfl, rfl, hs.get List.mem_cons_self, small_lt hz, h _ hs.set0⟩
theorem x_pop (hs : HS S B0 H0 B H ((l, .lst xs) :: M)) (e : xs[xs.length - 1]? = some y) (h : ∀ H', HS S B0 H0 B H' ((l, .lst xs.dropLast) :: M) → Q y H') : rPop (.ref l) [] H Q :=
  ⟨l, xs, y, rfl, rfl, hs.get List.mem_cons_self, e, h _ hs.set0⟩
theorem x_popAt {i : Int} {k : Nat} (hs : HS S B0 H0 B H ((l, .lst xs) :: M)) (h1 : -(2 ^ 63) ≤ i) (h2 : i < 2 ^ 63) (e1 : seqIndex? i xs.length = some k) (e : xs[k]? = some y) (h : ∀ H', HS S B0 H0 B H' ((l, .lst (xs.eraseIdx k)) :: M) → Q y H') : rPopAt (.ref l) [.int i] H Q :=
  ⟨l, xs, i, k, y, rfl, rfl, hs.get List.mem_cons_self, h1, h2, e1, e, h _ hs.set0⟩
theorem x_setL {m : Int} {j : Nat} {Qh : Hp → Prop} (hs : HS S B0 H0 B H ((l, .lst xs) :: M)) (e : ixN xs.length m = some j) (h : ∀ H', HS S B0 H0 B H' ((l, .lst (xs.set j v)) :: M) → Qh H') : rSetL (.ref l) (.int m) v H Qh :=
  ⟨l, xs, m, j, rfl, rfl, hs.get List.mem_cons_self, e, h _ hs.set0⟩
theorem x_gsub {ti : TE} {t : TSet} (h : to σ H fun o H1 => ti σ H1 fun i H2 => t o i v H2 fun H3 => Qs σ H3) : gSub to ti t v σ H Qs := h
theorem x_fldU (h : ta σ H fun x H1 => ∃ a C dx fs v, x = .ref a ∧ H1 a = some (.ins C dx fs) ∧ Cls K C ∧ NoAttr K C f ∧ fs.lookup f = some v ∧ Q v H1) : tFld K ta f σ H Q := h
theorem x_fld {R : V → Prop} (hp : H p = some (.ins C dx fs)) (cl : Cls K C) (na : NoAttr K C f) (e : fs.lookup f = some v) (h : R v) : ∃ a C dx fs v, V.ref p = .ref a ∧ H a = some (.ins C dx fs) ∧ Cls K C ∧ NoAttr K C f ∧ fs.lookup f = some v ∧ R v :=
  ⟨p, C, dx, fs, v, rfl, hp, cl, na, e, h⟩
theorem x_sfldU (h : tv σ H fun y H1 => ta σ H1 fun x H2 => SetF K f (De.nx σ) x y H2) : sFld K ta tv f De σ H := h
theorem x_sfld {R : Hp → Prop} (hs : HS S B0 H0 B H ((p, .ins C dx fs) :: M)) (cl : Cls K C) (na : NoAttr K C f) (hl : fs.length < 1000) (h : ∀ H', HS S B0 H0 B H' ((p, .ins C dx (putF f y fs)) :: M) → R H') :
    SetF K f R (.ref p) y H := ⟨p, C, dx, fs, rfl, hs.get List.mem_cons_self, cl, na, hl, h _ hs.set0⟩
theorem x_gtup {n : Nat} {t : TGs} (hp : SqT K H p xs) (hn : xs.length = n) (h : t xs σ H Qs) : gTup K n t (.ref p) σ H Qs := ⟨p, xs, rfl, hp, hn, h⟩
theorem x_gcons {t : TG} {u : TGs} {r : List V} (h : t v σ H fun σ' H' => u r σ' H' Qs) : gCons t u (v :: r) σ H Qs := ⟨v, r, rfl, h⟩
theorem x_gnil (h : Qs σ H) : gNil [] σ H Qs := ⟨rfl, h⟩
theorem x_rz1 (h : te σ H fun v H1 => Rz W C [(f, v)] σ H1) : tRz1 C f te W De σ H := h
theorem x_rz2 {g : Str} (h : te σ H fun v H1 => tu σ H1 fun u H2 => Rz W C [(g, u), (f, v)] σ H2) : tRz2 C f g te tu W De σ H := h
theorem x_thr {E : XK} {c : Str} {gs : List (Str × V)} (hs : HS [] B0 H0 B H M) (k : Thr K B0 H0 E c gs) : Rz (WE0 E) (He.ga K c) gs σ H := fun d hd =>
  k B _ d (hs.new hd).all (same_none hs.bh hd) upd_same
theorem x_tryAs {c : Value} {i : Nat} {ts : Addr → Value → Option Addr → TS} {tb : WX → TS} (h : tb (wAs K c i ts W De) De σ H) : tTryAs K c i ts W tb De σ H := h
theorem x_tryOnly {c : Value} {ts : Addr → Value → Option Addr → TS} {tb : WX → TS} (h : tb (wOnly K c ts W De) De σ H) : tTryOnly K c ts W tb De σ H := h
theorem x_mtU {m : Str} {sp : Sp} (h : ta σ H fun x H1 => ∃ a dx fs, x = .ref a ∧ H1 a = some (.ins C dx fs) ∧ fs.lookup m = none ∧ tl σ H1 fun vs H2 => sp (x :: vs) H2 Q fun c d H' => W c d σ H') : tMt C m sp W ta tl σ H Q := h
theorem x_mt {m : Str} {R : Prop} (hp : H p = some (.ins C dx fs)) (e : fs.lookup m = none) (h : R) : ∃ a dx fs, V.ref p = .ref a ∧ H a = some (.ins C dx fs) ∧ fs.lookup m = none ∧ R := ⟨p, dx, fs, rfl, hp, e, h⟩
theorem x_mk {sp : Sp} (h : tl σ H (Mkd C sp W σ Q)) : tMk C sp W tl σ H Q := h
theorem x_m1 {r : V → List V → Hp → VK → Prop} {z : Str} (h : to σ H fun x H1 => (∃ a, x = .str a) ∧ te σ H1 fun y H2 => r x [y] H2 Q) : tM1 r to te σ H Q := h
theorem x_str1 {R : Prop} {z : Str} (h : R) : (∃ a, V.str z = .str a) ∧ R := ⟨⟨z, rfl⟩, h⟩
theorem x_yes {Qb : Bool → Hp → Prop} (h : Qb true H) : tYes σ H Qb := h
theorem x_listL (hp : SqL K H p xs) (h : New (.lst xs) Q H) : rListOf K [.ref p] H Q := ⟨p, xs, rfl, .inl hp, h⟩
theorem x_listT (hp : SqT K H p xs) (h : New (.lst xs) Q H) : rListOf K [.ref p] H Q := ⟨p, xs, rfl, .inr hp, h⟩
theorem x_tupL (hp : SqL K H p xs) (h : New (.tup xs) Q H) : rTupOf K [.ref p] H Q := ⟨p, xs, rfl, .inl ⟨hp, h⟩⟩
theorem x_tupT (hp : SqT K H p xs) (h : Q (.ref p) H) : rTupOf K [.ref p] H Q := ⟨p, xs, rfl, .inr ⟨hp, h⟩⟩
theorem x_sortT {ss : List Str} (hp : SqT K H p (ss.map V.str)) (hz : ss.length < 64) (h : ∀ ys : List Str, ys.Perm ss → sortedS ys = true → New (.lst (ys.map V.str)) Q H) : rSortT K [.ref p] H Q := ⟨p, ss, rfl, hp, hz, fun ys q pe so hn => h ys pe so q hn⟩
theorem x_sortL {ss : List Str} (hp : SqL K H p (ss.map V.str)) (hz : ss.length < 64) (h : ∀ ys : List Str, ys.Perm ss → sortedS ys = true → New (.lst (ys.map V.str)) Q H) : rSortL K [.ref p] H Q := ⟨p, ss, rfl, hp, hz, fun ys q pe so hn => h ys pe so q hn⟩
theorem x_sortD {ks : List Str} (hp : H p = some (.dK kvs)) (hk : kvs.map (·.1) = ks.map Sum.inr) (hz : ks.length < 64) (h : ∀ ys : List Str, ys.Perm ks → sortedS ys = true → New (.lst (ys.map V.str)) Q H) : rSortD [.ref p] H Q := ⟨p, kvs, ks, rfl, .inl hp, hk, hz, fun ys q pe so hn => h ys pe so q hn⟩
end
/-! ### more of the frame -/
theorem HS.set1 {S : List Addr} {B0 H0 B H : Hp} {p q : Addr} {o u u' : HO} {M : List (Addr × HO)} (h : HS S B0 H0 B H ((p, o) :: (q, u) :: M)) : HS S B0 H0 B (upd H q u') ((p, o) :: (q, u') :: M) := h.swap.set0.swap
theorem HS.perm {S : List Addr} {B0 H0 B H : Hp} {M M' : List (Addr × HO)} (h : HS S B0 H0 B H M) (p : M.Perm M') : HS S B0 H0 B H M' :=
  ⟨h.bb, h.bh, h.fr, fun q m => h.mu q (p.mem_iff.mpr m), (p.map (·.1)).nodup_iff.mp h.nd⟩
/-- what is new stands still from now on, with what it names -/
theorem HS.still {S : List Addr} {B0 H0 B H : Hp} {p : Addr} {o : HO} {M : List (Addr × HO)} (h : HS S B0 H0 B H ((p, o) :: M)) (hp : p ∉ S) : HS S B0 H0 (upd B p o) H M ∧ Same B (upd B p o) :=
  h.freeze ((h.mu (p, o) List.mem_cons_self).2.2.resolve_right hp)
/-! ### dict comprehensions -/
abbrev CompD (J : It) (g : TG) (tt : TT) (tk tv : TE) (vs : List Nat) (σ : L2.St) (D : Addr) (H1 : Hp) (Q : VK) : Prop := ∃ W : Nat → Nat → Hp → Prop, (∃ m, W 0 m (upd H1 D (.dK []))) ∧ ∀ i m H, W i m H →
  (J.stop i H ∧ Q (.ref D) H) ∨ (J.go i H ∧ ∃ Nx : Hp → Prop, (∀ H', Nx H' → ∃ m', m' < m ∧ W (i + 1) m' H') ∧ ∀ x H', J.yld i H x H' → g x (wipe σ vs) H' fun σ2 H2 => wipe σ2 vs = wipe σ vs ∧ tt σ2 H2 fun b H3 =>
    if b = true then tk σ2 H3 fun y H4 => tv σ2 H4 fun z H5 => ∃ kvs k, y = kV k ∧ H5 D = some (.dK kvs) ∧ kvs.length < sizeLine ∧ Nx (upd H5 D (.dK (putK kvs k z))) else Nx H3)
theorem x_dc {wi : TI} {g : TG} {tt : TT} {tk tv : TE} {vs : List Nat} {σ : L2.St} {H : Hp} {Q : VK} (h : wi σ H fun J H1 => ∀ D, H1 D = none → CompD J g tt tk tv vs σ D H1 Q) : tDc wi g tt tk tv vs σ H Q := h
def DI {α : Type} (S : List Addr) (B0 H0 B : Hp) (Mf : α → List (Addr × HO)) (D : Addr) (P : Nat → α → List (Key × V) → Hp → Prop) (i : Nat) (H : Hp) : Prop :=
  ∃ s acc B1, Same B B1 ∧ HS S B0 H0 B1 H ((D, .dK acc) :: Mf s) ∧ acc.length ≤ i ∧ P i s acc B1
theorem putK_len {κ : Type} [DecidableEq κ] (kvs : List (κ × V)) (k : κ) (v : V) : (putK kvs k v).length ≤ kvs.length + 1 := by
  unfold putK
  split
  · rw [List.length_map]; omega
  · simp
section
variable {α : Type} {K : PySem.W.Frag} {S : List Addr} {B0 H0 B : Hp} {Mf : α → List (Addr × HO)} {P : Nat → α → List (Key × V) → Hp → Prop} {a D : Addr} {xs : List V} {g : TG} {tt : TT} {tk tv : TE} {vs : List Nat} {σ : L2.St} {H1 : Hp} {Q : VK} {s0 : α}
theorem d_keep {B2 H4 : Hp} {i : Nat} {s : α} {acc : List (Key × V)} {x : Str} {y : V} (sb : Same B B2) (hs : HS S B0 H0 B2 H4 ((D, .dK acc) :: Mf s)) (hi : acc.length ≤ i) (hz : i < 1000000) (p : P (i + 1) s (putK acc (.inr x) y) B2) :
    ∃ kvs k, V.str x = kV k ∧ H4 D = some (.dK kvs) ∧ kvs.length < sizeLine ∧ DI S B0 H0 B Mf D P (i + 1) (upd H4 D (.dK (putK kvs k y))) :=
  ⟨acc, .inr x, rfl, hs.get List.mem_cons_self, small_lt (by omega), s, putK acc (.inr x) y, B2, sb, hs.set0, Nat.le_trans (putK_len _ _ _) (by omega), p⟩
theorem d_it {J : It} {n : Nat} {G : Hp → Prop} {Y : Nat → Hp → V → Hp → Prop} (w : Walk J n G Y) (hs : HS S B0 H0 B H1 (Mf s0)) (hD : H1 D = none) (h0 : P 0 s0 [] B) (hG : ∀ B1 H' M, Same B B1 → HS S B0 H0 B1 H' M → G H')
    (hb : ∀ i x s acc B1 H' H2, i < n → acc.length ≤ i → Same B B1 → HS S B0 H0 B1 H' ((D, .dK acc) :: Mf s) → P i s acc B1 → Y i H' x H2 → g x (wipe σ vs) H2 fun σ2 H2 => wipe σ2 vs = wipe σ vs ∧ tt σ2 H2 fun b H3 =>
      if b = true then tk σ2 H3 fun y H4 => tv σ2 H4 fun z H5 => ∃ kvs k, y = kV k ∧ H5 D = some (.dK kvs) ∧ kvs.length < sizeLine ∧ DI S B0 H0 B Mf D P (i + 1) (upd H5 D (.dK (putK kvs k z))) else DI S B0 H0 B Mf D P (i + 1) H3)
    (hd : ∀ s acc B1 H', Same B B1 → HS S B0 H0 B1 H' ((D, .dK acc) :: Mf s) → acc.length ≤ n → P n s acc B1 → Q (.ref D) H') : CompD J g tt tk tv vs σ D H1 Q := by
  refine ⟨fun i m H => m = n - i ∧ i ≤ n ∧ DI S B0 H0 B Mf D P i H, ⟨n, by simp, Nat.zero_le _, s0, [], B, Same.refl _, hs.new hD, Nat.le_refl _, h0⟩, ?_⟩
  rintro i m H ⟨rfl, hi, s, acc, B1, sb, hs', hl, p⟩
  by_cases hlt : i < n
  · refine .inr ⟨w.goes i H hlt (hG B1 H _ sb hs'), DI S B0 H0 B Mf D P (i + 1), fun H' p' => ⟨n - (i + 1), by omega, rfl, hlt, p'⟩, fun x H' y => ?_⟩
    exact hb i x s acc B1 H H' hlt hl sb hs' p (w.yields i H x H' hlt (hG B1 H _ sb hs') y)
  · have e : i = n := by omega
    subst e
    exact .inl ⟨w.stops H (hG B1 H _ sb hs'), hd s acc B1 H sb hs' hl p⟩
theorem d_tup (hs : HS S B0 H0 B H1 (Mf s0)) (hD : H1 D = none) (ea : B a = some (.tup xs)) (h0 : P 0 s0 [] B)
    (hb : ∀ i x s acc B1 H', xs[i]? = some x → i < xs.length → acc.length ≤ i → Same B B1 → HS S B0 H0 B1 H' ((D, .dK acc) :: Mf s) → P i s acc B1 → g x (wipe σ vs) H' fun σ2 H2 => wipe σ2 vs = wipe σ vs ∧ tt σ2 H2 fun b H3 =>
      if b = true then tk σ2 H3 fun y H4 => tv σ2 H4 fun z H5 => ∃ kvs k, y = kV k ∧ H5 D = some (.dK kvs) ∧ kvs.length < sizeLine ∧ DI S B0 H0 B Mf D P (i + 1) (upd H5 D (.dK (putK kvs k z))) else DI S B0 H0 B Mf D P (i + 1) H3)
    (hd : ∀ s acc B1 H', Same B B1 → HS S B0 H0 B1 H' ((D, .dK acc) :: Mf s) → acc.length ≤ xs.length → P xs.length s acc B1 → Q (.ref D) H') : CompD (Itt K a) g tt tk tv vs σ D H1 Q :=
  d_it (walk_tup (xs := xs)) hs hD h0 (fun B1 H' M sb h => SqT.of (h.up (sb _ _ ea))) (fun i x s acc B1 H' H2 hi hl sb h p ⟨e1, e2⟩ => by rw [e1]; exact hb i x s acc B1 H' e2 hi hl sb h p) hd
theorem d_list (hs : HS S B0 H0 B H1 (Mf s0)) (hD : H1 D = none) (ea : B a = some (.lst xs)) (h0 : P 0 s0 [] B)
    (hb : ∀ i x s acc B1 H', xs[i]? = some x → i < xs.length → acc.length ≤ i → Same B B1 → HS S B0 H0 B1 H' ((D, .dK acc) :: Mf s) → P i s acc B1 → g x (wipe σ vs) H' fun σ2 H2 => wipe σ2 vs = wipe σ vs ∧ tt σ2 H2 fun b H3 =>
      if b = true then tk σ2 H3 fun y H4 => tv σ2 H4 fun z H5 => ∃ kvs k, y = kV k ∧ H5 D = some (.dK kvs) ∧ kvs.length < sizeLine ∧ DI S B0 H0 B Mf D P (i + 1) (upd H5 D (.dK (putK kvs k z))) else DI S B0 H0 B Mf D P (i + 1) H3)
    (hd : ∀ s acc B1 H', Same B B1 → HS S B0 H0 B1 H' ((D, .dK acc) :: Mf s) → acc.length ≤ xs.length → P xs.length s acc B1 → Q (.ref D) H') : CompD (Itl K a) g tt tk tv vs σ D H1 Q :=
  d_it (walk_list (xs := xs)) hs hD h0 (fun B1 H' M sb h => SqL.of (h.up (sb _ _ ea))) (fun i x s acc B1 H' H2 hi hl sb h p ⟨e1, e2⟩ => by rw [e1]; exact hb i x s acc B1 H' e2 hi hl sb h p) hd
/-- over enumerate(list): a new pair each turn -/
theorem d_enum (hs : HS S B0 H0 B H1 (Mf s0)) (hD : H1 D = none) (ea : B a = some (.lst xs)) (h0 : P 0 s0 [] B) (hm : ∀ i s acc B1 B2, P i s acc B1 → Same B1 B2 → P i s acc B2)
    (hb : ∀ i x s acc T B1 H', xs[i]? = some x → i < xs.length → acc.length ≤ i → Same B B1 → HS S B0 H0 B1 H' ((D, .dK acc) :: Mf s) → P i s acc B1 → B1 T = some (.tup [.int (i : Nat), x]) → g (.ref T) (wipe σ vs) H' fun σ2 H2 => wipe σ2 vs = wipe σ vs ∧ tt σ2 H2 fun b H3 =>
      if b = true then tk σ2 H3 fun y H4 => tv σ2 H4 fun z H5 => ∃ kvs k, y = kV k ∧ H5 D = some (.dK kvs) ∧ kvs.length < sizeLine ∧ DI S B0 H0 B Mf D P (i + 1) (upd H5 D (.dK (putK kvs k z))) else DI S B0 H0 B Mf D P (i + 1) H3)
    (hd : ∀ s acc B1 H', Same B B1 → HS S B0 H0 B1 H' ((D, .dK acc) :: Mf s) → acc.length ≤ xs.length → P xs.length s acc B1 → Q (.ref D) H') : CompD (Ite K a) g tt tk tv vs σ D H1 Q :=
  d_it (walk_enum (xs := xs)) hs hD h0 (fun B1 H' M sb h => SqL.of (h.up (sb _ _ ea))) (fun i v s acc B1 H' H2 hi hl sb h p y => by
    obtain ⟨T, v1, u, rfl, hT, rfl, e1, e2⟩ := y
    cases e1
    exact x_newF (Qp := fun T H2 => g (.ref T) (wipe σ vs) H2 fun σ2 H2 => wipe σ2 vs = wipe σ vs ∧ tt σ2 H2 fun b H3 =>
      if b = true then tk σ2 H3 fun y H4 => tv σ2 H4 fun z H5 => ∃ kvs k, y = kV k ∧ H5 D = some (.dK kvs) ∧ kvs.length < sizeLine ∧ DI S B0 H0 B Mf D P (i + 1) (upd H5 D (.dK (putK kvs k z))) else DI S B0 H0 B Mf D P (i + 1) H3) h
      (fun p' B' H' h1 h2 h3 _ => hb i u s acc p' B' H' e2 hi hl (sb.trans h2) h1 (hm i s acc B1 B' p h2) h3) T hT) hd
end
end Q
namespace Q
open PySem PySem.Spec PyProof.Rows L2
/-! ### rows of texts -/
theorem flat_strs (xs : List Str) : (xs.map V.str).all flatV = true := by
  rw [List.all_eq_true]
  intro v m
  obtain ⟨x, _, rfl⟩ := List.mem_map.mp m
  rfl
theorem inV_strs (x : Str) (xs : List Str) : inV (.str x) (xs.map V.str) = decide (x ∈ xs) := by
  unfold inV
  rw [Bool.eq_iff_iff, List.any_eq_true, decide_eq_true_iff]
  constructor
  · rintro ⟨v, m, e⟩
    obtain ⟨y, my, rfl⟩ := List.mem_map.mp m
    have : y = x := by simpa [eqV] using e
    rw [← this]; exact my
  · intro m
    exact ⟨.str x, List.mem_map.mpr ⟨x, m, rfl⟩, by simp [eqV]⟩
/-- a list or a tuple of texts -/
def Sq (B : Hp) (v : V) (xs : List Str) : Prop := ∃ a, v = .ref a ∧ (B a = some (.lst (xs.map V.str)) ∨ B a = some (.tup (xs.map V.str)))
theorem Sq.mono {B B' : Hp} {v : V} {xs : List Str} (s : Same B B') (h : Sq B v xs) : Sq B' v xs := by
  obtain ⟨a, e, h⟩ := h
  exact ⟨a, e, h.imp (s _ _) (s _ _)⟩
section
variable {K : PySem.W.Frag} {S : List Addr} {B0 H0 B H : Hp} {M : List (Addr × HO)} {Q : VK} {x : Str} {xs : List Str} {p : Addr} {vs : List V} {v : V}
theorem x_inLS (hp : SqL K H p (xs.map V.str)) (h : Q (.bl (decide (x ∈ xs))) H) : rIn K false (.str x) (.ref p) H Q := x_inL hp rfl (flat_strs xs) (by rw [inV_strs]; exact h)
theorem x_inTS (hp : SqT K H p (xs.map V.str)) (h : Q (.bl (decide (x ∈ xs))) H) : rIn K false (.str x) (.ref p) H Q := x_inT hp rfl (flat_strs xs) (by rw [inV_strs]; exact h)
theorem x_ninLS (hp : SqL K H p (xs.map V.str)) (h : Q (.bl (!decide (x ∈ xs))) H) : rIn K true (.str x) (.ref p) H Q := x_ninL hp rfl (flat_strs xs) (by rw [inV_strs]; exact h)
theorem x_ninTS (hp : SqT K H p (xs.map V.str)) (h : Q (.bl (!decide (x ∈ xs))) H) : rIn K true (.str x) (.ref p) H Q := x_ninT hp rfl (flat_strs xs) (by rw [inV_strs]; exact h)
theorem x_inSq (hs : HS S B0 H0 B H M) (q : Sq B v xs) (h : Q (.bl (decide (x ∈ xs))) H) : rIn K false (.str x) v H Q := by
  obtain ⟨a, rfl, e | e⟩ := q
  · exact x_inLS (SqL.of (hs.up e)) h
  · exact x_inTS (SqT.of (hs.up e)) h
theorem x_ninSq (hs : HS S B0 H0 B H M) (q : Sq B v xs) (h : Q (.bl (!decide (x ∈ xs))) H) : rIn K true (.str x) v H Q := by
  obtain ⟨a, rfl, e | e⟩ := q
  · exact x_ninLS (SqL.of (hs.up e)) h
  · exact x_ninTS (SqT.of (hs.up e)) h
theorem x_lenSq (hs : HS S B0 H0 B H M) (q : Sq B v xs) (h : Q (.int (xs.length : Nat)) H) : rLenA K [v] H Q := by
  obtain ⟨a, rfl, e | e⟩ := q
  · exact x_lenL (SqL.of (hs.up e)) (by rw [List.length_map]; exact h)
  · exact x_lenT (SqT.of (hs.up e)) (by rw [List.length_map]; exact h)
end
theorem strs_get {xs : List Str} {i : Nat} {v : V} (h : (xs.map V.str)[i]? = some v) : ∃ x, xs[i]? = some x ∧ v = .str x := by
  rw [List.getElem?_map] at h
  cases e : xs[i]? with
  | none => rw [e] at h; cases h
  | some x => rw [e] at h; exact ⟨x, rfl, (Option.some.inj h).symm⟩
section
variable {α : Type} {K : PySem.W.Frag} {S : List Addr} {B0 H0 B : Hp} {σf : α → L2.St} {Mf : α → List (Addr × HO)} {P : Nat → α → Hp → Prop} {v : V} {xs : List Str} {g : TG} {tb : TS} {De : Ends} {H : Hp} {s0 : α} {te : TE}
/-- for x in a list or a tuple of texts -/
theorem l_sq {σ : L2.St} {tl : TE} (hs : HS S B0 H0 B H (Mf s0)) (q : Sq B v xs) (ev : ∀ Qv : VK, Qv v H → tl (σf s0) H Qv) (h0 : P 0 s0 B)
    (hb : ∀ i x s B1 H1, xs[i]? = some x → Same B B1 → HS S B0 H0 B1 H1 (Mf s) → P i s B1 → g (.str x) (σf s) H1 fun σ2 H2 => tb { De with nx := LI S B0 H0 B σf Mf P (i + 1), ct := LI S B0 H0 B σf Mf P (i + 1), bk := De.nx } σ2 H2)
    (hd : ∀ s B1 H1, Same B B1 → HS S B0 H0 B1 H1 (Mf s) → P xs.length s B1 → De.nx (σf s) H1) : tFor (iSeq K tl) g tb De (σf s0) H := by
  obtain ⟨a, rfl, e | e⟩ := q
  · refine x_for (.inl (x_iList (ev _ ⟨a, rfl, ⟨_, SqL.of (hs.up e)⟩, ?_⟩)))
    refine l_list hs e h0 (fun i y s B1 H1 hi => ?_) fun s B1 H1 sb h p => hd s B1 H1 sb h (by rw [List.length_map] at p; exact p)
    obtain ⟨x, hx, rfl⟩ := strs_get hi
    exact hb i x s B1 H1 hx
  · refine x_for (.inr (x_iTup (ev _ ⟨a, rfl, ⟨_, SqT.of (hs.up e)⟩, ?_⟩)))
    refine l_tup hs e h0 (fun i y s B1 H1 hi => ?_) fun s B1 H1 sb h p => hd s B1 H1 sb h (by rw [List.length_map] at p; exact p)
    obtain ⟨x, hx, rfl⟩ := strs_get hi
    exact hb i x s B1 H1 hx
end
/-! ### dicts by data -/
def dval {α : Type} (ds : List (Key × α)) (k : Key) : Option α := (ds.find? fun kv => decide (kv.1 = k)).map (·.2)
theorem repK_val {K : PySem.W.Frag} {B : Hp} : ∀ {kvs : List (Key × V)} {ds : List (Key × D)}, RepK K B kvs ds → ∀ k, (∃ v d, valV kvs k = some v ∧ dval ds k = some d ∧ Rep K B v d) ∨ (valV kvs k = none ∧ dval ds k = none)
  | _, _, .nil, k => .inr ⟨rfl, rfl⟩
  | _, _, @RepK.cons _ _ k' v vs d ds h r, k => by
    by_cases e : k' = k
    · exact .inl ⟨v, d, valV_pos (p := (k', v)) e, by simp [dval, e], h⟩
    · rcases repK_val r k with ⟨v', d', h1, h2, h3⟩ | ⟨h1, h2⟩
      · exact .inl ⟨v', d', by rw [valV_neg (p := (k', v)) e]; exact h1, by simp only [dval, List.find?_cons, decide_eq_false e]; exact h2, h3⟩
      · exact .inr ⟨by rw [valV_neg (p := (k', v)) e]; exact h1, by simp only [dval, List.find?_cons, decide_eq_false e]; exact h2⟩
theorem repK_some {K : PySem.W.Frag} {B : Hp} {kvs : List (Key × V)} {ds : List (Key × D)} (r : RepK K B kvs ds) (k : Key) : (valV kvs k).isSome = (dval ds k).isSome := by
  rcases repK_val r k with ⟨v, d, h1, h2, _⟩ | ⟨h1, h2⟩ <;> rw [h1, h2] <;> rfl
end Q

set_option Elab.async false
set_option linter.all false
set_option maxRecDepth 100000
set_option maxHeartbeats 4000000
namespace Q
open PySem PySem.Spec PyProof.Rows L2
/-! ### the order of texts -/
def leS (a b : Str) : Bool := !ltCps b.cps.toList a.cps.toList
theorem leS_iff {a b : Str} : leS a b = true ↔ a.cps.toList ≤ b.cps.toList := by
  unfold leS
  rw [ltCps_eq, Bool.not_eq_true', decide_eq_false_iff_not]
  exact Iff.rfl
theorem leS_trans (a b c : Str) (h1 : leS a b = true) (h2 : leS b c = true) : leS a c = true := leS_iff.mpr (List.le_trans (leS_iff.mp h1) (leS_iff.mp h2))
theorem leS_total (a b : Str) : (leS a b || leS b a) = true := by
  rw [Bool.or_eq_true]
  rcases List.le_total a.cps.toList b.cps.toList with h | h
  · exact .inl (leS_iff.mpr h)
  · exact .inr (leS_iff.mpr h)
theorem str_ext {a b : Str} (h : a.cps.toList = b.cps.toList) : a = b := by
  obtain ⟨x⟩ := a
  obtain ⟨y⟩ := b
  have : x = y := by
    have h : x.toList = y.toList := h
    exact Array.toList_inj.mp h
  rw [this]
theorem leS_anti {a b : Str} (h1 : leS a b = true) (h2 : leS b a = true) : a = b := str_ext (List.le_antisymm (leS_iff.mp h1) (leS_iff.mp h2))
theorem leS_refl (a : Str) : leS a a = true := by
  have := leS_total a a
  simpa using this
def ltS (a b : Str) : Prop := a.cps.toList < b.cps.toList
instance (a b : Str) : Decidable (ltS a b) := inferInstanceAs (Decidable (a.cps.toList < b.cps.toList))
theorem not_ltS {a b : Str} : ¬ ltS a b ↔ leS b a = true := by rw [leS_iff]; exact Iff.rfl
theorem ltS_iff {a b : Str} : ltS a b ↔ leS a b = true ∧ a ≠ b := by
  constructor
  · intro h
    refine ⟨?_, fun e => ?_⟩
    · rcases Bool.or_eq_true _ _ ▸ leS_total a b with k | k
      · exact k
      · exact absurd h (not_ltS.mpr k)
    · subst e
      exact not_ltS.mpr (leS_refl a) h
  · rintro ⟨h1, h2⟩
    by_cases h : ltS a b
    · exact h
    · exact absurd (leS_anti h1 (not_ltS.mp h)) h2
theorem rising_pw : ∀ (p : Str) (l : List Str), risingS p l = true → (p :: l).Pairwise (fun a b => leS a b = true)
  | p, [], _ => List.pairwise_singleton _ _
  | p, x :: r, h => by
    have h : (leS p x && risingS x r) = true := h
    obtain ⟨h1, h2⟩ := Bool.and_eq_true_iff.mp h
    have ih := rising_pw x r h2
    rw [List.pairwise_cons] at ih ⊢
    refine ⟨fun y m => ?_, List.pairwise_cons.mpr ih⟩
    rcases List.mem_cons.mp m with rfl | m
    · exact h1
    · exact leS_trans _ _ _ h1 (ih.1 y m)
theorem sorted_pw {l : List Str} (h : sortedS l = true) : l.Pairwise (fun a b => leS a b = true) := by
  cases l with
  | nil => exact List.Pairwise.nil
  | cons x r => exact rising_pw x r h
def sortS (xs : List Str) : List Str := xs.mergeSort leS
theorem sortS_perm (xs : List Str) : (sortS xs).Perm xs := List.mergeSort_perm xs leS
theorem sortS_pw (xs : List Str) : (sortS xs).Pairwise (fun a b => leS a b = true) := List.pairwise_mergeSort leS_trans leS_total xs
theorem sorted_eq {xs ys : List Str} (p : ys.Perm xs) (s : sortedS ys = true) : ys = sortS xs :=
  List.Perm.eq_of_pairwise (fun _ _ _ _ h1 h2 => leS_anti h1 h2) (sorted_pw s) (sortS_pw xs) (p.trans (sortS_perm xs).symm)
theorem pw_eq {xs ys : List Str} (p : ys.Perm xs) (s : ys.Pairwise (fun a b => leS a b = true)) : ys = sortS xs :=
  List.Perm.eq_of_pairwise (fun _ _ _ _ h1 h2 => leS_anti h1 h2) s (sortS_pw xs) (p.trans (sortS_perm xs).symm)
theorem mem_sortS {xs : List Str} {x : Str} : x ∈ sortS xs ↔ x ∈ xs := (sortS_perm xs).mem_iff
theorem sortS_len (xs : List Str) : (sortS xs).length = xs.length := (sortS_perm xs).length_eq
theorem sortS_nodup {xs : List Str} (h : xs.Nodup) : (sortS xs).Nodup := (sortS_perm xs).nodup_iff.mpr h
section
variable {K : PySem.W.Frag} {H : Hp} {Q : VK} {p : Addr} {ss : List Str} {kvs : List (Key × V)}
theorem x_srtT (hp : SqT K H p (ss.map V.str)) (hz : ss.length < 64) (h : New (.lst ((sortS ss).map V.str)) Q H) : rSortT K [.ref p] H Q := x_sortT hp hz fun ys pe so => by rw [sorted_eq pe so]; exact h
theorem x_srtL (hp : SqL K H p (ss.map V.str)) (hz : ss.length < 64) (h : New (.lst ((sortS ss).map V.str)) Q H) : rSortL K [.ref p] H Q := x_sortL hp hz fun ys pe so => by rw [sorted_eq pe so]; exact h
theorem x_srtD (hp : H p = some (.dK kvs)) (hk : kvs.map (·.1) = ss.map Sum.inr) (hz : ss.length < 64) (h : New (.lst ((sortS ss).map V.str)) Q H) : rSortD [.ref p] H Q := x_sortD hp hk hz fun ys pe so => by rw [sorted_eq pe so]; exact h
end
end Q

set_option Elab.async false
set_option linter.all false
set_option maxRecDepth 100000
set_option maxHeartbeats 4000000
namespace Q
open PySem PySem.Spec PyProof.Rows L2
local macro_rules | `(tactic| walk_at "bf") => `(tactic| first | assumption | (refine' bstep (by assumption) ?r; case r => walk_at "bf") | fail)
local macro_rules | `(tactic| walk_at "rp") => `(tactic| first | assumption | exact Rep.int _ | exact Rep.bl _ | exact Rep.non | (refine' Rep.mono (by assumption) ?r; case r => walk_at "rp") | fail)
local macro_rules | `(tactic| walk_at "hf") => `(tactic| first | assumption | exact HS.up (by assumption) (by walk_at "bf") | exact HS.get (by assumption) List.mem_cons_self | exact HS.get (by assumption) (List.mem_cons_of_mem _ List.mem_cons_self) | exact HS.get (by assumption) (List.mem_cons_of_mem _ (List.mem_cons_of_mem _ List.mem_cons_self)) | exact HS.get (by assumption) (List.mem_cons_of_mem _ (List.mem_cons_of_mem _ (List.mem_cons_of_mem _ List.mem_cons_self))) | fail)
local macro_rules | `(tactic| walk_at "sl") => `(tactic| first | assumption | exact SqL.of (by walk_at "hf") | fail)
local macro_rules | `(tactic| walk_at "st") => `(tactic| first | assumption | exact SqT.of (by walk_at "hf") | fail)
local macro_rules | `(tactic| walk_at "sz") => `(tactic| first | assumption | (refine small_le ?_; first | assumption | omega | (simp; done) | (simp; omega)) | fail)
local macro_rules | `(tactic| walk_at "s1") => `(tactic| first
  | (with_reducible refine x_seq ?_)
  | (with_reducible refine x_asg ?_)
  | ((with_reducible refine x_gname ?_); try simp only [List.set_cons_zero, List.set_cons_succ])
  | ((with_reducible refine' x_var ?h ?_); case h => rfl)
  | (with_reducible refine x_c ?_)
  | (with_reducible refine x_op ?_)
  | (with_reducible refine x_ret ?_)
  | (with_reducible refine x_if ?_)
  | (with_reducible refine x_and ?_)
  | (with_reducible refine x_or ?_)
  | (with_reducible refine x_not ?_)
  | (with_reducible refine x_test ?_)
  | (with_reducible refine x_tB ?_)
  | (with_reducible refine x_tr ?_)
  | (with_reducible refine x_cb ?_)
  | (with_reducible refine x_cons ?_)
  | (with_reducible refine x_nil ?_)
  | (with_reducible refine x_exb ?_)
  | (with_reducible refine x_tt _ _ ?_)
  | (with_reducible refine x_ff _ _ ?_)
  | (with_reducible refine x_dget ?_)
  | (with_reducible refine x_din ?_)
  | (with_reducible refine x_dnin ?_)
  | (with_reducible refine x_dputU ?_)
  | (with_reducible refine x_dnew ?_)
  | (with_reducible refine x_bm ?_)
  | (with_reducible refine x_bm0 ?_)
  | (with_reducible refine x_gsub ?_)
  | (with_reducible refine x_fldU ?_)
  | (with_reducible refine x_sfldU ?_)
  | (with_reducible refine x_gcons ?_)
  | (with_reducible refine x_gnil ?_)
  | (with_reducible refine x_rz1 ?_)
  | (with_reducible refine x_rz2 ?_)
  | (with_reducible refine x_tryAs ?_)
  | (with_reducible refine x_tryOnly ?_)
  | (with_reducible refine x_mtU ?_)
  | (with_reducible refine x_mk ?_)
  | (with_reducible refine x_yes ?_)
  | (with_reducible refine x_un ?_)
  | (with_reducible refine x_neg ?_)
  | (with_reducible refine x_iEnum ?_)
  | (with_reducible refine x_iEnumT ?_)
  | (with_reducible refine x_lst ?_)
  | (with_reducible refine x_tup ?_)
  | (with_reducible refine x_dc ?_)
  | ((with_reducible refine' x_dinO ?h ?_); case h => walk_at "hf")
  | ((with_reducible refine' x_newL ?h ?_); case h => first | exact Nat.zero_le _ | (simp; done) | (simp; omega))
  | ((with_reducible refine' x_newT ?h ?_); case h => first | exact Nat.zero_le _ | (simp; done) | (simp; omega))
  | ((with_reducible refine' x_listL ?h ?_); case h => walk_at "sl")
  | ((with_reducible refine' x_listT ?h ?_); case h => walk_at "st")
  | ((with_reducible refine' x_mulI ?h ?_); case h => first | exact .inl ⟨by decide, by decide⟩ | exact .inr ⟨by decide, by decide⟩ | exact .inl ⟨by omega, by omega⟩ | exact .inr ⟨by omega, by omega⟩)
  | ((with_reducible refine' x_divI ?h ?_); case h => first | exact ⟨by decide, by decide⟩ | exact ⟨by omega, by omega⟩)
  | ((with_reducible refine' x_powI ?h ?_); case h => exact ⟨by decide, by decide, by decide⟩)
  | ((with_reducible refine' x_ixL ?h ?h2 ?_); (case h => walk_at "sl"); (case h2 => first | rfl | assumption))
  | ((with_reducible refine' x_ixT ?h ?h2 ?_); (case h => walk_at "st"); (case h2 => first | rfl | assumption))
  | (with_reducible refine x_m1s ?_)
  | (with_reducible refine x_str1 ?_)
  | (with_reducible refine x_sl ?_)
  | (with_reducible refine x_noPart ?_)
  | (with_reducible refine x_part ?_)
  | (with_reducible refine x_exi ?_)
  | ((with_reducible refine' x_slS ?h ?_); case h => walk_at "sz")
  | ((with_reducible refine' x_slL ?h ?_); case h => walk_at "sl")
  | (with_reducible refine x_pairsC ?_)
  | (with_reducible refine x_pairsN ?_)
  | ((with_reducible refine' x_dgS ?h ?h2 ?_); (case h => walk_at "hf"); (case h2 => assumption))
  | ((with_reducible refine' x_srtT ?h ?h2 ?_); (case h => walk_at "st"); (case h2 => omega))
  | ((with_reducible refine' x_srtL ?h ?h2 ?_); (case h => walk_at "sl"); (case h2 => omega))
  | ((with_reducible refine' x_inLS ?h ?_); case h => walk_at "sl")
  | ((with_reducible refine' x_inTS ?h ?_); case h => walk_at "st")
  | ((with_reducible refine' x_ninLS ?h ?_); case h => walk_at "sl")
  | ((with_reducible refine' x_ninTS ?h ?_); case h => walk_at "st")
  | ((with_reducible refine' x_tyL ?h ?_); case h => walk_at "sl")
  | ((with_reducible refine' x_gtup ?h ?h2 ?_); (case h => walk_at "st"); (case h2 => rfl))
  | (with_reducible refine x_next ?_)
  | (with_reducible refine x_for ?_)
  | (with_reducible refine x_iList ?_)
  | (with_reducible refine x_iTup ?_)
  | (with_reducible refine x_iStr ?_)
  | (with_reducible refine x_iRng1 ?_)
  | (with_reducible refine x_iRng2 ?_)
  | (with_reducible refine x_lc ?_)
  | (with_reducible refine x_drop ?_)
  | (with_reducible refine x_retN ?_)
  | (with_reducible refine x_cont ?_)
  | (with_reducible refine x_break ?_)
  | (with_reducible refine x_cl ?_)
  | (with_reducible refine x_isN ?_)
  | (with_reducible refine x_notN ?_)
  | (with_reducible refine x_andV ?_)
  | (with_reducible refine x_orV ?_)
  | (with_reducible refine x_notV ?_)
  | (with_reducible refine x_ifE ?_)
  | (with_reducible refine x_addI ?_)
  | (with_reducible refine x_subI ?_)
  | (with_reducible refine x_ltI ?_)
  | (with_reducible refine x_leI ?_)
  | (with_reducible refine x_gtI ?_)
  | (with_reducible refine x_geI ?_)
  | (with_reducible refine x_ltS ?_)
  | (with_reducible refine x_abs ?_)
  | (with_reducible refine x_min2 ?_)
  | (with_reducible refine x_max2 ?_)
  | (with_reducible refine x_int1 ?_)
  | (with_reducible refine x_notInS ?_)
  | ((with_reducible refine' x_eq ?h ?_); case h => rfl)
  | ((with_reducible refine' x_ne ?h ?_); case h => rfl)
  | ((with_reducible refine' x_modI ?h ?_); case h => first | decide | omega)
  | ((with_reducible refine' x_isiD ?h1 ?h2 ?h3 ?_); (case h1 => assumption); (case h2 => walk_at "rp"); (case h3 => decide))
  | ((with_reducible refine' x_lenS ?h ?_); case h => walk_at "sz")
  | ((with_reducible refine' x_lenL ?h ?_); case h => walk_at "sl")
  | ((with_reducible refine' x_lenT ?h ?_); case h => walk_at "st")
  | ((with_reducible refine' x_lenD ?h ?_); case h => walk_at "hf")
  | fail)
local macro_rules | `(tactic| walk_at "sx") => `(tactic| repeat walk_at "s1")
/-! ### names -/
abbrev letters : Str := "abcdefghijklmnopqrstuvwxyz"
def okName (x : Str) : Bool := decide (1 ≤ x.length) && (decide (x.length ≤ 8) && x.cps.toList.all fun c => decide (c ∈ letters.cps.toList))
def isName : D → Bool
  | .str x => okName x
  | _ => false
abbrev N_is_name : List Str := ["value", "letter"]
def t_is_name (K : PySem.W.Frag) (E : XK) : TS := (tSeq (tIfS (tOr (tNot (tB (tCB (rIsi K) (tCons (tVar 0) (tCons (tC (.ty "str")) tNil))))) (tOr (tTest (tOp rLtI (tCB (rLenA K) (tCons (tVar 0) tNil)) (tC (.int 1)))) (tTest (tOp rGtI (tCB (rLenA K) (tCons (tVar 0) tNil)) (tC (.int 8)))))) (tRet (tC (.bl false))) tNext)
  (tSeq (tFor (iStr (tVar 0)) (gName 1) (tIfS (tTest (tOp rNotInS (tVar 1) (tC (.str "abcdefghijklmnopqrstuvwxyz")))) (tRet (tC (.bl false))) tNext))
  (tRet (tC (.bl true)))))
def sp_is_name (K : PySem.W.Frag) : Sp := fun vs H Q E => ∃ v B d, vs = [v] ∧ Same B H ∧ Rep K B v d ∧ Ret B H Q fun _ r => r = .bl (isName d)
theorem pure_is_name {K : PySem.W.Frag} {vs : List V} {H : Hp} {Q : VK} {E : XK} (h : sp_is_name K vs H Q E) : t_is_name K E { nx := fun _ H' => Q .non H', rt := Q } (start N_is_name vs) H := by
  obtain ⟨v, B, d, rfl, sB, r, k⟩ := h
  have hs := HS.start sB
  show t_is_name K E _ [some v, none] H
  unfold t_is_name
  walk_at "sx"
  cases r with
  | str hx =>
    rename_i x
    refine x_ite (fun h => by simp [D.isT] at h) (fun _ => ?_)
    walk_at "sx"
    refine x_ite (fun h => ?_) (fun h1 => ?_)
    · walk_at "sx"
      refine k B H _ hs (congrArg V.bl ?_)
      have h := of_decide_eq_true h
      have : ¬ 1 ≤ x.length := by omega
      simp only [isName, okName, decide_eq_false this, Bool.false_and]
    walk_at "sx"
    refine x_ite (fun h => ?_) (fun h2 => ?_)
    · walk_at "sx"
      refine k B H _ hs (congrArg V.bl ?_)
      have h := of_decide_eq_true h
      have : ¬ x.length ≤ 8 := by omega
      simp only [isName, okName, decide_eq_false this, Bool.false_and, Bool.and_false]
    have h1 : 1 ≤ x.length := by have := of_decide_eq_false h1; omega
    have h2 : x.length ≤ 8 := by have := of_decide_eq_false h2; omega
    walk_at "sx"
    refine ⟨x, rfl, ?_⟩
    refine l_str (α := Option V) (σf := fun u => [some (.str x), u]) (Mf := fun _ => []) (P := fun i _ _ => ∀ c ∈ x.cps.toList.take i, c ∈ letters.cps.toList) (s0 := none) hs (by simp) (fun i c s B1 H1 hi sb hs1 p => ?_) (fun s B1 H1 sb hs1 p => ?_)
    · walk_at "sx"
      refine x_ite (fun h => ?_) (fun h => ?_)
      · walk_at "sx"
        refine k B1 H1 _ (hs.call hs1) (congrArg V.bl ?_)
        have hc : ¬ c ∈ letters.cps.toList := by simpa using h
        have hall : (x.cps.toList.all fun c => decide (c ∈ letters.cps.toList)) = false := by
          rw [List.all_eq_false]
          exact ⟨c, List.mem_of_getElem? hi, by simpa using hc⟩
        simp only [isName, okName, hall, Bool.and_false]
      · walk_at "sx"
        refine ⟨some _, B1, rfl, sb, hs1, fun c' m => ?_⟩
        have hc : c ∈ letters.cps.toList := by simpa using h
        rw [List.take_succ, hi] at m
        rcases List.mem_append.mp m with m | m
        · exact p c' m
        · have : c' = c := by simpa using m
          rw [this]; exact hc
    · walk_at "sx"
      refine k B1 H1 _ (hs.call hs1) (congrArg V.bl ?_)
      rw [List.take_length] at p
      have hall : (x.cps.toList.all fun c => decide (c ∈ letters.cps.toList)) = true := List.all_eq_true.mpr fun c m => decide_eq_true (p c m)
      simp only [isName, okName, decide_eq_true h1, decide_eq_true h2, hall, Bool.and_self]
  | _ =>
    refine x_ite (fun h => ?_) (fun h => by simp [D.isT] at h)
    walk_at "sx"
    exact k B H _ hs rfl
end Q

set_option Elab.async false
set_option linter.all false
set_option maxRecDepth 100000
set_option maxHeartbeats 4000000
namespace Q
open PySem PySem.Spec PyProof.Rows L2
local macro_rules | `(tactic| walk_at "bf") => `(tactic| first | assumption | (refine' bstep (by assumption) ?r; case r => walk_at "bf") | fail)
local macro_rules | `(tactic| walk_at "rp") => `(tactic| first | assumption | exact Rep.int _ | exact Rep.bl _ | exact Rep.non | (refine' Rep.mono (by assumption) ?r; case r => walk_at "rp") | fail)
local macro_rules | `(tactic| walk_at "hf") => `(tactic| first | assumption | exact HS.up (by assumption) (by walk_at "bf") | exact HS.get (by assumption) List.mem_cons_self | exact HS.get (by assumption) (List.mem_cons_of_mem _ List.mem_cons_self) | exact HS.get (by assumption) (List.mem_cons_of_mem _ (List.mem_cons_of_mem _ List.mem_cons_self)) | exact HS.get (by assumption) (List.mem_cons_of_mem _ (List.mem_cons_of_mem _ (List.mem_cons_of_mem _ List.mem_cons_self))) | fail)
local macro_rules | `(tactic| walk_at "sl") => `(tactic| first | assumption | exact SqL.of (by walk_at "hf") | fail)
local macro_rules | `(tactic| walk_at "st") => `(tactic| first | assumption | exact SqT.of (by walk_at "hf") | fail)
local macro_rules | `(tactic| walk_at "sz") => `(tactic| first | assumption | (refine small_le ?_; first | assumption | omega | (simp; done) | (simp; omega)) | fail)
local macro_rules | `(tactic| walk_at "s1") => `(tactic| first
  | (with_reducible refine x_seq ?_)
  | (with_reducible refine x_asg ?_)
  | ((with_reducible refine x_gname ?_); try simp only [List.set_cons_zero, List.set_cons_succ])
  | ((with_reducible refine' x_var ?h ?_); case h => rfl)
  | (with_reducible refine x_c ?_)
  | (with_reducible refine x_op ?_)
  | (with_reducible refine x_ret ?_)
  | (with_reducible refine x_if ?_)
  | (with_reducible refine x_and ?_)
  | (with_reducible refine x_or ?_)
  | (with_reducible refine x_not ?_)
  | (with_reducible refine x_test ?_)
  | (with_reducible refine x_tB ?_)
  | (with_reducible refine x_tr ?_)
  | (with_reducible refine x_cb ?_)
  | (with_reducible refine x_cons ?_)
  | (with_reducible refine x_nil ?_)
  | (with_reducible refine x_exb ?_)
  | (with_reducible refine x_tt _ _ ?_)
  | (with_reducible refine x_ff _ _ ?_)
  | (with_reducible refine x_dget ?_)
  | (with_reducible refine x_din ?_)
  | (with_reducible refine x_dnin ?_)
  | (with_reducible refine x_dputU ?_)
  | (with_reducible refine x_dnew ?_)
  | (with_reducible refine x_bm ?_)
  | (with_reducible refine x_bm0 ?_)
  | (with_reducible refine x_gsub ?_)
  | (with_reducible refine x_fldU ?_)
  | (with_reducible refine x_sfldU ?_)
  | (with_reducible refine x_gcons ?_)
  | (with_reducible refine x_gnil ?_)
  | (with_reducible refine x_rz1 ?_)
  | (with_reducible refine x_rz2 ?_)
  | (with_reducible refine x_tryAs ?_)
  | (with_reducible refine x_tryOnly ?_)
  | (with_reducible refine x_mtU ?_)
  | (with_reducible refine x_mk ?_)
  | (with_reducible refine x_yes ?_)
  | (with_reducible refine x_un ?_)
  | (with_reducible refine x_neg ?_)
  | (with_reducible refine x_iEnum ?_)
  | (with_reducible refine x_iEnumT ?_)
  | (with_reducible refine x_lst ?_)
  | (with_reducible refine x_tup ?_)
  | (with_reducible refine x_dc ?_)
  | ((with_reducible refine' x_dinO ?h ?_); case h => walk_at "hf")
  | ((with_reducible refine' x_newL ?h ?_); case h => first | exact Nat.zero_le _ | (simp; done) | (simp; omega))
  | ((with_reducible refine' x_newT ?h ?_); case h => first | exact Nat.zero_le _ | (simp; done) | (simp; omega))
  | ((with_reducible refine' x_listL ?h ?_); case h => walk_at "sl")
  | ((with_reducible refine' x_listT ?h ?_); case h => walk_at "st")
  | ((with_reducible refine' x_mulI ?h ?_); case h => first | exact .inl ⟨by decide, by decide⟩ | exact .inr ⟨by decide, by decide⟩ | exact .inl ⟨by omega, by omega⟩ | exact .inr ⟨by omega, by omega⟩)
  | ((with_reducible refine' x_divI ?h ?_); case h => first | exact ⟨by decide, by decide⟩ | exact ⟨by omega, by omega⟩)
  | ((with_reducible refine' x_powI ?h ?_); case h => exact ⟨by decide, by decide, by decide⟩)
  | ((with_reducible refine' x_ixL ?h ?h2 ?_); (case h => walk_at "sl"); (case h2 => first | rfl | assumption))
  | ((with_reducible refine' x_ixT ?h ?h2 ?_); (case h => walk_at "st"); (case h2 => first | rfl | assumption))
  | (with_reducible refine x_m1s ?_)
  | (with_reducible refine x_str1 ?_)
  | (with_reducible refine x_sl ?_)
  | (with_reducible refine x_noPart ?_)
  | (with_reducible refine x_part ?_)
  | (with_reducible refine x_exi ?_)
  | ((with_reducible refine' x_slS ?h ?_); case h => walk_at "sz")
  | ((with_reducible refine' x_slL ?h ?_); case h => walk_at "sl")
  | (with_reducible refine x_pairsC ?_)
  | (with_reducible refine x_pairsN ?_)
  | ((with_reducible refine' x_dgS ?h ?h2 ?_); (case h => walk_at "hf"); (case h2 => assumption))
  | ((with_reducible refine' x_srtT ?h ?h2 ?_); (case h => walk_at "st"); (case h2 => omega))
  | ((with_reducible refine' x_srtL ?h ?h2 ?_); (case h => walk_at "sl"); (case h2 => omega))
  | ((with_reducible refine' x_inLS ?h ?_); case h => walk_at "sl")
  | ((with_reducible refine' x_inTS ?h ?_); case h => walk_at "st")
  | ((with_reducible refine' x_ninLS ?h ?_); case h => walk_at "sl")
  | ((with_reducible refine' x_ninTS ?h ?_); case h => walk_at "st")
  | ((with_reducible refine' x_tyL ?h ?_); case h => walk_at "sl")
  | ((with_reducible refine' x_gtup ?h ?h2 ?_); (case h => walk_at "st"); (case h2 => rfl))
  | (with_reducible refine x_next ?_)
  | (with_reducible refine x_for ?_)
  | (with_reducible refine x_iList ?_)
  | (with_reducible refine x_iTup ?_)
  | (with_reducible refine x_iStr ?_)
  | (with_reducible refine x_iRng1 ?_)
  | (with_reducible refine x_iRng2 ?_)
  | (with_reducible refine x_lc ?_)
  | (with_reducible refine x_drop ?_)
  | (with_reducible refine x_retN ?_)
  | (with_reducible refine x_cont ?_)
  | (with_reducible refine x_break ?_)
  | (with_reducible refine x_cl ?_)
  | (with_reducible refine x_isN ?_)
  | (with_reducible refine x_notN ?_)
  | (with_reducible refine x_andV ?_)
  | (with_reducible refine x_orV ?_)
  | (with_reducible refine x_notV ?_)
  | (with_reducible refine x_ifE ?_)
  | (with_reducible refine x_addI ?_)
  | (with_reducible refine x_subI ?_)
  | (with_reducible refine x_ltI ?_)
  | (with_reducible refine x_leI ?_)
  | (with_reducible refine x_gtI ?_)
  | (with_reducible refine x_geI ?_)
  | (with_reducible refine x_ltS ?_)
  | (with_reducible refine x_abs ?_)
  | (with_reducible refine x_min2 ?_)
  | (with_reducible refine x_max2 ?_)
  | (with_reducible refine x_int1 ?_)
  | (with_reducible refine x_notInS ?_)
  | ((with_reducible refine' x_eq ?h ?_); case h => rfl)
  | ((with_reducible refine' x_ne ?h ?_); case h => rfl)
  | ((with_reducible refine' x_modI ?h ?_); case h => first | decide | omega)
  | ((with_reducible refine' x_isiD ?h1 ?h2 ?h3 ?_); (case h1 => assumption); (case h2 => walk_at "rp"); (case h3 => decide))
  | ((with_reducible refine' x_lenS ?h ?_); case h => walk_at "sz")
  | ((with_reducible refine' x_lenL ?h ?_); case h => walk_at "sl")
  | ((with_reducible refine' x_lenT ?h ?_); case h => walk_at "st")
  | ((with_reducible refine' x_lenD ?h ?_); case h => walk_at "hf")
  | fail)
local macro_rules | `(tactic| walk_at "sx") => `(tactic| repeat walk_at "s1")
/-! ### same_keys, fits_wishes -/
def sameKeys (d : D) (xs : List Str) : Bool := match d with
  | .dct ds => decide (ds.length = xs.length) && xs.all fun x => (dval ds (.inr x)).isSome
  | _ => false
abbrev N_same_keys : List Str := ["value", "people", "person"]
def t_same_keys (K : PySem.W.Frag) (E : XK) : TS := (tSeq (tIfS (tOr (tNot (tB (tCB (rIsi K) (tCons (tVar 0) (tCons (tC (.ty "dict")) tNil))))) (tTest (tOp rNe (tCB rLenD (tCons (tVar 0) tNil)) (tCB (rLenA K) (tCons (tVar 1) tNil))))) (tRet (tC (.bl false))) tNext)
  (tSeq (tFor (iSeq K (tVar 1)) (gName 2) (tIfS (tB (tDNotIn (tVar 2) (tVar 0))) (tRet (tC (.bl false))) tNext))
  (tRet (tC (.bl true)))))
def sp_same_keys (K : PySem.W.Frag) : Sp := fun vs H Q E => ∃ v u B d xs, vs = [v, u] ∧ Same B H ∧ Rep K B v d ∧ Sq B u xs ∧ Ret B H Q fun _ r => r = .bl (sameKeys d xs)
theorem pure_same_keys {K : PySem.W.Frag} {vs : List V} {H : Hp} {Q : VK} {E : XK} (h : sp_same_keys K vs H Q E) : t_same_keys K E { nx := fun _ H' => Q .non H', rt := Q } (start N_same_keys vs) H := by
  obtain ⟨v, u, B, d, xs, rfl, sB, r, q, k⟩ := h
  have hs := HS.start sB
  show t_same_keys K E _ [some v, some u, none] H
  unfold t_same_keys
  walk_at "sx"
  cases r with
  | @dct a kvs ds e r =>
    refine x_ite (fun h => by simp [D.isT] at h) (fun _ => ?_)
    walk_at "sx"
    refine x_lenSq hs q ?_
    walk_at "sx"
    have hl := r.length
    refine x_ite (fun h => ?_) (fun h1 => ?_)
    · walk_at "sx"
      refine k B H _ hs (congrArg V.bl ?_)
      have : ¬ ds.length = xs.length := by
        intro z
        rw [hl, z] at h
        simp at h
      simp only [sameKeys, decide_eq_false this, Bool.false_and]
    have h1 : ds.length = xs.length := by
      have h2 := of_decide_eq_true (Bool.not_eq_false' .. ▸ h1)
      injection h2 with h2
      omega
    walk_at "sx"
    refine l_sq (σ := []) (α := Option V) (σf := fun u' => [some (.ref a), some u, u']) (Mf := fun _ => []) (P := fun i _ _ => ∀ x ∈ xs.take i, (dval ds (.inr x)).isSome = true) (s0 := none) hs q (fun Qv z => ⟨u, rfl, z⟩) (by simp) (fun i x s B1 H1 hi sb hs1 p => ?_) (fun s B1 H1 sb hs1 p => ?_)
    · walk_at "sx"
      rw [repK_some r]
      refine x_ite (fun h => ?_) (fun h => ?_)
      · walk_at "sx"
        refine k B1 H1 _ (hs.call hs1) (congrArg V.bl ?_)
        have hall : (xs.all fun x => (dval ds (.inr x)).isSome) = false := by
          rw [List.all_eq_false]
          exact ⟨x, List.mem_of_getElem? hi, by simpa using h⟩
        simp only [sameKeys, hall, Bool.and_false]
      · walk_at "sx"
        refine ⟨some _, B1, rfl, sb, hs1, fun y m => ?_⟩
        rw [List.take_succ, hi] at m
        rcases List.mem_append.mp m with m | m
        · exact p y m
        · have : y = x := by simpa using m
          rw [this]; simpa using h
    · walk_at "sx"
      refine k B1 H1 _ (hs.call hs1) (congrArg V.bl ?_)
      rw [List.take_length] at p
      have hall : (xs.all fun x => (dval ds (.inr x)).isSome) = true := List.all_eq_true.mpr p
      simp only [sameKeys, h1, hall, decide_true, Bool.and_self]
  | _ =>
    refine x_ite (fun h => ?_) (fun h => by simp [D.isT] at h)
    walk_at "sx"
    exact k B H _ hs rfl
/-- a row of different people without the person -/
def fitsGo (xs : List Str) (p : Str) : List Str → List D → Bool
  | _, [] => true
  | seen, .str x :: r => !decide (x = p) && (decide (x ∈ xs) && (!decide (x ∈ seen) && fitsGo xs p (seen ++ [x]) r))
  | _, _ => false
def fitsW (d : D) (xs : List Str) (p : Str) : Bool := match d with
  | .lst ds => fitsGo xs p [] ds
  | _ => false
abbrev N_fits_wishes : List Str := ["value", "people", "person", "seen", "item"]
def t_fits_wishes (K : PySem.W.Frag) (E : XK) : TS := (tSeq (tIfS (tNot (tB (tCB (rIsi K) (tCons (tVar 0) (tCons (tC (.ty "list")) tNil))))) (tRet (tC (.bl false))) tNext)
  (tSeq (tAsg (tLst tNil) (gName 3))
  (tSeq (tFor (iList K (tVar 0)) (gName 4) (tSeq (tIfS (tOr (tNot (tB (tCB (rIsi K) (tCons (tVar 4) (tCons (tC (.ty "str")) tNil))))) (tOr (tTest (tOp rEq (tVar 4) (tVar 2))) (tOr (tTest (tOp (rIn K true) (tVar 4) (tVar 1))) (tTest (tOp (rIn K false) (tVar 4) (tVar 3)))))) (tRet (tC (.bl false))) tNext)
  (tDrop (tBM K "list" rAppend (tVar 3) (tCons (tVar 4) tNil)))))
  (tRet (tC (.bl true))))))
def sp_fits_wishes (K : PySem.W.Frag) : Sp := fun vs H Q E => ∃ v u B d xs p, vs = [v, u, .str p] ∧ Same B H ∧ Rep K B v d ∧ Sq B u xs ∧ Ret B H Q fun _ r => r = .bl (fitsW d xs p)
theorem pure_fits_wishes {K : PySem.W.Frag} {vs : List V} {H : Hp} {Q : VK} {E : XK} (h : sp_fits_wishes K vs H Q E) : t_fits_wishes K E { nx := fun _ H' => Q .non H', rt := Q } (start N_fits_wishes vs) H := by
  obtain ⟨v, u, B, d, xs, p, rfl, sB, r, q, k⟩ := h
  have hs := HS.start sB
  show t_fits_wishes K E _ [some v, some u, some (.str p), none, none] H
  unfold t_fits_wishes
  walk_at "sx"
  cases r with
  | @lst a vs ds e hz r =>
    have hlr := r.length
    refine x_ite (fun h => by simp [D.isT] at h) (fun _ => ?_)
    walk_at "sx"
    refine new_M hs (fun l H1 hs1 _ => ?_)
    walk_at "sx"
    refine ⟨a, rfl, ⟨_, by walk_at "sl"⟩, ?_⟩
    refine l_list (α := List Str × Option V) (σf := fun s => [some (.ref a), some u, some (.str p), some (.ref l), s.2]) (Mf := fun s => [(l, .lst (s.1.map V.str))])
      (P := fun i s _ => s.1.length = i ∧ fitsGo xs p [] ds = fitsGo xs p s.1 (ds.drop i)) (s0 := ([], none)) hs1 e ⟨rfl, rfl⟩ (fun i x s B1 H1 hi sb hs2 pp => ?_) (fun s B1 H1 sb hs2 pp => ?_)
    · obtain ⟨seen, s2⟩ := s
      obtain ⟨hlen, hgo⟩ := pp
      dsimp only at hlen hgo hs2 ⊢
      obtain ⟨d, hd, rd⟩ := r.get hi
      have hdrop : ds.drop i = d :: ds.drop (i + 1) := by
        rw [List.drop_eq_getElem_cons (List.getElem?_eq_some_iff.mp hd).1]
        rw [(List.getElem?_eq_some_iff.mp hd).2]
      have hil : i < ds.length := (List.getElem?_eq_some_iff.mp hd).1
      rw [hdrop] at hgo
      have rd1 := rd.mono sb
      walk_at "sx"
      have fin : ∀ b, fitsGo xs p seen (d :: ds.drop (i + 1)) = false → b = false → Q (.bl b) H1 := fun b e1 e2 => by
        refine k B1 H1 _ (hs.call hs2.all) (congrArg V.bl ?_)
        simp only [fitsW, hgo, e1, e2]
      cases rd with
      | @str x hx =>
        refine x_ite (fun h => by simp [D.isT] at h) (fun _ => ?_)
        walk_at "sx"
        refine x_ite (fun h => ?_) (fun h1 => ?_)
        · walk_at "sx"
          refine fin _ ?_ rfl
          have := of_decide_eq_true h
          injection this with this
          simp [fitsGo, this]
        have h1 : ¬ x = p := fun z => of_decide_eq_false h1 (by rw [z])
        walk_at "sx"
        refine x_ninSq hs2 (q.mono sb) ?_
        walk_at "sx"
        refine x_ite (fun h => ?_) (fun h2 => ?_)
        · walk_at "sx"
          refine fin _ ?_ rfl
          have : ¬ x ∈ xs := by simpa using h
          simp [fitsGo, this]
        have h2 : x ∈ xs := by simpa using h2
        walk_at "sx"
        refine x_ite (fun h => ?_) (fun h3 => ?_)
        · walk_at "sx"
          refine fin _ ?_ rfl
          have : x ∈ seen := by simpa using h
          simp [fitsGo, this]
        have h3 : ¬ x ∈ seen := by simpa using h3
        walk_at "sx"
        refine x_append hs2 (by rw [List.length_map]; omega) (fun H2 hs3 => ?_)
        refine ⟨(seen ++ [x], some _), B1, rfl, sb, by simpa using hs3, by simp [hlen], ?_⟩
        rw [hgo]
        simp [fitsGo, h1, h2, h3]
      | _ =>
        refine x_ite (fun h => ?_) (fun h => by simp [D.isT] at h)
        walk_at "sx"
        exact fin _ rfl rfl
    · walk_at "sx"
      refine k B1 H1 _ (hs.call hs2.all) (congrArg V.bl ?_)
      obtain ⟨hlen, hgo⟩ := pp
      have : ds.drop vs.length = [] := by rw [r.length]; simp
      rw [this] at hgo
      simp only [fitsW, hgo, fitsGo]
  | _ =>
    refine x_ite (fun h => ?_) (fun h => by simp [D.isT] at h)
    walk_at "sx"
    exact k B H _ hs rfl
end Q

set_option Elab.async false
set_option linter.all false
set_option maxRecDepth 100000
set_option maxHeartbeats 4000000
namespace Q
open PySem PySem.Spec PyProof.Rows L2
local macro_rules | `(tactic| walk_at "bf") => `(tactic| first | assumption | (refine' bstep (by assumption) ?r; case r => walk_at "bf") | fail)
local macro_rules | `(tactic| walk_at "rp") => `(tactic| first | assumption | exact Rep.int _ | exact Rep.bl _ | exact Rep.non | (refine' Rep.mono (by assumption) ?r; case r => walk_at "rp") | fail)
local macro_rules | `(tactic| walk_at "hf") => `(tactic| first | assumption | exact HS.up (by assumption) (by walk_at "bf") | exact HS.get (by assumption) List.mem_cons_self | exact HS.get (by assumption) (List.mem_cons_of_mem _ List.mem_cons_self) | exact HS.get (by assumption) (List.mem_cons_of_mem _ (List.mem_cons_of_mem _ List.mem_cons_self)) | exact HS.get (by assumption) (List.mem_cons_of_mem _ (List.mem_cons_of_mem _ (List.mem_cons_of_mem _ List.mem_cons_self))) | fail)
local macro_rules | `(tactic| walk_at "sl") => `(tactic| first | assumption | exact SqL.of (by walk_at "hf") | fail)
local macro_rules | `(tactic| walk_at "st") => `(tactic| first | assumption | exact SqT.of (by walk_at "hf") | fail)
local macro_rules | `(tactic| walk_at "sz") => `(tactic| first | assumption | (refine small_le ?_; first | assumption | omega | (simp; done) | (simp; omega)) | fail)
local macro_rules | `(tactic| walk_at "s1") => `(tactic| first
  | (with_reducible refine x_seq ?_)
  | (with_reducible refine x_asg ?_)
  | ((with_reducible refine x_gname ?_); try simp only [List.set_cons_zero, List.set_cons_succ])
  | ((with_reducible refine' x_var ?h ?_); case h => rfl)
  | (with_reducible refine x_c ?_)
  | (with_reducible refine x_op ?_)
  | (with_reducible refine x_ret ?_)
  | (with_reducible refine x_if ?_)
  | (with_reducible refine x_and ?_)
  | (with_reducible refine x_or ?_)
  | (with_reducible refine x_not ?_)
  | (with_reducible refine x_test ?_)
  | (with_reducible refine x_tB ?_)
  | (with_reducible refine x_tr ?_)
  | (with_reducible refine x_cb ?_)
  | (with_reducible refine x_cons ?_)
  | (with_reducible refine x_nil ?_)
  | (with_reducible refine x_exb ?_)
  | (with_reducible refine x_tt _ _ ?_)
  | (with_reducible refine x_ff _ _ ?_)
  | (with_reducible refine x_dget ?_)
  | (with_reducible refine x_din ?_)
  | (with_reducible refine x_dnin ?_)
  | (with_reducible refine x_dputU ?_)
  | (with_reducible refine x_dnew ?_)
  | (with_reducible refine x_bm ?_)
  | (with_reducible refine x_bm0 ?_)
  | (with_reducible refine x_gsub ?_)
  | (with_reducible refine x_fldU ?_)
  | (with_reducible refine x_sfldU ?_)
  | (with_reducible refine x_gcons ?_)
  | (with_reducible refine x_gnil ?_)
  | (with_reducible refine x_rz1 ?_)
  | (with_reducible refine x_rz2 ?_)
  | (with_reducible refine x_tryAs ?_)
  | (with_reducible refine x_tryOnly ?_)
  | (with_reducible refine x_mtU ?_)
  | (with_reducible refine x_mk ?_)
  | (with_reducible refine x_yes ?_)
  | (with_reducible refine x_un ?_)
  | (with_reducible refine x_neg ?_)
  | (with_reducible refine x_iEnum ?_)
  | (with_reducible refine x_iEnumT ?_)
  | (with_reducible refine x_lst ?_)
  | (with_reducible refine x_tup ?_)
  | (with_reducible refine x_dc ?_)
  | ((with_reducible refine' x_dinO ?h ?_); case h => walk_at "hf")
  | ((with_reducible refine' x_newL ?h ?_); case h => first | exact Nat.zero_le _ | (simp; done) | (simp; omega))
  | ((with_reducible refine' x_newT ?h ?_); case h => first | exact Nat.zero_le _ | (simp; done) | (simp; omega))
  | ((with_reducible refine' x_listL ?h ?_); case h => walk_at "sl")
  | ((with_reducible refine' x_listT ?h ?_); case h => walk_at "st")
  | ((with_reducible refine' x_mulI ?h ?_); case h => first | exact .inl ⟨by decide, by decide⟩ | exact .inr ⟨by decide, by decide⟩ | exact .inl ⟨by omega, by omega⟩ | exact .inr ⟨by omega, by omega⟩)
  | ((with_reducible refine' x_divI ?h ?_); case h => first | exact ⟨by decide, by decide⟩ | exact ⟨by omega, by omega⟩)
  | ((with_reducible refine' x_powI ?h ?_); case h => exact ⟨by decide, by decide, by decide⟩)
  | ((with_reducible refine' x_ixL ?h ?h2 ?_); (case h => walk_at "sl"); (case h2 => first | rfl | assumption))
  | ((with_reducible refine' x_ixT ?h ?h2 ?_); (case h => walk_at "st"); (case h2 => first | rfl | assumption))
  | (with_reducible refine x_m1s ?_)
  | (with_reducible refine x_str1 ?_)
  | (with_reducible refine x_sl ?_)
  | (with_reducible refine x_noPart ?_)
  | (with_reducible refine x_part ?_)
  | (with_reducible refine x_exi ?_)
  | ((with_reducible refine' x_slS ?h ?_); case h => walk_at "sz")
  | ((with_reducible refine' x_slL ?h ?_); case h => walk_at "sl")
  | (with_reducible refine x_pairsC ?_)
  | (with_reducible refine x_pairsN ?_)
  | ((with_reducible refine' x_dgS ?h ?h2 ?_); (case h => walk_at "hf"); (case h2 => assumption))
  | ((with_reducible refine' x_srtT ?h ?h2 ?_); (case h => walk_at "st"); (case h2 => omega))
  | ((with_reducible refine' x_srtL ?h ?h2 ?_); (case h => walk_at "sl"); (case h2 => omega))
  | ((with_reducible refine' x_inLS ?h ?_); case h => walk_at "sl")
  | ((with_reducible refine' x_inTS ?h ?_); case h => walk_at "st")
  | ((with_reducible refine' x_ninLS ?h ?_); case h => walk_at "sl")
  | ((with_reducible refine' x_ninTS ?h ?_); case h => walk_at "st")
  | ((with_reducible refine' x_tyL ?h ?_); case h => walk_at "sl")
  | ((with_reducible refine' x_gtup ?h ?h2 ?_); (case h => walk_at "st"); (case h2 => rfl))
  | (with_reducible refine x_next ?_)
  | (with_reducible refine x_for ?_)
  | (with_reducible refine x_iList ?_)
  | (with_reducible refine x_iTup ?_)
  | (with_reducible refine x_iStr ?_)
  | (with_reducible refine x_iRng1 ?_)
  | (with_reducible refine x_iRng2 ?_)
  | (with_reducible refine x_lc ?_)
  | (with_reducible refine x_drop ?_)
  | (with_reducible refine x_retN ?_)
  | (with_reducible refine x_cont ?_)
  | (with_reducible refine x_break ?_)
  | (with_reducible refine x_cl ?_)
  | (with_reducible refine x_isN ?_)
  | (with_reducible refine x_notN ?_)
  | (with_reducible refine x_andV ?_)
  | (with_reducible refine x_orV ?_)
  | (with_reducible refine x_notV ?_)
  | (with_reducible refine x_ifE ?_)
  | (with_reducible refine x_addI ?_)
  | (with_reducible refine x_subI ?_)
  | (with_reducible refine x_ltI ?_)
  | (with_reducible refine x_leI ?_)
  | (with_reducible refine x_gtI ?_)
  | (with_reducible refine x_geI ?_)
  | (with_reducible refine x_ltS ?_)
  | (with_reducible refine x_abs ?_)
  | (with_reducible refine x_min2 ?_)
  | (with_reducible refine x_max2 ?_)
  | (with_reducible refine x_int1 ?_)
  | (with_reducible refine x_notInS ?_)
  | ((with_reducible refine' x_eq ?h ?_); case h => rfl)
  | ((with_reducible refine' x_ne ?h ?_); case h => rfl)
  | ((with_reducible refine' x_modI ?h ?_); case h => first | decide | omega)
  | ((with_reducible refine' x_isiD ?h1 ?h2 ?h3 ?_); (case h1 => assumption); (case h2 => walk_at "rp"); (case h3 => decide))
  | ((with_reducible refine' x_lenS ?h ?_); case h => walk_at "sz")
  | ((with_reducible refine' x_lenL ?h ?_); case h => walk_at "sl")
  | ((with_reducible refine' x_lenT ?h ?_); case h => walk_at "st")
  | ((with_reducible refine' x_lenD ?h ?_); case h => walk_at "hf")
  | fail)
local macro_rules | `(tactic| walk_at "sx") => `(tactic| repeat walk_at "s1")
/-! ### check_people, check_wishes -/
/-- the first place of an item that is no name or stood before -/
def badAt : Nat → List Str → List D → Option Nat
  | _, _, [] => none
  | i, seen, .str x :: r => if okName x && !decide (x ∈ seen) then badAt (i + 1) (seen ++ [x]) r else some i
  | i, _, _ :: _ => some i
def badPeople : D → Option Int
  | .tup ds => if ds.length ≤ 16 then (badAt 0 [] ds).map fun (n : Nat) => (n : Int) else some (-1)
  | _ => some (-1)
theorem use_is_name {K : PySem.W.Frag} {S : List Addr} {B0 H0 B H : Hp} {M : List (Addr × HO)} {Q : VK} {E : XK} {v : V} {d : D} (hs : HS S B0 H0 B H M) (r : Rep K B v d)
    (k : ∀ B' H', Same B B' → HS S B0 H0 B' H' M → Q (.bl (isName d)) H') : sp_is_name K [v] H Q E := ⟨v, B, d, rfl, hs.bh, r, fun B' H' v' c e => by rw [e]; exact k B' H' c.bb (hs.call c)⟩
theorem use_same_keys {K : PySem.W.Frag} {S : List Addr} {B0 H0 B H : Hp} {M : List (Addr × HO)} {Q : VK} {E : XK} {v u : V} {d : D} {xs : List Str} (hs : HS S B0 H0 B H M) (r : Rep K B v d) (q : Sq B u xs)
    (k : ∀ B' H', Same B B' → HS S B0 H0 B' H' M → Q (.bl (sameKeys d xs)) H') : sp_same_keys K [v, u] H Q E := ⟨v, u, B, d, xs, rfl, hs.bh, r, q, fun B' H' v' c e => by rw [e]; exact k B' H' c.bb (hs.call c)⟩
theorem use_fits_wishes {K : PySem.W.Frag} {S : List Addr} {B0 H0 B H : Hp} {M : List (Addr × HO)} {Q : VK} {E : XK} {v u : V} {d : D} {xs : List Str} {p : Str} (hs : HS S B0 H0 B H M) (r : Rep K B v d) (q : Sq B u xs)
    (k : ∀ B' H', Same B B' → HS S B0 H0 B' H' M → Q (.bl (fitsW d xs p)) H') : sp_fits_wishes K [v, u, .str p] H Q E := ⟨v, u, B, d, xs, p, rfl, hs.bh, r, q, fun B' H' v' c e => by rw [e]; exact k B' H' c.bb (hs.call c)⟩
abbrev N_check_people : List Str := ["people", "seen", "index", "item"]
def t_check_people (K : PySem.W.Frag) (E : XK) : TS := (tSeq (tIfS (tOr (tNot (tB (tCB (rIsi K) (tCons (tVar 0) (tCons (tC (.ty "tuple")) tNil))))) (tTest (tOp rGtI (tCB (rLenA K) (tCons (tVar 0) tNil)) (tC (.int 16))))) (tRz1 (He.ga K "BadPeople") "index" (tUn rNegI (tC (.int 1))) (WE0 E)) tNext)
  (tSeq (tAsg (tLst tNil) (gName 1))
  (tFor (iEnumT K (tCons (tVar 0) tNil)) (gTup K 2 (gCons (gName 2) (gCons (gName 3) gNil))) (tSeq (tIfS (tOr (tNot (tB (tCl (sp_is_name K) (WE0 E) (tCons (tVar 3) tNil)))) (tTest (tOp (rIn K false) (tVar 3) (tVar 1)))) (tRz1 (He.ga K "BadPeople") "index" (tVar 2) (WE0 E)) tNext)
  (tDrop (tBM K "list" rAppend (tVar 1) (tCons (tVar 3) tNil)))))))
def sp_check_people (K : PySem.W.Frag) : Sp := fun vs H Q E => ∃ v B d, vs = [v] ∧ Same B H ∧ Rep K B v d ∧ match badPeople d with
  | none => Ret B H Q fun _ r => r = .non
  | some i => Thr K B H E "BadPeople" [("index", .int i)]
theorem pure_check_people {K : PySem.W.Frag} {vs : List V} {H : Hp} {Q : VK} {E : XK} (h : sp_check_people K vs H Q E) : t_check_people K E { nx := fun _ H' => Q .non H', rt := Q } (start N_check_people vs) H := by
  obtain ⟨v, B, d, rfl, sB, r, k⟩ := h
  have hs := HS.start sB
  show t_check_people K E _ [some v, none, none, none] H
  unfold t_check_people
  walk_at "sx"
  cases r with
  | @tup a vs ds e r =>
    have hl := r.length
    refine x_ite (fun h => by simp [D.isT] at h) (fun _ => ?_)
    walk_at "sx"
    refine x_ite (fun h => ?_) (fun h1 => ?_)
    · walk_at "sx"
      have : ¬ ds.length ≤ 16 := by have := of_decide_eq_true h; omega
      simp only [badPeople, if_neg this] at k
      exact x_thr hs k
    have h1 : ds.length ≤ 16 := by have := of_decide_eq_false h1; omega
    simp only [badPeople, if_pos h1] at k
    walk_at "sx"
    refine new_M hs (fun l H1 hs1 _ => ?_)
    walk_at "sx"
    refine ⟨a, vs, rfl, by walk_at "st", ?_⟩
    refine l_enumT (α := List Str × Option V × Option V) (σf := fun s => [some (.ref a), some (.ref l), s.2.1, s.2.2]) (Mf := fun s => [(l, .lst (s.1.map V.str))])
      (P := fun i s _ => s.1.length = i ∧ badAt 0 [] ds = badAt i s.1 (ds.drop i)) (s0 := ([], none, none)) hs1 e ⟨rfl, rfl⟩ (fun i x s T B1 H1 hi sb hs2 pp hT => ?_) (fun s B1 H1 sb hs2 pp => ?_) (fun _ _ _ _ p _ => p)
    · obtain ⟨seen, s2, s3⟩ := s
      obtain ⟨hlen, hgo⟩ := pp
      dsimp only at hlen hgo hs2 ⊢
      obtain ⟨d, hd, rd⟩ := r.get hi
      have hil : i < ds.length := (List.getElem?_eq_some_iff.mp hd).1
      have hdrop : ds.drop i = d :: ds.drop (i + 1) := by
        rw [List.drop_eq_getElem_cons hil, (List.getElem?_eq_some_iff.mp hd).2]
      rw [hdrop] at hgo
      have rd1 := rd.mono sb
      have fin : ∀ B2 H2, Same B1 B2 → HS [] B H B2 H2 [(l, .lst (seen.map V.str))] → badAt i seen (d :: ds.drop (i + 1)) = some i → Rz (WE0 E) (He.ga K "BadPeople") [("index", .int (i : Nat))] [some (.ref a), some (.ref l), some (.int (i : Nat)), some x] H2 := fun B2 H2 _ h2 e1 => by
        rw [hgo, e1] at k
        exact x_thr h2 k
      walk_at "sx"
      refine use_is_name hs2 rd1 (fun B2 H2 sb2 hs3 => ?_)
      walk_at "sx"
      refine x_ite (fun h => ?_) (fun h => ?_)
      · walk_at "sx"
        refine fin _ _ sb2 hs3 ?_
        have hn : isName d = false := by simpa using h
        cases d with
        | str y =>
          have hn : okName y = false := hn
          simp [badAt, hn]
        | _ => rfl
      have hn : isName d = true := by simpa using h
      cases rd with
      | @str y hy =>
        have hn : okName y = true := hn
        walk_at "sx"
        refine x_ite (fun h => ?_) (fun h => ?_)
        · walk_at "sx"
          refine fin _ _ sb2 hs3 ?_
          have : y ∈ seen := by simpa using h
          simp [badAt, this]
        have h3 : ¬ y ∈ seen := by simpa using h
        walk_at "sx"
        refine x_append hs3 (by rw [List.length_map]; omega) (fun H3 hs4 => ?_)
        refine ⟨(seen ++ [y], some _, some _), B2, rfl, sb.trans sb2, by simpa using hs4, by simp [hlen], ?_⟩
        rw [hgo]
        simp [badAt, hn, h3]
      | _ => cases hn
    · obtain ⟨hlen, hgo⟩ := pp
      have : ds.drop vs.length = [] := by rw [hl]; simp
      rw [hgo, this] at k
      exact k B1 H1 _ (hs.call hs2.all) rfl
  | _ =>
    refine x_ite (fun h => ?_) (fun h => by simp [D.isT] at h)
    walk_at "sx"
    exact x_thr hs k
end Q

set_option Elab.async false
set_option linter.all false
set_option maxRecDepth 100000
set_option maxHeartbeats 4000000
namespace Q
open PySem PySem.Spec PyProof.Rows L2
local macro_rules | `(tactic| walk_at "bf") => `(tactic| first | assumption | (refine' bstep (by assumption) ?r; case r => walk_at "bf") | fail)
local macro_rules | `(tactic| walk_at "rp") => `(tactic| first | assumption | exact Rep.int _ | exact Rep.bl _ | exact Rep.non | (refine' Rep.mono (by assumption) ?r; case r => walk_at "rp") | fail)
local macro_rules | `(tactic| walk_at "hf") => `(tactic| first | assumption | exact HS.up (by assumption) (by walk_at "bf") | exact HS.get (by assumption) List.mem_cons_self | exact HS.get (by assumption) (List.mem_cons_of_mem _ List.mem_cons_self) | exact HS.get (by assumption) (List.mem_cons_of_mem _ (List.mem_cons_of_mem _ List.mem_cons_self)) | exact HS.get (by assumption) (List.mem_cons_of_mem _ (List.mem_cons_of_mem _ (List.mem_cons_of_mem _ List.mem_cons_self))) | fail)
local macro_rules | `(tactic| walk_at "sl") => `(tactic| first | assumption | exact SqL.of (by walk_at "hf") | fail)
local macro_rules | `(tactic| walk_at "st") => `(tactic| first | assumption | exact SqT.of (by walk_at "hf") | fail)
local macro_rules | `(tactic| walk_at "sz") => `(tactic| first | assumption | (refine small_le ?_; first | assumption | omega | (simp; done) | (simp; omega)) | fail)
local macro_rules | `(tactic| walk_at "s1") => `(tactic| first
  | (with_reducible refine x_seq ?_)
  | (with_reducible refine x_asg ?_)
  | ((with_reducible refine x_gname ?_); try simp only [List.set_cons_zero, List.set_cons_succ])
  | ((with_reducible refine' x_var ?h ?_); case h => rfl)
  | (with_reducible refine x_c ?_)
  | (with_reducible refine x_op ?_)
  | (with_reducible refine x_ret ?_)
  | (with_reducible refine x_if ?_)
  | (with_reducible refine x_and ?_)
  | (with_reducible refine x_or ?_)
  | (with_reducible refine x_not ?_)
  | (with_reducible refine x_test ?_)
  | (with_reducible refine x_tB ?_)
  | (with_reducible refine x_tr ?_)
  | (with_reducible refine x_cb ?_)
  | (with_reducible refine x_cons ?_)
  | (with_reducible refine x_nil ?_)
  | (with_reducible refine x_exb ?_)
  | (with_reducible refine x_tt _ _ ?_)
  | (with_reducible refine x_ff _ _ ?_)
  | (with_reducible refine x_dget ?_)
  | (with_reducible refine x_din ?_)
  | (with_reducible refine x_dnin ?_)
  | (with_reducible refine x_dputU ?_)
  | (with_reducible refine x_dnew ?_)
  | (with_reducible refine x_bm ?_)
  | (with_reducible refine x_bm0 ?_)
  | (with_reducible refine x_gsub ?_)
  | (with_reducible refine x_fldU ?_)
  | (with_reducible refine x_sfldU ?_)
  | (with_reducible refine x_gcons ?_)
  | (with_reducible refine x_gnil ?_)
  | (with_reducible refine x_rz1 ?_)
  | (with_reducible refine x_rz2 ?_)
  | (with_reducible refine x_tryAs ?_)
  | (with_reducible refine x_tryOnly ?_)
  | (with_reducible refine x_mtU ?_)
  | (with_reducible refine x_mk ?_)
  | (with_reducible refine x_yes ?_)
  | (with_reducible refine x_un ?_)
  | (with_reducible refine x_neg ?_)
  | (with_reducible refine x_iEnum ?_)
  | (with_reducible refine x_iEnumT ?_)
  | (with_reducible refine x_lst ?_)
  | (with_reducible refine x_tup ?_)
  | (with_reducible refine x_dc ?_)
  | ((with_reducible refine' x_dinO ?h ?_); case h => walk_at "hf")
  | ((with_reducible refine' x_newL ?h ?_); case h => first | exact Nat.zero_le _ | (simp; done) | (simp; omega))
  | ((with_reducible refine' x_newT ?h ?_); case h => first | exact Nat.zero_le _ | (simp; done) | (simp; omega))
  | ((with_reducible refine' x_listL ?h ?_); case h => walk_at "sl")
  | ((with_reducible refine' x_listT ?h ?_); case h => walk_at "st")
  | ((with_reducible refine' x_mulI ?h ?_); case h => first | exact .inl ⟨by decide, by decide⟩ | exact .inr ⟨by decide, by decide⟩ | exact .inl ⟨by omega, by omega⟩ | exact .inr ⟨by omega, by omega⟩)
  | ((with_reducible refine' x_divI ?h ?_); case h => first | exact ⟨by decide, by decide⟩ | exact ⟨by omega, by omega⟩)
  | ((with_reducible refine' x_powI ?h ?_); case h => exact ⟨by decide, by decide, by decide⟩)
  | ((with_reducible refine' x_ixL ?h ?h2 ?_); (case h => walk_at "sl"); (case h2 => first | rfl | assumption))
  | ((with_reducible refine' x_ixT ?h ?h2 ?_); (case h => walk_at "st"); (case h2 => first | rfl | assumption))
  | (with_reducible refine x_m1s ?_)
  | (with_reducible refine x_str1 ?_)
  | (with_reducible refine x_sl ?_)
  | (with_reducible refine x_noPart ?_)
  | (with_reducible refine x_part ?_)
  | (with_reducible refine x_exi ?_)
  | ((with_reducible refine' x_slS ?h ?_); case h => walk_at "sz")
  | ((with_reducible refine' x_slL ?h ?_); case h => walk_at "sl")
  | (with_reducible refine x_pairsC ?_)
  | (with_reducible refine x_pairsN ?_)
  | ((with_reducible refine' x_dgS ?h ?h2 ?_); (case h => walk_at "hf"); (case h2 => assumption))
  | ((with_reducible refine' x_srtT ?h ?h2 ?_); (case h => walk_at "st"); (case h2 => omega))
  | ((with_reducible refine' x_srtL ?h ?h2 ?_); (case h => walk_at "sl"); (case h2 => omega))
  | ((with_reducible refine' x_inLS ?h ?_); case h => walk_at "sl")
  | ((with_reducible refine' x_inTS ?h ?_); case h => walk_at "st")
  | ((with_reducible refine' x_ninLS ?h ?_); case h => walk_at "sl")
  | ((with_reducible refine' x_ninTS ?h ?_); case h => walk_at "st")
  | ((with_reducible refine' x_tyL ?h ?_); case h => walk_at "sl")
  | ((with_reducible refine' x_gtup ?h ?h2 ?_); (case h => walk_at "st"); (case h2 => rfl))
  | (with_reducible refine x_next ?_)
  | (with_reducible refine x_for ?_)
  | (with_reducible refine x_iList ?_)
  | (with_reducible refine x_iTup ?_)
  | (with_reducible refine x_iStr ?_)
  | (with_reducible refine x_iRng1 ?_)
  | (with_reducible refine x_iRng2 ?_)
  | (with_reducible refine x_lc ?_)
  | (with_reducible refine x_drop ?_)
  | (with_reducible refine x_retN ?_)
  | (with_reducible refine x_cont ?_)
  | (with_reducible refine x_break ?_)
  | (with_reducible refine x_cl ?_)
  | (with_reducible refine x_isN ?_)
  | (with_reducible refine x_notN ?_)
  | (with_reducible refine x_andV ?_)
  | (with_reducible refine x_orV ?_)
  | (with_reducible refine x_notV ?_)
  | (with_reducible refine x_ifE ?_)
  | (with_reducible refine x_addI ?_)
  | (with_reducible refine x_subI ?_)
  | (with_reducible refine x_ltI ?_)
  | (with_reducible refine x_leI ?_)
  | (with_reducible refine x_gtI ?_)
  | (with_reducible refine x_geI ?_)
  | (with_reducible refine x_ltS ?_)
  | (with_reducible refine x_abs ?_)
  | (with_reducible refine x_min2 ?_)
  | (with_reducible refine x_max2 ?_)
  | (with_reducible refine x_int1 ?_)
  | (with_reducible refine x_notInS ?_)
  | ((with_reducible refine' x_eq ?h ?_); case h => rfl)
  | ((with_reducible refine' x_ne ?h ?_); case h => rfl)
  | ((with_reducible refine' x_modI ?h ?_); case h => first | decide | omega)
  | ((with_reducible refine' x_isiD ?h1 ?h2 ?h3 ?_); (case h1 => assumption); (case h2 => walk_at "rp"); (case h3 => decide))
  | ((with_reducible refine' x_lenS ?h ?_); case h => walk_at "sz")
  | ((with_reducible refine' x_lenL ?h ?_); case h => walk_at "sl")
  | ((with_reducible refine' x_lenT ?h ?_); case h => walk_at "st")
  | ((with_reducible refine' x_lenD ?h ?_); case h => walk_at "hf")
  | fail)
local macro_rules | `(tactic| walk_at "sx") => `(tactic| repeat walk_at "s1")
/-! ### check_wishes -/
def vald (d : D) (p : Str) : D := match d with
  | .dct ds => (dval ds (.inr p)).getD .non
  | _ => .non
def badWishes (d : D) (xs : List Str) : Option Str := if sameKeys d xs then (sortS xs).find? (fun p => !fitsW (vald d p) xs p) else some ""
theorem sameKeys_dct {d : D} {xs : List Str} (h : sameKeys d xs = true) : ∃ ds, d = .dct ds ∧ ds.length = xs.length ∧ ∀ x ∈ xs, (dval ds (.inr x)).isSome = true := by
  cases d with
  | dct ds =>
    obtain ⟨h1, h2⟩ := Bool.and_eq_true_iff.mp h
    exact ⟨ds, rfl, of_decide_eq_true h1, List.all_eq_true.mp h2⟩
  | _ => cases h
abbrev N_check_wishes : List Str := ["people", "wishes", "person"]
def t_check_wishes (K : PySem.W.Frag) (E : XK) : TS := (tSeq (tIfS (tNot (tB (tCl (sp_same_keys K) (WE0 E) (tCons (tVar 1) (tCons (tVar 0) tNil))))) (tRz1 (He.ga K "BadWishes") "person" (tC (.str "")) (WE0 E)) tNext)
  (tFor (iList K (tCB (rSortT K) (tCons (tVar 0) tNil))) (gName 2) (tIfS (tNot (tB (tCl (sp_fits_wishes K) (WE0 E) (tCons (tDGet (tVar 1) (tVar 2)) (tCons (tVar 0) (tCons (tVar 2) tNil)))))) (tRz1 (He.ga K "BadWishes") "person" (tVar 2) (WE0 E)) tNext)))
def sp_check_wishes (K : PySem.W.Frag) : Sp := fun vs H Q E => ∃ a u B d xs, vs = [.ref a, u] ∧ Same B H ∧ B a = some (.tup (xs.map V.str)) ∧ xs.length ≤ 16 ∧ Rep K B u d ∧ match badWishes d xs with
  | none => Ret B H Q fun _ r => r = .non
  | some p => Thr K B H E "BadWishes" [("person", .str p)]
theorem pure_check_wishes {K : PySem.W.Frag} {vs : List V} {H : Hp} {Q : VK} {E : XK} (h : sp_check_wishes K vs H Q E) : t_check_wishes K E { nx := fun _ H' => Q .non H', rt := Q } (start N_check_wishes vs) H := by
  obtain ⟨a, u, B, d, xs, rfl, sB, ea, hz, r, k⟩ := h
  have hs := HS.start sB
  show t_check_wishes K E _ [some (.ref a), some u, none] H
  unfold t_check_wishes
  walk_at "sx"
  refine use_same_keys hs r ⟨a, rfl, .inr ea⟩ (fun B1 H1 sb1 hs1 => ?_)
  walk_at "sx"
  refine x_ite (fun h => ?_) (fun h => ?_)
  · walk_at "sx"
    have h : sameKeys d xs = false := by simpa using h
    simp only [badWishes, h, Bool.false_eq_true, if_false] at k
    exact x_thr hs1 k
  have h : sameKeys d xs = true := by simpa using h
  obtain ⟨ds, rfl, _, hsome⟩ := sameKeys_dct h
  simp only [badWishes, h, if_true] at k
  walk_at "sx"
  refine new_F hs1 (fun l B2 H2 hs2 sb2 el _ => ?_)
  refine ⟨l, rfl, ⟨_, by walk_at "sl"⟩, ?_⟩
  refine l_list (α := Option V) (σf := fun s => [some (.ref a), some u, s]) (Mf := fun _ => [])
      (P := fun i s _ => (sortS xs).find? (fun p => !fitsW (vald (.dct ds) p) xs p) = ((sortS xs).drop i).find? (fun p => !fitsW (vald (.dct ds) p) xs p)) (s0 := none) hs2 el rfl (fun i x s B3 H3 hi sb3 hs3 pp => ?_) (fun s B3 H3 sb3 hs3 pp => ?_)
  · obtain ⟨x, hx, rfl⟩ := strs_get hi
    have hmem : x ∈ xs := mem_sortS.mp (List.mem_of_getElem? hx)
    have hdrop : (sortS xs).drop i = x :: (sortS xs).drop (i + 1) := by
      rw [List.drop_eq_getElem_cons (List.getElem?_eq_some_iff.mp hx).1, (List.getElem?_eq_some_iff.mp hx).2]
    rw [hdrop, List.find?_cons] at pp
    cases r with
    | @dct aw kvs _ ew rk =>
      obtain ⟨v, dv, hv, hdv, rv⟩ : ∃ v dv, valV kvs (.inr x) = some v ∧ dval ds (.inr x) = some dv ∧ Rep K B v dv := by
        rcases repK_val rk (.inr x) with z | ⟨_, z⟩
        · exact z
        · have := hsome x hmem
          rw [z] at this; cases this
      have hval : vald (.dct ds) x = dv := by simp only [vald, hdv, Option.getD_some]
      walk_at "sx"
      refine use_fits_wishes hs3 (by walk_at "rp") ⟨a, rfl, .inr (by walk_at "bf")⟩ (fun B4 H4 sb4 hs4 => ?_)
      walk_at "sx"
      refine x_ite (fun h => ?_) (fun h => ?_)
      · walk_at "sx"
        rw [hval, h] at pp
        rw [pp] at k
        exact x_thr hs4 k
      · walk_at "sx"
        rw [hval, h] at pp
        exact ⟨some _, B4, rfl, sb3.trans sb4, hs4, pp⟩
  · rw [List.length_map, List.drop_length] at pp
    rw [pp] at k
    exact k B3 H3 _ (hs.call hs3) rfl
theorem use_check_people {K : PySem.W.Frag} {S : List Addr} {B0 H0 B H : Hp} {M : List (Addr × HO)} {Q : VK} {E : XK} {v : V} {d : D} (hs : HS S B0 H0 B H M) (r : Rep K B v d)
    (k : badPeople d = none → ∀ B' H', Same B B' → HS S B0 H0 B' H' M → Q .non H')
    (ke : ∀ i, badPeople d = some i → Thr K B H E "BadPeople" [("index", .int i)]) : sp_check_people K [v] H Q E := ⟨v, B, d, rfl, hs.bh, r, by
  cases e : badPeople d with
  | none => exact fun B' H' v' c e' => by rw [e']; exact k e B' H' c.bb (hs.call c)
  | some i => exact ke i e⟩
theorem use_check_wishes {K : PySem.W.Frag} {S : List Addr} {B0 H0 B H : Hp} {M : List (Addr × HO)} {Q : VK} {E : XK} {a : Addr} {u : V} {d : D} {xs : List Str} (hs : HS S B0 H0 B H M) (ea : B a = some (.tup (xs.map V.str))) (hz : xs.length ≤ 16) (r : Rep K B u d)
    (k : badWishes d xs = none → ∀ B' H', Same B B' → HS S B0 H0 B' H' M → Q .non H')
    (ke : ∀ p, badWishes d xs = some p → Thr K B H E "BadWishes" [("person", .str p)]) : sp_check_wishes K [.ref a, u] H Q E := ⟨a, u, B, d, xs, rfl, hs.bh, ea, hz, r, by
  cases e : badWishes d xs with
  | none => exact fun B' H' v' c e' => by rw [e']; exact k e B' H' c.bb (hs.call c)
  | some i => exact ke i e⟩
end Q

set_option Elab.async false
set_option linter.all false
set_option maxRecDepth 100000
set_option maxHeartbeats 4000000
namespace Q
open PySem PySem.Spec PyProof.Rows L2
local macro_rules | `(tactic| walk_at "bf") => `(tactic| first | assumption | (refine' bstep (by assumption) ?r; case r => walk_at "bf") | fail)
local macro_rules | `(tactic| walk_at "rp") => `(tactic| first | assumption | exact Rep.int _ | exact Rep.bl _ | exact Rep.non | (refine' Rep.mono (by assumption) ?r; case r => walk_at "rp") | fail)
local macro_rules | `(tactic| walk_at "hf") => `(tactic| first | assumption | exact HS.up (by assumption) (by walk_at "bf") | exact HS.get (by assumption) List.mem_cons_self | exact HS.get (by assumption) (List.mem_cons_of_mem _ List.mem_cons_self) | exact HS.get (by assumption) (List.mem_cons_of_mem _ (List.mem_cons_of_mem _ List.mem_cons_self)) | exact HS.get (by assumption) (List.mem_cons_of_mem _ (List.mem_cons_of_mem _ (List.mem_cons_of_mem _ List.mem_cons_self))) | fail)
local macro_rules | `(tactic| walk_at "sl") => `(tactic| first | assumption | exact SqL.of (by walk_at "hf") | fail)
local macro_rules | `(tactic| walk_at "st") => `(tactic| first | assumption | exact SqT.of (by walk_at "hf") | fail)
local macro_rules | `(tactic| walk_at "sz") => `(tactic| first | assumption | (refine small_le ?_; first | assumption | omega | (simp; done) | (simp; omega)) | fail)
local macro_rules | `(tactic| walk_at "s1") => `(tactic| first
  | (with_reducible refine x_seq ?_)
  | (with_reducible refine x_asg ?_)
  | ((with_reducible refine x_gname ?_); try simp only [List.set_cons_zero, List.set_cons_succ])
  | ((with_reducible refine' x_var ?h ?_); case h => rfl)
  | (with_reducible refine x_c ?_)
  | (with_reducible refine x_op ?_)
  | (with_reducible refine x_ret ?_)
  | (with_reducible refine x_if ?_)
  | (with_reducible refine x_and ?_)
  | (with_reducible refine x_or ?_)
  | (with_reducible refine x_not ?_)
  | (with_reducible refine x_test ?_)
  | (with_reducible refine x_tB ?_)
  | (with_reducible refine x_tr ?_)
  | (with_reducible refine x_cb ?_)
  | (with_reducible refine x_cons ?_)
  | (with_reducible refine x_nil ?_)
  | (with_reducible refine x_exb ?_)
  | (with_reducible refine x_tt _ _ ?_)
  | (with_reducible refine x_ff _ _ ?_)
  | (with_reducible refine x_dget ?_)
  | (with_reducible refine x_din ?_)
  | (with_reducible refine x_dnin ?_)
  | (with_reducible refine x_dputU ?_)
  | (with_reducible refine x_dnew ?_)
  | (with_reducible refine x_bm ?_)
  | (with_reducible refine x_bm0 ?_)
  | (with_reducible refine x_gsub ?_)
  | (with_reducible refine x_fldU ?_)
  | (with_reducible refine x_sfldU ?_)
  | (with_reducible refine x_gcons ?_)
  | (with_reducible refine x_gnil ?_)
  | (with_reducible refine x_rz1 ?_)
  | (with_reducible refine x_rz2 ?_)
  | (with_reducible refine x_tryAs ?_)
  | (with_reducible refine x_tryOnly ?_)
  | (with_reducible refine x_mtU ?_)
  | (with_reducible refine x_mk ?_)
  | (with_reducible refine x_yes ?_)
  | (with_reducible refine x_un ?_)
  | (with_reducible refine x_neg ?_)
  | (with_reducible refine x_iEnum ?_)
  | (with_reducible refine x_iEnumT ?_)
  | (with_reducible refine x_lst ?_)
  | (with_reducible refine x_tup ?_)
  | (with_reducible refine x_dc ?_)
  | ((with_reducible refine' x_dinO ?h ?_); case h => walk_at "hf")
  | ((with_reducible refine' x_newL ?h ?_); case h => first | exact Nat.zero_le _ | (simp; done) | (simp; omega))
  | ((with_reducible refine' x_newT ?h ?_); case h => first | exact Nat.zero_le _ | (simp; done) | (simp; omega))
  | ((with_reducible refine' x_listL ?h ?_); case h => walk_at "sl")
  | ((with_reducible refine' x_listT ?h ?_); case h => walk_at "st")
  | ((with_reducible refine' x_mulI ?h ?_); case h => first | exact .inl ⟨by decide, by decide⟩ | exact .inr ⟨by decide, by decide⟩ | exact .inl ⟨by omega, by omega⟩ | exact .inr ⟨by omega, by omega⟩)
  | ((with_reducible refine' x_divI ?h ?_); case h => first | exact ⟨by decide, by decide⟩ | exact ⟨by omega, by omega⟩)
  | ((with_reducible refine' x_powI ?h ?_); case h => exact ⟨by decide, by decide, by decide⟩)
  | ((with_reducible refine' x_ixL ?h ?h2 ?_); (case h => walk_at "sl"); (case h2 => first | rfl | assumption))
  | ((with_reducible refine' x_ixT ?h ?h2 ?_); (case h => walk_at "st"); (case h2 => first | rfl | assumption))
  | (with_reducible refine x_m1s ?_)
  | (with_reducible refine x_str1 ?_)
  | (with_reducible refine x_sl ?_)
  | (with_reducible refine x_noPart ?_)
  | (with_reducible refine x_part ?_)
  | (with_reducible refine x_exi ?_)
  | ((with_reducible refine' x_slS ?h ?_); case h => walk_at "sz")
  | ((with_reducible refine' x_slL ?h ?_); case h => walk_at "sl")
  | (with_reducible refine x_pairsC ?_)
  | (with_reducible refine x_pairsN ?_)
  | ((with_reducible refine' x_dgS ?h ?h2 ?_); (case h => walk_at "hf"); (case h2 => assumption))
  | ((with_reducible refine' x_srtT ?h ?h2 ?_); (case h => walk_at "st"); (case h2 => omega))
  | ((with_reducible refine' x_srtL ?h ?h2 ?_); (case h => walk_at "sl"); (case h2 => omega))
  | ((with_reducible refine' x_inLS ?h ?_); case h => walk_at "sl")
  | ((with_reducible refine' x_inTS ?h ?_); case h => walk_at "st")
  | ((with_reducible refine' x_ninLS ?h ?_); case h => walk_at "sl")
  | ((with_reducible refine' x_ninTS ?h ?_); case h => walk_at "st")
  | ((with_reducible refine' x_tyL ?h ?_); case h => walk_at "sl")
  | ((with_reducible refine' x_gtup ?h ?h2 ?_); (case h => walk_at "st"); (case h2 => rfl))
  | (with_reducible refine x_next ?_)
  | (with_reducible refine x_for ?_)
  | (with_reducible refine x_iList ?_)
  | (with_reducible refine x_iTup ?_)
  | (with_reducible refine x_iStr ?_)
  | (with_reducible refine x_iRng1 ?_)
  | (with_reducible refine x_iRng2 ?_)
  | (with_reducible refine x_lc ?_)
  | (with_reducible refine x_drop ?_)
  | (with_reducible refine x_retN ?_)
  | (with_reducible refine x_cont ?_)
  | (with_reducible refine x_break ?_)
  | (with_reducible refine x_cl ?_)
  | (with_reducible refine x_isN ?_)
  | (with_reducible refine x_notN ?_)
  | (with_reducible refine x_andV ?_)
  | (with_reducible refine x_orV ?_)
  | (with_reducible refine x_notV ?_)
  | (with_reducible refine x_ifE ?_)
  | (with_reducible refine x_addI ?_)
  | (with_reducible refine x_subI ?_)
  | (with_reducible refine x_ltI ?_)
  | (with_reducible refine x_leI ?_)
  | (with_reducible refine x_gtI ?_)
  | (with_reducible refine x_geI ?_)
  | (with_reducible refine x_ltS ?_)
  | (with_reducible refine x_abs ?_)
  | (with_reducible refine x_min2 ?_)
  | (with_reducible refine x_max2 ?_)
  | (with_reducible refine x_int1 ?_)
  | (with_reducible refine x_notInS ?_)
  | ((with_reducible refine' x_eq ?h ?_); case h => rfl)
  | ((with_reducible refine' x_ne ?h ?_); case h => rfl)
  | ((with_reducible refine' x_modI ?h ?_); case h => first | decide | omega)
  | ((with_reducible refine' x_isiD ?h1 ?h2 ?h3 ?_); (case h1 => assumption); (case h2 => walk_at "rp"); (case h3 => decide))
  | ((with_reducible refine' x_lenS ?h ?_); case h => walk_at "sz")
  | ((with_reducible refine' x_lenL ?h ?_); case h => walk_at "sl")
  | ((with_reducible refine' x_lenT ?h ?_); case h => walk_at "st")
  | ((with_reducible refine' x_lenD ?h ?_); case h => walk_at "hf")
  | fail)
local macro_rules | `(tactic| walk_at "sx") => `(tactic| repeat walk_at "s1")
/-! ### groups -/
structure Grp where
  names : List Str
  wish : Str → List Str
def Grp.open (G : Grp) (p : Str) : List Str := (G.wish p).filter fun b => decide (p ∈ G.wish b)
structure Grp.Ok (G : Grp) : Prop where
  nd : G.names.Nodup
  few : G.names.length ≤ 16
  nm : ∀ x ∈ G.names, okName x = true
  wn : ∀ p ∈ G.names, (G.wish p).Nodup
  ws : ∀ p ∈ G.names, p ∉ G.wish p
  wi : ∀ p ∈ G.names, ∀ q ∈ G.wish p, q ∈ G.names
inductive GRes where
  | ok (G : Grp) | bp (i : Int) | bw (p : Str)
def D.strL : List D → List Str
  | [] => []
  | .str x :: r => x :: D.strL r
  | _ :: r => D.strL r
def D.asStrs : D → List Str
  | .lst ds => D.strL ds
  | .tup ds => D.strL ds
  | _ => []
def mkGroup (dp dw : D) : GRes := match badPeople dp with
  | some i => .bp i
  | none => match badWishes dw dp.asStrs with
    | some p => .bw p
    | none => .ok ⟨dp.asStrs, fun p => (vald dw p).asStrs⟩
theorem strL_map (xs : List Str) : D.strL (xs.map D.str) = xs := by
  induction xs with
  | nil => rfl
  | cons x r ih => simp [D.strL, ih]
theorem badAt_none : ∀ {ds : List D} {i : Nat} {seen : List Str}, badAt i seen ds = none → ∃ xs : List Str, ds = xs.map D.str ∧ (∀ x ∈ xs, okName x = true ∧ x ∉ seen) ∧ xs.Nodup
  | [], _, _, _ => ⟨[], rfl, by simp, List.nodup_nil⟩
  | d :: r, i, seen, h => by
    cases d with
    | str x =>
      unfold badAt at h
      by_cases hc : (okName x && !decide (x ∈ seen)) = true
      · rw [if_pos hc] at h
        obtain ⟨h1, h2⟩ := Bool.and_eq_true_iff.mp hc
        obtain ⟨xs, e, hx, hn⟩ := badAt_none h
        refine ⟨x :: xs, by rw [e]; rfl, fun y m => ?_, ?_⟩
        · rcases List.mem_cons.mp m with rfl | m
          · exact ⟨h1, by simpa using h2⟩
          · exact ⟨(hx y m).1, fun z => (hx y m).2 (List.mem_append_left _ z)⟩
        · rw [List.nodup_cons]
          exact ⟨fun z => (hx x z).2 (by simp), hn⟩
      · rw [if_neg hc] at h
        cases h
    | _ => cases h
theorem badPeople_none {d : D} (h : badPeople d = none) : ∃ xs : List Str, d = .tup (xs.map D.str) ∧ xs.length ≤ 16 ∧ (∀ x ∈ xs, okName x = true) ∧ xs.Nodup := by
  cases d with
  | tup ds =>
    unfold badPeople at h
    by_cases hl : ds.length ≤ 16
    · simp only [if_pos hl, Option.map_eq_none_iff] at h
      obtain ⟨xs, e, hx, hn⟩ := badAt_none h
      exact ⟨xs, by rw [e], by rw [e, List.length_map] at hl; exact hl, fun x m => (hx x m).1, hn⟩
    · simp only [if_neg hl] at h
      cases h
  | _ => cases h
theorem fitsGo_true {xs : List Str} {p : Str} : ∀ {ds : List D} {seen : List Str}, fitsGo xs p seen ds = true → ∃ ws : List Str, ds = ws.map D.str ∧ (∀ x ∈ ws, x ≠ p ∧ x ∈ xs ∧ x ∉ seen) ∧ ws.Nodup
  | [], _, _ => ⟨[], rfl, by simp, List.nodup_nil⟩
  | d :: r, seen, h => by
    cases d with
    | str x =>
      unfold fitsGo at h
      simp only [Bool.and_eq_true, Bool.not_eq_true', decide_eq_false_iff_not, decide_eq_true_eq] at h
      obtain ⟨h1, h2, h3, h4⟩ := h
      obtain ⟨ws, e, hx, hn⟩ := fitsGo_true h4
      refine ⟨x :: ws, by rw [e]; rfl, fun y m => ?_, ?_⟩
      · rcases List.mem_cons.mp m with rfl | m
        · exact ⟨h1, h2, h3⟩
        · exact ⟨(hx y m).1, (hx y m).2.1, fun z => (hx y m).2.2 (List.mem_append_left _ z)⟩
      · rw [List.nodup_cons]
        exact ⟨fun z => (hx x z).2.2 (by simp), hn⟩
    | _ => cases h
theorem fitsW_true {d : D} {xs : List Str} {p : Str} (h : fitsW d xs p = true) : ∃ ws : List Str, d = D.strs ws ∧ (∀ x ∈ ws, x ≠ p ∧ x ∈ xs) ∧ ws.Nodup := by
  cases d with
  | lst ds =>
    obtain ⟨ws, e, hx, hn⟩ := fitsGo_true h
    exact ⟨ws, by rw [e]; rfl, fun x m => ⟨(hx x m).1, (hx x m).2.1⟩, hn⟩
  | _ => cases h
theorem badWishes_none {d : D} {xs : List Str} (h : badWishes d xs = none) : ∃ ds, d = .dct ds ∧ ∀ p ∈ xs, (dval ds (.inr p)).isSome = true ∧ ∃ ws : List Str, vald d p = D.strs ws ∧ (∀ x ∈ ws, x ≠ p ∧ x ∈ xs) ∧ ws.Nodup := by
  unfold badWishes at h
  by_cases hk : sameKeys d xs = true
  · rw [if_pos hk] at h
    obtain ⟨ds, rfl, _, hsome⟩ := sameKeys_dct hk
    refine ⟨ds, rfl, fun p m => ⟨hsome p m, fitsW_true ?_⟩⟩
    have := List.find?_eq_none.mp h p (mem_sortS.mpr m)
    simpa using this
  · rw [if_neg hk] at h
    cases h
theorem asStrs_strs (ws : List Str) : (D.strs ws).asStrs = ws := strL_map ws
theorem mkGroup_ok {dp dw : D} {G : Grp} (h : mkGroup dp dw = .ok G) : G.Ok := by
  unfold mkGroup at h
  cases e : badPeople dp with
  | some i => rw [e] at h; cases h
  | none =>
    rw [e] at h
    obtain ⟨xs, rfl, hl, hn, hd⟩ := badPeople_none e
    have ex : (D.tup (xs.map D.str)).asStrs = xs := strL_map xs
    dsimp only at h
    rw [ex] at h
    cases e2 : badWishes dw xs with
    | some p => rw [e2] at h; cases h
    | none =>
      rw [e2] at h
      cases h
      obtain ⟨ds, rfl, hw⟩ := badWishes_none e2
      refine ⟨hd, hl, hn, fun p m => ?_, fun p m => ?_, fun p m q => ?_⟩
      all_goals
        obtain ⟨_, ws, e3, h1, h2⟩ := hw p m
        dsimp only
        rw [e3, asStrs_strs]
      · exact h2
      · exact fun z => (h1 p z).1 rfl
      · exact fun z => (h1 q z).2
/-! ### how a heap shows them -/
def zipK (xs : List Str) (al : List Addr) : List (Key × V) := (xs.zip al).map fun q => (.inr q.1, .ref q.2)
theorem zipK_keys {xs : List Str} {al : List Addr} (h : al.length = xs.length) : (zipK xs al).map (·.1) = xs.map Sum.inr := by
  unfold zipK
  rw [List.map_map]
  have : (xs.zip al).map Prod.fst = xs := List.map_fst_zip (by omega)
  rw [← this, List.map_map, List.map_fst_zip (by omega)]
  congr 1
theorem zipK_snoc {xs : List Str} {al : List Addr} {x : Str} {a : Addr} (h : al.length = xs.length) : zipK (xs ++ [x]) (al ++ [a]) = zipK xs al ++ [(.inr x, .ref a)] := by
  unfold zipK
  rw [List.zip_append (by omega), List.map_append]
  rfl
theorem zipK_val {p : Str} : ∀ {xs : List Str} {al : List Addr}, al.length = xs.length → xs.Nodup → p ∈ xs → ∃ (j : Nat) (a : Addr), xs[j]? = some p ∧ al[j]? = some a ∧ valV (zipK xs al) (.inr p) = some (.ref a)
  | [], _, _, _, m => nomatch m
  | x :: r, [], h, _, _ => by simp at h
  | x :: r, a :: al, h, nd, m => by
    by_cases e : x = p
    · subst e
      exact ⟨0, a, rfl, rfl, valV_pos (p := ((Sum.inr x : Key), V.ref a)) rfl⟩
    · have m' : p ∈ r := by
        rcases List.mem_cons.mp m with z | z
        · exact absurd z.symm e
        · exact z
      obtain ⟨j, b, h1, h2, h3⟩ := zipK_val (xs := r) (al := al) (by simpa using h) (List.nodup_cons.mp nd).2 m'
      refine ⟨j + 1, b, by simpa using h1, by simpa using h2, ?_⟩
      show valV (((Sum.inr x : Key), V.ref a) :: zipK r al) (.inr p) = _
      rw [valV_neg (p := ((Sum.inr x : Key), V.ref a)) (fun z => e (Sum.inr.inj z))]
      exact h3
theorem zipK_none {p : Str} : ∀ {xs : List Str} {al : List Addr}, p ∉ xs → valV (zipK xs al) (.inr p) = none
  | [], _, _ => rfl
  | x :: r, [], _ => rfl
  | x :: r, a :: al, m => by
    show valV (((Sum.inr x : Key), V.ref a) :: zipK r al) (.inr p) = _
    rw [valV_neg (p := ((Sum.inr x : Key), V.ref a)) (fun z => m (by rw [← Sum.inr.inj z]; exact List.mem_cons_self))]
    exact zipK_none fun z => m (List.mem_cons_of_mem _ z)
/-- a dict from the names xs to objects of which R holds -/
def DAt (B : Hp) (d : Addr) (xs : List Str) (R : Str → Addr → Prop) : Prop := ∃ al : List Addr, al.length = xs.length ∧ B d = some (.dK (zipK xs al)) ∧ ∀ (j : Nat) p a, xs[j]? = some p → al[j]? = some a → R p a
theorem DAt.get {B : Hp} {d : Addr} {xs : List Str} {R : Str → Addr → Prop} (h : DAt B d xs R) (nd : xs.Nodup) {p : Str} (m : p ∈ xs) : ∃ kvs a, B d = some (.dK kvs) ∧ valV kvs (.inr p) = some (.ref a) ∧ R p a := by
  obtain ⟨al, hl, e, hR⟩ := h
  obtain ⟨j, a, h1, h2, h3⟩ := zipK_val hl nd m
  exact ⟨_, a, e, h3, hR j p a h1 h2⟩
theorem DAt.has {B : Hp} {d : Addr} {xs : List Str} {R : Str → Addr → Prop} (h : DAt B d xs R) (nd : xs.Nodup) (p : Str) : ∃ kvs, B d = some (.dK kvs) ∧ (valV kvs (.inr p)).isSome = decide (p ∈ xs) := by
  obtain ⟨al, hl, e, hR⟩ := h
  refine ⟨_, e, ?_⟩
  by_cases m : p ∈ xs
  · obtain ⟨j, a, _, _, h3⟩ := zipK_val hl nd m
    rw [h3, decide_eq_true m]; rfl
  · rw [zipK_none m, decide_eq_false m]; rfl
theorem DAt.mono {B B' : Hp} {d : Addr} {xs : List Str} {R R' : Str → Addr → Prop} (s : Same B B') (hR : ∀ p a, R p a → R' p a) (h : DAt B d xs R) : DAt B' d xs R' := by
  obtain ⟨al, hl, e, h⟩ := h
  exact ⟨al, hl, s _ _ e, fun j p a h1 h2 => hR _ _ (h j p a h1 h2)⟩
def enumK (row : List Str) : List (Key × V) := row.zipIdx.map fun q => (.inr q.1, .int (q.2 : Nat))
def gf (n l m q : Addr) : List (Str × V) := [("names", .ref n), ("lists", .ref l), ("mutual", .ref m), ("places", .ref q)]
def LAt (B : Hp) (f : Str → List Str) : Str → Addr → Prop := fun p a => B a = some (.lst ((f p).map V.str))
def PAt (B : Hp) (f : Str → List Str) : Str → Addr → Prop := fun p a => B a = some (.dK (enumK (f p)))
structure GAt (K : PySem.W.Frag) (B : Hp) (p : Addr) (G : Grp) : Prop where
  ex : ∃ dx n l m q, B p = some (.ins (He.ga K "Group") dx (gf n l m q)) ∧ B n = some (.lst (G.names.map V.str)) ∧ DAt B l G.names (LAt B G.wish) ∧ DAt B m G.names (LAt B G.open) ∧ DAt B q G.names (PAt B G.open)
  ok : G.Ok
theorem GAt.mono {K : PySem.W.Frag} {B B' : Hp} {p : Addr} {G : Grp} (s : Same B B') (h : GAt K B p G) : GAt K B' p G := by
  obtain ⟨⟨dx, n, l, m, q, h1, h2, h3, h4, h5⟩, ok⟩ := h
  exact ⟨⟨dx, n, l, m, q, s _ _ h1, s _ _ h2, h3.mono s fun _ _ z => s _ _ z, h4.mono s fun _ _ z => s _ _ z, h5.mono s fun _ _ z => s _ _ z⟩, ok⟩
/-- what the written part says of the class Group -/
structure GK (K : PySem.W.Frag) : Prop where
  cl : Cls K (He.ga K "Group")
  nn : NoAttr K (He.ga K "Group") "names"
  nl : NoAttr K (He.ga K "Group") "lists"
  nm : NoAttr K (He.ga K "Group") "mutual"
  np : NoAttr K (He.ga K "Group") "places"
  ik : InsK K (He.ga K "Group")
theorem GAt.rep {K : PySem.W.Frag} {B : Hp} {p : Addr} {G : Grp} (gk : GK K) (h : GAt K B p G) : Rep K B (.ref p) (.obj p (He.ga K "Group")) := by
  obtain ⟨⟨dx, n, l, m, q, h1, _⟩, _⟩ := h
  exact .obj h1 gk.ik
theorem putK_new {kvs : List (Key × V)} {k : Key} {v : V} (h : valV kvs k = none) : putK kvs k v = kvs ++ [(k, v)] := by
  unfold putK
  rw [valV_any, h]
  rfl
theorem HS.rot3 {S : List Addr} {B0 H0 B H : Hp} {a b c : Addr × HO} {M : List (Addr × HO)} (h : HS S B0 H0 B H (a :: b :: c :: M)) : HS S B0 H0 B H (c :: a :: b :: M) :=
  h.perm ((List.Perm.cons a (List.Perm.swap c b M)).trans (List.Perm.swap c a (b :: M)))
theorem HS.unrot3 {S : List Addr} {B0 H0 B H : Hp} {a b c : Addr × HO} {M : List (Addr × HO)} (h : HS S B0 H0 B H (c :: a :: b :: M)) : HS S B0 H0 B H (a :: b :: c :: M) :=
  h.perm ((List.Perm.cons a (List.Perm.swap c b M)).trans (List.Perm.swap c a (b :: M))).symm
/-- an object that is made by a call of its class -/
theorem HS.made {S : List Addr} {B0 H0 B H B' H' : Hp} {M : List (Addr × HO)} {x dx C : Addr} (hs : HS S B0 H0 B H M) (hx : H x = none) (hd : H dx = none)
    (c : HS [x] B (upd (upd H dx (.own x)) x (.ins C dx [])) B' H' []) : HS S B0 H0 B' H' M := by
  have up : ∀ b o, H b = some o → upd (upd H dx (.own x)) x (.ins C dx []) b = some o := fun b o e => by rw [upd_ne (ne_of_none e hx), upd_ne (ne_of_none e hd)]; exact e
  refine ⟨hs.bb.trans c.bb, c.bh, fun b u n1 n2 e => ?_, fun q m => ?_, hs.nd⟩
  · obtain ⟨h1, h2⟩ := hs.fr b u n1 n2 e
    exact c.fr b u (by simpa using ne_of_none h2 hx) h1 (up _ _ h2)
  · obtain ⟨h1, h2, h3⟩ := hs.mu q m
    obtain ⟨k1, k2⟩ := c.fr q.1 q.2 (by simpa using ne_of_none h2 hx) h1 (up _ _ h2)
    exact ⟨k1, k2, h3⟩
end Q

set_option Elab.async false
set_option linter.all false
set_option maxRecDepth 100000
set_option maxHeartbeats 4000000
namespace Q
open PySem PySem.Spec PyProof.Rows L2
local macro_rules | `(tactic| walk_at "bf") => `(tactic| first | assumption | (refine' bstep (by assumption) ?r; case r => walk_at "bf") | fail)
local macro_rules | `(tactic| walk_at "rp") => `(tactic| first | assumption | exact Rep.int _ | exact Rep.bl _ | exact Rep.non | (refine' Rep.mono (by assumption) ?r; case r => walk_at "rp") | fail)
local macro_rules | `(tactic| walk_at "hf") => `(tactic| first | assumption | exact HS.up (by assumption) (by walk_at "bf") | exact HS.get (by assumption) List.mem_cons_self | exact HS.get (by assumption) (List.mem_cons_of_mem _ List.mem_cons_self) | exact HS.get (by assumption) (List.mem_cons_of_mem _ (List.mem_cons_of_mem _ List.mem_cons_self)) | exact HS.get (by assumption) (List.mem_cons_of_mem _ (List.mem_cons_of_mem _ (List.mem_cons_of_mem _ List.mem_cons_self))) | fail)
local macro_rules | `(tactic| walk_at "sl") => `(tactic| first | assumption | exact SqL.of (by walk_at "hf") | fail)
local macro_rules | `(tactic| walk_at "st") => `(tactic| first | assumption | exact SqT.of (by walk_at "hf") | fail)
local macro_rules | `(tactic| walk_at "sz") => `(tactic| first | assumption | (refine small_le ?_; first | assumption | omega | (simp; done) | (simp; omega)) | fail)
local macro_rules | `(tactic| walk_at "s1") => `(tactic| first
  | (with_reducible refine x_seq ?_)
  | (with_reducible refine x_asg ?_)
  | ((with_reducible refine x_gname ?_); try simp only [List.set_cons_zero, List.set_cons_succ])
  | ((with_reducible refine' x_var ?h ?_); case h => rfl)
  | (with_reducible refine x_c ?_)
  | (with_reducible refine x_op ?_)
  | (with_reducible refine x_ret ?_)
  | (with_reducible refine x_if ?_)
  | (with_reducible refine x_and ?_)
  | (with_reducible refine x_or ?_)
  | (with_reducible refine x_not ?_)
  | (with_reducible refine x_test ?_)
  | (with_reducible refine x_tB ?_)
  | (with_reducible refine x_tr ?_)
  | (with_reducible refine x_cb ?_)
  | (with_reducible refine x_cons ?_)
  | (with_reducible refine x_nil ?_)
  | (with_reducible refine x_exb ?_)
  | (with_reducible refine x_tt _ _ ?_)
  | (with_reducible refine x_ff _ _ ?_)
  | (with_reducible refine x_dget ?_)
  | (with_reducible refine x_din ?_)
  | (with_reducible refine x_dnin ?_)
  | (with_reducible refine x_dputU ?_)
  | (with_reducible refine x_dnew ?_)
  | (with_reducible refine x_bm ?_)
  | (with_reducible refine x_bm0 ?_)
  | (with_reducible refine x_gsub ?_)
  | (with_reducible refine x_fldU ?_)
  | (with_reducible refine x_sfldU ?_)
  | (with_reducible refine x_gcons ?_)
  | (with_reducible refine x_gnil ?_)
  | (with_reducible refine x_rz1 ?_)
  | (with_reducible refine x_rz2 ?_)
  | (with_reducible refine x_tryAs ?_)
  | (with_reducible refine x_tryOnly ?_)
  | (with_reducible refine x_mtU ?_)
  | (with_reducible refine x_mk ?_)
  | (with_reducible refine x_yes ?_)
  | (with_reducible refine x_un ?_)
  | (with_reducible refine x_neg ?_)
  | (with_reducible refine x_iEnum ?_)
  | (with_reducible refine x_iEnumT ?_)
  | (with_reducible refine x_lst ?_)
  | (with_reducible refine x_tup ?_)
  | (with_reducible refine x_dc ?_)
  | ((with_reducible refine' x_dinO ?h ?_); case h => walk_at "hf")
  | ((with_reducible refine' x_newL ?h ?_); case h => first | exact Nat.zero_le _ | (simp; done) | (simp; omega))
  | ((with_reducible refine' x_newT ?h ?_); case h => first | exact Nat.zero_le _ | (simp; done) | (simp; omega))
  | ((with_reducible refine' x_listL ?h ?_); case h => walk_at "sl")
  | ((with_reducible refine' x_listT ?h ?_); case h => walk_at "st")
  | ((with_reducible refine' x_mulI ?h ?_); case h => first | exact .inl ⟨by decide, by decide⟩ | exact .inr ⟨by decide, by decide⟩ | exact .inl ⟨by omega, by omega⟩ | exact .inr ⟨by omega, by omega⟩)
  | ((with_reducible refine' x_divI ?h ?_); case h => first | exact ⟨by decide, by decide⟩ | exact ⟨by omega, by omega⟩)
  | ((with_reducible refine' x_powI ?h ?_); case h => exact ⟨by decide, by decide, by decide⟩)
  | ((with_reducible refine' x_ixL ?h ?h2 ?_); (case h => walk_at "sl"); (case h2 => first | rfl | assumption))
  | ((with_reducible refine' x_ixT ?h ?h2 ?_); (case h => walk_at "st"); (case h2 => first | rfl | assumption))
  | (with_reducible refine x_m1s ?_)
  | (with_reducible refine x_str1 ?_)
  | (with_reducible refine x_sl ?_)
  | (with_reducible refine x_noPart ?_)
  | (with_reducible refine x_part ?_)
  | (with_reducible refine x_exi ?_)
  | ((with_reducible refine' x_slS ?h ?_); case h => walk_at "sz")
  | ((with_reducible refine' x_slL ?h ?_); case h => walk_at "sl")
  | (with_reducible refine x_pairsC ?_)
  | (with_reducible refine x_pairsN ?_)
  | ((with_reducible refine' x_dgS ?h ?h2 ?_); (case h => walk_at "hf"); (case h2 => assumption))
  | ((with_reducible refine' x_srtT ?h ?h2 ?_); (case h => walk_at "st"); (case h2 => omega))
  | ((with_reducible refine' x_srtL ?h ?h2 ?_); (case h => walk_at "sl"); (case h2 => omega))
  | ((with_reducible refine' x_inLS ?h ?_); case h => walk_at "sl")
  | ((with_reducible refine' x_inTS ?h ?_); case h => walk_at "st")
  | ((with_reducible refine' x_ninLS ?h ?_); case h => walk_at "sl")
  | ((with_reducible refine' x_ninTS ?h ?_); case h => walk_at "st")
  | ((with_reducible refine' x_tyL ?h ?_); case h => walk_at "sl")
  | ((with_reducible refine' x_gtup ?h ?h2 ?_); (case h => walk_at "st"); (case h2 => rfl))
  | (with_reducible refine x_next ?_)
  | (with_reducible refine x_for ?_)
  | (with_reducible refine x_iList ?_)
  | (with_reducible refine x_iTup ?_)
  | (with_reducible refine x_iStr ?_)
  | (with_reducible refine x_iRng1 ?_)
  | (with_reducible refine x_iRng2 ?_)
  | (with_reducible refine x_lc ?_)
  | (with_reducible refine x_drop ?_)
  | (with_reducible refine x_retN ?_)
  | (with_reducible refine x_cont ?_)
  | (with_reducible refine x_break ?_)
  | (with_reducible refine x_cl ?_)
  | (with_reducible refine x_isN ?_)
  | (with_reducible refine x_notN ?_)
  | (with_reducible refine x_andV ?_)
  | (with_reducible refine x_orV ?_)
  | (with_reducible refine x_notV ?_)
  | (with_reducible refine x_ifE ?_)
  | (with_reducible refine x_addI ?_)
  | (with_reducible refine x_subI ?_)
  | (with_reducible refine x_ltI ?_)
  | (with_reducible refine x_leI ?_)
  | (with_reducible refine x_gtI ?_)
  | (with_reducible refine x_geI ?_)
  | (with_reducible refine x_ltS ?_)
  | (with_reducible refine x_abs ?_)
  | (with_reducible refine x_min2 ?_)
  | (with_reducible refine x_max2 ?_)
  | (with_reducible refine x_int1 ?_)
  | (with_reducible refine x_notInS ?_)
  | ((with_reducible refine' x_eq ?h ?_); case h => rfl)
  | ((with_reducible refine' x_ne ?h ?_); case h => rfl)
  | ((with_reducible refine' x_modI ?h ?_); case h => first | decide | omega)
  | ((with_reducible refine' x_isiD ?h1 ?h2 ?h3 ?_); (case h1 => assumption); (case h2 => walk_at "rp"); (case h3 => decide))
  | ((with_reducible refine' x_lenS ?h ?_); case h => walk_at "sz")
  | ((with_reducible refine' x_lenL ?h ?_); case h => walk_at "sl")
  | ((with_reducible refine' x_lenT ?h ?_); case h => walk_at "st")
  | ((with_reducible refine' x_lenD ?h ?_); case h => walk_at "hf")
  | fail)
local macro_rules | `(tactic| walk_at "sx") => `(tactic| repeat walk_at "s1")
/-! ### Group.__init__ -/
abbrev N_Group___init__ : List Str := ["self", "people", "wishes", "person", "row", "other", "at"]
def t_Group___init__ (K : PySem.W.Frag) (E : XK) : TS := (tSeq (tDrop (tCl (sp_check_people K) (WE0 E) (tCons (tVar 1) tNil)))
  (tSeq (tDrop (tCl (sp_check_wishes K) (WE0 E) (tCons (tVar 1) (tCons (tVar 2) tNil))))
  (tSeq (sFld K (tVar 0) (tCB (rListOf K) (tCons (tVar 1) tNil)) "names")
  (tSeq (sFld K (tVar 0) (tDc (iTup K (tVar 1)) (gName 3) tYes (tVar 3) (tCB (rListOf K) (tCons (tDGet (tVar 2) (tVar 3)) tNil)) [3]) "lists")
  (tSeq (sFld K (tVar 0) tDNewK "mutual")
  (tSeq (sFld K (tVar 0) tDNewK "places")
  (tFor (iTup K (tVar 1)) (gName 3) (tSeq (tAsg (tLc (iList K (tDGet (tVar 2) (tVar 3))) (gName 5) (tTest (tOp (rIn K false) (tVar 3) (tDGet (tVar 2) (tVar 5)))) (tVar 5) [5]) (gName 4))
  (tSeq (sDPut (tFld K (tVar 0) "mutual") (tVar 3) (tVar 4))
  (sDPut (tFld K (tVar 0) "places") (tVar 3) (tDc (iEnum K (tCons (tVar 4) tNil)) (gTup K 2 (gCons (gName 6) (gCons (gName 5) gNil))) tYes (tVar 5) (tVar 6) [6, 5])))))))))))
def sp_Group___init__ (K : PySem.W.Frag) : Sp := fun vs H Q E => ∃ p v u B dx dp dw, vs = [.ref p, v, u] ∧ Same B H ∧ B p = none ∧ H p = some (.ins (He.ga K "Group") dx []) ∧ Rep K B v dp ∧ Rep K B u dw ∧ match mkGroup dp dw with
  | .ok G => ∀ B' H', HS [p] B H B' H' [] → GAt K B' p G → Q .non H'
  | .bp i => ∀ B' H' d, HS [p] B H B' H' [] → B' d = none → H' d = some (.xd [("index", .int i)]) → E (.ref (He.ga K "BadPeople")) (some d) H'
  | .bw x => ∀ B' H' d, HS [p] B H B' H' [] → B' d = none → H' d = some (.xd [("person", .str x)]) → E (.ref (He.ga K "BadWishes")) (some d) H'
theorem HS.lift {B H B' H' : Hp} {p : Addr} {o : HO} (hs : HS [] B H B' H' []) : HS [p] B H B' H' [] := ⟨hs.bb, hs.bh, fun b u _ n2 e => hs.fr b u (by simp) n2 e, fun _ z => (nomatch z), List.nodup_nil⟩
theorem HS.ne01 {S : List Addr} {B0 H0 B H : Hp} {p q : Addr} {o u : HO} {M : List (Addr × HO)} (h : HS S B0 H0 B H ((p, o) :: (q, u) :: M)) : p ≠ q := by
  have := h.nd
  simp only [List.map_cons, List.nodup_cons, List.mem_cons, not_or] at this
  exact this.1.1
theorem pf1 (a : V) : putF "names" a [] = ([("names", a)] : List (Str × V)) := rfl
theorem pf2 (a b : V) : putF "lists" b ([("names", a)] : List (Str × V)) = ([("names", a), ("lists", b)] : List (Str × V)) := by
  unfold putF
  rw [if_neg (show ¬ (("names" : Str) = "lists") by decide +kernel)]
  rfl
theorem pf3 (a b c : V) : putF "mutual" c ([("names", a), ("lists", b)] : List (Str × V)) = ([("names", a), ("lists", b), ("mutual", c)] : List (Str × V)) := by
  unfold putF
  rw [if_neg (show ¬ (("names" : Str) = "mutual") by decide +kernel)]
  unfold putF
  rw [if_neg (show ¬ (("lists" : Str) = "mutual") by decide +kernel)]
  rfl
theorem pf4 (a b c d : V) : putF "places" d ([("names", a), ("lists", b), ("mutual", c)] : List (Str × V)) = ([("names", a), ("lists", b), ("mutual", c), ("places", d)] : List (Str × V)) := by
  unfold putF
  rw [if_neg (show ¬ (("names" : Str) = "places") by decide +kernel)]
  unfold putF
  rw [if_neg (show ¬ (("lists" : Str) = "places") by decide +kernel)]
  unfold putF
  rw [if_neg (show ¬ (("mutual" : Str) = "places") by decide +kernel)]
  rfl
theorem gf_names (n l m q : Addr) : (gf n l m q).lookup ("names" : Str) = some (V.ref n) := by simp [gf, List.lookup]
theorem gf_lists (n l m q : Addr) : (gf n l m q).lookup ("lists" : Str) = some (V.ref l) := by
  have h1 : (("lists" : Str) == "names") = false := by decide +kernel
  simp [gf, List.lookup, h1]
theorem gf_mutual (n l m q : Addr) : (gf n l m q).lookup ("mutual" : Str) = some (V.ref m) := by
  have h1 : (("mutual" : Str) == "names") = false := by decide +kernel
  have h2 : (("mutual" : Str) == "lists") = false := by decide +kernel
  simp [gf, List.lookup, h1, h2]
theorem gf_places (n l m q : Addr) : (gf n l m q).lookup ("places" : Str) = some (V.ref q) := by
  have h1 : (("places" : Str) == "names") = false := by decide +kernel
  have h2 : (("places" : Str) == "lists") = false := by decide +kernel
  have h3 : (("places" : Str) == "mutual") = false := by decide +kernel
  simp [gf, List.lookup, h1, h2, h3]
theorem gf_no {n l m q : Addr} {f : Str} (h : f ∉ (["names", "lists", "mutual", "places"] : List Str)) : (gf n l m q).lookup f = none := by
  simp only [List.mem_cons, List.not_mem_nil, or_false, not_or] at h
  obtain ⟨h1, h2, h3, h4⟩ := h
  have e1 : (f == ("names" : Str)) = false := beq_eq_false_iff_ne.mpr h1
  have e2 : (f == ("lists" : Str)) = false := beq_eq_false_iff_ne.mpr h2
  have e3 : (f == ("mutual" : Str)) = false := beq_eq_false_iff_ne.mpr h3
  have e4 : (f == ("places" : Str)) = false := beq_eq_false_iff_ne.mpr h4
  simp [gf, List.lookup, e1, e2, e3, e4]
theorem take_none {xs : List Str} {al : List Addr} {i : Nat} {q : Str} (hd : xs.Nodup) (hq : xs[i]? = some q) : valV (zipK (xs.take i) al) (.inr q) = none := by
  refine zipK_none fun z => ?_
  obtain ⟨j, hj, e⟩ := List.mem_take_iff_getElem.mp z
  have h1 : xs[j]? = some q := by rw [← e]; simp
  have := nodup_ix hd h1 hq
  omega
theorem zipK_put {xs : List Str} {al : List Addr} {i : Nat} {q : Str} {c : Addr} (hd : xs.Nodup) (hq : xs[i]? = some q) (hal : al.length = i) : putK (zipK (xs.take i) al) (.inr q) (.ref c) = zipK (xs.take (i + 1)) (al ++ [c]) := by
  have hil : i < xs.length := (List.getElem?_eq_some_iff.mp hq).1
  rw [putK_new (take_none hd hq), List.take_succ, hq]
  exact (zipK_snoc (by rw [hal, List.length_take]; omega)).symm
theorem all_put {R R' : Str → Addr → Prop} {xs : List Str} {al : List Addr} {i : Nat} {q : Str} {c : Addr} (hq : xs[i]? = some q) (hal : al.length = i) (hR : ∀ (j : Nat) q' b, xs[j]? = some q' → al[j]? = some b → R q' b) (hc : R' q c) (hm : ∀ q' b, R q' b → R' q' b) :
    ∀ (j : Nat) q' b, xs[j]? = some q' → (al ++ [c])[j]? = some b → R' q' b := fun j q' b' h1 h2 => by
  by_cases hj : j < al.length
  · rw [List.getElem?_append_left hj] at h2
    exact hm _ _ (hR j q' b' h1 h2)
  · rw [List.getElem?_append_right (by omega)] at h2
    have hj0 : j - al.length = 0 := by
      by_cases z : j - al.length = 0
      · exact z
      · rw [List.getElem?_eq_none (by simp; omega)] at h2; cases h2
    rw [hj0] at h2
    cases h2
    have : j = i := by omega
    rw [this, hq] at h1
    cases h1
    exact hc
theorem zipK_len (xs : List Str) (al : List Addr) : (zipK xs al).length ≤ xs.length := by
  unfold zipK
  rw [List.length_map, List.length_zip]
  omega
theorem filter_take {α : Type} {l : List α} {i : Nat} {x : α} (f : α → Bool) (h : l[i]? = some x) : (l.take (i + 1)).filter f = if f x then (l.take i).filter f ++ [x] else (l.take i).filter f := by
  rw [List.take_succ, h]
  simp only [Option.toList_some, List.filter_append, List.filter_cons, List.filter_nil]
  split <;> simp
theorem enumK_take {row : List Str} {i : Nat} {x : Str} (h : row[i]? = some x) : enumK (row.take (i + 1)) = enumK (row.take i) ++ [(.inr x, .int (i : Nat))] := by
  have hi : i < row.length := (List.getElem?_eq_some_iff.mp h).1
  unfold enumK
  rw [List.take_succ, h]
  simp only [Option.toList_some, List.zipIdx_append, List.map_append, List.length_take, Nat.min_eq_left (Nat.le_of_lt hi)]
  simp
theorem enumK_keys (row : List Str) : (enumK row).map (·.1) = row.map Sum.inr := by
  unfold enumK
  rw [List.map_map]
  show row.zipIdx.map (fun q => (Sum.inr q.1 : Key)) = _
  have e : (fun q : Str × Nat => (Sum.inr q.1 : Key)) = Sum.inr ∘ Prod.fst := rfl
  rw [e, ← List.map_map]
  congr 1
  simp
theorem nodup_len {α : Type} [DecidableEq α] : ∀ {xs ys : List α}, xs.Nodup → (∀ x ∈ xs, x ∈ ys) → xs.length ≤ ys.length
  | [], _, _, _ => Nat.zero_le _
  | x :: r, ys, nd, h => by
    rw [List.nodup_cons] at nd
    have hx : x ∈ ys := h x List.mem_cons_self
    have ih := nodup_len (xs := r) (ys := ys.erase x) nd.2 fun y m => (List.mem_erase_of_ne (fun e => nd.1 (by rw [← e]; exact m))).mpr (h y (List.mem_cons_of_mem _ m))
    rw [List.length_erase_of_mem hx] at ih
    have : 0 < ys.length := List.length_pos_of_mem hx
    simp only [List.length_cons]
    omega
theorem valV_none_keys {kvs : List (Key × V)} {k : Key} (h : k ∉ kvs.map (·.1)) : valV kvs k = none := by
  cases e : valV kvs k with
  | none => rfl
  | some v =>
    have := valV_any k kvs
    rw [e] at this
    obtain ⟨p, m, hp⟩ := List.any_eq_true.mp this
    exact absurd (List.mem_map.mpr ⟨p, m, of_decide_eq_true hp⟩) h
theorem pure_Group___init__ {K : PySem.W.Frag} (gk : GK K) {vs : List V} {H : Hp} {Q : VK} {E : XK} (h : sp_Group___init__ K vs H Q E) : t_Group___init__ K E { nx := fun _ H' => Q .non H', rt := Q } (start N_Group___init__ vs) H := by
  obtain ⟨p, v, u, B, dx, dp, dw, rfl, sB, bp, hp, rp, rw_, k⟩ := h
  have hs := HS.startS sB bp hp
  show t_Group___init__ K E _ [some (.ref p), some v, some u, none, none, none, none] H
  unfold t_Group___init__
  walk_at "sx"
  refine use_check_people hs rp (fun hbp B1 H1 sb1 hs1 => ?_) (fun i hi => ?_)
  case refine_2 =>
    simp only [mkGroup, hi] at k
    exact fun B' H' d c e1 e2 => k B' H' d (HS.lift (o := .lst []) c) e1 e2
  obtain ⟨xs, rfl, hl, hn, hd⟩ := badPeople_none hbp
  have ex : (D.tup (xs.map D.str)).asStrs = xs := strL_map xs
  obtain ⟨a, rfl, ea⟩ : ∃ a, v = .ref a ∧ B a = some (.tup (xs.map V.str)) := by
    cases rp with
    | tup e r => exact ⟨_, rfl, by rw [e, reps_str_eq r]⟩
  walk_at "sx"
  refine use_check_wishes hs1 (by walk_at "bf") hl (by walk_at "rp") (fun hbw B2 H2 sb2 hs2 => ?_) (fun i hi => ?_)
  case refine_2 =>
    simp only [mkGroup, hbp, ex, hi] at k
    refine fun B' H' d c e1 e2 => k B' H' d ?_ e1 e2
    exact ⟨(hs1.call c).bb, (hs1.call c).bh, (hs1.call c).fr, fun _ z => (nomatch z), List.nodup_nil⟩
  have hG := mkGroup_ok (dp := .tup (xs.map D.str)) (dw := dw) (G := ⟨xs, fun p => (vald dw p).asStrs⟩) (by simp only [mkGroup, hbp, ex, hbw])
  simp only [mkGroup, hbp, ex, hbw] at k
  generalize hGd : (⟨xs, fun p => (vald dw p).asStrs⟩ : Grp) = G at hG k
  have hGn : G.names = xs := by rw [← hGd]
  obtain ⟨ds, rfl, hw⟩ := badWishes_none hbw
  obtain ⟨aw, kvs, rfl, ew, rk⟩ : ∃ aw kvs, u = .ref aw ∧ B aw = some (.dK kvs) ∧ RepK K B kvs ds := by
    cases rw_ with
    | dct e r => exact ⟨_, _, rfl, e, r⟩
  have hwish : ∀ q ∈ xs, ∃ b, valV kvs (.inr q) = some (.ref b) ∧ B b = some (.lst ((G.wish q).map V.str)) := fun q m => by
    obtain ⟨h1, ws, h2, _, _⟩ := hw q m
    rcases repK_val rk (.inr q) with ⟨v, d, z1, z2, z3⟩ | ⟨_, z⟩
    · have : d = D.strs ws := by
        simp only [vald, z2, Option.getD_some] at h2
        exact h2
      rw [this] at z3
      obtain ⟨b, rfl, z4⟩ := rep_strs_inv z3
      refine ⟨b, z1, ?_⟩
      rw [z4, ← hGd]
      dsimp only
      rw [h2, asStrs_strs]
    · rw [z] at h1; cases h1
  walk_at "sx"
  refine new_F hs2 (fun n B3 H3 hs3 sb3 en _ => ?_)
  walk_at "sx"
  refine x_sfld hs3 gk.cl gk.nn (by decide) (fun H4 hs4 => ?_)
  walk_at "sx"
  refine ⟨a, rfl, ⟨_, by walk_at "st"⟩, fun l hl' => ?_⟩
  rw [pf1] at hs4
  refine d_tup (α := List Addr) (Mf := fun _ => [(p, .ins (He.ga K "Group") dx [("names", .ref n)])]) (P := fun i al acc B1 => al.length = i ∧ acc = zipK (xs.take i) al ∧ ∀ (j : Nat) q b, xs[j]? = some q → al[j]? = some b → LAt B1 G.wish q b)
    (s0 := []) hs4 hl' (by walk_at "bf") ⟨rfl, rfl, by simp⟩ (fun i x al acc B5 H5 hi hil hacc sb5 hs5 pp => ?_) (fun al acc B5 H5 sb5 hs5 hacc pp => ?_)
  · obtain ⟨q, hq, rfl⟩ := strs_get hi
    obtain ⟨hal, hac, hR⟩ := pp
    have hqm : q ∈ xs := List.mem_of_getElem? hq
    obtain ⟨b, hb1, hb2⟩ := hwish q hqm
    walk_at "sx"
    refine ⟨rfl, ?_⟩
    walk_at "sx"
    refine new_F hs5 (fun c B6 H6 hs6 sb6 ec _ => ?_)
    refine d_keep (s := al ++ [c]) (sb5.trans sb6) hs6 hacc (by rw [List.length_map] at hil; omega) ⟨by simp [hal], ?_, all_put hq hal hR ec fun q' b z => sb6 _ _ z⟩
    rw [hac]
    exact zipK_put hd hq hal
  · obtain ⟨hal, hac, hR⟩ := pp
    rw [List.length_map] at hal hac
    rw [List.take_length] at hac
    subst hac
    walk_at "sx"
    refine x_sfld hs5.swap gk.cl gk.nl (by simp) (fun H6 hs6 => ?_)
    rw [pf2] at hs6
    obtain ⟨hs7, sb7⟩ := hs6.swap.still (by simpa using hs5.ne01)
    have el : upd B5 l (.dK (zipK xs al)) l = some (.dK (zipK xs al)) := upd_same
    have hR7 : ∀ (j : Nat) q b, xs[j]? = some q → al[j]? = some b → LAt (upd B5 l (.dK (zipK xs al))) G.wish q b := fun j q b h1 h2 => sb7 _ _ (hR j q b h1 h2)
    generalize upd B5 l (.dK (zipK xs al)) = B7 at hs7 sb7 el hR7
    have hDl : DAt B7 l xs (LAt B7 G.wish) := ⟨al, hal, el, hR7⟩
    have sb5' := sb5
    walk_at "sx"
    refine new_M hs7 (fun m H8 hs8 _ => ?_)
    walk_at "sx"
    refine x_sfld hs8.swap gk.cl gk.nm (by simp) (fun H9 hs9 => ?_)
    rw [pf3] at hs9
    walk_at "sx"
    refine new_M hs9 (fun q H10 hs10 _ => ?_)
    walk_at "sx"
    refine x_sfld hs10.swap gk.cl gk.np (by simp) (fun H11 hs11 => ?_)
    rw [pf4] at hs11
    have hs11 : HS [p] B H B7 H11 [(p, .ins (He.ga K "Group") dx (gf n l m q)), (m, .dK []), (q, .dK [])] := by
      refine hs11.perm ?_
      exact List.Perm.cons _ (List.Perm.swap _ _ _)
    walk_at "sx"
    refine ⟨a, rfl, ⟨_, by walk_at "st"⟩, ?_⟩
    refine l_tup (α := (List Addr × List Addr) × (Option V × Option V)) (σf := fun s => [some (.ref p), some (.ref a), some (.ref aw), s.2.1, s.2.2, none, none])
      (Mf := fun s => [(p, .ins (He.ga K "Group") dx (gf n l m q)), (m, .dK (zipK (xs.take s.1.1.length) s.1.1)), (q, .dK (zipK (xs.take s.1.2.length) s.1.2))])
      (P := fun i s B1 => s.1.1.length = i ∧ s.1.2.length = i ∧ (∀ (j : Nat) x b, xs[j]? = some x → s.1.1[j]? = some b → LAt B1 G.open x b) ∧ (∀ (j : Nat) x b, xs[j]? = some x → s.1.2[j]? = some b → PAt B1 G.open x b))
      (s0 := (([], []), (none, none))) hs11 (by walk_at "bf") ⟨rfl, rfl, by simp, by simp⟩ (fun i x s B1 H1 hi sb1 hs1 pp => ?_) (fun s B1 H1 sb1 hs1 pp => ?_)
    · obtain ⟨⟨am, ap⟩, s2, s3⟩ := s
      obtain ⟨ham, hap, hRm, hRp⟩ := pp
      dsimp only at ham hap hRm hRp hs1 ⊢
      obtain ⟨x, hx, rfl⟩ := strs_get hi
      have hil : i < xs.length := (List.getElem?_eq_some_iff.mp hx).1
      have hxm : x ∈ xs := List.mem_of_getElem? hx
      obtain ⟨b, hb1, hb2⟩ := hwish x hxm
      have hwlen : (G.wish x).length ≤ 16 := by
        have h1 := hG.wn x (by rw [hGn]; exact hxm)
        have h2 := hG.wi x (by rw [hGn]; exact hxm)
        have := nodup_len h1 h2
        have := hG.few
        omega
      walk_at "sx"
      refine ⟨b, rfl, ⟨_, by walk_at "sl"⟩, fun r hr => ?_⟩
      refine c_list (α := Unit) (Mf := fun _ => [(p, .ins (He.ga K "Group") dx (gf n l m q)), (m, .dK (zipK (xs.take am.length) am)), (q, .dK (zipK (xs.take ap.length) ap))])
        (P := fun i _ acc _ => acc = (((G.wish x).take i).filter fun c => decide (x ∈ G.wish c)).map V.str) (s0 := ()) hs1 hr (by walk_at "bf") rfl (fun j y _ acc B2 H2 hj hacc sb2 hs2 pp => ?_) (fun _ acc B2 H2 sb2 hs2 hacc pp => ?_)
      · obtain ⟨y, hy, rfl⟩ := strs_get hj
        have hjl : j < (G.wish x).length := (List.getElem?_eq_some_iff.mp hy).1
        have hym : y ∈ xs := by rw [← hGn]; exact hG.wi x (by rw [hGn]; exact hxm) y (List.mem_of_getElem? hy)
        obtain ⟨c, hc1, hc2⟩ := hwish y hym
        walk_at "sx"
        refine ⟨rfl, ?_⟩
        walk_at "sx"
        refine x_ite (fun h => ?_) (fun h => ?_)
        · walk_at "sx"
          refine c_keep (s := ()) sb2 hs2 hacc (by omega) ?_
          rw [filter_take _ hy, if_pos h, pp]
          simp
        · refine c_left (s := ()) sb2 hs2 hacc ?_
          rw [filter_take _ hy, if_neg (by rw [h]; decide), pp]
      · rw [List.length_map, List.take_length] at pp
        have pp : acc = (G.open x).map V.str := pp
        subst pp
        obtain ⟨hs3, sb3⟩ := hs2.still (by simpa using hs2.ne01)
        have er : upd B2 r (.lst ((G.open x).map V.str)) r = some (.lst ((G.open x).map V.str)) := upd_same
        generalize upd B2 r (.lst ((G.open x).map V.str)) = B3 at hs3 sb3 er
        walk_at "sx"
        refine x_fld (hs3.get List.mem_cons_self) gk.cl gk.nm (gf_mutual n l m q) ?_
        walk_at "sx"
        refine x_dput hs3.swap (by have := zipK_len (xs.take am.length) am; rw [List.length_take] at this; omega) (fun H4 hs4 => ?_)
        have hs4 := hs4.swap
        walk_at "sx"
        refine ⟨r, _, rfl, by walk_at "sl", fun dd hdd => ?_⟩
        have hop : (G.open x).length ≤ 16 := by
          have : (G.open x).length ≤ (G.wish x).length := List.length_filter_le _ _
          omega
        refine d_enum (α := Unit) (Mf := fun _ => [(p, .ins (He.ga K "Group") dx (gf n l m q)), (m, .dK (putK (zipK (xs.take am.length) am) (.inr x) (.ref r))), (q, .dK (zipK (xs.take ap.length) ap))])
          (P := fun i _ acc _ => acc = enumK ((G.open x).take i)) (s0 := ()) hs4 hdd (by walk_at "bf") rfl (fun _ _ _ _ _ z _ => z) (fun j y _ acc T B5 H5 hj hjl hacc sb5 hs5 pp hT => ?_) (fun _ acc B5 H5 sb5 hs5 hacc pp => ?_)
        · obtain ⟨y, hy, rfl⟩ := strs_get hj
          walk_at "sx"
          refine ⟨rfl, ?_⟩
          walk_at "sx"
          refine d_keep (s := ()) sb5 hs5 hacc (by rw [List.length_map] at hjl; omega) ?_
          rw [pp, enumK_take hy]
          refine putK_new (valV_none_keys ?_)
          rw [enumK_keys]
          intro z
          obtain ⟨y', hy', e⟩ := List.mem_map.mp z
          have e := Sum.inr.inj e
          subst e
          obtain ⟨j', hj', e⟩ := List.mem_take_iff_getElem.mp hy'
          have h1 : (G.open x)[j']? = some y' := by rw [← e]; simp
          have hnd : (G.open x).Nodup := (hG.wn x (by rw [hGn]; exact hxm)).filter _
          have := nodup_ix hnd h1 hy
          omega
        · rw [List.length_map, List.take_length] at pp
          subst pp
          have hdp : dd ≠ p := hs5.ne01
          obtain ⟨hs6, sb6⟩ := hs5.still (by simpa using hdp)
          have ed : upd B5 dd (.dK (enumK (G.open x))) dd = some (.dK (enumK (G.open x))) := upd_same
          generalize upd B5 dd (.dK (enumK (G.open x))) = B6 at hs6 sb6 ed
          walk_at "sx"
          refine x_fld (hs6.get List.mem_cons_self) gk.cl gk.np (gf_places n l m q) ?_
          walk_at "sx"
          refine x_dput hs6.rot3 (by have := zipK_len (xs.take ap.length) ap; rw [List.length_take] at this; omega) (fun H7 hs7 => ?_)
          have hs7 := hs7.unrot3
          have sb36 : Same B3 B6 := sb5.trans sb6
          have sb16 : Same B1 B6 := (sb2.trans sb3).trans sb36
          refine ⟨((am ++ [r], ap ++ [dd]), (some _, some _)), B6, rfl, sb1.trans sb16, ?_, by simp [ham], by simp [hap], all_put hx ham hRm (sb36 _ _ er) fun _ _ z => sb16 _ _ z, all_put hx hap hRp ed fun _ _ z => sb16 _ _ z⟩
          dsimp only
          have e1 := zipK_put (c := r) hd hx ham
          have e2 := zipK_put (c := dd) hd hx hap
          rw [List.length_append, List.length_append, ham, hap]
          rw [ham, hap] at hs7
          rw [e1, e2] at hs7
          exact hs7
    · obtain ⟨⟨am, ap⟩, s2, s3⟩ := s
      obtain ⟨ham, hap, hRm, hRp⟩ := pp
      dsimp only at ham hap hRm hRp hs1 ⊢
      rw [List.length_map] at ham hap
      rw [ham, hap, List.take_length] at hs1
      have hs2 := hs1.rot3
      obtain ⟨hs3, sb3⟩ := hs2.still (by simpa using hs2.ne01)
      have eq_ : upd B1 q (.dK (zipK xs ap)) q = some (.dK (zipK xs ap)) := upd_same
      generalize upd B1 q (.dK (zipK xs ap)) = B3 at hs3 sb3 eq_
      have hs4 := hs3.swap
      obtain ⟨hs5, sb5⟩ := hs4.still (by simpa using hs4.ne01)
      have em : upd B3 m (.dK (zipK xs am)) m = some (.dK (zipK xs am)) := upd_same
      generalize upd B3 m (.dK (zipK xs am)) = B5 at hs5 sb5 em
      have hpp := hs5.get List.mem_cons_self
      have bpp := (hs5.mu _ List.mem_cons_self).1
      dsimp only at hpp bpp
      have sB6 : Same B5 (upd B5 p (.ins (He.ga K "Group") dx (gf n l m q))) := fun b u e => by rw [upd_ne (ne_of_none e bpp)]; exact e
      have ep : upd B5 p (.ins (He.ga K "Group") dx (gf n l m q)) p = some (.ins (He.ga K "Group") dx (gf n l m q)) := upd_same
      have hs6 : HS [p] B H (upd B5 p (.ins (He.ga K "Group") dx (gf n l m q))) H1 [] := by
        refine ⟨hs5.bb.trans sB6, fun b u e => ?_, fun b u n1 n2 e => ?_, fun _ z => (nomatch z), List.nodup_nil⟩
        · by_cases z : b = p
          · subst z; rw [upd_same] at e; cases e; exact hpp
          · rw [upd_ne z] at e; exact hs5.bh _ _ e
        · obtain ⟨h1, h2⟩ := hs5.fr b u n1 n2 e
          exact ⟨by rw [upd_ne (by simpa using n1)]; exact h1, h2⟩
      generalize upd B5 p (.ins (He.ga K "Group") dx (gf n l m q)) = B6 at sB6 ep hs6
      have s76 : Same B7 B6 := ((sb1.trans sb3).trans sb5).trans sB6
      have s16 : Same B1 B6 := (sb3.trans sb5).trans sB6
      refine k B6 H1 hs6 ⟨⟨dx, n, l, m, q, ep, ?_, ?_, ⟨am, by rw [hGn]; exact ham, ?_, fun j x b h1 h2 => s16 _ _ (hRm j x b (by rw [← hGn]; exact h1) h2)⟩, ⟨ap, by rw [hGn]; exact hap, ?_, fun j x b h1 h2 => s16 _ _ (hRp j x b (by rw [← hGn]; exact h1) h2)⟩⟩, hG⟩
      · rw [hGn]; exact s76 _ _ (sb7 _ _ (sb5' _ _ en))
      · rw [hGn]; exact hDl.mono s76 fun _ _ z => s76 _ _ z
      · rw [hGn]; exact sB6 _ _ em
      · rw [hGn]; exact sB6 _ _ (sb5 _ _ eq_)
end Q

set_option Elab.async false
set_option linter.all false
set_option maxRecDepth 100000
set_option maxHeartbeats 4000000
namespace Q
open PySem PySem.Spec PyProof.Rows L2
local macro_rules | `(tactic| walk_at "bf") => `(tactic| first | assumption | (refine' bstep (by assumption) ?r; case r => walk_at "bf") | fail)
local macro_rules | `(tactic| walk_at "rp") => `(tactic| first | assumption | exact Rep.int _ | exact Rep.bl _ | exact Rep.non | (refine' Rep.mono (by assumption) ?r; case r => walk_at "rp") | fail)
local macro_rules | `(tactic| walk_at "hf") => `(tactic| first | assumption | exact HS.up (by assumption) (by walk_at "bf") | exact HS.get (by assumption) List.mem_cons_self | exact HS.get (by assumption) (List.mem_cons_of_mem _ List.mem_cons_self) | exact HS.get (by assumption) (List.mem_cons_of_mem _ (List.mem_cons_of_mem _ List.mem_cons_self)) | exact HS.get (by assumption) (List.mem_cons_of_mem _ (List.mem_cons_of_mem _ (List.mem_cons_of_mem _ List.mem_cons_self))) | fail)
local macro_rules | `(tactic| walk_at "sl") => `(tactic| first | assumption | exact SqL.of (by walk_at "hf") | fail)
local macro_rules | `(tactic| walk_at "st") => `(tactic| first | assumption | exact SqT.of (by walk_at "hf") | fail)
local macro_rules | `(tactic| walk_at "sz") => `(tactic| first | assumption | (refine small_le ?_; first | assumption | omega | (simp; done) | (simp; omega)) | fail)
local macro_rules | `(tactic| walk_at "s1") => `(tactic| first
  | (with_reducible refine x_seq ?_)
  | (with_reducible refine x_asg ?_)
  | ((with_reducible refine x_gname ?_); try simp only [List.set_cons_zero, List.set_cons_succ])
  | ((with_reducible refine' x_var ?h ?_); case h => rfl)
  | (with_reducible refine x_c ?_)
  | (with_reducible refine x_op ?_)
  | (with_reducible refine x_ret ?_)
  | (with_reducible refine x_if ?_)
  | (with_reducible refine x_and ?_)
  | (with_reducible refine x_or ?_)
  | (with_reducible refine x_not ?_)
  | (with_reducible refine x_test ?_)
  | (with_reducible refine x_tB ?_)
  | (with_reducible refine x_tr ?_)
  | (with_reducible refine x_cb ?_)
  | (with_reducible refine x_cons ?_)
  | (with_reducible refine x_nil ?_)
  | (with_reducible refine x_exb ?_)
  | (with_reducible refine x_tt _ _ ?_)
  | (with_reducible refine x_ff _ _ ?_)
  | (with_reducible refine x_dget ?_)
  | (with_reducible refine x_din ?_)
  | (with_reducible refine x_dnin ?_)
  | (with_reducible refine x_dputU ?_)
  | (with_reducible refine x_dnew ?_)
  | (with_reducible refine x_bm ?_)
  | (with_reducible refine x_bm0 ?_)
  | (with_reducible refine x_gsub ?_)
  | (with_reducible refine x_fldU ?_)
  | (with_reducible refine x_sfldU ?_)
  | (with_reducible refine x_gcons ?_)
  | (with_reducible refine x_gnil ?_)
  | (with_reducible refine x_rz1 ?_)
  | (with_reducible refine x_rz2 ?_)
  | (with_reducible refine x_tryAs ?_)
  | (with_reducible refine x_tryOnly ?_)
  | (with_reducible refine x_mtU ?_)
  | (with_reducible refine x_mk ?_)
  | (with_reducible refine x_yes ?_)
  | (with_reducible refine x_un ?_)
  | (with_reducible refine x_neg ?_)
  | (with_reducible refine x_iEnum ?_)
  | (with_reducible refine x_iEnumT ?_)
  | (with_reducible refine x_lst ?_)
  | (with_reducible refine x_tup ?_)
  | (with_reducible refine x_dc ?_)
  | ((with_reducible refine' x_dinO ?h ?_); case h => walk_at "hf")
  | ((with_reducible refine' x_newL ?h ?_); case h => first | exact Nat.zero_le _ | (simp; done) | (simp; omega))
  | ((with_reducible refine' x_newT ?h ?_); case h => first | exact Nat.zero_le _ | (simp; done) | (simp; omega))
  | ((with_reducible refine' x_listL ?h ?_); case h => walk_at "sl")
  | ((with_reducible refine' x_listT ?h ?_); case h => walk_at "st")
  | ((with_reducible refine' x_mulI ?h ?_); case h => first | exact .inl ⟨by decide, by decide⟩ | exact .inr ⟨by decide, by decide⟩ | exact .inl ⟨by omega, by omega⟩ | exact .inr ⟨by omega, by omega⟩)
  | ((with_reducible refine' x_divI ?h ?_); case h => first | exact ⟨by decide, by decide⟩ | exact ⟨by omega, by omega⟩)
  | ((with_reducible refine' x_powI ?h ?_); case h => exact ⟨by decide, by decide, by decide⟩)
  | ((with_reducible refine' x_ixL ?h ?h2 ?_); (case h => walk_at "sl"); (case h2 => first | rfl | assumption))
  | ((with_reducible refine' x_ixT ?h ?h2 ?_); (case h => walk_at "st"); (case h2 => first | rfl | assumption))
  | (with_reducible refine x_m1s ?_)
  | (with_reducible refine x_str1 ?_)
  | (with_reducible refine x_sl ?_)
  | (with_reducible refine x_noPart ?_)
  | (with_reducible refine x_part ?_)
  | (with_reducible refine x_exi ?_)
  | ((with_reducible refine' x_slS ?h ?_); case h => walk_at "sz")
  | ((with_reducible refine' x_slL ?h ?_); case h => walk_at "sl")
  | (with_reducible refine x_pairsC ?_)
  | (with_reducible refine x_pairsN ?_)
  | ((with_reducible refine' x_dgS ?h ?h2 ?_); (case h => walk_at "hf"); (case h2 => assumption))
  | ((with_reducible refine' x_srtT ?h ?h2 ?_); (case h => walk_at "st"); (case h2 => omega))
  | ((with_reducible refine' x_srtL ?h ?h2 ?_); (case h => walk_at "sl"); (case h2 => omega))
  | ((with_reducible refine' x_inLS ?h ?_); case h => walk_at "sl")
  | ((with_reducible refine' x_inTS ?h ?_); case h => walk_at "st")
  | ((with_reducible refine' x_ninLS ?h ?_); case h => walk_at "sl")
  | ((with_reducible refine' x_ninTS ?h ?_); case h => walk_at "st")
  | ((with_reducible refine' x_tyL ?h ?_); case h => walk_at "sl")
  | ((with_reducible refine' x_gtup ?h ?h2 ?_); (case h => walk_at "st"); (case h2 => rfl))
  | (with_reducible refine x_next ?_)
  | (with_reducible refine x_for ?_)
  | (with_reducible refine x_iList ?_)
  | (with_reducible refine x_iTup ?_)
  | (with_reducible refine x_iStr ?_)
  | (with_reducible refine x_iRng1 ?_)
  | (with_reducible refine x_iRng2 ?_)
  | (with_reducible refine x_lc ?_)
  | (with_reducible refine x_drop ?_)
  | (with_reducible refine x_retN ?_)
  | (with_reducible refine x_cont ?_)
  | (with_reducible refine x_break ?_)
  | (with_reducible refine x_cl ?_)
  | (with_reducible refine x_isN ?_)
  | (with_reducible refine x_notN ?_)
  | (with_reducible refine x_andV ?_)
  | (with_reducible refine x_orV ?_)
  | (with_reducible refine x_notV ?_)
  | (with_reducible refine x_ifE ?_)
  | (with_reducible refine x_addI ?_)
  | (with_reducible refine x_subI ?_)
  | (with_reducible refine x_ltI ?_)
  | (with_reducible refine x_leI ?_)
  | (with_reducible refine x_gtI ?_)
  | (with_reducible refine x_geI ?_)
  | (with_reducible refine x_ltS ?_)
  | (with_reducible refine x_abs ?_)
  | (with_reducible refine x_min2 ?_)
  | (with_reducible refine x_max2 ?_)
  | (with_reducible refine x_int1 ?_)
  | (with_reducible refine x_notInS ?_)
  | ((with_reducible refine' x_eq ?h ?_); case h => rfl)
  | ((with_reducible refine' x_ne ?h ?_); case h => rfl)
  | ((with_reducible refine' x_modI ?h ?_); case h => first | decide | omega)
  | ((with_reducible refine' x_isiD ?h1 ?h2 ?h3 ?_); (case h1 => assumption); (case h2 => walk_at "rp"); (case h3 => decide))
  | ((with_reducible refine' x_lenS ?h ?_); case h => walk_at "sz")
  | ((with_reducible refine' x_lenL ?h ?_); case h => walk_at "sl")
  | ((with_reducible refine' x_lenT ?h ?_); case h => walk_at "st")
  | ((with_reducible refine' x_lenD ?h ?_); case h => walk_at "hf")
  | fail)
local macro_rules | `(tactic| walk_at "sx") => `(tactic| repeat walk_at "s1")
/-! ### calls that hand back new things that may change -/
theorem HS.none0 {S : List Addr} {B0 H0 B H : Hp} {M : List (Addr × HO)} (h : HS S B0 H0 B H M) {p : Addr} (hp : H p = none) : H0 p = none ∨ p ∈ S := by
  by_cases hs : p ∈ S
  · exact .inr hs
  · left
    cases q : H0 p with
    | none => rfl
    | some u =>
      cases qb : B0 p with
      | some w => rw [h.bh _ _ (h.bb _ _ qb)] at hp; cases hp
      | none => rw [(h.fr p u hs qb q).2] at hp; cases hp
theorem HS.callN {S : List Addr} {B0 H0 B H B' H' : Hp} {M N : List (Addr × HO)} (h : HS S B0 H0 B H M) (c : HS [] B H B' H' N) : HS S B0 H0 B' H' (N ++ M) := by
  refine ⟨h.bb.trans c.bb, c.bh, fun b u n1 n2 e => ?_, fun q m => ?_, ?_⟩
  · obtain ⟨x, y⟩ := h.fr b u n1 n2 e
    exact c.fr b u (by simp) x y
  · rcases List.mem_append.mp m with m | m
    · obtain ⟨x, y, z⟩ := c.mu q m
      exact ⟨x, y, h.none0 (z.resolve_right (by simp))⟩
    · obtain ⟨x, y, z⟩ := h.mu q m
      obtain ⟨x', y'⟩ := c.fr q.1 q.2 (by simp) x y
      exact ⟨x', y', z⟩
  · rw [List.map_append, List.nodup_append]
    refine ⟨c.nd, h.nd, fun a ha b hb e => ?_⟩
    obtain ⟨q, mq, rfl⟩ := List.mem_map.mp ha
    obtain ⟨r, mr, rfl⟩ := List.mem_map.mp hb
    have h1 := (c.mu q mq).2.2.resolve_right (by simp)
    have h2 := (h.mu r mr).2.1
    rw [e, h2] at h1
    cases h1
theorem HS.call1N {S : List Addr} {B0 H0 B H B' H' : Hp} {M N : List (Addr × HO)} {p : Addr} {o o' : HO} (h : HS S B0 H0 B H ((p, o) :: M)) (c : HS [p] B H B' H' ((p, o') :: N)) : HS S B0 H0 B' H' ((p, o') :: (N ++ M)) := by
  have nd := h.nd
  rw [List.map_cons, List.nodup_cons] at nd
  have cnd := c.nd
  rw [List.map_cons, List.nodup_cons] at cnd
  obtain ⟨hB, hH, hs⟩ := h.mu (p, o) List.mem_cons_self
  dsimp only at hB hH hs
  obtain ⟨c1, c2, _⟩ := c.mu (p, o') List.mem_cons_self
  dsimp only at c1 c2
  have hN : ∀ q ∈ N, H q.1 = none := fun q m => by
    rcases (c.mu q (List.mem_cons_of_mem _ m)).2.2 with z | z
    · exact z
    · exact absurd (List.mem_map.mpr ⟨q, m, by simpa using z⟩) cnd.1
  refine ⟨h.bb.trans c.bb, c.bh, fun b u n1 n2 e => ?_, fun q m => ?_, ?_⟩
  · obtain ⟨x, y⟩ := h.fr b u n1 n2 e
    have : b ≠ p := fun z => by
      subst z
      rcases hs with k | k
      · rw [k] at e; cases e
      · exact n1 k
    exact c.fr b u (by simpa using this) x y
  · rcases List.mem_cons.mp m with rfl | m
    · exact ⟨c1, c2, hs⟩
    · rcases List.mem_append.mp m with m | m
      · obtain ⟨x, y, z⟩ := c.mu q (List.mem_cons_of_mem _ m)
        exact ⟨x, y, h.none0 (hN q m)⟩
      · obtain ⟨x, y, z⟩ := h.mu q (List.mem_cons_of_mem _ m)
        have : q.1 ≠ p := fun e => nd.1 (List.mem_map.mpr ⟨q, m, e⟩)
        obtain ⟨x', y'⟩ := c.fr q.1 q.2 (by simpa using this) x y
        exact ⟨x', y', z⟩
  · rw [List.map_cons, List.nodup_cons, List.map_append, List.nodup_append]
    refine ⟨fun z => ?_, cnd.2, nd.2, fun a ha b hb e => ?_⟩
    · rcases List.mem_append.mp z with z | z
      · exact cnd.1 z
      · exact nd.1 z
    obtain ⟨q, mq, rfl⟩ := List.mem_map.mp ha
    obtain ⟨r, mr, rfl⟩ := List.mem_map.mp hb
    have h1 := hN q mq
    have h2 := (h.mu r (List.mem_cons_of_mem _ mr)).2.1
    rw [e, h2] at h1
    cases h1
/-! ### Group.people -/
abbrev N_Group_people : List Str := ["self"]
def t_Group_people (K : PySem.W.Frag) (E : XK) : TS := (tRet (tCB (rListOf K) (tCons (tFld K (tVar 0) "names") tNil)))
def sp_Group_people (K : PySem.W.Frag) : Sp := fun vs H Q E => ∃ p B G, vs = [.ref p] ∧ Same B H ∧ GAt K B p G ∧ ∀ B' H' l, HS [] B H B' H' [(l, .lst (G.names.map V.str))] → Q (.ref l) H'
theorem pure_Group_people {K : PySem.W.Frag} (gk : GK K) {vs : List V} {H : Hp} {Q : VK} {E : XK} (h : sp_Group_people K vs H Q E) : t_Group_people K E { nx := fun _ H' => Q .non H', rt := Q } (start N_Group_people vs) H := by
  obtain ⟨p, B, G, rfl, sB, g, k⟩ := h
  have hs := HS.start sB
  show t_Group_people K E _ [some (.ref p)] H
  unfold t_Group_people
  obtain ⟨⟨dx, n, l, m, q, h1, h2, h3, h4, h5⟩, ok⟩ := g
  walk_at "sx"
  refine x_fld (hs.up h1) gk.cl gk.nn (gf_names n l m q) ?_
  walk_at "sx"
  exact new_M hs (fun r H1 hs1 _ => k B H1 r hs1)
/-! ### drawing -/
def VSt (a b : Int) : Prop := 0 ≤ a ∧ 0 ≤ b ∧ b < 2147483629
def stO (a b : Int) : HO := .lst [.int a, .int b]
abbrev N__law_cell : List Str := ["_law_script", "_law_k", "_law_number", "_law_seed"]
def t__law_cell (K : PySem.W.Frag) (E : XK) : TS := (tSeq (tAsg (tC (.int 0)) (gName 2))
  (tSeq (tIfS (tTest (tOp rLtI (tVar 1) (tCB (rLenA K) (tCons (tVar 0) tNil)))) (tAsg (tCB rAbs (tCons (tOp (rIxL K) (tVar 0) (tVar 1)) tNil)) (gName 2)) tNext)
  (tSeq (tAsg (tOp rModI (tCB rInt1 (tCons (tOp rAddI (tOp rAddI (tOp rAddI (tVar 2) (tOp rMulI (tC (.int 7919)) (tVar 1))) (tOp rMulI (tC (.int 104729)) (tCB rMin2 (tCons (tCB (rLenA K) (tCons (tVar 0) tNil)) (tCons (tC (.int 63)) tNil))))) (tC (.int 17))) tNil)) (tC (.int 2147483629))) (gName 3))
  (tSeq (tAsg (tOp rModI (tCB rInt1 (tCons (tOp rAddI (tOp rAddI (tOp rMulI (tOp rMulI (tVar 3) (tVar 3)) (tVar 3)) (tOp rMulI (tC (.int 69621)) (tVar 3))) (tC (.int 11))) tNil)) (tC (.int 2147483629))) (gName 3))
  (tSeq (tIfS (tTest (tOp rLtI (tVar 2) (tOp rPowI (tC (.int 10)) (tC (.int 18))))) (tRet (tLst (tCons (tC (.int 0)) (tCons (tVar 3) tNil)))) tNext)
  (tRet (tLst (tCons (tVar 2) (tCons (tVar 3) tNil)))))))))
def sp__law_cell (K : PySem.W.Frag) : Sp := fun vs H Q E => ∃ (p : Addr) (xs : List Int) (k : Nat) (B : Hp), vs = [.ref p, .int (k : Nat)] ∧ Same B H ∧ SqL K H p (xs.map V.int) ∧ ∀ B' H' l a b, HS [] B H B' H' [(l, stO a b)] → VSt a b → Q (.ref l) H'
theorem atI_nat {α : Type} {xs : List α} {n : Nat} (h : n < xs.length) : atI xs (n : Int) = some xs[n] := by
  unfold atI ixN
  rw [if_pos (Int.natCast_nonneg _), if_pos (by omega)]
  simp [h]
theorem x_join {σ : L2.St} {H : Hp} {De : Ends} {t u : TS} {I : L2.St → Hp → Prop} (h2 : ∀ σ H, I σ H → u De σ H) (h1 : ∀ R : L2.St → Hp → Prop, (∀ σ H, I σ H → R σ H) → t { De with nx := R } σ H) : tSeq t u De σ H := h1 (u De) h2
theorem pure__law_cell {K : PySem.W.Frag} {vs : List V} {H : Hp} {Q : VK} {E : XK} (h : sp__law_cell K vs H Q E) : t__law_cell K E { nx := fun _ H' => Q .non H', rt := Q } (start N__law_cell vs) H := by
  obtain ⟨p, xs, j, B, rfl, sB, hp, k⟩ := h
  have hs := HS.start sB
  show t__law_cell K E _ [some (.ref p), some (.int (j : Nat)), none, none] H
  unfold t__law_cell
  refine x_seq ?_
  walk_at "s1"
  walk_at "s1"
  walk_at "s1"
  refine x_join (I := fun σ H' => H' = H ∧ ∃ n : Int, 0 ≤ n ∧ σ = [some (.ref p), some (.int (j : Nat)), some (.int n), none]) ?_ (fun R hR => ?_)
  · rintro σ H' ⟨rfl, n, hn, rfl⟩
    walk_at "sx"
    generalize hz : (n + 7919 * (j : Int) + 104729 * _ + 17) % 2147483629 = z
    have hz1 : 0 ≤ z ∧ z < 2147483629 := by omega
    walk_at "sx"
    generalize hy : (z * z * z + 69621 * z + 11) % 2147483629 = y
    have hy1 : 0 ≤ y ∧ y < 2147483629 := by omega
    walk_at "sx"
    refine x_ite (fun h => ?_) (fun h => ?_)
    · walk_at "sx"
      exact new_M hs fun l H1 hs1 _ => k _ _ l 0 y hs1 ⟨by decide, hy1.1, hy1.2⟩
    · walk_at "sx"
      exact new_M hs fun l H1 hs1 _ => k _ _ l n y hs1 ⟨hn, hy1.1, hy1.2⟩
  · walk_at "sx"
    refine x_ite (fun h => ?_) (fun h => ?_)
    · have h := of_decide_eq_true h
      have hj : j < (xs.map V.int).length := by omega
      have e := atI_nat hj
      rw [List.getElem_map] at e
      walk_at "sx"
      exact hR _ _ ⟨rfl, _, by split <;> omega, rfl⟩
    · walk_at "sx"
      exact hR _ _ ⟨rfl, 0, by decide, rfl⟩
abbrev N__law_take : List Str := ["_law_state", "_law_many", "_law_mixed", "_law_digit"]
def t__law_take (K : PySem.W.Frag) (E : XK) : TS := (tSeq (tIfS (tTest (tOp rGtI (tOp (rIxL K) (tVar 0) (tC (.int 0))) (tC (.int 0)))) (tSeq (tAsg (tOp rModI (tCB rInt1 (tCons (tOp (rIxL K) (tVar 0) (tC (.int 0))) tNil)) (tVar 1)) (gName 3))
  (tSeq (tAsg (tOp rDivI (tCB rInt1 (tCons (tOp (rIxL K) (tVar 0) (tC (.int 0))) tNil)) (tVar 1)) (gSub (tVar 0) (tC (.int 0)) rSetL))
  (tRet (tVar 3)))) tNext)
  (tSeq (tAsg (tOp rModI (tCB rInt1 (tCons (tOp rAddI (tOp rMulI (tOp (rIxL K) (tVar 0) (tC (.int 1))) (tC (.int 48271))) (tC (.int 30103))) tNil)) (tC (.int 2147483629))) (gSub (tVar 0) (tC (.int 1)) rSetL))
  (tSeq (tAsg (tOp rModI (tCB rInt1 (tCons (tOp rMulI (tOp (rIxL K) (tVar 0) (tC (.int 1))) (tOp rAddI (tOp rDivI (tOp (rIxL K) (tVar 0) (tC (.int 1))) (tC (.int 1009))) (tC (.int 69621)))) tNil)) (tC (.int 2147483647))) (gName 2))
  (tRet (tOp rModI (tCB rInt1 (tCons (tOp rDivI (tVar 2) (tC (.int 7))) tNil)) (tVar 1))))))
def sp__law_take (K : PySem.W.Frag) : Sp := fun vs H Q E => ∃ p a b m B, vs = [.ref p, .int m] ∧ Same B H ∧ B p = none ∧ H p = some (stO a b) ∧ VSt a b ∧ 0 < m ∧ m < 1073741824 ∧
  ∀ B' H' a' b' (n : Nat), HS [p] B H B' H' [(p, stO a' b')] → VSt a' b' → (n : Int) < m → Q (.int (n : Nat)) H'
theorem pure__law_take {K : PySem.W.Frag} {vs : List V} {H : Hp} {Q : VK} {E : XK} (h : sp__law_take K vs H Q E) : t__law_take K E { nx := fun _ H' => Q .non H', rt := Q } (start N__law_take vs) H := by
  obtain ⟨p, a, b, m, B, rfl, sB, bp, hp, ⟨h1, h2, h3⟩, m1, m2, k⟩ := h
  have hs := HS.startS sB bp hp
  show t__law_take K E _ [some (.ref p), some (.int m), none, none] H
  unfold t__law_take
  unfold stO at hs hp
  walk_at "sx"
  refine x_ite (fun h => ?_) (fun h => ?_)
  · have h := of_decide_eq_true h
    walk_at "sx"
    refine x_setL (j := 0) hs rfl (fun H1 hs1 => ?_)
    walk_at "sx"
    have e1 : 0 ≤ a % m := Int.emod_nonneg _ (by omega)
    have e2 : a % m < m := Int.emod_lt_of_pos _ m1
    obtain ⟨n, hn⟩ := Int.eq_ofNat_of_zero_le e1
    rw [hn]
    exact k B H1 (a / m) b n hs1 ⟨Int.ediv_nonneg h1 (by omega), h2, h3⟩ (by omega)
  · walk_at "sx"
    generalize hy : (b * 48271 + 30103) % 2147483629 = y
    have hy1 : 0 ≤ y ∧ y < 2147483629 := by omega
    refine x_setL (j := 1) hs rfl (fun H1 hs1 => ?_)
    walk_at "sx"
    generalize (y * (y / 1009 + 69621)) % 2147483647 / 7 = z
    have e1 : 0 ≤ z % m := Int.emod_nonneg _ (by omega)
    have e2 : z % m < m := Int.emod_lt_of_pos _ m1
    obtain ⟨n, hn⟩ := Int.eq_ofNat_of_zero_le e1
    rw [hn]
    exact k B H1 a y n hs1 ⟨h1, hy1.1, hy1.2⟩ (by omega)
theorem use_take {K : PySem.W.Frag} {S : List Addr} {B0 H0 B H : Hp} {M : List (Addr × HO)} {Q : VK} {E : XK} {p : Addr} {a b m : Int} (hs : HS S B0 H0 B H ((p, stO a b) :: M)) (v : VSt a b) (m1 : 0 < m) (m2 : m < 1073741824)
    (k : ∀ B' H' a' b' (n : Nat), Same B B' → HS S B0 H0 B' H' ((p, stO a' b') :: M) → VSt a' b' → (n : Int) < m → Q (.int (n : Nat)) H') : sp__law_take K [.ref p, .int m] H Q E :=
  ⟨p, a, b, m, B, rfl, hs.bh, (hs.mu _ List.mem_cons_self).1, hs.get List.mem_cons_self, v, m1, m2, fun B' H' a' b' n c v' hn => k B' H' a' b' n c.bb (hs.call1 c) v' hn⟩
theorem use_cell {K : PySem.W.Frag} {S : List Addr} {B0 H0 B H : Hp} {M : List (Addr × HO)} {Q : VK} {E : XK} {p : Addr} {xs : List Int} {j : Nat} (hs : HS S B0 H0 B H M) (hp : SqL K H p (xs.map V.int))
    (k : ∀ B' H' l a b, Same B B' → HS S B0 H0 B' H' ((l, stO a b) :: M) → VSt a b → Q (.ref l) H') : sp__law_cell K [.ref p, .int (j : Nat)] H Q E :=
  ⟨p, xs, j, B, rfl, hs.bh, hp, fun B' H' l a b c v => k B' H' l a b c.bb (hs.callN c) v⟩
/-! ### plain answers -/
abbrev N__law_is_integer : List Str := ["_law_actual"]
def t__law_is_integer (K : PySem.W.Frag) (E : XK) : TS := (tRet (tAndV (tCB (rIsi K) (tCons (tVar 0) (tCons (tC (.ty "int")) tNil))) (tNotV (tCB (rIsi K) (tCons (tVar 0) (tCons (tC (.ty "bool")) tNil))))))
def isInt : D → Bool
  | .int _ => true
  | _ => false
def sp__law_is_integer (K : PySem.W.Frag) : Sp := fun vs H Q E => ∃ v B d, vs = [v] ∧ Same B H ∧ Rep K B v d ∧ Ret B H Q fun _ r => r = .bl (isInt d)
theorem pure__law_is_integer {K : PySem.W.Frag} {vs : List V} {H : Hp} {Q : VK} {E : XK} (h : sp__law_is_integer K vs H Q E) : t__law_is_integer K E { nx := fun _ H' => Q .non H', rt := Q } (start N__law_is_integer vs) H := by
  obtain ⟨v, B, d, rfl, sB, r, k⟩ := h
  have hs := HS.start sB
  show t__law_is_integer K E _ [some v] H
  unfold t__law_is_integer
  walk_at "sx"
  cases d <;> (refine x_ite (fun h => ?_) (fun h => ?_) <;> first | (exfalso; simp [D.isT] at h; done) | (walk_at "sx"; exact k B H _ hs rfl))
theorem use__law_is_integer {K : PySem.W.Frag} {S : List Addr} {B0 H0 B H : Hp} {M : List (Addr × HO)} {Q : VK} {E : XK} {v : V} {d : D} (hs : HS S B0 H0 B H M) (r : Rep K B v d)
    (k : ∀ B' H', Same B B' → HS S B0 H0 B' H' M → Q (.bl (isInt d)) H') : sp__law_is_integer K [v] H Q E := ⟨v, B, d, rfl, hs.bh, r, fun B' H' v' c e => by rw [e]; exact k B' H' c.bb (hs.call c)⟩
end Q

set_option Elab.async false
set_option linter.all false
set_option maxRecDepth 100000
set_option maxHeartbeats 4000000
namespace Q
open PySem PySem.Spec PyProof.Rows L2
local macro_rules | `(tactic| walk_at "bf") => `(tactic| first | assumption | (refine' bstep (by assumption) ?r; case r => walk_at "bf") | fail)
local macro_rules | `(tactic| walk_at "rp") => `(tactic| first | assumption | exact Rep.int _ | exact Rep.bl _ | exact Rep.non | (refine' Rep.mono (by assumption) ?r; case r => walk_at "rp") | fail)
local macro_rules | `(tactic| walk_at "hf") => `(tactic| first | assumption | exact HS.up (by assumption) (by walk_at "bf") | exact HS.get (by assumption) List.mem_cons_self | exact HS.get (by assumption) (List.mem_cons_of_mem _ List.mem_cons_self) | exact HS.get (by assumption) (List.mem_cons_of_mem _ (List.mem_cons_of_mem _ List.mem_cons_self)) | exact HS.get (by assumption) (List.mem_cons_of_mem _ (List.mem_cons_of_mem _ (List.mem_cons_of_mem _ List.mem_cons_self))) | fail)
local macro_rules | `(tactic| walk_at "sl") => `(tactic| first | assumption | exact SqL.of (by walk_at "hf") | fail)
local macro_rules | `(tactic| walk_at "st") => `(tactic| first | assumption | exact SqT.of (by walk_at "hf") | fail)
local macro_rules | `(tactic| walk_at "sz") => `(tactic| first | assumption | (refine small_le ?_; first | assumption | omega | (simp; done) | (simp; omega)) | fail)
local macro_rules | `(tactic| walk_at "s1") => `(tactic| first
  | (with_reducible refine x_seq ?_)
  | (with_reducible refine x_asg ?_)
  | ((with_reducible refine x_gname ?_); try simp only [List.set_cons_zero, List.set_cons_succ])
  | ((with_reducible refine' x_var ?h ?_); case h => rfl)
  | (with_reducible refine x_c ?_)
  | (with_reducible refine x_op ?_)
  | (with_reducible refine x_ret ?_)
  | (with_reducible refine x_if ?_)
  | (with_reducible refine x_and ?_)
  | (with_reducible refine x_or ?_)
  | (with_reducible refine x_not ?_)
  | (with_reducible refine x_test ?_)
  | (with_reducible refine x_tB ?_)
  | (with_reducible refine x_tr ?_)
  | (with_reducible refine x_cb ?_)
  | (with_reducible refine x_cons ?_)
  | (with_reducible refine x_nil ?_)
  | (with_reducible refine x_exb ?_)
  | (with_reducible refine x_tt _ _ ?_)
  | (with_reducible refine x_ff _ _ ?_)
  | (with_reducible refine x_dget ?_)
  | (with_reducible refine x_din ?_)
  | (with_reducible refine x_dnin ?_)
  | (with_reducible refine x_dputU ?_)
  | (with_reducible refine x_dnew ?_)
  | (with_reducible refine x_bm ?_)
  | (with_reducible refine x_bm0 ?_)
  | (with_reducible refine x_gsub ?_)
  | (with_reducible refine x_fldU ?_)
  | (with_reducible refine x_sfldU ?_)
  | (with_reducible refine x_gcons ?_)
  | (with_reducible refine x_gnil ?_)
  | (with_reducible refine x_rz1 ?_)
  | (with_reducible refine x_rz2 ?_)
  | (with_reducible refine x_tryAs ?_)
  | (with_reducible refine x_tryOnly ?_)
  | (with_reducible refine x_mtU ?_)
  | (with_reducible refine x_mk ?_)
  | (with_reducible refine x_yes ?_)
  | (with_reducible refine x_un ?_)
  | (with_reducible refine x_neg ?_)
  | (with_reducible refine x_iEnum ?_)
  | (with_reducible refine x_iEnumT ?_)
  | (with_reducible refine x_lst ?_)
  | (with_reducible refine x_tup ?_)
  | (with_reducible refine x_dc ?_)
  | ((with_reducible refine' x_dinO ?h ?_); case h => walk_at "hf")
  | ((with_reducible refine' x_newL ?h ?_); case h => first | exact Nat.zero_le _ | (simp; done) | (simp; omega))
  | ((with_reducible refine' x_newT ?h ?_); case h => first | exact Nat.zero_le _ | (simp; done) | (simp; omega))
  | ((with_reducible refine' x_listL ?h ?_); case h => walk_at "sl")
  | ((with_reducible refine' x_listT ?h ?_); case h => walk_at "st")
  | ((with_reducible refine' x_mulI ?h ?_); case h => first | exact .inl ⟨by decide, by decide⟩ | exact .inr ⟨by decide, by decide⟩ | exact .inl ⟨by omega, by omega⟩ | exact .inr ⟨by omega, by omega⟩)
  | ((with_reducible refine' x_divI ?h ?_); case h => first | exact ⟨by decide, by decide⟩ | exact ⟨by omega, by omega⟩)
  | ((with_reducible refine' x_powI ?h ?_); case h => exact ⟨by decide, by decide, by decide⟩)
  | ((with_reducible refine' x_ixL ?h ?h2 ?_); (case h => walk_at "sl"); (case h2 => first | rfl | assumption))
  | ((with_reducible refine' x_ixT ?h ?h2 ?_); (case h => walk_at "st"); (case h2 => first | rfl | assumption))
  | (with_reducible refine x_m1s ?_)
  | (with_reducible refine x_str1 ?_)
  | (with_reducible refine x_sl ?_)
  | (with_reducible refine x_noPart ?_)
  | (with_reducible refine x_part ?_)
  | (with_reducible refine x_exi ?_)
  | ((with_reducible refine' x_slS ?h ?_); case h => walk_at "sz")
  | ((with_reducible refine' x_slL ?h ?_); case h => walk_at "sl")
  | (with_reducible refine x_pairsC ?_)
  | (with_reducible refine x_pairsN ?_)
  | ((with_reducible refine' x_dgS ?h ?h2 ?_); (case h => walk_at "hf"); (case h2 => assumption))
  | ((with_reducible refine' x_srtT ?h ?h2 ?_); (case h => walk_at "st"); (case h2 => omega))
  | ((with_reducible refine' x_srtL ?h ?h2 ?_); (case h => walk_at "sl"); (case h2 => omega))
  | ((with_reducible refine' x_inLS ?h ?_); case h => walk_at "sl")
  | ((with_reducible refine' x_inTS ?h ?_); case h => walk_at "st")
  | ((with_reducible refine' x_ninLS ?h ?_); case h => walk_at "sl")
  | ((with_reducible refine' x_ninTS ?h ?_); case h => walk_at "st")
  | ((with_reducible refine' x_tyL ?h ?_); case h => walk_at "sl")
  | ((with_reducible refine' x_gtup ?h ?h2 ?_); (case h => walk_at "st"); (case h2 => rfl))
  | (with_reducible refine x_next ?_)
  | (with_reducible refine x_for ?_)
  | (with_reducible refine x_iList ?_)
  | (with_reducible refine x_iTup ?_)
  | (with_reducible refine x_iStr ?_)
  | (with_reducible refine x_iRng1 ?_)
  | (with_reducible refine x_iRng2 ?_)
  | (with_reducible refine x_lc ?_)
  | (with_reducible refine x_drop ?_)
  | (with_reducible refine x_retN ?_)
  | (with_reducible refine x_cont ?_)
  | (with_reducible refine x_break ?_)
  | (with_reducible refine x_cl ?_)
  | (with_reducible refine x_isN ?_)
  | (with_reducible refine x_notN ?_)
  | (with_reducible refine x_andV ?_)
  | (with_reducible refine x_orV ?_)
  | (with_reducible refine x_notV ?_)
  | (with_reducible refine x_ifE ?_)
  | (with_reducible refine x_addI ?_)
  | (with_reducible refine x_subI ?_)
  | (with_reducible refine x_ltI ?_)
  | (with_reducible refine x_leI ?_)
  | (with_reducible refine x_gtI ?_)
  | (with_reducible refine x_geI ?_)
  | (with_reducible refine x_ltS ?_)
  | (with_reducible refine x_abs ?_)
  | (with_reducible refine x_min2 ?_)
  | (with_reducible refine x_max2 ?_)
  | (with_reducible refine x_int1 ?_)
  | (with_reducible refine x_notInS ?_)
  | ((with_reducible refine' x_eq ?h ?_); case h => rfl)
  | ((with_reducible refine' x_ne ?h ?_); case h => rfl)
  | ((with_reducible refine' x_modI ?h ?_); case h => first | decide | omega)
  | ((with_reducible refine' x_isiD ?h1 ?h2 ?h3 ?_); (case h1 => assumption); (case h2 => walk_at "rp"); (case h3 => decide))
  | ((with_reducible refine' x_lenS ?h ?_); case h => walk_at "sz")
  | ((with_reducible refine' x_lenL ?h ?_); case h => walk_at "sl")
  | ((with_reducible refine' x_lenT ?h ?_); case h => walk_at "st")
  | ((with_reducible refine' x_lenD ?h ?_); case h => walk_at "hf")
  | fail)
local macro_rules | `(tactic| walk_at "sx") => `(tactic| repeat walk_at "s1")
/-! ### more steps: text methods, slices, displays -/
def DispK (p : Addr) (Q : VK) (ps : List (V × V)) (H2 : Hp) : Prop := H2 p = some (.dK []) ∧ ∃ kvs : List (Key × V), ps = kvs.map (fun kv => (kV kv.1, kv.2)) ∧ kvs.length ≤ 15 ∧ Q (.ref p) (upd H2 p (.dK (mergeK [] kvs)))
section
variable {K : PySem.W.Frag} {σ : L2.St} {H : Hp} {Q : VK} {to te tk tv : TE} {tl th : TO} {z x : Str} {p l b : Addr} {xs zs : List V} {m : Int} {S : List Addr} {B0 H0 B : Hp} {M : List (Addr × HO)} {lo hi : Option Int}
theorem x_m1s {r : V → List V → Hp → VK → Prop} (h : to σ H fun x H1 => (∃ a, x = .str a) ∧ te σ H1 fun y H2 => r x [y] H2 Q) : tM1 r to te σ H Q := h
theorem x_joinL {ys : List Str} (hp : SqL K H p (ys.map V.str)) (hz : (ys.map (·.length)).sum + ys.length * z.length ≤ 16777216) (h : Q (.str (Txt.join z ys)) H) : rJoin K (.str z) [.ref p] H Q := ⟨z, p, ys, rfl, rfl, .inl hp, hz, h⟩
theorem x_sl {r : V → Option Int → Option Int → Hp → VK → Prop} (h : te σ H fun x H1 => tl σ H1 fun l H2 => th σ H2 fun u H3 => r x l u H3 Q) : tSl r te tl th σ H Q := h
theorem x_noPart {Qo : Option Int → Hp → Prop} (h : Qo none H) : tNoPart σ H Qo := h
theorem x_part {Qo : Option Int → Hp → Prop} (h : te σ H fun x H1 => ∃ i, x = .int i ∧ Qo (some i) H1) : tPart te σ H Qo := h
theorem x_exi {R : Int → Prop} (h : R m) : ∃ i, V.int m = .int i ∧ R i := ⟨m, rfl, h⟩
theorem x_slS (hz : z.length ≤ sizeLine) (h : Q (.str (cutS z lo hi)) H) : rSlS (.str z) lo hi H Q := ⟨z, rfl, hz, h⟩
theorem x_slL (hp : SqL K H p xs) (h : New (.lst (cutV xs lo hi)) Q H) : rSlL K (.ref p) lo hi H Q := ⟨p, xs, rfl, hp, h⟩
theorem x_slT (hp : SqT K H p xs) (hw : ¬ (HT.sIx xs.length 0 lo = 0 ∧ HT.sIx xs.length xs.length hi = xs.length)) (h : New (.tup (cutV xs lo hi)) Q H) : rSlT K (.ref p) lo hi H Q := ⟨p, xs, rfl, hp, hw, h⟩
theorem x_cat (h1 : H l = some (.lst xs)) (h2 : H b = some (.lst zs)) (hz : xs.length + zs.length ≤ 1000000) (h : New (.lst (xs ++ zs)) Q H) : rCat (.ref l) (.ref b) H Q := ⟨l, b, xs, zs, rfl, rfl, h1, h2, small_le hz, h⟩
theorem x_disp {trs : List (TE × TE)} (hs : HS S B0 H0 B H M) (h : ∀ p H1, HS S B0 H0 B H1 ((p, .dK []) :: M) → tPairs trs σ H1 (DispK p Q)) : tDisp trs σ H Q := fun p hp => h p _ (hs.new hp)
theorem x_pairsC {r : List (TE × TE)} {Qp : List (V × V) → Hp → Prop} (h : tk σ H fun x H1 => tv σ H1 fun y H2 => tPairs r σ H2 fun ps H3 => Qp ((x, y) :: ps) H3) : tPairs ((tk, tv) :: r) σ H Qp := h
theorem x_pairsN {Qp : List (V × V) → Hp → Prop} (h : Qp [] H) : tPairs [] σ H Qp := h
theorem x_dispk {ps : List (V × V)} {kvs : List (Key × V)} (hs : HS S B0 H0 B H ((p, .dK []) :: M)) (e : ps = kvs.map (fun kv => (kV kv.1, kv.2))) (hz : kvs.length ≤ 15) (h : ∀ H', HS S B0 H0 B H' ((p, .dK (mergeK [] kvs)) :: M) → Q (.ref p) H') : DispK p Q ps H :=
  ⟨hs.get List.mem_cons_self, kvs, e, hz, h _ hs.set0⟩
theorem SqL.same {H H' : Hp} (h : SqL K H p xs) (s : Same H H') : SqL K H' p xs := h.elim (fun h => .inl (h.elim (fun h => .inl (s _ _ h)) fun ⟨o, h⟩ => .inr ⟨o, s _ _ h⟩)) fun h => .inr h
end
theorem HS.keep {S : List Addr} {B0 H0 B H : Hp} {M : List (Addr × HO)} (hs : HS S B0 H0 B H M) (sb : Same B0 H0) {t : Addr} {o : HO} (ht : H0 t = some o) (hne : t ∉ S) : H t = some o := by
  cases e : B0 t with
  | some u => 
    have := sb _ _ e
    rw [ht] at this
    cases this
    exact hs.bh _ _ (hs.bb _ _ e)
  | none => exact (hs.fr t o hne e ht).2
end Q

set_option Elab.async false
set_option linter.all false
set_option maxRecDepth 100000
set_option maxHeartbeats 4000000
namespace Q
open PySem PySem.Spec PyProof.Rows L2
local macro_rules | `(tactic| walk_at "bf") => `(tactic| first | assumption | (refine' bstep (by assumption) ?r; case r => walk_at "bf") | fail)
local macro_rules | `(tactic| walk_at "rp") => `(tactic| first | assumption | exact Rep.int _ | exact Rep.bl _ | exact Rep.non | (refine' Rep.mono (by assumption) ?r; case r => walk_at "rp") | fail)
local macro_rules | `(tactic| walk_at "hf") => `(tactic| first | assumption | exact HS.up (by assumption) (by walk_at "bf") | exact HS.get (by assumption) List.mem_cons_self | exact HS.get (by assumption) (List.mem_cons_of_mem _ List.mem_cons_self) | exact HS.get (by assumption) (List.mem_cons_of_mem _ (List.mem_cons_of_mem _ List.mem_cons_self)) | exact HS.get (by assumption) (List.mem_cons_of_mem _ (List.mem_cons_of_mem _ (List.mem_cons_of_mem _ List.mem_cons_self))) | fail)
local macro_rules | `(tactic| walk_at "sl") => `(tactic| first | assumption | exact SqL.of (by walk_at "hf") | fail)
local macro_rules | `(tactic| walk_at "st") => `(tactic| first | assumption | exact SqT.of (by walk_at "hf") | fail)
local macro_rules | `(tactic| walk_at "sz") => `(tactic| first | assumption | (refine small_le ?_; first | assumption | omega | (simp; done) | (simp; omega)) | fail)
local macro_rules | `(tactic| walk_at "s1") => `(tactic| first
  | (with_reducible refine x_seq ?_)
  | (with_reducible refine x_asg ?_)
  | ((with_reducible refine x_gname ?_); try simp only [List.set_cons_zero, List.set_cons_succ])
  | ((with_reducible refine' x_var ?h ?_); case h => rfl)
  | (with_reducible refine x_c ?_)
  | (with_reducible refine x_op ?_)
  | (with_reducible refine x_ret ?_)
  | (with_reducible refine x_if ?_)
  | (with_reducible refine x_and ?_)
  | (with_reducible refine x_or ?_)
  | (with_reducible refine x_not ?_)
  | (with_reducible refine x_test ?_)
  | (with_reducible refine x_tB ?_)
  | (with_reducible refine x_tr ?_)
  | (with_reducible refine x_cb ?_)
  | (with_reducible refine x_cons ?_)
  | (with_reducible refine x_nil ?_)
  | (with_reducible refine x_exb ?_)
  | (with_reducible refine x_tt _ _ ?_)
  | (with_reducible refine x_ff _ _ ?_)
  | (with_reducible refine x_dget ?_)
  | (with_reducible refine x_din ?_)
  | (with_reducible refine x_dnin ?_)
  | (with_reducible refine x_dputU ?_)
  | (with_reducible refine x_dnew ?_)
  | (with_reducible refine x_bm ?_)
  | (with_reducible refine x_bm0 ?_)
  | (with_reducible refine x_gsub ?_)
  | (with_reducible refine x_fldU ?_)
  | (with_reducible refine x_sfldU ?_)
  | (with_reducible refine x_gcons ?_)
  | (with_reducible refine x_gnil ?_)
  | (with_reducible refine x_rz1 ?_)
  | (with_reducible refine x_rz2 ?_)
  | (with_reducible refine x_tryAs ?_)
  | (with_reducible refine x_tryOnly ?_)
  | (with_reducible refine x_mtU ?_)
  | (with_reducible refine x_mk ?_)
  | (with_reducible refine x_yes ?_)
  | (with_reducible refine x_un ?_)
  | (with_reducible refine x_neg ?_)
  | (with_reducible refine x_iEnum ?_)
  | (with_reducible refine x_iEnumT ?_)
  | (with_reducible refine x_lst ?_)
  | (with_reducible refine x_tup ?_)
  | (with_reducible refine x_dc ?_)
  | ((with_reducible refine' x_dinO ?h ?_); case h => walk_at "hf")
  | ((with_reducible refine' x_newL ?h ?_); case h => first | exact Nat.zero_le _ | (simp; done) | (simp; omega))
  | ((with_reducible refine' x_newT ?h ?_); case h => first | exact Nat.zero_le _ | (simp; done) | (simp; omega))
  | ((with_reducible refine' x_listL ?h ?_); case h => walk_at "sl")
  | ((with_reducible refine' x_listT ?h ?_); case h => walk_at "st")
  | ((with_reducible refine' x_mulI ?h ?_); case h => first | exact .inl ⟨by decide, by decide⟩ | exact .inr ⟨by decide, by decide⟩ | exact .inl ⟨by omega, by omega⟩ | exact .inr ⟨by omega, by omega⟩)
  | ((with_reducible refine' x_divI ?h ?_); case h => first | exact ⟨by decide, by decide⟩ | exact ⟨by omega, by omega⟩)
  | ((with_reducible refine' x_powI ?h ?_); case h => exact ⟨by decide, by decide, by decide⟩)
  | ((with_reducible refine' x_ixL ?h ?h2 ?_); (case h => walk_at "sl"); (case h2 => first | rfl | assumption))
  | ((with_reducible refine' x_ixT ?h ?h2 ?_); (case h => walk_at "st"); (case h2 => first | rfl | assumption))
  | (with_reducible refine x_m1s ?_)
  | (with_reducible refine x_str1 ?_)
  | (with_reducible refine x_sl ?_)
  | (with_reducible refine x_noPart ?_)
  | (with_reducible refine x_part ?_)
  | (with_reducible refine x_exi ?_)
  | ((with_reducible refine' x_slS ?h ?_); case h => walk_at "sz")
  | ((with_reducible refine' x_slL ?h ?_); case h => walk_at "sl")
  | (with_reducible refine x_pairsC ?_)
  | (with_reducible refine x_pairsN ?_)
  | ((with_reducible refine' x_dgS ?h ?h2 ?_); (case h => walk_at "hf"); (case h2 => assumption))
  | ((with_reducible refine' x_srtT ?h ?h2 ?_); (case h => walk_at "st"); (case h2 => omega))
  | ((with_reducible refine' x_srtL ?h ?h2 ?_); (case h => walk_at "sl"); (case h2 => omega))
  | ((with_reducible refine' x_inLS ?h ?_); case h => walk_at "sl")
  | ((with_reducible refine' x_inTS ?h ?_); case h => walk_at "st")
  | ((with_reducible refine' x_ninLS ?h ?_); case h => walk_at "sl")
  | ((with_reducible refine' x_ninTS ?h ?_); case h => walk_at "st")
  | ((with_reducible refine' x_tyL ?h ?_); case h => walk_at "sl")
  | ((with_reducible refine' x_gtup ?h ?h2 ?_); (case h => walk_at "st"); (case h2 => rfl))
  | (with_reducible refine x_next ?_)
  | (with_reducible refine x_for ?_)
  | (with_reducible refine x_iList ?_)
  | (with_reducible refine x_iTup ?_)
  | (with_reducible refine x_iStr ?_)
  | (with_reducible refine x_iRng1 ?_)
  | (with_reducible refine x_iRng2 ?_)
  | (with_reducible refine x_lc ?_)
  | (with_reducible refine x_drop ?_)
  | (with_reducible refine x_retN ?_)
  | (with_reducible refine x_cont ?_)
  | (with_reducible refine x_break ?_)
  | (with_reducible refine x_cl ?_)
  | (with_reducible refine x_isN ?_)
  | (with_reducible refine x_notN ?_)
  | (with_reducible refine x_andV ?_)
  | (with_reducible refine x_orV ?_)
  | (with_reducible refine x_notV ?_)
  | (with_reducible refine x_ifE ?_)
  | (with_reducible refine x_addI ?_)
  | (with_reducible refine x_subI ?_)
  | (with_reducible refine x_ltI ?_)
  | (with_reducible refine x_leI ?_)
  | (with_reducible refine x_gtI ?_)
  | (with_reducible refine x_geI ?_)
  | (with_reducible refine x_ltS ?_)
  | (with_reducible refine x_abs ?_)
  | (with_reducible refine x_min2 ?_)
  | (with_reducible refine x_max2 ?_)
  | (with_reducible refine x_int1 ?_)
  | (with_reducible refine x_notInS ?_)
  | ((with_reducible refine' x_eq ?h ?_); case h => rfl)
  | ((with_reducible refine' x_ne ?h ?_); case h => rfl)
  | ((with_reducible refine' x_modI ?h ?_); case h => first | decide | omega)
  | ((with_reducible refine' x_isiD ?h1 ?h2 ?h3 ?_); (case h1 => assumption); (case h2 => walk_at "rp"); (case h3 => decide))
  | ((with_reducible refine' x_lenS ?h ?_); case h => walk_at "sz")
  | ((with_reducible refine' x_lenL ?h ?_); case h => walk_at "sl")
  | ((with_reducible refine' x_lenT ?h ?_); case h => walk_at "st")
  | ((with_reducible refine' x_lenD ?h ?_); case h => walk_at "hf")
  | fail)
local macro_rules | `(tactic| walk_at "sx") => `(tactic| repeat walk_at "s1")
/-! ### names that are drawn -/
abbrev N__law_name : List Str := ["_law_state", "_law_taken", "_law_letters", "_law_size", "_law_name_here", "_law_last", "_law_k", "_law_other"]
def t__law_name (K : PySem.W.Frag) (E : XK) : TS := (tSeq (tAsg (tC (.str "abcdefghijklmnopqrstuvwxyz")) (gName 2))
  (tSeq (tAsg (tOp rAddI (tC (.int 1)) (tCl (sp__law_take K) (WE0 E) (tCons (tVar 0) (tCons (tC (.int 8)) tNil)))) (gName 3))
  (tSeq (tAsg (tM1 (rJoin K) (tC (.str "")) (tLc (iRng1 (tCons (tVar 3) tNil)) (gName 6) tYes (tOp rIxS (tVar 2) (tCl (sp__law_take K) W0 (tCons (tVar 0) (tCons (tC (.int 26)) tNil)))) [6])) (gName 4))
  (tSeq (tIfS (tTest (tOp (rIn K true) (tVar 4) (tVar 1))) (tRet (tVar 4)) tNext)
  (tSeq (tAsg (tCl (sp__law_take K) (WE0 E) (tCons (tVar 0) (tCons (tC (.int 26)) tNil))) (gName 5))
  (tSeq (tFor (iRng1 (tCons (tC (.int 26)) tNil)) (gName 6) (tSeq (tAsg (tOp rAddS (tSl rSlS (tVar 4) tNoPart (tPart (tC (.int 7)))) (tOp rIxS (tVar 2) (tOp rModI (tCB rInt1 (tCons (tOp rAddI (tVar 5) (tVar 6)) tNil)) (tC (.int 26))))) (gName 7))
  (tIfS (tTest (tOp (rIn K true) (tVar 7) (tVar 1))) (tRet (tVar 7)) tNext)))
  (tRet (tC (.str "")))))))))
def sp__law_name (K : PySem.W.Frag) : Sp := fun vs H Q E => ∃ (p t : Addr) (a b : Int) (taken : List Str) (B : Hp), vs = [.ref p, .ref t] ∧ Same B H ∧ B p = none ∧ H p = some (stO a b) ∧ VSt a b ∧ H t = some (.lst (taken.map V.str)) ∧ t ≠ p ∧ taken.length ≤ 25 ∧
  ∀ B' H' a' b' x, HS [p] B H B' H' [(p, stO a' b')] → VSt a' b' → okName x = true → x ∉ taken → Q (.str x) H'
theorem join_one (cs : List Nat) : (Txt.join "" (cs.map fun c => (⟨#[c]⟩ : Str))).cps.toList = cs := by
  rw [TL.join_eq]
  have : ∀ cs : List Nat, (Str.join "" (cs.map fun c => (⟨#[c]⟩ : Str))).cps.toList = cs := by
    intro cs
    induction cs with
    | nil => rfl
    | cons c r ih =>
      cases r with
      | nil => rfl
      | cons d r =>
        show (((⟨#[c]⟩ : Str) ++ "" ++ Str.join "" ((d :: r).map fun c => (⟨#[c]⟩ : Str)) : Str)).cps.toList = _
        show ((#[c] ++ #[] ++ (Str.join "" ((d :: r).map fun c => (⟨#[c]⟩ : Str))).cps : Array Nat)).toList = _
        rw [Array.toList_append, ih]
        rfl
  exact this cs
theorem okName_of {x : Str} {cs : List Nat} (e : x.cps.toList = cs) (h1 : 1 ≤ cs.length) (h2 : cs.length ≤ 8) (h3 : ∀ c ∈ cs, c ∈ letters.cps.toList) : okName x = true := by
  have hl : x.length = cs.length := by rw [← e, Array.length_toList]; rfl
  unfold okName
  rw [hl, e, decide_eq_true h1, decide_eq_true h2, Bool.true_and, Bool.true_and, List.all_eq_true]
  exact fun c m => decide_eq_true (h3 c m)
theorem letters_len : letters.cps.toList.length = 26 := by decide +kernel
theorem letters_nd : letters.cps.toList.Nodup := by decide +kernel
theorem pure__law_name {K : PySem.W.Frag} {vs : List V} {H : Hp} {Q : VK} {E : XK} (h : sp__law_name K vs H Q E) : t__law_name K E { nx := fun _ H' => Q .non H', rt := Q } (start N__law_name vs) H := by
  obtain ⟨p, t, a, b, taken, B, rfl, sB, bp, hp, hv, ht, htp, hl, k⟩ := h
  have hs := HS.startS sB bp hp
  have htS : t ∉ [p] := by simpa using htp
  show t__law_name K E _ [some (.ref p), some (.ref t), none, none, none, none, none, none] H
  unfold t__law_name
  walk_at "sx"
  refine use_take hs hv (by decide) (by decide) (fun B1 H1 a1 b1 n sb1 hs1 hv1 hn => ?_)
  walk_at "sx"
  refine ⟨_, rfl, by omega, by omega, fun D hD => ?_⟩
  have en : (1 + (n : Int)).toNat = n + 1 := by omega
  rw [en]
  refine c_range (α := Int × Int) (Mf := fun s => [(p, stO s.1 s.2)]) (P := fun i s acc _ => VSt s.1 s.2 ∧ ∃ cs : List Nat, cs.length = i ∧ acc = (cs.map fun c => (⟨#[c]⟩ : Str)).map V.str ∧ ∀ c ∈ cs, c ∈ letters.cps.toList)
    (s0 := (a1, b1)) hs1 hD ⟨hv1, [], rfl, rfl, by simp⟩ (fun i s acc B2 H2 hi hacc sb2 hs2 pp => ?_) (fun s acc B2 H2 sb2 hs2 hacc pp => ?_)
  · obtain ⟨hv2, cs, hcl, rfl, hcs⟩ := pp
    walk_at "sx"
    refine ⟨rfl, ?_⟩
    walk_at "sx"
    refine use_take hs2.swap hv2 (by decide) (by decide) (fun B3 H3 a3 b3 m sb3 hs3 hv3 hm => ?_)
    have hm' : m < letters.cps.toList.length := by rw [letters_len]; omega
    refine x_ixS (by rw [sizeLine_eq]; decide +kernel) (atI_nat hm') ?_
    refine c_keep (s := (a3, b3)) (sb2.trans sb3) hs3.swap (by simp [hcl]) (by omega) ⟨hv3, cs ++ [letters.cps.toList[m]], by simp [hcl], by simp, fun c mc => ?_⟩
    rcases List.mem_append.mp mc with z | z
    · exact hcs c z
    · have : c = letters.cps.toList[m] := by simpa using z
      rw [this]; exact List.getElem_mem _
  · obtain ⟨hv2, cs, hcl, rfl, hcs⟩ := pp
    walk_at "sx"
    refine x_joinL (SqL.of (hs2.get List.mem_cons_self)) ?_ ?_
    · rw [List.map_map]
      have : (fun x : Str => x.length) ∘ (fun c => (⟨#[c]⟩ : Str)) = fun _ => 1 := rfl
      rw [this]
      simp only [List.map_const', List.sum_replicate_nat, List.length_map]
      have : (("" : Str)).length = 0 := rfl
      rw [this]
      omega
    have hy := join_one cs
    generalize Txt.join "" (cs.map fun c => (⟨#[c]⟩ : Str)) = y at hy
    have oky : okName y = true := okName_of hy (by omega) (by omega) hcs
    have hs3 := hs2.drop
    have ht3 := hs3.keep sB ht htS
    have hyl : y.length = n + 1 := by rw [← hcl, ← hy, Array.length_toList]; rfl
    walk_at "sx"
    refine x_ite (fun h => ?_) (fun h => ?_)
    · walk_at "sx"
      exact k B2 H2 _ _ y hs3 hv2 oky (by simpa using h)
    walk_at "sx"
    refine use_take hs3 hv2 (by decide) (by decide) (fun B4 H4 a4 b4 m sb4 hs4 hv4 hm => ?_)
    walk_at "sx"
    refine ⟨_, rfl, by omega, by omega, ?_⟩
    have e26 : (26 : Int).toNat = 26 := rfl
    rw [e26]
    have hcut : (cutS y none (some 7)).cps.toList = cs.take 7 := by
      unfold cutS
      have h1 : HT.sIx y.length 0 none = 0 := rfl
      have h2 : HT.sIx y.length y.length (some 7) = min 7 y.length := HT.sIx_nat _ _ 7
      rw [h1, h2, hy]
      simp only [List.drop_zero, Nat.sub_zero]
      rw [hyl, ← hcl]
      simp
    let o : Nat → Str := fun j => cutS y none (some 7) ++ (⟨#[letters.cps.toList.getD ((m + j) % 26) 0]⟩ : Str)
    have ho : ∀ j, (o j).cps.toList = cs.take 7 ++ [letters.cps.toList.getD ((m + j) % 26) 0] := fun j => by
      show (((cutS y none (some 7)).cps ++ #[letters.cps.toList.getD ((m + j) % 26) 0] : Array Nat)).toList = _
      rw [Array.toList_append, hcut]
    have hcutl : (cutS y none (some 7)).length ≤ 7 := by
      have : (cutS y none (some 7)).length = (cs.take 7).length := by rw [← hcut, Array.length_toList]; rfl
      rw [this, List.length_take]; omega
    refine l_range (α := Option V × Option V) (σf := fun s => [some (.ref p), some (.ref t), some (.str "abcdefghijklmnopqrstuvwxyz"), some (.int (1 + (n : Nat))), some (.str y), some (.int (m : Nat)), s.1, s.2]) (Mf := fun _ => [(p, stO a4 b4)])
      (P := fun i _ _ => ∀ j, j < i → o j ∈ taken) (s0 := (none, none)) hs4 (by omega) (fun i s B5 H5 hi sb5 hs5 pp => ?_) (fun s B5 H5 sb5 hs5 pp => ?_)
    · have ht5 := hs5.keep sB ht htS
      walk_at "sx"
      have em : ((m : Int) + (0 + (i : Int))) % 26 = ((m + i) % 26 : Nat) := by omega
      rw [em]
      have hm' : (m + i) % 26 < letters.cps.toList.length := by rw [letters_len]; omega
      refine x_ixS (by rw [sizeLine_eq]; decide +kernel) (atI_nat hm') ?_
      refine x_addS (small_le ?_) ?_
      · show (cutS y none (some 7)).length + 1 ≤ _
        omega
      have eo : cutS y none (some 7) ++ (⟨#[letters.cps.toList[(m + i) % 26]]⟩ : Str) = o i := by
        show _ = cutS y none (some 7) ++ (⟨#[letters.cps.toList.getD ((m + i) % 26) 0]⟩ : Str)
        rw [List.getD_eq_getElem?_getD, List.getElem?_eq_getElem hm', Option.getD_some]
      rw [eo]
      walk_at "sx"
      refine x_ite (fun h => ?_) (fun h => ?_)
      · walk_at "sx"
        refine k B5 H5 _ _ (o i) hs5 hv4 (okName_of (ho i) (by simp) (by simp; omega) fun c mc => ?_) (by simpa using h)
        rcases List.mem_append.mp mc with z | z
        · exact hcs c (List.mem_of_mem_take z)
        · have : c = letters.cps.toList.getD ((m + i) % 26) 0 := by simpa using z
          rw [this, List.getD_eq_getElem?_getD, List.getElem?_eq_getElem hm', Option.getD_some]
          exact List.getElem_mem _
      · walk_at "sx"
        refine ⟨(some _, some _), B5, rfl, sb5, hs5, fun j hj => ?_⟩
        by_cases e : j = i
        · rw [e]; simpa using h
        · exact pp j (by omega)
    · exfalso
      have h1 : ((List.range 26).map o).Nodup := by
        rw [List.nodup_iff_pairwise_ne, List.pairwise_map]
        refine List.Pairwise.imp_of_mem ?_ List.nodup_range
        intro i j hi hj hne e
        have e1 : (o i).cps.toList = (o j).cps.toList := by rw [e]
        rw [ho, ho] at e1
        have e2 := List.append_cancel_left e1
        have e3 : letters.cps.toList.getD ((m + i) % 26) 0 = letters.cps.toList.getD ((m + j) % 26) 0 := by simpa using e2
        have hi' : (m + i) % 26 < letters.cps.toList.length := by rw [letters_len]; omega
        have hj' : (m + j) % 26 < letters.cps.toList.length := by rw [letters_len]; omega
        rw [List.getD_eq_getElem?_getD, List.getD_eq_getElem?_getD, List.getElem?_eq_getElem hi', List.getElem?_eq_getElem hj', Option.getD_some, Option.getD_some] at e3
        have e4 := (List.getElem_inj letters_nd).mp e3
        have := List.mem_range.mp hi
        have := List.mem_range.mp hj
        omega
      have h2 := nodup_len h1 (ys := taken) fun x mx => by
        obtain ⟨j, hj, rfl⟩ := List.mem_map.mp mx
        exact pp j (List.mem_range.mp hj)
      rw [List.length_map, List.length_range] at h2
      omega
theorem use_name {K : PySem.W.Frag} {S : List Addr} {B0 H0 B H : Hp} {M : List (Addr × HO)} {Q : VK} {E : XK} {p t : Addr} {a b : Int} {taken : List Str} (hs : HS S B0 H0 B H ((p, stO a b) :: M)) (v : VSt a b) (ht : H t = some (.lst (taken.map V.str))) (hl : taken.length ≤ 25)
    (k : ∀ B' H' a' b' x, Same B B' → HS S B0 H0 B' H' ((p, stO a' b') :: M) → VSt a' b' → okName x = true → x ∉ taken → Q (.str x) H') (hne : t ≠ p) : sp__law_name K [.ref p, .ref t] H Q E :=
  ⟨p, t, a, b, taken, B, rfl, hs.bh, (hs.mu _ List.mem_cons_self).1, hs.get List.mem_cons_self, v, ht, hne, hl, fun B' H' a' b' x c v' h1 h2 => k B' H' a' b' x c.bb (hs.call1 c) v' h1 h2⟩
abbrev N__law_names : List Str := ["_law_state", "_law_many", "_law_names_here", "_law_k"]
def t__law_names (K : PySem.W.Frag) (E : XK) : TS := (tSeq (tAsg (tLst tNil) (gName 2))
  (tSeq (tFor (iRng1 (tCons (tVar 1) tNil)) (gName 3) (tDrop (tBM K "list" rAppend (tVar 2) (tCons (tCl (sp__law_name K) (WE0 E) (tCons (tVar 0) (tCons (tVar 2) tNil))) tNil))))
  (tRet (tVar 2))))
def sp__law_names (K : PySem.W.Frag) : Sp := fun vs H Q E => ∃ (p : Addr) (a b : Int) (m : Nat) (B : Hp), vs = [.ref p, .int (m : Nat)] ∧ Same B H ∧ B p = none ∧ H p = some (stO a b) ∧ VSt a b ∧ m ≤ 25 ∧
  ∀ B' H' a' b' l (xs : List Str), HS [p] B H B' H' [(p, stO a' b'), (l, .lst (xs.map V.str))] → VSt a' b' → xs.length = m → xs.Nodup → (∀ x ∈ xs, okName x = true) → Q (.ref l) H'
theorem pure__law_names {K : PySem.W.Frag} {vs : List V} {H : Hp} {Q : VK} {E : XK} (h : sp__law_names K vs H Q E) : t__law_names K E { nx := fun _ H' => Q .non H', rt := Q } (start N__law_names vs) H := by
  obtain ⟨p, a, b, m, B, rfl, sB, bp, hp, hv, hm, k⟩ := h
  have hs := HS.startS sB bp hp
  show t__law_names K E _ [some (.ref p), some (.int (m : Nat)), none, none] H
  unfold t__law_names
  walk_at "sx"
  refine new_M hs (fun l H1 hs1 _ => ?_)
  walk_at "sx"
  refine ⟨_, rfl, by omega, by omega, ?_⟩
  have em : (m : Int).toNat = m := by omega
  rw [em]
  refine l_range (α := (Int × Int) × List Str × Option V) (σf := fun s => [some (.ref p), some (.int (m : Nat)), some (.ref l), s.2.2]) (Mf := fun s => [(p, stO s.1.1 s.1.2), (l, .lst (s.2.1.map V.str))])
    (P := fun i s _ => VSt s.1.1 s.1.2 ∧ s.2.1.length = i ∧ s.2.1.Nodup ∧ ∀ x ∈ s.2.1, okName x = true) (s0 := ((a, b), [], none)) hs1.swap ⟨hv, rfl, List.nodup_nil, by simp⟩ (fun i s B2 H2 hi sb2 hs2 pp => ?_) (fun s B2 H2 sb2 hs2 pp => ?_)
  · obtain ⟨⟨a2, b2⟩, xs, s3⟩ := s
    obtain ⟨hv2, hl2, nd2, ok2⟩ := pp
    dsimp only at hs2 hv2 hl2 nd2 ok2 ⊢
    walk_at "sx"
    refine use_name hs2 hv2 (hs2.get (List.mem_cons_of_mem _ List.mem_cons_self)) (by omega) (fun B3 H3 a3 b3 x sb3 hs3 hv3 okx nx => ?_) (Ne.symm hs2.ne01)
    walk_at "sx"
    refine x_append hs3.swap (by rw [List.length_map]; omega) (fun H4 hs4 => ?_)
    refine ⟨((a3, b3), xs ++ [x], some _), B3, rfl, sb2.trans sb3, by simpa using hs4.swap, hv3, by simp [hl2], ?_, fun y my => ?_⟩
    · rw [List.nodup_append]
      exact ⟨nd2, by simp, fun y my z mz e => nx (by have : z = x := by simpa using mz
                                                     rw [← this, ← e]; exact my)⟩
    · rcases List.mem_append.mp my with z | z
      · exact ok2 y z
      · have : y = x := by simpa using z
        rw [this]; exact okx
  · obtain ⟨⟨a2, b2⟩, xs, s3⟩ := s
    obtain ⟨hv2, hl2, nd2, ok2⟩ := pp
    walk_at "sx"
    exact k B2 H2 a2 b2 l xs hs2 hv2 hl2 nd2 ok2
theorem use_names {K : PySem.W.Frag} {S : List Addr} {B0 H0 B H : Hp} {M : List (Addr × HO)} {Q : VK} {E : XK} {p : Addr} {a b : Int} {m : Nat} (hs : HS S B0 H0 B H ((p, stO a b) :: M)) (v : VSt a b) (hm : m ≤ 25)
    (k : ∀ B' H' a' b' l (xs : List Str), Same B B' → HS S B0 H0 B' H' ((p, stO a' b') :: (l, .lst (xs.map V.str)) :: M) → VSt a' b' → xs.length = m → xs.Nodup → (∀ x ∈ xs, okName x = true) → Q (.ref l) H') : sp__law_names K [.ref p, .int (m : Nat)] H Q E :=
  ⟨p, a, b, m, B, rfl, hs.bh, (hs.mu _ List.mem_cons_self).1, hs.get List.mem_cons_self, v, hm, fun B' H' a' b' l xs c v' h1 h2 h3 => k B' H' a' b' l xs c.bb (hs.call1N c) v' h1 h2 h3⟩
end Q

set_option Elab.async false
set_option linter.all false
set_option maxRecDepth 100000
set_option maxHeartbeats 4000000
namespace Q
open PySem PySem.Spec PyProof.Rows L2
local macro_rules | `(tactic| walk_at "bf") => `(tactic| first | assumption | (refine' bstep (by assumption) ?r; case r => walk_at "bf") | fail)
local macro_rules | `(tactic| walk_at "rp") => `(tactic| first | assumption | exact Rep.int _ | exact Rep.bl _ | exact Rep.non | (refine' Rep.mono (by assumption) ?r; case r => walk_at "rp") | fail)
local macro_rules | `(tactic| walk_at "hf") => `(tactic| first | assumption | exact HS.up (by assumption) (by walk_at "bf") | exact HS.get (by assumption) List.mem_cons_self | exact HS.get (by assumption) (List.mem_cons_of_mem _ List.mem_cons_self) | exact HS.get (by assumption) (List.mem_cons_of_mem _ (List.mem_cons_of_mem _ List.mem_cons_self)) | exact HS.get (by assumption) (List.mem_cons_of_mem _ (List.mem_cons_of_mem _ (List.mem_cons_of_mem _ List.mem_cons_self))) | fail)
local macro_rules | `(tactic| walk_at "sl") => `(tactic| first | assumption | exact SqL.of (by walk_at "hf") | fail)
local macro_rules | `(tactic| walk_at "st") => `(tactic| first | assumption | exact SqT.of (by walk_at "hf") | fail)
local macro_rules | `(tactic| walk_at "sz") => `(tactic| first | assumption | (refine small_le ?_; first | assumption | omega | (simp; done) | (simp; omega)) | fail)
local macro_rules | `(tactic| walk_at "s1") => `(tactic| first
  | (with_reducible refine x_seq ?_)
  | (with_reducible refine x_asg ?_)
  | ((with_reducible refine x_gname ?_); try simp only [List.set_cons_zero, List.set_cons_succ])
  | ((with_reducible refine' x_var ?h ?_); case h => rfl)
  | (with_reducible refine x_c ?_)
  | (with_reducible refine x_op ?_)
  | (with_reducible refine x_ret ?_)
  | (with_reducible refine x_if ?_)
  | (with_reducible refine x_and ?_)
  | (with_reducible refine x_or ?_)
  | (with_reducible refine x_not ?_)
  | (with_reducible refine x_test ?_)
  | (with_reducible refine x_tB ?_)
  | (with_reducible refine x_tr ?_)
  | (with_reducible refine x_cb ?_)
  | (with_reducible refine x_cons ?_)
  | (with_reducible refine x_nil ?_)
  | (with_reducible refine x_exb ?_)
  | (with_reducible refine x_tt _ _ ?_)
  | (with_reducible refine x_ff _ _ ?_)
  | (with_reducible refine x_dget ?_)
  | (with_reducible refine x_din ?_)
  | (with_reducible refine x_dnin ?_)
  | (with_reducible refine x_dputU ?_)
  | (with_reducible refine x_dnew ?_)
  | (with_reducible refine x_bm ?_)
  | (with_reducible refine x_bm0 ?_)
  | (with_reducible refine x_gsub ?_)
  | (with_reducible refine x_fldU ?_)
  | (with_reducible refine x_sfldU ?_)
  | (with_reducible refine x_gcons ?_)
  | (with_reducible refine x_gnil ?_)
  | (with_reducible refine x_rz1 ?_)
  | (with_reducible refine x_rz2 ?_)
  | (with_reducible refine x_tryAs ?_)
  | (with_reducible refine x_tryOnly ?_)
  | (with_reducible refine x_mtU ?_)
  | (with_reducible refine x_mk ?_)
  | (with_reducible refine x_yes ?_)
  | (with_reducible refine x_un ?_)
  | (with_reducible refine x_neg ?_)
  | (with_reducible refine x_iEnum ?_)
  | (with_reducible refine x_iEnumT ?_)
  | (with_reducible refine x_lst ?_)
  | (with_reducible refine x_tup ?_)
  | (with_reducible refine x_dc ?_)
  | ((with_reducible refine' x_dinO ?h ?_); case h => walk_at "hf")
  | ((with_reducible refine' x_newL ?h ?_); case h => first | exact Nat.zero_le _ | (simp; done) | (simp; omega))
  | ((with_reducible refine' x_newT ?h ?_); case h => first | exact Nat.zero_le _ | (simp; done) | (simp; omega))
  | ((with_reducible refine' x_listL ?h ?_); case h => walk_at "sl")
  | ((with_reducible refine' x_listT ?h ?_); case h => walk_at "st")
  | ((with_reducible refine' x_mulI ?h ?_); case h => first | exact .inl ⟨by decide, by decide⟩ | exact .inr ⟨by decide, by decide⟩ | exact .inl ⟨by omega, by omega⟩ | exact .inr ⟨by omega, by omega⟩)
  | ((with_reducible refine' x_divI ?h ?_); case h => first | exact ⟨by decide, by decide⟩ | exact ⟨by omega, by omega⟩)
  | ((with_reducible refine' x_powI ?h ?_); case h => exact ⟨by decide, by decide, by decide⟩)
  | ((with_reducible refine' x_ixL ?h ?h2 ?_); (case h => walk_at "sl"); (case h2 => first | rfl | assumption))
  | ((with_reducible refine' x_ixT ?h ?h2 ?_); (case h => walk_at "st"); (case h2 => first | rfl | assumption))
  | (with_reducible refine x_m1s ?_)
  | (with_reducible refine x_str1 ?_)
  | (with_reducible refine x_sl ?_)
  | (with_reducible refine x_noPart ?_)
  | (with_reducible refine x_part ?_)
  | (with_reducible refine x_exi ?_)
  | ((with_reducible refine' x_slS ?h ?_); case h => walk_at "sz")
  | ((with_reducible refine' x_slL ?h ?_); case h => walk_at "sl")
  | (with_reducible refine x_pairsC ?_)
  | (with_reducible refine x_pairsN ?_)
  | ((with_reducible refine' x_dgS ?h ?h2 ?_); (case h => walk_at "hf"); (case h2 => assumption))
  | ((with_reducible refine' x_srtT ?h ?h2 ?_); (case h => walk_at "st"); (case h2 => omega))
  | ((with_reducible refine' x_srtL ?h ?h2 ?_); (case h => walk_at "sl"); (case h2 => omega))
  | ((with_reducible refine' x_inLS ?h ?_); case h => walk_at "sl")
  | ((with_reducible refine' x_inTS ?h ?_); case h => walk_at "st")
  | ((with_reducible refine' x_ninLS ?h ?_); case h => walk_at "sl")
  | ((with_reducible refine' x_ninTS ?h ?_); case h => walk_at "st")
  | ((with_reducible refine' x_tyL ?h ?_); case h => walk_at "sl")
  | ((with_reducible refine' x_gtup ?h ?h2 ?_); (case h => walk_at "st"); (case h2 => rfl))
  | (with_reducible refine x_next ?_)
  | (with_reducible refine x_for ?_)
  | (with_reducible refine x_iList ?_)
  | (with_reducible refine x_iTup ?_)
  | (with_reducible refine x_iStr ?_)
  | (with_reducible refine x_iRng1 ?_)
  | (with_reducible refine x_iRng2 ?_)
  | (with_reducible refine x_lc ?_)
  | (with_reducible refine x_drop ?_)
  | (with_reducible refine x_retN ?_)
  | (with_reducible refine x_cont ?_)
  | (with_reducible refine x_break ?_)
  | (with_reducible refine x_cl ?_)
  | (with_reducible refine x_isN ?_)
  | (with_reducible refine x_notN ?_)
  | (with_reducible refine x_andV ?_)
  | (with_reducible refine x_orV ?_)
  | (with_reducible refine x_notV ?_)
  | (with_reducible refine x_ifE ?_)
  | (with_reducible refine x_addI ?_)
  | (with_reducible refine x_subI ?_)
  | (with_reducible refine x_ltI ?_)
  | (with_reducible refine x_leI ?_)
  | (with_reducible refine x_gtI ?_)
  | (with_reducible refine x_geI ?_)
  | (with_reducible refine x_ltS ?_)
  | (with_reducible refine x_abs ?_)
  | (with_reducible refine x_min2 ?_)
  | (with_reducible refine x_max2 ?_)
  | (with_reducible refine x_int1 ?_)
  | (with_reducible refine x_notInS ?_)
  | ((with_reducible refine' x_eq ?h ?_); case h => rfl)
  | ((with_reducible refine' x_ne ?h ?_); case h => rfl)
  | ((with_reducible refine' x_modI ?h ?_); case h => first | decide | omega)
  | ((with_reducible refine' x_isiD ?h1 ?h2 ?h3 ?_); (case h1 => assumption); (case h2 => walk_at "rp"); (case h3 => decide))
  | ((with_reducible refine' x_lenS ?h ?_); case h => walk_at "sz")
  | ((with_reducible refine' x_lenL ?h ?_); case h => walk_at "sl")
  | ((with_reducible refine' x_lenT ?h ?_); case h => walk_at "st")
  | ((with_reducible refine' x_lenD ?h ?_); case h => walk_at "hf")
  | fail)
local macro_rules | `(tactic| walk_at "sx") => `(tactic| repeat walk_at "s1")
/-! ### law helpers: is_name, due, value, row -/
abbrev N__law_is_name : List Str := ["_law_value_here", "_law_letter"]
def t__law_is_name (K : PySem.W.Frag) (E : XK) : TS := (tSeq (tIfS (tOr (tNot (tB (tCB (rIsi K) (tCons (tVar 0) (tCons (tC (.ty "str")) tNil))))) (tOr (tTest (tOp rLtI (tCB (rLenA K) (tCons (tVar 0) tNil)) (tC (.int 1)))) (tTest (tOp rGtI (tCB (rLenA K) (tCons (tVar 0) tNil)) (tC (.int 8)))))) (tRet (tC (.bl false))) tNext)
  (tSeq (tFor (iStr (tVar 0)) (gName 1) (tIfS (tTest (tOp rNotInS (tVar 1) (tC (.str "abcdefghijklmnopqrstuvwxyz")))) (tRet (tC (.bl false))) tNext))
  (tRet (tC (.bl true)))))
def sp__law_is_name (K : PySem.W.Frag) : Sp := sp_is_name K
theorem pure__law_is_name {K : PySem.W.Frag} {vs : List V} {H : Hp} {Q : VK} {E : XK} (h : sp__law_is_name K vs H Q E) : t__law_is_name K E { nx := fun _ H' => Q .non H', rt := Q } (start N__law_is_name vs) H := pure_is_name h
theorem use__law_is_name {K : PySem.W.Frag} {S : List Addr} {B0 H0 B H : Hp} {M : List (Addr × HO)} {Q : VK} {E : XK} {v : V} {d : D} (hs : HS S B0 H0 B H M) (r : Rep K B v d)
    (k : ∀ B' H', Same B B' → HS S B0 H0 B' H' M → Q (.bl (isName d)) H') : sp__law_is_name K [v] H Q E := use_is_name hs r k
abbrev N__law_due : List Str := ["_law_people", "_law_k"]
def t__law_due (K : PySem.W.Frag) (E : XK) : TS := (tSeq (tIfS (tOr (tNot (tB (tCB (rIsi K) (tCons (tVar 0) (tCons (tC (.ty "tuple")) tNil))))) (tTest (tOp rGtI (tCB (rLenA K) (tCons (tVar 0) tNil)) (tC (.int 16))))) (tRet (tUn rNegI (tC (.int 1)))) tNext)
  (tSeq (tFor (iRng1 (tCons (tCB (rLenA K) (tCons (tVar 0) tNil)) tNil)) (gName 1) (tIfS (tOr (tNot (tB (tCl (sp__law_is_name K) (WE0 E) (tCons (tOp (rIxT K) (tVar 0) (tVar 1)) tNil)))) (tTest (tOp (rIn K false) (tOp (rIxT K) (tVar 0) (tVar 1)) (tSl (rSlT K) (tVar 0) tNoPart (tPart (tVar 1)))))) (tRet (tVar 1)) tNext))
  (tRet (tC .non))))
def dueV : Option Int → V
  | none => .non
  | some i => .int i
def sp__law_due (K : PySem.W.Frag) : Sp := fun vs H Q E => ∃ v B d, vs = [v] ∧ Same B H ∧ Rep K B v d ∧ Ret B H Q fun _ r => r = dueV (badPeople d)
theorem cutV_to {xs : List V} {i : Nat} (h : i ≤ xs.length) : cutV xs none (some (i : Int)) = xs.take i := by
  unfold cutV
  rw [HT.sIx_none, HT.sIx_nat, List.drop_zero, Nat.sub_zero, Nat.min_eq_left h]
theorem pure__law_due {K : PySem.W.Frag} {vs : List V} {H : Hp} {Q : VK} {E : XK} (h : sp__law_due K vs H Q E) : t__law_due K E { nx := fun _ H' => Q .non H', rt := Q } (start N__law_due vs) H := by
  obtain ⟨v, B, d, rfl, sB, r, k⟩ := h
  have hs := HS.start sB
  show t__law_due K E _ [some v, none] H
  unfold t__law_due
  walk_at "sx"
  cases r with
  | @tup a vs ds e r =>
    have hl := r.length
    refine x_ite (fun h => by simp [D.isT] at h) (fun _ => ?_)
    walk_at "sx"
    refine x_ite (fun h => ?_) (fun h1 => ?_)
    · walk_at "sx"
      have : ¬ ds.length ≤ 16 := by have := of_decide_eq_true h; omega
      simp only [badPeople, if_neg this] at k
      exact k B H _ hs rfl
    have h1 : ds.length ≤ 16 := by have := of_decide_eq_false h1; omega
    simp only [badPeople, if_pos h1] at k
    walk_at "sx"
    refine ⟨_, rfl, by omega, by omega, ?_⟩
    have en : ((vs.length : Nat) : Int).toNat = vs.length := by omega
    rw [en]
    refine l_range (α := List Str × Option V) (σf := fun s => [some (.ref a), s.2]) (Mf := fun s => [])
      (P := fun i s _ => s.1.length = i ∧ vs.take i = s.1.map V.str ∧ badAt 0 [] ds = badAt i s.1 (ds.drop i)) (s0 := ([], none)) hs ⟨rfl, rfl, rfl⟩ (fun i s B1 H1 hi sb hs2 pp => ?_) (fun s B1 H1 sb hs2 pp => ?_)
    · obtain ⟨seen, s2⟩ := s
      obtain ⟨hlen, htk, hgo⟩ := pp
      dsimp only at hlen htk hgo hs2 ⊢
      rw [Int.zero_add]
      have hx : vs[i]? = some vs[i] := List.getElem?_eq_getElem hi
      obtain ⟨d, hd, rd⟩ := r.get hx
      have hil : i < ds.length := (List.getElem?_eq_some_iff.mp hd).1
      have hdrop : ds.drop i = d :: ds.drop (i + 1) := by
        rw [List.drop_eq_getElem_cons hil, (List.getElem?_eq_some_iff.mp hd).2]
      rw [hdrop] at hgo
      have rd1 := rd.mono sb
      have hat := atI_nat hi
      generalize hxv : vs[i] = x at hx rd rd1 hat
      have fin : ∀ B2 H2, HS [] B H B2 H2 [] → badAt i seen (d :: ds.drop (i + 1)) = some i → Q (.int (i : Nat)) H2 := fun B2 H2 h2 e1 => by
        rw [hgo, e1] at k
        exact k B2 H2 _ h2 rfl
      walk_at "sx"
      refine use__law_is_name hs2 rd1 (fun B2 H2 sb2 hs3 => ?_)
      walk_at "sx"
      refine x_ite (fun h => ?_) (fun h => ?_)
      · walk_at "sx"
        refine fin _ _ hs3 ?_
        have hn : isName d = false := by simpa using h
        cases d with
        | str y =>
          have hn : okName y = false := hn
          simp [badAt, hn]
        | _ => rfl
      have hn : isName d = true := by simpa using h
      cases rd with
      | @str y hy =>
        have hn : okName y = true := hn
        walk_at "sx"
        refine x_slT (SqT.of (hs3.up (sb2 _ _ (sb _ _ e)))) ?_ ?_
        · rw [HT.sIx_none, HT.sIx_nat, Nat.min_eq_left (Nat.le_of_lt hi)]
          omega
        rw [cutV_to (Nat.le_of_lt hi), htk]
        refine new_F hs3 (fun T B3 H3 hs4 sb4 eT _ => ?_)
        walk_at "sx"
        refine x_ite (fun h => ?_) (fun h => ?_)
        · walk_at "sx"
          refine fin _ _ hs4 ?_
          have : y ∈ seen := by simpa using h
          simp [badAt, this]
        have h3 : ¬ y ∈ seen := by simpa using h
        walk_at "sx"
        refine ⟨(seen ++ [y], some _), B3, rfl, (sb.trans sb2).trans sb4, hs4, by simp [hlen], ?_, ?_⟩
        · rw [List.take_succ, htk, hx]
          simp
        · rw [hgo]
          simp [badAt, hn, h3]
      | _ => cases hn
    · obtain ⟨hlen, htk, hgo⟩ := pp
      walk_at "sx"
      have : ds.drop vs.length = [] := by rw [hl]; simp
      rw [hgo, this] at k
      exact k B1 H1 _ hs2 rfl
  | _ =>
    refine x_ite (fun h => ?_) (fun h => by simp [D.isT] at h)
    walk_at "sx"
    exact k B H _ hs rfl
theorem use__law_due {K : PySem.W.Frag} {S : List Addr} {B0 H0 B H : Hp} {M : List (Addr × HO)} {Q : VK} {E : XK} {v : V} {d : D} (hs : HS S B0 H0 B H M) (r : Rep K B v d)
    (k : ∀ B' H', Same B B' → HS S B0 H0 B' H' M → Q (dueV (badPeople d)) H') : sp__law_due K [v] H Q E := ⟨v, B, d, rfl, hs.bh, r, fun B' H' v' c e => by rw [e]; exact k B' H' c.bb (hs.call c)⟩
abbrev N__law_value : List Str := ["_law_state", "_law_deep", "_law_k", "_law_values"]
def t__law_value (K : PySem.W.Frag) (E : XK) : TS := (tSeq (tAsg (tC (.str "ann")) (gName 1))
  (tSeq (tFor (iRng1 (tCons (tC (.int 80)) tNil)) (gName 2) (tAsg (tLst (tCons (tVar 1) tNil)) (gName 1)))
  (tSeq (tAsg (tLst (tCons (tC .non) (tCons (tC (.bl true)) (tCons (tC (.bl false)) (tCons (tC (.int 0)) (tCons (tC (.int 1)) (tCons (tUn rNegI (tC (.int 1))) (tCons (tC (.int 7)) (tCons (tC (.str "")) (tCons (tC (.str "Ann")) (tCons (tC (.str "abcdefghi")) (tCons (tC (.str "an n")) (tCons (tC (.str "ann\n")) (tCons (tC (.str "ann1")) (tCons (tLst tNil) (tCons (tTup tNil) (tCons tDNewK (tCons (tLst (tCons (tC (.str "ann")) tNil)) tNil)))))))))))))))))) (gName 3))
  (tSeq (tAsg (tOp rCat (tVar 3) (tLst (tCons (tTup (tCons (tC (.str "ann")) (tCons (tC (.str "bob")) tNil))) (tCons (tTup (tCons (tC (.str "ann")) tNil)) (tCons (tDisp [((tC (.str "ann")), (tC (.int 1)))]) (tCons (tDisp [((tC (.str "ann")), (tLst (tCons (tC (.str "bob")) tNil))), ((tC (.str "bob")), (tLst (tCons (tC (.str "ann")) tNil)))]) (tCons (tVar 1) (tCons (tLst (tCons (tLst (tCons (tC (.int 1)) tNil)) (tCons (tDisp [((tC (.str "a")), (tLst tNil))]) tNil))) tNil)))))))) (gName 3))
  (tRet (tOp (rIxL K) (tVar 3) (tCl (sp__law_take K) (WE0 E) (tCons (tVar 0) (tCons (tCB (rLenA K) (tCons (tVar 3) tNil)) tNil)))))))))
def deepD : Nat → D
  | 0 => .str "ann"
  | n + 1 => .lst [deepD n]
def lawVals : List D := [.non, .bl true, .bl false, .int 0, .int 1, .int (-1), .int 7, .str "", .str "Ann", .str "abcdefghi", .str "an n", .str "ann\n", .str "ann1", .lst [], .tup [], .dct [], .lst [.str "ann"],
  .tup [.str "ann", .str "bob"], .tup [.str "ann"], .dct [(.inr "ann", .int 1)], .dct [(.inr "ann", .lst [.str "bob"]), (.inr "bob", .lst [.str "ann"])], deepD 80, .lst [.lst [.int 1], .dct [(.inr "a", .lst [])]]]
def sp__law_value (K : PySem.W.Frag) : Sp := fun vs H Q E => ∃ (p : Addr) (a b : Int) (B : Hp), vs = [.ref p] ∧ Same B H ∧ B p = none ∧ H p = some (stO a b) ∧ VSt a b ∧
  ∀ B' H' a' b' v d, HS [p] B H B' H' [(p, stO a' b')] → VSt a' b' → Rep K B' v d → d ∈ lawVals → Q v H'
theorem still2 {S : List Addr} {B0 H0 B H : Hp} {p q : Addr} {o u : HO} (h : HS S B0 H0 B H [(p, o), (q, u)]) (hp : S = [q]) : ∃ B', HS S B0 H0 B' H [(q, u)] ∧ Same B B' ∧ B' p = some o := by
  subst hp
  obtain ⟨h1, h2⟩ := h.still (by simpa using h.ne01)
  exact ⟨_, h1, h2, upd_same⟩
theorem pure__law_value {K : PySem.W.Frag} {vs : List V} {H : Hp} {Q : VK} {E : XK} (h : sp__law_value K vs H Q E) : t__law_value K E { nx := fun _ H' => Q .non H', rt := Q } (start N__law_value vs) H := by
  obtain ⟨p, a, b, B, rfl, sB, bp, hp, hv, k⟩ := h
  have hs := HS.startS sB bp hp
  show t__law_value K E _ [some (.ref p), none, none, none] H
  unfold t__law_value
  walk_at "sx"
  refine ⟨_, rfl, by omega, by omega, ?_⟩
  refine l_range (α := V × Option V) (σf := fun s => [some (.ref p), some s.1, s.2, none]) (Mf := fun _ => [(p, stO a b)])
    (P := fun i s B1 => Rep K B1 s.1 (deepD i)) (s0 := (.str "ann", none)) hs (.str (by decide)) (fun i s B1 H1 hi sb hs1 pp => ?_) (fun s B1 H1 sb hs1 pp => ?_)
  · have rd := pp
    walk_at "sx"
    refine new_F hs1 (fun l B2 H2 hs2 sb2 el _ => ?_)
    walk_at "sx"
    exact ⟨(.ref l, some _), B2, rfl, sb.trans sb2, hs2, .lst el (by simp) (.cons (rd.mono sb2) .nil)⟩
  · obtain ⟨deep, s2⟩ := s
    have rdd := pp
    dsimp only at rdd hs1 ⊢
    have rdd : Rep K B1 deep (deepD 80) := rdd
    walk_at "sx"
    refine new_F hs1 (fun l1 B2 H2 hs2 sb2 e1 _ => ?_)
    have r1 : Rep K B2 (.ref l1) (.lst []) := .lst e1 (by simp) .nil
    walk_at "sx"
    refine new_F hs2 (fun l2 B3 H3 hs3 sb3 e2 _ => ?_)
    have r2 : Rep K B3 (.ref l2) (.tup []) := .tup e2 .nil
    walk_at "sx"
    refine new_F hs3 (fun l3 B4 H4 hs4 sb4 e3 _ => ?_)
    have r3 : Rep K B4 (.ref l3) (.dct []) := .dct e3 .nil
    walk_at "sx"
    refine new_F hs4 (fun l4 B5 H5 hs5 sb5 e4 _ => ?_)
    have r4 : Rep K B5 (.ref l4) (.lst [.str "ann"]) := .lst e4 (by simp) (.cons (.str (by decide)) .nil)
    walk_at "sx"
    refine new_F hs5 (fun l5 B6 H6 hs6 sb6 e5 _ => ?_)
    walk_at "sx"
    refine new_F hs6 (fun l6 B7 H7 hs7 sb7 e6 _ => ?_)
    have r6 : Rep K B7 (.ref l6) (.tup [.str "ann", .str "bob"]) := .tup e6 (.cons (.str (by decide)) (.cons (.str (by decide)) .nil))
    walk_at "sx"
    refine new_F hs7 (fun l7 B8 H8 hs8 sb8 e7 _ => ?_)
    have r7 : Rep K B8 (.ref l7) (.tup [.str "ann"]) := .tup e7 (.cons (.str (by decide)) .nil)
    walk_at "sx"
    refine x_disp hs8 (fun l8 H9 hs9 => ?_)
    walk_at "sx"
    refine x_dispk (kvs := [(.inr "ann", .int 1)]) hs9 rfl (by decide) (fun H10 hs10 => ?_)
    obtain ⟨B9, hs11, sb9, e8⟩ := still2 hs10 rfl
    have r8 : Rep K B9 (.ref l8) (.dct [(.inr "ann", .int 1)]) := .dct e8 (.cons (.int 1) .nil)
    walk_at "sx"
    refine x_disp hs11 (fun l9 H12 hs12 => ?_)
    walk_at "sx"
    refine new_F hs12 (fun l10 B10 H13 hs13 sb10 e10 _ => ?_)
    have r10 : Rep K B10 (.ref l10) (.lst [.str "bob"]) := .lst e10 (by simp) (.cons (.str (by decide)) .nil)
    walk_at "sx"
    refine new_F hs13 (fun l11 B11 H14 hs14 sb11 e11 _ => ?_)
    have r11 : Rep K B11 (.ref l11) (.lst [.str "ann"]) := .lst e11 (by simp) (.cons (.str (by decide)) .nil)
    walk_at "sx"
    refine x_dispk (kvs := [(.inr "ann", .ref l10), (.inr "bob", .ref l11)]) hs14 rfl (by simp) (fun H15 hs15 => ?_)
    obtain ⟨B12, hs16, sb12, e9⟩ := still2 hs15 rfl
    have e9' : B12 l9 = some (.dK [(.inr "ann", .ref l10), (.inr "bob", .ref l11)]) := e9
    have r9 : Rep K B12 (.ref l9) (.dct [(.inr "ann", .lst [.str "bob"]), (.inr "bob", .lst [.str "ann"])]) := .dct e9' (.cons ((r10.mono sb11).mono sb12) (.cons (r11.mono sb12) .nil))
    walk_at "sx"
    refine new_F hs16 (fun l12 B13 H17 hs17 sb13 e12 _ => ?_)
    have r12 : Rep K B13 (.ref l12) (.lst [.int 1]) := .lst e12 (by simp) (.cons (.int 1) .nil)
    walk_at "sx"
    refine x_disp hs17 (fun l13 H18 hs18 => ?_)
    walk_at "sx"
    refine new_F hs18 (fun l14 B14 H19 hs19 sb14 e14 _ => ?_)
    have r14 : Rep K B14 (.ref l14) (.lst []) := .lst e14 (by simp) .nil
    walk_at "sx"
    refine x_dispk (kvs := [(.inr "a", .ref l14)]) hs19 rfl (by simp) (fun H20 hs20 => ?_)
    obtain ⟨B15, hs21, sb15, e13⟩ := still2 hs20 rfl
    have r13 : Rep K B15 (.ref l13) (.dct [(.inr "a", .lst [])]) := .dct e13 (.cons (r14.mono sb15) .nil)
    walk_at "sx"
    refine new_F hs21 (fun l15 B16 H22 hs22 sb16 e15 _ => ?_)
    have r15 : Rep K B16 (.ref l15) (.lst [.lst [.int 1], .dct [(.inr "a", .lst [])]]) := .lst e15 (by simp) (.cons (((r12.mono sb14).mono sb15).mono sb16) (.cons (r13.mono sb16) .nil))
    walk_at "sx"
    refine new_F hs22 (fun l16 B17 H23 hs23 sb17 e16 _ => ?_)
    have s6 : Same B6 B17 := (((((((((((sb7.trans sb8).trans sb9).trans sb10).trans sb11).trans sb12).trans sb13).trans sb14).trans sb15).trans sb16)).trans sb17)
    refine x_cat (hs23.up (s6 _ _ e5)) (hs23.up e16) (by simp) ?_
    refine new_F hs23 (fun l17 B18 H24 hs24 sb18 e17 _ => ?_)
    have s7 := s6.trans sb18
    walk_at "sx"
    refine use_take hs24 hv (by simp) (by simp) (fun B19 H25 a9 b9 n sb19 hs25 hv9 hn => ?_)
    have e17 := sb19 _ _ e17
    generalize hys : ([V.non, .bl true, .bl false, .int 0, .int 1, .int (-1), .int 7, .str "", .str "Ann", .str "abcdefghi", .str "an n", .str "ann\n", .str "ann1", .ref l1, .ref l2, .ref l3, .ref l4] ++ [.ref l6, .ref l7, .ref l8, .ref l9, deep, .ref l15] : List V) = ys at e17 hn
    have hall : Reps K B19 ys lawVals := by
      rw [← hys]
      have m5 : Same B5 B19 := (sb6.trans s7).trans sb19
      have m4 : Same B4 B19 := sb5.trans m5
      have m3 : Same B3 B19 := sb4.trans m4
      have m2 : Same B2 B19 := sb3.trans m3
      have m1 : Same B1 B19 := sb2.trans m2
      have m16 : Same B16 B19 := (sb17.trans sb18).trans sb19
      have m12 : Same B12 B19 := (((sb13.trans sb14).trans sb15).trans sb16).trans m16
      have m9 : Same B9 B19 := ((sb10.trans sb11).trans sb12).trans m12
      have m8 : Same B8 B19 := sb9.trans m9
      have m7 : Same B7 B19 := sb8.trans m8
      exact .cons .non (.cons (.bl _) (.cons (.bl _) (.cons (.int _) (.cons (.int _) (.cons (.int _) (.cons (.int _) (.cons (.str (by decide)) (.cons (.str (by decide)) (.cons (.str (by decide)) (.cons (.str (by decide)) (.cons (.str (by decide)) (.cons (.str (by decide))
        (.cons (r1.mono m2) (.cons (r2.mono m3) (.cons (r3.mono m4) (.cons (r4.mono m5) (.cons (r6.mono m7) (.cons (r7.mono m8) (.cons (r8.mono m9) (.cons (r9.mono m12) (.cons (rdd.mono m1) (.cons (r15.mono m16) .nil))))))))))))))))))))))
    have rds := hall
    have hn' : n < ys.length := by omega
    obtain ⟨d, md, rd⟩ := rds.get (List.getElem?_eq_getElem hn')
    refine x_ixL (SqL.of (hs25.up e17)) (atI_nat hn') ?_
    exact k B19 H25 a9 b9 _ d hs25 hv9 rd (List.mem_of_getElem? md)
theorem use__law_value {K : PySem.W.Frag} {S : List Addr} {B0 H0 B H : Hp} {M : List (Addr × HO)} {Q : VK} {E : XK} {p : Addr} {a b : Int} (hs : HS S B0 H0 B H ((p, stO a b) :: M)) (v : VSt a b)
    (k : ∀ B' H' a' b' v d, Same B B' → HS S B0 H0 B' H' ((p, stO a' b') :: M) → VSt a' b' → Rep K B' v d → Q v H') : sp__law_value K [.ref p] H Q E :=
  ⟨p, a, b, B, rfl, hs.bh, (hs.mu _ List.mem_cons_self).1, hs.get List.mem_cons_self, v, fun B' H' a' b' v d c v' r _ => k B' H' a' b' v d c.bb (hs.call1 c) v' r⟩
theorem use_valueD {K : PySem.W.Frag} {S : List Addr} {B0 H0 B H : Hp} {M : List (Addr × HO)} {Q : VK} {E : XK} {p : Addr} {a b : Int} (hs : HS S B0 H0 B H ((p, stO a b) :: M)) (v : VSt a b)
    (k : ∀ B' H' a' b' v d, Same B B' → HS S B0 H0 B' H' ((p, stO a' b') :: M) → VSt a' b' → Rep K B' v d → d ∈ lawVals → Q v H') : sp__law_value K [.ref p] H Q E :=
  ⟨p, a, b, B, rfl, hs.bh, (hs.mu _ List.mem_cons_self).1, hs.get List.mem_cons_self, v, fun B' H' a' b' v d c v' r m => k B' H' a' b' v d c.bb (hs.call1 c) v' r m⟩
/-! ### rows of texts are equal -/
theorem dp_strs {K : PySem.W.Frag} {H : Hp} : ∀ xs : List Str, DpAll K H (xs.map V.str) (xs.map PyData.str)
  | [] => .nil
  | x :: r => .cons (.str x) (dp_strs r)
theorem okName_strOk {x : Str} (h : okName x = true) : PyData.strOk x = true := by
  unfold okName at h
  obtain ⟨_, h⟩ := Bool.and_eq_true_iff.mp h
  obtain ⟨_, h⟩ := Bool.and_eq_true_iff.mp h
  unfold PyData.strOk
  rw [Array.all_eq_true_iff_forall_mem]
  intro c m
  have h1 : c ∈ letters.cps.toList := of_decide_eq_true (List.all_eq_true.mp h c (Array.mem_toList_iff.mpr m))
  have h2 : ∀ c ∈ letters.cps.toList, (decide (c < 0x110000)) = true := by decide +kernel
  exact h2 c h1
theorem canLay_strs : ∀ {xs : List Str}, (∀ x ∈ xs, PyData.strOk x = true) → PyData.canLayAll0 (xs.map PyData.str) = true
  | [], _ => rfl
  | x :: r, h => by
    show (PyData.canLay0 (.str x) && PyData.canLayAll0 (r.map PyData.str)) = true
    rw [canLay_strs fun y m => h y (List.mem_cons_of_mem _ m), Bool.and_true]
    simp only [PyData.canLay0]
    exact h x List.mem_cons_self
theorem depth_strs (xs : List Str) : PyData.depthAll (xs.map PyData.str) = 0 := by
  induction xs with
  | nil => simp only [List.map_nil, PyData.depthAll]
  | cons x r ih => simp only [List.map_cons, PyData.depthAll, PyData.depth, ih, Nat.max_self]
theorem shaped_strs {xs : List Str} (h : ∀ x ∈ xs, PyData.strOk x = true) : SeqAt.shaped (.list (xs.map PyData.str)) = true := by
  unfold SeqAt.shaped
  simp only [PyData.canLay0, canLay_strs h, PyData.depth, depth_strs]
  decide
theorem eqv_strs : ∀ xs ys : List Str, PyData.eqvAll (xs.map PyData.str) (ys.map PyData.str) = decide (xs = ys)
  | [], [] => by simp [PyData.eqvAll]
  | [], _ :: _ => by simp [PyData.eqvAll]
  | _ :: _, [] => by simp [PyData.eqvAll]
  | x :: xs, y :: ys => by
    simp only [List.map_cons, PyData.eqvAll, PyData.eqv, eqv_strs xs ys]
    by_cases e : x = y <;> simp [e]
abbrev N__law_row : List Str := ["_law_actual", "_law_due_here"]
def t__law_row (K : PySem.W.Frag) (E : XK) : TS := (tRet (tAndV (tCB (rIsi K) (tCons (tVar 0) (tCons (tC (.ty "list")) tNil))) (tOp (rEqD K) (tVar 0) (tVar 1))))
def sp__law_row (K : PySem.W.Frag) : Sp := fun vs H Q E => ∃ (p q : Addr) (xs : List V) (d e : PyData) (B : Hp), vs = [.ref p, .ref q] ∧ Same B H ∧ H p = some (.lst xs) ∧ Dp K H (.ref p) d ∧ Dp K H (.ref q) e ∧ SeqAt.shaped d = true ∧ SeqAt.shaped e = true ∧ Q (.bl (PyData.eqv d e)) H
theorem pure__law_row {K : PySem.W.Frag} {vs : List V} {H : Hp} {Q : VK} {E : XK} (h : sp__law_row K vs H Q E) : t__law_row K E { nx := fun _ H' => Q .non H', rt := Q } (start N__law_row vs) H := by
  obtain ⟨p, q, xs, d, e, B, rfl, sB, hp, h1, h2, h3, h4, k⟩ := h
  show t__law_row K E _ [some (.ref p), some (.ref q)] H
  unfold t__law_row
  walk_at "sx"
  refine x_isi (.base (.lst hp)) (kit_ty (show kitB "list" "list" = some true by decide +kernel)) ?_
  walk_at "sx"
  exact ⟨_, _, h1, h2, h3, h4, k⟩
theorem row_strs {K : PySem.W.Frag} {H B : Hp} {Q : VK} {E : XK} {p q : Addr} {xs ys : List Str} (sB : Same B H) (hp : H p = some (.lst (xs.map V.str))) (hq : H q = some (.lst (ys.map V.str))) (h1 : ∀ x ∈ xs, PyData.strOk x = true) (h2 : ∀ x ∈ ys, PyData.strOk x = true)
    (k : Q (.bl (decide (xs = ys))) H) : sp__law_row K [.ref p, .ref q] H Q E := ⟨p, q, _, _, _, B, rfl, sB, hp, .lst (SqL.of hp) (dp_strs xs), .lst (SqL.of hq) (dp_strs ys), shaped_strs h1, shaped_strs h2, by simp only [PyData.eqv, eqv_strs]; exact k⟩
end Q

set_option Elab.async false
set_option linter.all false
set_option maxRecDepth 100000
set_option maxHeartbeats 4000000
namespace Q
open PySem PySem.Spec PyProof.Rows L2
local macro_rules | `(tactic| walk_at "bf") => `(tactic| first | assumption | (refine' bstep (by assumption) ?r; case r => walk_at "bf") | fail)
local macro_rules | `(tactic| walk_at "rp") => `(tactic| first | assumption | exact Rep.int _ | exact Rep.bl _ | exact Rep.non | (refine' Rep.mono (by assumption) ?r; case r => walk_at "rp") | fail)
local macro_rules | `(tactic| walk_at "hf") => `(tactic| first | assumption | exact HS.up (by assumption) (by walk_at "bf") | exact HS.get (by assumption) List.mem_cons_self | exact HS.get (by assumption) (List.mem_cons_of_mem _ List.mem_cons_self) | exact HS.get (by assumption) (List.mem_cons_of_mem _ (List.mem_cons_of_mem _ List.mem_cons_self)) | exact HS.get (by assumption) (List.mem_cons_of_mem _ (List.mem_cons_of_mem _ (List.mem_cons_of_mem _ List.mem_cons_self))) | fail)
local macro_rules | `(tactic| walk_at "sl") => `(tactic| first | assumption | exact SqL.of (by walk_at "hf") | fail)
local macro_rules | `(tactic| walk_at "st") => `(tactic| first | assumption | exact SqT.of (by walk_at "hf") | fail)
local macro_rules | `(tactic| walk_at "sz") => `(tactic| first | assumption | (refine small_le ?_; first | assumption | omega | (simp; done) | (simp; omega)) | fail)
local macro_rules | `(tactic| walk_at "s1") => `(tactic| first
  | (with_reducible refine x_seq ?_)
  | (with_reducible refine x_asg ?_)
  | ((with_reducible refine x_gname ?_); try simp only [List.set_cons_zero, List.set_cons_succ])
  | ((with_reducible refine' x_var ?h ?_); case h => rfl)
  | (with_reducible refine x_c ?_)
  | (with_reducible refine x_op ?_)
  | (with_reducible refine x_ret ?_)
  | (with_reducible refine x_if ?_)
  | (with_reducible refine x_and ?_)
  | (with_reducible refine x_or ?_)
  | (with_reducible refine x_not ?_)
  | (with_reducible refine x_test ?_)
  | (with_reducible refine x_tB ?_)
  | (with_reducible refine x_tr ?_)
  | (with_reducible refine x_cb ?_)
  | (with_reducible refine x_cons ?_)
  | (with_reducible refine x_nil ?_)
  | (with_reducible refine x_exb ?_)
  | (with_reducible refine x_tt _ _ ?_)
  | (with_reducible refine x_ff _ _ ?_)
  | (with_reducible refine x_dget ?_)
  | (with_reducible refine x_din ?_)
  | (with_reducible refine x_dnin ?_)
  | (with_reducible refine x_dputU ?_)
  | (with_reducible refine x_dnew ?_)
  | (with_reducible refine x_bm ?_)
  | (with_reducible refine x_bm0 ?_)
  | (with_reducible refine x_gsub ?_)
  | (with_reducible refine x_fldU ?_)
  | (with_reducible refine x_sfldU ?_)
  | (with_reducible refine x_gcons ?_)
  | (with_reducible refine x_gnil ?_)
  | (with_reducible refine x_rz1 ?_)
  | (with_reducible refine x_rz2 ?_)
  | (with_reducible refine x_tryAs ?_)
  | (with_reducible refine x_tryOnly ?_)
  | (with_reducible refine x_mtU ?_)
  | (with_reducible refine x_mk ?_)
  | (with_reducible refine x_yes ?_)
  | (with_reducible refine x_un ?_)
  | (with_reducible refine x_neg ?_)
  | (with_reducible refine x_iEnum ?_)
  | (with_reducible refine x_iEnumT ?_)
  | (with_reducible refine x_lst ?_)
  | (with_reducible refine x_tup ?_)
  | (with_reducible refine x_dc ?_)
  | ((with_reducible refine' x_dinO ?h ?_); case h => walk_at "hf")
  | ((with_reducible refine' x_newL ?h ?_); case h => first | exact Nat.zero_le _ | (simp; done) | (simp; omega))
  | ((with_reducible refine' x_newT ?h ?_); case h => first | exact Nat.zero_le _ | (simp; done) | (simp; omega))
  | ((with_reducible refine' x_listL ?h ?_); case h => walk_at "sl")
  | ((with_reducible refine' x_listT ?h ?_); case h => walk_at "st")
  | ((with_reducible refine' x_mulI ?h ?_); case h => first | exact .inl ⟨by decide, by decide⟩ | exact .inr ⟨by decide, by decide⟩ | exact .inl ⟨by omega, by omega⟩ | exact .inr ⟨by omega, by omega⟩)
  | ((with_reducible refine' x_divI ?h ?_); case h => first | exact ⟨by decide, by decide⟩ | exact ⟨by omega, by omega⟩)
  | ((with_reducible refine' x_powI ?h ?_); case h => exact ⟨by decide, by decide, by decide⟩)
  | ((with_reducible refine' x_ixL ?h ?h2 ?_); (case h => walk_at "sl"); (case h2 => first | rfl | assumption))
  | ((with_reducible refine' x_ixT ?h ?h2 ?_); (case h => walk_at "st"); (case h2 => first | rfl | assumption))
  | (with_reducible refine x_m1s ?_)
  | (with_reducible refine x_str1 ?_)
  | (with_reducible refine x_sl ?_)
  | (with_reducible refine x_noPart ?_)
  | (with_reducible refine x_part ?_)
  | (with_reducible refine x_exi ?_)
  | ((with_reducible refine' x_slS ?h ?_); case h => walk_at "sz")
  | ((with_reducible refine' x_slL ?h ?_); case h => walk_at "sl")
  | (with_reducible refine x_pairsC ?_)
  | (with_reducible refine x_pairsN ?_)
  | ((with_reducible refine' x_dgS ?h ?h2 ?_); (case h => walk_at "hf"); (case h2 => assumption))
  | ((with_reducible refine' x_srtT ?h ?h2 ?_); (case h => walk_at "st"); (case h2 => omega))
  | ((with_reducible refine' x_srtL ?h ?h2 ?_); (case h => walk_at "sl"); (case h2 => omega))
  | ((with_reducible refine' x_inLS ?h ?_); case h => walk_at "sl")
  | ((with_reducible refine' x_inTS ?h ?_); case h => walk_at "st")
  | ((with_reducible refine' x_ninLS ?h ?_); case h => walk_at "sl")
  | ((with_reducible refine' x_ninTS ?h ?_); case h => walk_at "st")
  | ((with_reducible refine' x_tyL ?h ?_); case h => walk_at "sl")
  | ((with_reducible refine' x_gtup ?h ?h2 ?_); (case h => walk_at "st"); (case h2 => rfl))
  | (with_reducible refine x_next ?_)
  | (with_reducible refine x_for ?_)
  | (with_reducible refine x_iList ?_)
  | (with_reducible refine x_iTup ?_)
  | (with_reducible refine x_iStr ?_)
  | (with_reducible refine x_iRng1 ?_)
  | (with_reducible refine x_iRng2 ?_)
  | (with_reducible refine x_lc ?_)
  | (with_reducible refine x_drop ?_)
  | (with_reducible refine x_retN ?_)
  | (with_reducible refine x_cont ?_)
  | (with_reducible refine x_break ?_)
  | (with_reducible refine x_cl ?_)
  | (with_reducible refine x_isN ?_)
  | (with_reducible refine x_notN ?_)
  | (with_reducible refine x_andV ?_)
  | (with_reducible refine x_orV ?_)
  | (with_reducible refine x_notV ?_)
  | (with_reducible refine x_ifE ?_)
  | (with_reducible refine x_addI ?_)
  | (with_reducible refine x_subI ?_)
  | (with_reducible refine x_ltI ?_)
  | (with_reducible refine x_leI ?_)
  | (with_reducible refine x_gtI ?_)
  | (with_reducible refine x_geI ?_)
  | (with_reducible refine x_ltS ?_)
  | (with_reducible refine x_abs ?_)
  | (with_reducible refine x_min2 ?_)
  | (with_reducible refine x_max2 ?_)
  | (with_reducible refine x_int1 ?_)
  | (with_reducible refine x_notInS ?_)
  | ((with_reducible refine' x_eq ?h ?_); case h => rfl)
  | ((with_reducible refine' x_ne ?h ?_); case h => rfl)
  | ((with_reducible refine' x_modI ?h ?_); case h => first | decide | omega)
  | ((with_reducible refine' x_isiD ?h1 ?h2 ?h3 ?_); (case h1 => assumption); (case h2 => walk_at "rp"); (case h3 => decide))
  | ((with_reducible refine' x_lenS ?h ?_); case h => walk_at "sz")
  | ((with_reducible refine' x_lenL ?h ?_); case h => walk_at "sl")
  | ((with_reducible refine' x_lenT ?h ?_); case h => walk_at "st")
  | ((with_reducible refine' x_lenD ?h ?_); case h => walk_at "hf")
  | fail)
local macro_rules | `(tactic| walk_at "sx") => `(tactic| repeat walk_at "s1")
/-! ### making a group -/
theorem use_Group {K : PySem.W.Frag} {S : List Addr} {B0 H0 B H : Hp} {M : List (Addr × HO)} {Q : VK} {W : WX} {σ : L2.St} {v u : V} {dp dw : D} (hs : HS S B0 H0 B H M) (rp : Rep K B v dp) (rw_ : Rep K B u dw)
    (k : ∀ G, mkGroup dp dw = .ok G → ∀ B' H' g, Same B B' → HS S B0 H0 B' H' M → GAt K B' g G → Q (.ref g) H')
    (kp : ∀ i, mkGroup dp dw = .bp i → ∀ B' H' d, Same B B' → HS S B0 H0 B' H' M → B' d = none → H' d = some (.xd [("index", .int i)]) → W (.ref (He.ga K "BadPeople")) (some d) σ H')
    (kw : ∀ x, mkGroup dp dw = .bw x → ∀ B' H' d, Same B B' → HS S B0 H0 B' H' M → B' d = none → H' d = some (.xd [("person", .str x)]) → W (.ref (He.ga K "BadWishes")) (some d) σ H') :
    Mkd (He.ga K "Group") (sp_Group___init__ K) W σ Q [v, u] H := by
  intro x dx hx hd hne
  have sB : Same B (upd (upd H dx (.own x)) x (.ins (He.ga K "Group") dx [])) := fun b o e => by
    have e' := hs.bh _ _ e
    rw [upd_ne (ne_of_none e' hx), upd_ne (ne_of_none e' hd)]; exact e'
  refine ⟨x, v, u, B, dx, dp, dw, rfl, sB, same_none hs.bh hx, upd_same, rp, rw_, ?_⟩
  cases e : mkGroup dp dw with
  | ok G => exact fun B' H' c g => ⟨rfl, k G e B' H' x c.bb (hs.made hx hd c) g⟩
  | bp i => exact fun B' H' d c h1 h2 => kp i e B' H' d c.bb (hs.made hx hd c) h1 h2
  | bw y => exact fun B' H' d c h1 h2 => kw y e B' H' d c.bb (hs.made hx hd c) h1 h2
theorem use_people {K : PySem.W.Frag} {S : List Addr} {B0 H0 B H : Hp} {M : List (Addr × HO)} {Q : VK} {E : XK} {p : Addr} {G : Grp} (hs : HS S B0 H0 B H M) (g : GAt K B p G)
    (k : ∀ B' H' l, Same B B' → HS S B0 H0 B' H' ((l, .lst (G.names.map V.str)) :: M) → Q (.ref l) H') : sp_Group_people K [.ref p] H Q E := ⟨p, B, G, rfl, hs.bh, g, fun B' H' l c => k B' H' l c.bb (hs.callN c)⟩
theorem GAt.ins {K : PySem.W.Frag} {B : Hp} {p : Addr} {G : Grp} (h : GAt K B p G) : ∃ dx n l m q, B p = some (.ins (He.ga K "Group") dx (gf n l m q)) := by
  obtain ⟨⟨dx, n, l, m, q, h1, _⟩, _⟩ := h
  exact ⟨dx, n, l, m, q, h1⟩
theorem HS.still0 {B0 H0 B H : Hp} {p : Addr} {o : HO} {M : List (Addr × HO)} (h : HS [] B0 H0 B H ((p, o) :: M)) : ∃ B', HS [] B0 H0 B' H M ∧ Same B B' ∧ B' p = some o :=
  ⟨_, (h.still (by simp)).1, (h.still (by simp)).2, upd_same⟩
theorem okName_len {x : Str} (h : okName x = true) : x.length ≤ 1000000 := by
  unfold okName at h
  obtain ⟨_, h⟩ := Bool.and_eq_true_iff.mp h
  obtain ⟨h, _⟩ := Bool.and_eq_true_iff.mp h
  have := of_decide_eq_true h
  omega
def spLaw (K : PySem.W.Frag) : Sp := fun vs H Q _ => ∃ (a : Addr) (ns : List Int), vs = [.ref a] ∧ ns.length ≤ 63 ∧ SqL K H a (ns.map V.int) ∧ ∀ H', Q (.bl true) H'
theorem x_trL {K : PySem.W.Frag} {H : Hp} {p : Addr} {xs : List V} {R : Bool → Prop} (hp : H p = some (.lst xs)) (h : R (!xs.isEmpty)) : ∃ k, TruV K (.ref p) H k ∧ R k := ⟨_, Or.inl ⟨xs, SqL.of hp, rfl⟩, h⟩
theorem ixN_nat {n m : Nat} (h : m < n) : ixN n (m : Int) = some m := by
  unfold ixN
  rw [if_pos (Int.natCast_nonneg _), if_pos (by omega), Int.toNat_natCast]
theorem not_empty_lt {α : Type} {xs : List α} (h : (!xs.isEmpty) = true) : 0 < xs.length := by
  cases xs with
  | nil => simp at h
  | cons _ _ => simp
theorem Reps.mem {K : PySem.W.Frag} {B : Hp} {vs : List V} {ds : List D} (r : Reps K B vs ds) {i : Nat} (h : i < vs.length) : ∃ d, Rep K B vs[i] d := by
  obtain ⟨d, _, h⟩ := r.get (List.getElem?_eq_getElem h)
  exact ⟨d, h⟩
end Q

set_option Elab.async false
set_option linter.all false
set_option maxRecDepth 100000
set_option maxHeartbeats 4000000
namespace Q
open PySem PySem.Spec PyProof.Rows L2
local macro_rules | `(tactic| walk_at "bf") => `(tactic| first | assumption | (refine' bstep (by assumption) ?r; case r => walk_at "bf") | fail)
local macro_rules | `(tactic| walk_at "rp") => `(tactic| first | assumption | exact Rep.int _ | exact Rep.bl _ | exact Rep.non | (refine' Rep.mono (by assumption) ?r; case r => walk_at "rp") | fail)
local macro_rules | `(tactic| walk_at "hf") => `(tactic| first | assumption | exact HS.up (by assumption) (by walk_at "bf") | exact HS.get (by assumption) List.mem_cons_self | exact HS.get (by assumption) (List.mem_cons_of_mem _ List.mem_cons_self) | exact HS.get (by assumption) (List.mem_cons_of_mem _ (List.mem_cons_of_mem _ List.mem_cons_self)) | exact HS.get (by assumption) (List.mem_cons_of_mem _ (List.mem_cons_of_mem _ (List.mem_cons_of_mem _ List.mem_cons_self))) | fail)
local macro_rules | `(tactic| walk_at "sl") => `(tactic| first | assumption | exact SqL.of (by walk_at "hf") | fail)
local macro_rules | `(tactic| walk_at "st") => `(tactic| first | assumption | exact SqT.of (by walk_at "hf") | fail)
local macro_rules | `(tactic| walk_at "sz") => `(tactic| first | assumption | (refine small_le ?_; first | assumption | omega | (simp; done) | (simp; omega)) | fail)
local macro_rules | `(tactic| walk_at "s1") => `(tactic| first
  | (with_reducible refine x_seq ?_)
  | (with_reducible refine x_asg ?_)
  | ((with_reducible refine x_gname ?_); try simp only [List.set_cons_zero, List.set_cons_succ])
  | ((with_reducible refine' x_var ?h ?_); case h => rfl)
  | (with_reducible refine x_c ?_)
  | (with_reducible refine x_op ?_)
  | (with_reducible refine x_ret ?_)
  | (with_reducible refine x_if ?_)
  | (with_reducible refine x_and ?_)
  | (with_reducible refine x_or ?_)
  | (with_reducible refine x_not ?_)
  | (with_reducible refine x_test ?_)
  | (with_reducible refine x_tB ?_)
  | (with_reducible refine x_tr ?_)
  | (with_reducible refine x_cb ?_)
  | (with_reducible refine x_cons ?_)
  | (with_reducible refine x_nil ?_)
  | (with_reducible refine x_exb ?_)
  | (with_reducible refine x_tt _ _ ?_)
  | (with_reducible refine x_ff _ _ ?_)
  | (with_reducible refine x_dget ?_)
  | (with_reducible refine x_din ?_)
  | (with_reducible refine x_dnin ?_)
  | (with_reducible refine x_dputU ?_)
  | (with_reducible refine x_dnew ?_)
  | (with_reducible refine x_bm ?_)
  | (with_reducible refine x_bm0 ?_)
  | (with_reducible refine x_gsub ?_)
  | (with_reducible refine x_fldU ?_)
  | (with_reducible refine x_sfldU ?_)
  | (with_reducible refine x_gcons ?_)
  | (with_reducible refine x_gnil ?_)
  | (with_reducible refine x_rz1 ?_)
  | (with_reducible refine x_rz2 ?_)
  | (with_reducible refine x_tryAs ?_)
  | (with_reducible refine x_tryOnly ?_)
  | (with_reducible refine x_mtU ?_)
  | (with_reducible refine x_mk ?_)
  | (with_reducible refine x_yes ?_)
  | (with_reducible refine x_un ?_)
  | (with_reducible refine x_neg ?_)
  | (with_reducible refine x_iEnum ?_)
  | (with_reducible refine x_iEnumT ?_)
  | (with_reducible refine x_lst ?_)
  | (with_reducible refine x_tup ?_)
  | (with_reducible refine x_dc ?_)
  | ((with_reducible refine' x_dinO ?h ?_); case h => walk_at "hf")
  | ((with_reducible refine' x_newL ?h ?_); case h => first | exact Nat.zero_le _ | (simp; done) | (simp; omega))
  | ((with_reducible refine' x_newT ?h ?_); case h => first | exact Nat.zero_le _ | (simp; done) | (simp; omega))
  | ((with_reducible refine' x_listL ?h ?_); case h => walk_at "sl")
  | ((with_reducible refine' x_listT ?h ?_); case h => walk_at "st")
  | ((with_reducible refine' x_mulI ?h ?_); case h => first | exact .inl ⟨by decide, by decide⟩ | exact .inr ⟨by decide, by decide⟩ | exact .inl ⟨by omega, by omega⟩ | exact .inr ⟨by omega, by omega⟩)
  | ((with_reducible refine' x_divI ?h ?_); case h => first | exact ⟨by decide, by decide⟩ | exact ⟨by omega, by omega⟩)
  | ((with_reducible refine' x_powI ?h ?_); case h => exact ⟨by decide, by decide, by decide⟩)
  | ((with_reducible refine' x_ixL ?h ?h2 ?_); (case h => walk_at "sl"); (case h2 => first | rfl | assumption))
  | ((with_reducible refine' x_ixT ?h ?h2 ?_); (case h => walk_at "st"); (case h2 => first | rfl | assumption))
  | (with_reducible refine x_m1s ?_)
  | (with_reducible refine x_str1 ?_)
  | (with_reducible refine x_sl ?_)
  | (with_reducible refine x_noPart ?_)
  | (with_reducible refine x_part ?_)
  | (with_reducible refine x_exi ?_)
  | ((with_reducible refine' x_slS ?h ?_); case h => walk_at "sz")
  | ((with_reducible refine' x_slL ?h ?_); case h => walk_at "sl")
  | (with_reducible refine x_pairsC ?_)
  | (with_reducible refine x_pairsN ?_)
  | ((with_reducible refine' x_dgS ?h ?h2 ?_); (case h => walk_at "hf"); (case h2 => assumption))
  | ((with_reducible refine' x_srtT ?h ?h2 ?_); (case h => walk_at "st"); (case h2 => omega))
  | ((with_reducible refine' x_srtL ?h ?h2 ?_); (case h => walk_at "sl"); (case h2 => omega))
  | ((with_reducible refine' x_inLS ?h ?_); case h => walk_at "sl")
  | ((with_reducible refine' x_inTS ?h ?_); case h => walk_at "st")
  | ((with_reducible refine' x_ninLS ?h ?_); case h => walk_at "sl")
  | ((with_reducible refine' x_ninTS ?h ?_); case h => walk_at "st")
  | ((with_reducible refine' x_tyL ?h ?_); case h => walk_at "sl")
  | ((with_reducible refine' x_gtup ?h ?h2 ?_); (case h => walk_at "st"); (case h2 => rfl))
  | (with_reducible refine x_next ?_)
  | (with_reducible refine x_for ?_)
  | (with_reducible refine x_iList ?_)
  | (with_reducible refine x_iTup ?_)
  | (with_reducible refine x_iStr ?_)
  | (with_reducible refine x_iRng1 ?_)
  | (with_reducible refine x_iRng2 ?_)
  | (with_reducible refine x_lc ?_)
  | (with_reducible refine x_drop ?_)
  | (with_reducible refine x_retN ?_)
  | (with_reducible refine x_cont ?_)
  | (with_reducible refine x_break ?_)
  | (with_reducible refine x_cl ?_)
  | (with_reducible refine x_isN ?_)
  | (with_reducible refine x_notN ?_)
  | (with_reducible refine x_andV ?_)
  | (with_reducible refine x_orV ?_)
  | (with_reducible refine x_notV ?_)
  | (with_reducible refine x_ifE ?_)
  | (with_reducible refine x_addI ?_)
  | (with_reducible refine x_subI ?_)
  | (with_reducible refine x_ltI ?_)
  | (with_reducible refine x_leI ?_)
  | (with_reducible refine x_gtI ?_)
  | (with_reducible refine x_geI ?_)
  | (with_reducible refine x_ltS ?_)
  | (with_reducible refine x_abs ?_)
  | (with_reducible refine x_min2 ?_)
  | (with_reducible refine x_max2 ?_)
  | (with_reducible refine x_int1 ?_)
  | (with_reducible refine x_notInS ?_)
  | ((with_reducible refine' x_eq ?h ?_); case h => rfl)
  | ((with_reducible refine' x_ne ?h ?_); case h => rfl)
  | ((with_reducible refine' x_modI ?h ?_); case h => first | decide | omega)
  | ((with_reducible refine' x_isiD ?h1 ?h2 ?h3 ?_); (case h1 => assumption); (case h2 => walk_at "rp"); (case h3 => decide))
  | ((with_reducible refine' x_lenS ?h ?_); case h => walk_at "sz")
  | ((with_reducible refine' x_lenL ?h ?_); case h => walk_at "sl")
  | ((with_reducible refine' x_lenT ?h ?_); case h => walk_at "st")
  | ((with_reducible refine' x_lenD ?h ?_); case h => walk_at "hf")
  | fail)
local macro_rules | `(tactic| walk_at "sx") => `(tactic| repeat walk_at "s1")
/-! ### the head's Hook with facts of one's own -/
def obsX (ex : List (PySem.W.Frag → Bool)) (fa : List He.Fa) (fn : List He.DefD) (K : PySem.W.Frag) : Bool × He.AlD := (ex.all fun b => b K, He.obsD fa fn K)
structure SaysX (ex : List (PySem.W.Frag → Bool)) (fa : List He.Fa) (fn : List He.DefD) (K : PySem.W.Frag) : Prop where
  one : (ex.all fun b => b K) = true
  two : He.SaysD fa fn K
theorem SaysX.ex {ex : List (PySem.W.Frag → Bool)} {fa : List He.Fa} {fn : List He.DefD} {K : PySem.W.Frag} (c : SaysX ex fa fn K) (i : Nat) {b : PySem.W.Frag → Bool} (h : ex[i]? = some b) : b K = true := List.all_eq_true.mp c.one b (List.mem_of_getElem? h)
def obsXG (n : Nat) (ex : List (PySem.W.Frag → Bool)) (fa : List He.Fa) (fn : List He.DefD) (g : Addr → Option Obj) : Bool × He.AlD := obsX ex fa fn (He.frG g (cStatics :: He.asD g n))
def hookX (n : Nat) (ex : List (PySem.W.Frag → Bool)) (fa : List He.Fa) (fn : List He.DefD) : PySem.W.Hook where
  α := Bool × He.AlD
  obs := fun s => obsXG n ex fa fn s.heap.get?
  val := fun _ => (true, He.valD fn)
  says := fun _ h => ∃ K : PySem.W.Frag, K.In h ∧ SaysX ex fa fn K
  of := fun _ _ e => ⟨_, He.frG_in, congrArg (fun z : Bool × He.AlD => z.1) e, congrArg (fun z : Bool × He.AlD => z.2) e⟩
  keeps := fun _ _ _ ⟨K, hK, c⟩ k => ⟨K, PySem.W.Frag.In.keeps hK k, c⟩
theorem obsXG_eq {n : Nat} {ex : List (PySem.W.Frag → Bool)} {fa : List He.Fa} {fn : List He.DefD} {g : Addr → Option Obj} {s : Shared} (h : ∀ a, g a = s.heap.get? a) : obsXG n ex fa fn g = (hookX n ex fa fn).obs s := by
  have e : g = s.heap.get? := funext h
  rw [e] <;> rfl
/-! ### what a def may let out, whatever the world -/
def CXE (P : Program) : CXT := fun outer H s E u s' => ∃ w, L2.CX P w outer H s E u s'
theorem cxe_no {P : Program} (H : Hp) (s : Shared) (e : Value) (s' : Shared) (h : CXE P [] H s (fun _ _ _ => False) e s') : False := by
  obtain ⟨w, a, B, H', cls, d, _, _, _, _, _, _, _, z⟩ := h
  exact z
theorem fnok_cxe {P : Program} {w : World} {K : PySem.W.Frag} {mg : Str → Option Value} {base : Heap} {k : Nat} {f : Addr} {fd : FuncData} {ps : List Str} {sp : Sp} (F : FnOk P w K mg base (L2.CX P w) k f fd ps sp) : FnOk P w K mg base (CXE P) k f fd ps sp :=
  ⟨F.len, fun A outer s H args us vs Q E hr he hb hv hs => codeAny_mono (F.run A outer s H args us vs Q E hr he hb hv hs) fun r s' hq => by
    cases r with
    | ok fl => cases fl <;> exact hq
    | error e => exact ⟨w, hq⟩⟩
/-! ### try, by its reading -/
section
variable {X : Cx} {x n : Str} {c : Value} {i : Nat} {body suite : List Stmt} {b₀ : Stmt} {np pos pos' : Pos} {tb : WX → TS} {ts : Addr → Value → Option Addr → TS} {Wout : WX}
theorem ps_tryA (hs : X.stack = X.env :: X.outer) (hf : X.env.frame = some X.env.locals) (hN : X.N.Nodup) (hi : X.N[i]? = some n) (hln : X.env.kindOf n = some .local) (hc : Names X x c) (tk : Takes X Wout)
    (hb : ∀ (W : WX) (pn : List (Addr × Obj)) (xe : Value → Shared → Prop), Takes (X.tr pn xe) W → PassesOwn (model X.prog X.w) X.A X.env xe → PSs (X.tr pn xe) body (tb W))
    (hsu : ∀ (a : Addr) (oe : Obj) (cls : Value) (d : Option Addr) (pn : List (Addr × Obj)), Zc cls d oe → (∃ vs, oe.data = .fields vs) → PSs (X.suite a ((a, oe) :: pn)) (b₀ :: suite) (ts a cls d)) :
    PS X (.Try body [.ExceptHandler (some (.Name x np)) (some n) (b₀ :: suite) pos'] [] [] pos) (tTryAs X.K c i ts Wout tb) := ps_try_as hs hf hN hi hln hc tk hb hsu
theorem ps_tryO (hs : X.stack = X.env :: X.outer) (hf : X.env.frame = some X.env.locals) (hc : Names X x c) (tk : Takes X Wout)
    (hb : ∀ (W : WX) (pn : List (Addr × Obj)) (xe : Value → Shared → Prop), Takes (X.tr pn xe) W → PassesOwn (model X.prog X.w) X.A X.env xe → PSs (X.tr pn xe) body (tb W))
    (hsu : ∀ (a : Addr) (oe : Obj) (cls : Value) (d : Option Addr) (pn : List (Addr × Obj)), Zc cls d oe → (∃ vs, oe.data = .fields vs) → PSs (X.suite a ((a, oe) :: pn)) (b₀ :: suite) (ts a cls d)) :
    PS X (.Try body [.ExceptHandler (some (.Name x np)) none (b₀ :: suite) pos'] [] [] pos) (tTryOnly X.K c ts Wout tb) := ps_try_only hs hf hc tk hb hsu
end
/-! ### the errors' __init__ -/
section
variable {K : PySem.W.Frag} {C a : Addr} {v u : V} {f g msg : Str} {H : Hp} {Q : VK}
theorem xi1 (ox : OexC K C) (na : PySem.W.findIn K (.ref C) f = some none) (ha : H a = some (exo a C none)) (k : ∀ dx, H dx = none → dx ≠ a → Q .non (upd (upd H dx (exd dx [(f, v)])) a (exo a C (some dx)))) :
    (tSeq (tDrop (tVeI K (tCons (tVar 0) (tCons (tC (.str msg)) tNil)))) (tOst K f (tVar 0) (tVar 1))) { nx := fun _ H' => Q .non H', rt := Q } [some (.ref a), some v] H :=
  ⟨.ref a, rfl, a, C, [.str msg], rfl, by simp, ox, ha, v, rfl, .ref a, rfl, a, C, rfl, ox, na, .inl ⟨ha, k⟩⟩
theorem xi2 (ox : OexC K C) (na : PySem.W.findIn K (.ref C) f = some none) (nb : PySem.W.findIn K (.ref C) g = some none) (ha : H a = some (exo a C none))
    (k : ∀ dx, H dx = none → dx ≠ a → Q .non (upd (upd (upd H dx (exd dx [(f, v)])) a (exo a C (some dx))) dx (exd dx [(g, u), (f, v)]))) :
    (tSeq (tDrop (tVeI K (tCons (tVar 0) (tCons (tC (.str msg)) tNil)))) (tSeq (tOst K f (tVar 0) (tVar 1)) (tOst K g (tVar 0) (tVar 2)))) { nx := fun _ H' => Q .non H', rt := Q } [some (.ref a), some v, some u] H :=
  ⟨.ref a, rfl, a, C, [.str msg], rfl, by simp, ox, ha, v, rfl, .ref a, rfl, a, C, rfl, ox, na, .inl ⟨ha, fun dx h1 h2 => ⟨u, rfl, .ref a, rfl, a, C, rfl, ox, nb, .inr ⟨dx, [(f, v)], upd_same, by rw [upd_ne h2]; exact upd_same, by simp, k dx h1 h2⟩⟩⟩⟩
end
end Q

set_option Elab.async false
set_option linter.all false
set_option maxRecDepth 100000
set_option maxHeartbeats 4000000
namespace Q
open PySem PySem.Spec PyProof.Rows L2
/-! ### sorted of tuples of texts, any number of them -/
def lexT : List Str → List Str → Bool
  | [], [] => false
  | [], _ :: _ => true
  | _ :: _, [] => false
  | x :: xs, y :: ys => if x = y then lexT xs ys else decide (x.cps.toList < y.cps.toList)
theorem lexT_asym : ∀ {a b : List Str}, lexT a b = true → lexT b a = false
  | [], [], _ => rfl
  | [], _ :: _, _ => rfl
  | _ :: _, [], h => by cases h
  | x :: xs, y :: ys, h => by
    unfold lexT at h ⊢
    by_cases e : x = y
    · rw [if_pos e] at h
      rw [if_pos e.symm]
      exact lexT_asym h
    · rw [if_neg e] at h
      rw [if_neg (Ne.symm e)]
      have h : ltS x y := of_decide_eq_true h
      refine decide_eq_false ?_
      show ¬ ltS y x
      exact not_ltS.mpr (ltS_iff.mp h).1
theorem lexT_tr : ∀ {a b c : List Str}, lexT a b = false → lexT b c = false → lexT a c = false
  | [], [], _, _, h2 => h2
  | [], _ :: _, _, h1, _ => by cases h1
  | _ :: _, [], [], _, _ => rfl
  | _ :: _, [], _ :: _, _, h2 => by cases h2
  | _ :: _, _ :: _, [], _, _ => rfl
  | x :: xs, y :: ys, z :: zs, h1, h2 => by
    unfold lexT at h1 h2 ⊢
    by_cases e1 : x = y
    · subst e1
      rw [if_pos rfl] at h1
      by_cases e2 : x = z
      · rw [if_pos e2] at h2 ⊢
        exact lexT_tr h1 h2
      · rw [if_neg e2] at h2 ⊢
        exact h2
    · rw [if_neg e1] at h1
      have l1 : leS y x = true := not_ltS.mp (of_decide_eq_false h1)
      by_cases e2 : y = z
      · subst e2
        rw [if_neg e1]
        exact h1
      · rw [if_neg e2] at h2
        have l2 : leS z y = true := not_ltS.mp (of_decide_eq_false h2)
        have l3 := leS_trans _ _ _ l2 l1
        by_cases e3 : x = z
        · subst e3
          exact absurd (leS_anti l1 l2) (Ne.symm e1)
        · rw [if_neg e3]
          exact decide_eq_false (not_ltS.mpr l3)
theorem lexT_anti : ∀ {a b : List Str}, lexT a b = false → lexT b a = false → a = b
  | [], [], _, _ => rfl
  | [], _ :: _, h, _ => by cases h
  | _ :: _, [], _, h => by cases h
  | x :: xs, y :: ys, h1, h2 => by
    unfold lexT at h1 h2
    by_cases e : x = y
    · rw [if_pos e] at h1
      rw [if_pos e.symm] at h2
      rw [e, lexT_anti h1 h2]
    · rw [if_neg e] at h1
      rw [if_neg (Ne.symm e)] at h2
      exact absurd (leS_anti (not_ltS.mp (of_decide_eq_false h2)) (not_ltS.mp (of_decide_eq_false h1))) e
def leT (a b : List Str) : Bool := !lexT b a
theorem leT_iff {a b : List Str} : leT a b = true ↔ lexT b a = false := by simp [leT]
theorem leT_trans (a b c : List Str) (h1 : leT a b = true) (h2 : leT b c = true) : leT a c = true := leT_iff.mpr (lexT_tr (leT_iff.mp h2) (leT_iff.mp h1))
theorem leT_total (a b : List Str) : (leT a b || leT b a) = true := by
  rw [Bool.or_eq_true, leT_iff, leT_iff]
  cases h : lexT b a with
  | false => exact .inl rfl
  | true => exact .inr (lexT_asym h)
theorem leT_anti {a b : List Str} (h1 : leT a b = true) (h2 : leT b a = true) : a = b := lexT_anti (leT_iff.mp h2) (leT_iff.mp h1)
def sortT (l : List (List Str)) : List (List Str) := l.mergeSort leT
theorem sortT_perm (l : List (List Str)) : (sortT l).Perm l := List.mergeSort_perm l leT
theorem sortT_pw (l : List (List Str)) : (sortT l).Pairwise (fun a b => leT a b = true) := List.pairwise_mergeSort leT_trans leT_total l
theorem sortT_eq {l m : List (List Str)} (p : m.Perm l) (s : m.Pairwise (fun a b => leT a b = true)) : m = sortT l :=
  List.Perm.eq_of_pairwise (fun _ _ _ _ h1 h2 => leT_anti h1 h2) s (sortT_pw l) (p.trans (sortT_perm l).symm)
theorem swoT (k : Value → List Str) : SrtO.Swo fun v u => lexT (k v) (k u) := ⟨fun _ _ h => lexT_asym h, fun _ _ _ h1 h2 => lexT_tr h2 h1⟩
theorem swoTV (k : V → List Str) : SrtO.Swo fun v u => lexT (k v) (k u) := ⟨fun _ _ h => lexT_asym h, fun _ _ _ h1 h2 => lexT_tr h2 h1⟩
def IsTx (h : Heap) (v : Value) (ks : List Str) : Prop := ∃ a o n us, v = .ref a ∧ h.get? a = some o ∧ o.cls = .type "tuple" ∧ o.data = .seq (List.toArray us) n ∧ Vals (ks.map V.str) us
theorem IsTx.keeps {h h' : Heap} {v : Value} {ks : List Str} (p : IsTx h v ks) (k : ∀ b o, h.get? b = some o → o.cls = .type "tuple" → h'.get? b = some o) : IsTx h' v ks := by
  obtain ⟨a, o, n, us, e, ho, hc, hd, r⟩ := p
  exact ⟨a, o, n, us, e, k _ _ ho hc, hc, hd, r⟩
section
variable {prog : Program} {w : World} {A : Around} {E : Value → Shared → Prop} {s : Shared}
theorem kat_txt {Q : Bool → Shared → Prop} : ∀ {xs ys : List Str} {us ws : List Value} {fin : Bool} (i : Nat), Vals (xs.map V.str) us → Vals (ys.map V.str) ws → fin = decide (xs.length < ys.length) → Q (lexT xs ys) s → PySem.W.KatLex prog w A true fin Q (us.zip ws) i s
  | [], [], us, ws, fin, i, r1, r2, e, q => by
    cases r1
    cases r2
    rw [e]
    exact PySem.W.kat_nil q
  | [], y :: ys, us, ws, fin, i, r1, r2, e, q => by
    cases r1
    rw [e]
    have : (([] : List Value).zip ws) = [] := by simp
    rw [this]
    refine PySem.W.kat_nil ?_
    have e2 : decide (([] : List Str).length < (y :: ys).length) = true := by simp
    rw [e2]
    exact q
  | x :: xs, [], us, ws, fin, i, r1, r2, e, q => by
    cases r2
    rw [e]
    have : (us.zip ([] : List Value)) = [] := by simp
    rw [this]
    refine PySem.W.kat_nil ?_
    have e2 : decide ((x :: xs).length < ([] : List Str).length) = false := by simp
    rw [e2]
    exact q
  | x :: xs, y :: ys, us, ws, fin, i, r1, r2, e, q => by
    cases r1 with
    | @cons _ u _ us' ra r1 =>
      cases r2 with
      | @cons _ v _ ws' rb r2 =>
        obtain ⟨t, rfl⟩ := ra
        obtain ⟨t', rfl⟩ := rb
        show PySem.W.KatLex prog w A true fin Q ((.str x t, .str y t') :: us'.zip ws') i s
        refine PySem.W.kat_cons (SeqAt.EqAt.str_str x t y t' prog w _ _ ?_)
        unfold lexT at q
        refine PySem.W.kat_go (fun e1 => ?_) (fun e1 => ?_)
        · have ex : x = y := by simpa using e1
          rw [if_pos ex] at q
          exact PySem.W.kat_yes (kat_txt (i + 1) r1 r2 (by rw [e]; simp) q)
        · have ex : ¬ x = y := by simpa using e1
          rw [if_neg ex] at q
          refine PySem.W.kat_no ?_
          cases hb : (true && i == 0) with
          | true => exact oneLt_str q
          | false => exact PySem.W.kat_one _ _ (PyProof.Rows.lt_str q)
theorem tx_cmp {vs : List Value} {k : Value → List Str} (hp : ∀ v ∈ vs, IsTx s.heap v (k v)) : SrtO.Cmp prog w A s (tuples' true) (fun p => p.1 ∈ vs) (SrtO.lt2 fun v u => lexT (k v) (k u)) := by
  intro p q hm hm'
  show wpAny (model prog w) A (keyLt' (tuples' true) p.1 q.1) (fun r s' => s' = s ∧ r = lexT (k p.1) (k q.1)) (fun _ _ => False) s
  have h1 := hp _ hm
  have h2 := hp _ hm'
  generalize k p.1 = x at h1 ⊢
  generalize k q.1 = y at h2 ⊢
  obtain ⟨a, o, n, us, e, ho, hc, hd, r⟩ := h1
  obtain ⟨a', o', n', us', e', ho', hc', hd', r'⟩ := h2
  rw [e, e']
  refine PySem.W.kat_lt ho hd ho' hd' ?_
  refine kat_txt 0 (by simpa using r) (by simpa using r') ?_ ⟨rfl, rfl⟩
  have l1 := r.length
  have l2 := r'.length
  rw [List.length_map] at l1 l2
  simp [l1, l2]
theorem firsts_tx {h : Heap} {k : Value → List Str} : ∀ {vs : List Value}, (∀ v ∈ vs, IsTx h v (k v) ∧ k v ≠ []) → ∃ fs : List Value, PySem.W.KatTups h vs fs ∧ fs.length = vs.length ∧ ∀ f ∈ fs, ∃ x t, f = Value.str x t
  | [], _ => ⟨[], PySem.W.KatTups.nil, rfl, fun _ hm => by simp at hm⟩
  | v :: vs, hp => by
    obtain ⟨fs, h1, h2, h3⟩ := firsts_tx (vs := vs) fun v' hm => hp v' (List.mem_cons_of_mem _ hm)
    obtain ⟨⟨a, o, n, us, e, ho, hc, hd, r⟩, hne⟩ := hp v (List.mem_cons_self ..)
    generalize k v = ks at r hne
    subst e
    cases ks with
    | nil => exact absurd rfl hne
    | cons x xs =>
      cases r with
      | cons ra r =>
        obtain ⟨t, rfl⟩ := ra
        refine ⟨.str x t :: fs, PySem.W.KatTups.cons ho hc hd rfl h1, by rw [List.length_cons, List.length_cons, h2], fun f hm => ?_⟩
        rcases List.mem_cons.mp hm with rfl | hm
        · exact ⟨x, t, rfl⟩
        · exact h3 f hm
theorem tx_sortable {a : Addr} {vs : List Value} {k : Value → List Str} (h0 : 0 < vs.length) (hp : ∀ v ∈ vs, IsTx s.heap v (k v) ∧ k v ≠ []) (ha : ∀ o, s.heap.get? a = some o → o.cls ≠ .type "tuple") : SrtO.SortableO prog w A s a vs fun v u => lexT (k v) (k u) := by
  intro h' keep
  have hp' : ∀ v ∈ vs, IsTx h' v (k v) ∧ k v ≠ [] := fun v hm => ⟨(hp v hm).1.keeps fun b o e c => keep b o (fun z => by subst z; exact ha o e c) e, (hp v hm).2⟩
  obtain ⟨fs, h1, h2, h3⟩ := firsts_tx hp'
  refine ⟨tuples' true, fun Q E hq => ?_, tx_cmp fun v hm => (hp' v hm).1⟩
  refine PySem.W.kat_kind (T := .type "str") h1 (by omega) (fun f hm => ?_) (by rfl) ?_
  · obtain ⟨x, t, rfl⟩ := h3 f hm
    exact PySem.W.Looks.now
  · have e : (Value.type "str" != Value.type "tuple") = true := by first | decide +kernel | rfl | decide
    rw [e]
    exact hq
theorem sorted_tx {l : Addr} {vs : List Value} {k : Value → List Str} {Q : Value → Shared → Prop} (hl : s.heap.IsList l vs.toArray) (hz : vs.length ≤ sizeLine) (hp : ∀ v ∈ vs, IsTx s.heap v (k v) ∧ k v ≠ [])
    (h : ∀ (h' : Heap) (d : Addr) (out : List Value), SrtO.Srtd (fun v u => lexT (k v) (k u)) out → SrtO.Stb (fun v u => lexT (k v) (k u)) out vs → (∀ b o, s.heap.get? b = some o → h'.get? b = some o) → s.heap.objs.size ≤ d → (∃ n, h'.get? d = some (seqObj "list" out.toArray n)) → Q (.ref d) { s with heap := h' }) :
    wpAny (model prog w) A (call (.builtin "sorted") [.ref l]) Q E s := by
  refine SrtO.sorted_ord (swoT k) hl hz (fun h2 h₁ a ha kk => ?_) fun out hs hb => ?_
  · refine tx_sortable (s := { s with heap := h₁ }) (by omega) (fun v hm => ⟨(hp v hm).1.keeps fun b o e _ => (kk b o e).2, (hp v hm).2⟩) fun o e => ?_
    have e' : some o = some (seqObj "list" vs.toArray 0) := e.symm.trans ha
    cases e'
    intro c
    exact absurd (Value.type.inj c) (by decide)
  · exact h _ _ out hs hb (fun b o e => sortedAll_old e) (Nat.le_succ _) (sortedAll_at s.heap vs out.toArray)
end
def rSortTx (K : PySem.W.Frag) : List V → Hp → VK → Prop := fun vs H Q => ∃ (a : Addr) (xs : List V) (k : V → List Str), vs = [V.ref a] ∧ SqL K H a xs ∧ (∀ x ∈ xs, (∃ t, x = V.ref t ∧ H t = some (.tup ((k x).map V.str))) ∧ k x ≠ []) ∧
  ∀ ys p, ys.Perm xs → ys.map k = sortT (xs.map k) → H p = none → Q (.ref p) (upd H p (.lst ys))
theorem cSortTx {X : Cx} : CallR X (.builtin "sorted") (rSortTx X.K) := by
  intro pins s σ H vs us Q I r h
  obtain ⟨a, xs, k, rfl, hs, hx, q⟩ := h
  obtain ⟨its, rv, hl, hz⟩ := I.list hs
  obtain ⟨u, rfl, ru⟩ := vals1 r
  obtain rfl : u = Value.ref a := ru
  obtain ⟨e1, e2⟩ := refs_back rv fun x m => by
    obtain ⟨⟨t, e, _⟩, _⟩ := hx x m
    exact ⟨t, e⟩
  refine sorted_tx (k := fun u => k (backV u)) hl.isList (by rw [← rv.length]; exact hz) (fun v hv => ?_) fun h' d out h1 h2 kp hd hn => ?_
  · obtain ⟨t, rfl⟩ := e2 v hv
    have hm : V.ref t ∈ xs := by rw [e1]; exact List.mem_map.mpr ⟨_, hv, rfl⟩
    obtain ⟨⟨t', e, ht⟩, hne⟩ := hx _ hm
    cases e
    obtain ⟨_, its2, r2, o, ho, hc, n, hd⟩ := I.hok _ _ ht
    exact ⟨⟨t, o, n, its2, rfl, ho, hc, hd, r2⟩, hne⟩
  · have h3 : ∀ u ∈ out, ∃ a, u = Value.ref a := fun u hu => e2 u (h2.perm.mem_iff.mp hu)
    obtain ⟨n, hn⟩ := hn
    have hb : SrtO.Stb (fun x y => lexT (k x) (k y)) (out.map backV) xs := by
      rw [e1]
      exact SrtO.Stb.map (swoTV k) backV h2
    have hsr : SrtO.Srtd (fun x y => lexT (k x) (k y)) (out.map backV) := SrtO.srtd_map h1
    refine ⟨.ref d, upd H d (.lst (out.map backV)), I.laid (t' := s.toks) kp hd ⟨?_, out, n, vals_back h3, hn⟩, rfl, q _ d hb.perm ?_ (I.hok.fresh hd)⟩
    · rw [hb.len]
      exact hz
    · refine sortT_eq (hb.perm.map k) ?_
      rw [List.pairwise_map]
      exact List.Pairwise.imp (fun h => leT_iff.mpr h) hsr
end Q

set_option Elab.async false
set_option linter.all false
set_option maxRecDepth 100000
set_option maxHeartbeats 4000000
namespace Q
open PySem PySem.Spec PyProof.Rows L2
/-! ### the operators of one's own class: in, not in, [], len -/
def rInG (C : Addr) (sp : Sp) : R2 := fun x y H Q => ∃ a dx fs, y = .ref a ∧ H a = some (.ins C dx fs) ∧ sp [.ref a, x] H (fun v H' => ∃ b, v = .bl b ∧ Q (.bl b) H') fun _ _ _ => False
def rNotInG (C : Addr) (sp : Sp) : R2 := fun x y H Q => ∃ a dx fs, y = .ref a ∧ H a = some (.ins C dx fs) ∧ sp [.ref a, x] H (fun v H' => ∃ b, v = .bl b ∧ Q (.bl (!b)) H') fun _ _ _ => False
def tGetG (C : Addr) (sp : Sp) (W : WX) (ta ti : TE) : TE := fun σ H Q => ta σ H fun x H1 => ti σ H1 fun y H2 => ∃ a dx fs, x = .ref a ∧ H2 a = some (.ins C dx fs) ∧ sp [x, y] H2 Q fun c d H' => W c d σ H'
def rLenO (C : Addr) (sp : Sp) : List V → Hp → VK → Prop := fun xs H Q => ∃ a dx fs, xs = [V.ref a] ∧ H a = some (.ins C dx fs) ∧ sp [.ref a] H (fun v H' => ∃ n : Nat, v = .int (n : Nat) ∧ n ≤ 1000000 ∧ Q (.int (n : Nat)) H') fun _ _ _ => False
/-- a method whose function is a def of the text -/
def MtI (P : Program) (w : World) (K : PySem.W.Frag) (mg : Str → Option Value) (base : Heap) (k : Nat) (c m : Str) (ps : List Str) (sp : Sp) : Prop :=
  ∃ f fd, Cls K (He.ga K c) ∧ Meth K (He.ga K c) m f ∧ Binds K fd ps [] ∧ FnOk P w K mg base (L2.CX P w) k f fd ps sp ∧ PySem.W.fnIn K f = true
theorem FunD.fnIn {K : PySem.W.Frag} {x qual : Str} {params : Arguments} {body : List Stmt} {scope : Scope} {dvs : List V} {kws : List (Str × V)} {f : Addr} {fd : FuncData} (F : FunD K x qual params body scope dvs kws f fd) : PySem.W.fnIn K f = true := by
  obtain ⟨oc, od, dV, kV, doc, pm, an, cdv, ct, osl, e, lk, _⟩ := F.ex
  unfold PySem.W.fnIn
  rw [lk]
section
variable {X : Cx} {k j : Nat} {c : Str} {ps : List Str} {sp : Sp} {W : WX} {o i : Expr} {ta ti : TE} {pos : Pos}
theorem o_inG (F : Mt X.prog X.w X.K X.mg X.base k c "__contains__" ps sp) (hr : Room j X.A) (hj : k ≤ j) : OpR X (compareOp .In) (rInG (He.ga X.K c) sp) := by
  intro pins s σ H x y v u Q I rx ry h
  obtain ⟨a, dx, fs, rfl, ea, q⟩ := h
  cases ry
  obtain ⟨f, fd, c, hm, hb, F⟩ := F
  obtain ⟨mA, J, _⟩ := ins_get I.hok ea
  obtain ⟨od, J, _⟩ := J.look
  obtain ⟨m, hF⟩ := I.fr
  refine PySem.W.in_K hF I.ok.mod.kin J hm.at_ hm.fn ?_
  refine wpAny_mono (run_fnS (E := WE W0) (us := [.ref a, v]) (vs := [.ref a, x]) F (hr.mono hj) hb (passAt takes0 σ) I (.cons rfl (.cons rx .nil)) q) (fun r s' hh => ?_) fun _ _ z => z
  obtain ⟨z, H', I', rz, b, ez, qq⟩ := hh
  subst ez
  cases rz
  exact wpAny_truthy_bool ⟨.bl b, H', I', rfl, qq⟩
theorem o_notinG (F : Mt X.prog X.w X.K X.mg X.base k c "__contains__" ps sp) (hr : Room j X.A) (hj : k ≤ j) : OpR X (compareOp .NotIn) (rNotInG (He.ga X.K c) sp) := by
  intro pins s σ H x y v u Q I rx ry h
  obtain ⟨a, dx, fs, rfl, ea, q⟩ := h
  cases ry
  obtain ⟨f, fd, c, hm, hb, F⟩ := F
  obtain ⟨mA, J, _⟩ := ins_get I.hok ea
  obtain ⟨od, J, _⟩ := J.look
  obtain ⟨m, hF⟩ := I.fr
  refine PySem.W.notIn_K hF I.ok.mod.kin J hm.at_ hm.fn ?_
  refine wpAny_mono (run_fnS (E := WE W0) (us := [.ref a, v]) (vs := [.ref a, x]) F (hr.mono hj) hb (passAt takes0 σ) I (.cons rfl (.cons rx .nil)) q) (fun r s' hh => ?_) fun _ _ z => z
  obtain ⟨z, H', I', rz, b, ez, qq⟩ := hh
  subst ez
  cases rz
  exact wpAny_truthy_bool ⟨.bl (!b), H', I', rfl, qq⟩
theorem run_in1 {f : Addr} {fd : FuncData} {pins : List (Addr × Obj)} {σ : L2.St} {H : Hp} {s : Shared} {Q : VK} {us : List Value} {vs : List V} (F : FnOk X.prog X.w X.K X.mg X.base (L2.CX X.prog X.w) k f fd ps sp) (hr : Room (k + 1) X.A) (hb : Binds X.K fd ps [])
    (tk : Takes X W) (I : Inv X pins σ H s) (r : Vals vs us) (h : sp vs H Q fun c d H' => W c d σ H') : wpAny (model X.prog X.w) X.A.in1 (call (.ref f) us) (EP X pins σ Q) X.xe s := by
  have hl : us.length = ps.length := by rw [← r.length]; exact F.len _ _ _ _ h
  have b := hb s us I.kIn (by rw [List.append_nil]; exact hl)
  rw [List.append_nil] at b
  have e0 : Env0 X.prog X.w X.K X.mg X.base X.A.in1 X.stack s H := by
    have e := I.env0
    exact ⟨e.frames, e.mod, e.bs, e.bsz, e.funs, e.frf, e.hok, e.bare⟩
  refine wpAny_call (codeAny_mono (F.run X.A.in1 X.stack s H ⟨us, []⟩ us vs Q _ hr.in1 e0 b r h) fun r s' hq => ?_)
  cases r with
  | error e => exact passAt tk σ pins H s e s' I hq
  | ok fl =>
    cases fl with
    | ret u => exact I.after hq
    | next => exact False.elim hq
    | brk => exact False.elim hq
    | cont => exact False.elim hq
theorem pe_getG (F : MtI X.prog X.w X.K X.mg X.base k c "__getitem__" ps sp) (hr : Room j X.A) (hj : k + 1 ≤ j) (tk : Takes X W) (he : PE X o ta) (hi : PE X i ti)
    (hsl : ∀ (a : Addr) (u : Value), subscripted i true (.ref a) u = runValue (.builtin "lifetime.subscript" ⟨[.ref a, u], []⟩) := by intro _ _; with_unfolding_all rfl) : PE X (.Subscript o i pos) (tGetG (He.ga X.K c) sp W ta ti) := by
  obtain ⟨f, fd, c, hm, hb, F, hfi⟩ := F
  refine ⟨fun pins s σ H Q I h => ?_⟩
  refine Subscript_ (thn (he.run pins s σ H _ I h) fun v s1 hh => ?_)
  obtain ⟨x, H1, I1, rx, h1⟩ := hh
  refine thn (hi.run pins s1 σ H1 _ I1 h1) fun u s2 hh => ?_
  obtain ⟨y, H2, I2, ry, a, dx, fs, ex, ea, q⟩ := hh
  subst ex
  cases rx
  obtain ⟨mA, J, _⟩ := ins_get I2.hok ea
  obtain ⟨od, J, _⟩ := J.look
  obtain ⟨m, hF⟩ := I2.fr
  exact PySem.W.sub_K hF I.ok.mod.kin J hm.at_ hfi hm.fn (run_in1 (vs := [.ref a, y]) F (hr.mono hj) hb tk I2 (.cons rfl (.cons ry .nil)) q) (hsl a u)
theorem cLenO (F : Mt X.prog X.w X.K X.mg X.base k c "__len__" ps sp) (hr : Room j X.A) (hj : k + 1 ≤ j) : CallR X (.builtin "len") (rLenO (He.ga X.K c) sp) := by
  intro pins s σ H xs us Q I r h
  obtain ⟨a, dx, fs, rfl, ea, q⟩ := h
  obtain ⟨u, rfl, ru⟩ := vals1 r
  cases ru
  obtain ⟨f, fd, c, hm, hb, F⟩ := F
  obtain ⟨mA, J, _⟩ := ins_get I.hok ea
  obtain ⟨od, J, _⟩ := J.look
  obtain ⟨m, hF⟩ := I.fr
  refine PySem.W.len_K hF I.ok.mod.kin J hm.at_ hm.fn ?_
  refine wpAny_mono (run_in1 (W := W0) (vs := [.ref a]) F (hr.mono hj) hb takes0 I (.cons rfl .nil) q) (fun r s' hh => ?_) fun _ _ z => z
  obtain ⟨z, H', I', rz, n, ez, hn, qq⟩ := hh
  subst ez
  obtain ⟨t, rfl⟩ := rz
  exact ⟨⟨by omega, by omega⟩, .int (n : Nat), H', I'.tok _, ⟨_, rfl⟩, qq⟩
end
end Q

set_option Elab.async false
set_option linter.all false
set_option maxRecDepth 100000
set_option maxHeartbeats 4000000
namespace Q
open PySem PySem.Spec PyProof.Rows L2
local macro_rules | `(tactic| walk_at "bf") => `(tactic| first | assumption | (refine' bstep (by assumption) ?r; case r => walk_at "bf") | fail)
local macro_rules | `(tactic| walk_at "rp") => `(tactic| first | assumption | exact Rep.int _ | exact Rep.bl _ | exact Rep.non | (refine' Rep.mono (by assumption) ?r; case r => walk_at "rp") | fail)
local macro_rules | `(tactic| walk_at "hf") => `(tactic| first | assumption | exact HS.up (by assumption) (by walk_at "bf") | exact HS.get (by assumption) List.mem_cons_self | exact HS.get (by assumption) (List.mem_cons_of_mem _ List.mem_cons_self) | exact HS.get (by assumption) (List.mem_cons_of_mem _ (List.mem_cons_of_mem _ List.mem_cons_self)) | exact HS.get (by assumption) (List.mem_cons_of_mem _ (List.mem_cons_of_mem _ (List.mem_cons_of_mem _ List.mem_cons_self))) | fail)
local macro_rules | `(tactic| walk_at "sl") => `(tactic| first | assumption | exact SqL.of (by walk_at "hf") | fail)
local macro_rules | `(tactic| walk_at "st") => `(tactic| first | assumption | exact SqT.of (by walk_at "hf") | fail)
local macro_rules | `(tactic| walk_at "sz") => `(tactic| first | assumption | (refine small_le ?_; first | assumption | omega | (simp; done) | (simp; omega)) | fail)
local macro_rules | `(tactic| walk_at "s1") => `(tactic| first
  | (with_reducible refine x_seq ?_)
  | (with_reducible refine x_asg ?_)
  | ((with_reducible refine x_gname ?_); try simp only [List.set_cons_zero, List.set_cons_succ])
  | ((with_reducible refine' x_var ?h ?_); case h => rfl)
  | (with_reducible refine x_c ?_)
  | (with_reducible refine x_op ?_)
  | (with_reducible refine x_ret ?_)
  | (with_reducible refine x_if ?_)
  | (with_reducible refine x_and ?_)
  | (with_reducible refine x_or ?_)
  | (with_reducible refine x_not ?_)
  | (with_reducible refine x_test ?_)
  | (with_reducible refine x_tB ?_)
  | (with_reducible refine x_tr ?_)
  | (with_reducible refine x_cb ?_)
  | (with_reducible refine x_cons ?_)
  | (with_reducible refine x_nil ?_)
  | (with_reducible refine x_exb ?_)
  | (with_reducible refine x_tt _ _ ?_)
  | (with_reducible refine x_ff _ _ ?_)
  | (with_reducible refine x_dget ?_)
  | (with_reducible refine x_din ?_)
  | (with_reducible refine x_dnin ?_)
  | (with_reducible refine x_dputU ?_)
  | (with_reducible refine x_dnew ?_)
  | (with_reducible refine x_bm ?_)
  | (with_reducible refine x_bm0 ?_)
  | (with_reducible refine x_gsub ?_)
  | (with_reducible refine x_fldU ?_)
  | (with_reducible refine x_sfldU ?_)
  | (with_reducible refine x_gcons ?_)
  | (with_reducible refine x_gnil ?_)
  | (with_reducible refine x_rz1 ?_)
  | (with_reducible refine x_rz2 ?_)
  | (with_reducible refine x_tryAs ?_)
  | (with_reducible refine x_tryOnly ?_)
  | (with_reducible refine x_mtU ?_)
  | (with_reducible refine x_mk ?_)
  | (with_reducible refine x_yes ?_)
  | (with_reducible refine x_un ?_)
  | (with_reducible refine x_neg ?_)
  | (with_reducible refine x_iEnum ?_)
  | (with_reducible refine x_iEnumT ?_)
  | (with_reducible refine x_lst ?_)
  | (with_reducible refine x_tup ?_)
  | (with_reducible refine x_dc ?_)
  | ((with_reducible refine' x_dinO ?h ?_); case h => walk_at "hf")
  | ((with_reducible refine' x_newL ?h ?_); case h => first | exact Nat.zero_le _ | (simp; done) | (simp; omega))
  | ((with_reducible refine' x_newT ?h ?_); case h => first | exact Nat.zero_le _ | (simp; done) | (simp; omega))
  | ((with_reducible refine' x_listL ?h ?_); case h => walk_at "sl")
  | ((with_reducible refine' x_listT ?h ?_); case h => walk_at "st")
  | ((with_reducible refine' x_mulI ?h ?_); case h => first | exact .inl ⟨by decide, by decide⟩ | exact .inr ⟨by decide, by decide⟩ | exact .inl ⟨by omega, by omega⟩ | exact .inr ⟨by omega, by omega⟩)
  | ((with_reducible refine' x_divI ?h ?_); case h => first | exact ⟨by decide, by decide⟩ | exact ⟨by omega, by omega⟩)
  | ((with_reducible refine' x_powI ?h ?_); case h => exact ⟨by decide, by decide, by decide⟩)
  | ((with_reducible refine' x_ixL ?h ?h2 ?_); (case h => walk_at "sl"); (case h2 => first | rfl | assumption))
  | ((with_reducible refine' x_ixT ?h ?h2 ?_); (case h => walk_at "st"); (case h2 => first | rfl | assumption))
  | (with_reducible refine x_m1s ?_)
  | (with_reducible refine x_str1 ?_)
  | (with_reducible refine x_sl ?_)
  | (with_reducible refine x_noPart ?_)
  | (with_reducible refine x_part ?_)
  | (with_reducible refine x_exi ?_)
  | ((with_reducible refine' x_slS ?h ?_); case h => walk_at "sz")
  | ((with_reducible refine' x_slL ?h ?_); case h => walk_at "sl")
  | (with_reducible refine x_pairsC ?_)
  | (with_reducible refine x_pairsN ?_)
  | ((with_reducible refine' x_dgS ?h ?h2 ?_); (case h => walk_at "hf"); (case h2 => assumption))
  | ((with_reducible refine' x_srtT ?h ?h2 ?_); (case h => walk_at "st"); (case h2 => omega))
  | ((with_reducible refine' x_srtL ?h ?h2 ?_); (case h => walk_at "sl"); (case h2 => omega))
  | ((with_reducible refine' x_inLS ?h ?_); case h => walk_at "sl")
  | ((with_reducible refine' x_inTS ?h ?_); case h => walk_at "st")
  | ((with_reducible refine' x_ninLS ?h ?_); case h => walk_at "sl")
  | ((with_reducible refine' x_ninTS ?h ?_); case h => walk_at "st")
  | ((with_reducible refine' x_tyL ?h ?_); case h => walk_at "sl")
  | ((with_reducible refine' x_gtup ?h ?h2 ?_); (case h => walk_at "st"); (case h2 => rfl))
  | (with_reducible refine x_next ?_)
  | (with_reducible refine x_for ?_)
  | (with_reducible refine x_iList ?_)
  | (with_reducible refine x_iTup ?_)
  | (with_reducible refine x_iStr ?_)
  | (with_reducible refine x_iRng1 ?_)
  | (with_reducible refine x_iRng2 ?_)
  | (with_reducible refine x_lc ?_)
  | (with_reducible refine x_drop ?_)
  | (with_reducible refine x_retN ?_)
  | (with_reducible refine x_cont ?_)
  | (with_reducible refine x_break ?_)
  | (with_reducible refine x_cl ?_)
  | (with_reducible refine x_isN ?_)
  | (with_reducible refine x_notN ?_)
  | (with_reducible refine x_andV ?_)
  | (with_reducible refine x_orV ?_)
  | (with_reducible refine x_notV ?_)
  | (with_reducible refine x_ifE ?_)
  | (with_reducible refine x_addI ?_)
  | (with_reducible refine x_subI ?_)
  | (with_reducible refine x_ltI ?_)
  | (with_reducible refine x_leI ?_)
  | (with_reducible refine x_gtI ?_)
  | (with_reducible refine x_geI ?_)
  | (with_reducible refine x_ltS ?_)
  | (with_reducible refine x_abs ?_)
  | (with_reducible refine x_min2 ?_)
  | (with_reducible refine x_max2 ?_)
  | (with_reducible refine x_int1 ?_)
  | (with_reducible refine x_notInS ?_)
  | ((with_reducible refine' x_eq ?h ?_); case h => rfl)
  | ((with_reducible refine' x_ne ?h ?_); case h => rfl)
  | ((with_reducible refine' x_modI ?h ?_); case h => first | decide | omega)
  | ((with_reducible refine' x_isiD ?h1 ?h2 ?h3 ?_); (case h1 => assumption); (case h2 => walk_at "rp"); (case h3 => decide))
  | ((with_reducible refine' x_lenS ?h ?_); case h => walk_at "sz")
  | ((with_reducible refine' x_lenL ?h ?_); case h => walk_at "sl")
  | ((with_reducible refine' x_lenT ?h ?_); case h => walk_at "st")
  | ((with_reducible refine' x_lenD ?h ?_); case h => walk_at "hf")
  | fail)
local macro_rules | `(tactic| walk_at "sx") => `(tactic| repeat walk_at "s1")
/-! ### slices of texts' rows -/
theorem cutV_fromS {xs : List Str} {m : Int} {i : Nat} (e : m = i) : cutV (xs.map V.str) (some m) none = (xs.drop i).map V.str := by
  subst e
  unfold cutV
  rw [HT.sIx_nat, HT.sIx_none, List.length_map, ← List.map_drop, ← List.map_take]
  congr 1
  rw [List.take_of_length_le (by rw [List.length_drop]; omega)]
  by_cases h : i ≤ xs.length
  · rw [Nat.min_eq_left h]
  · rw [Nat.min_eq_right (by omega), List.drop_length, List.drop_of_length_le (by omega)]
theorem cutV_toS {xs : List Str} {m : Int} {i : Nat} (e : m = i) : cutV (xs.map V.str) none (some m) = (xs.take i).map V.str := by
  subst e
  unfold cutV
  rw [HT.sIx_nat, HT.sIx_none, List.length_map, List.drop_zero, Nat.sub_zero, ← List.map_take]
  congr 1
  by_cases h : i ≤ xs.length
  · rw [Nat.min_eq_left h]
  · rw [Nat.min_eq_right (by omega), List.take_length, List.take_of_length_le (by omega)]
theorem cutV_midS {xs : List Str} {m n : Int} {i j : Nat} (e : m = i) (e2 : n = i + j) : cutV (xs.map V.str) (some m) (some n) = ((xs.drop i).take j).map V.str := by
  subst e
  have e3 : n = ((i + j : Nat) : Int) := by omega
  subst e3
  unfold cutV
  rw [HT.sIx_nat, HT.sIx_nat, List.length_map, ← List.map_drop, ← List.map_take]
  congr 1
  by_cases h : i ≤ xs.length
  · rw [Nat.min_eq_left h]
    by_cases h2 : i + j ≤ xs.length
    · rw [Nat.min_eq_left h2, Nat.add_sub_cancel_left]
    · rw [Nat.min_eq_right (by omega), List.take_of_length_le (by rw [List.length_drop]; omega), List.take_of_length_le (by rw [List.length_drop]; omega)]
  · rw [Nat.min_eq_right (show xs.length ≤ i by omega), List.drop_length, List.drop_of_length_le (by omega)]
    simp
theorem eraseIdx_mapS : ∀ (xs : List Str) (i : Nat), (xs.map V.str).eraseIdx i = (xs.eraseIdx i).map V.str
  | [], _ => by simp
  | _ :: _, 0 => by simp
  | x :: r, i + 1 => by simp [eraseIdx_mapS r i]
theorem seqIndex_nat {n m : Nat} (h : m < n) : seqIndex? (m : Int) n = some m := by
  unfold seqIndex?
  simp only
  rw [if_neg (show ¬ (m : Int) < 0 by omega)]
  rw [if_pos (by simp; omega)]
  simp
theorem perm_erase {α : Type} : ∀ {l : List α} {i : Nat} (h : i < l.length), (l[i] :: l.eraseIdx i).Perm l
  | _ :: _, 0, _ => List.Perm.refl _
  | x :: r, i + 1, h => by
    have ih := perm_erase (l := r) (i := i) (by simpa using h)
    simp only [List.getElem_cons_succ, List.eraseIdx_cons_succ]
    exact (List.Perm.swap _ _ _).trans (List.Perm.cons x ih)
/-! ### a row in a drawn order -/
abbrev N__law_mixed : List Str := ["_law_state", "_law_items", "_law_pool", "_law_row_here", "_law_k"]
def t__law_mixed (K : PySem.W.Frag) (E : XK) : TS := (tSeq (tAsg (tCB (rListOf K) (tCons (tVar 1) tNil)) (gName 2))
  (tSeq (tAsg (tLst tNil) (gName 3))
  (tSeq (tFor (iRng1 (tCons (tCB (rLenA K) (tCons (tVar 1) tNil)) tNil)) (gName 4) (tDrop (tBM K "list" rAppend (tVar 3) (tCons (tBM K "list" rPopAt (tVar 2) (tCons (tCl (sp__law_take K) (WE0 E) (tCons (tVar 0) (tCons (tCB (rLenA K) (tCons (tVar 2) tNil)) tNil))) tNil)) tNil))))
  (tRet (tVar 3)))))
def sp__law_mixed (K : PySem.W.Frag) : Sp := fun vs H Q E => ∃ (p t : Addr) (a b : Int) (xs : List Str) (B : Hp), vs = [.ref p, .ref t] ∧ Same B H ∧ B p = none ∧ H p = some (stO a b) ∧ VSt a b ∧ B t = some (.lst (xs.map V.str)) ∧ xs.length ≤ 100 ∧
  ∀ B' H' a' b' l (ys : List Str), HS [p] B H B' H' [(p, stO a' b'), (l, .lst (ys.map V.str))] → VSt a' b' → ys.Perm xs → Q (.ref l) H'
theorem pure__law_mixed {K : PySem.W.Frag} {vs : List V} {H : Hp} {Q : VK} {E : XK} (h : sp__law_mixed K vs H Q E) : t__law_mixed K E { nx := fun _ H' => Q .non H', rt := Q } (start N__law_mixed vs) H := by
  obtain ⟨p, t, a, b, xs, B, rfl, sB, bp, hp, hv, ht, hl, k⟩ := h
  have hs := HS.startS sB bp hp
  show t__law_mixed K E _ [some (.ref p), some (.ref t), none, none, none] H
  unfold t__law_mixed
  walk_at "sx"
  refine new_M hs (fun po H1 hs1 _ => ?_)
  walk_at "sx"
  refine new_M hs1 (fun ro H2 hs2 _ => ?_)
  walk_at "sx"
  refine ⟨_, rfl, by rw [List.length_map]; omega, by rw [List.length_map]; omega, ?_⟩
  have en : (((xs.map V.str).length : Nat) : Int).toNat = xs.length := by rw [List.length_map]; omega
  rw [en]
  have hs3 : HS [p] B H B H2 [(p, stO a b), (po, .lst (xs.map V.str)), (ro, .lst (([] : List Str).map V.str))] := hs2.perm ((List.Perm.cons _ (List.Perm.swap _ _ _)).trans ((List.Perm.swap _ _ _).trans (List.Perm.cons _ (List.Perm.swap _ _ _))))
  refine l_range (α := (Int × Int) × (List Str × List Str) × Option V) (σf := fun s => [some (.ref p), some (.ref t), some (.ref po), some (.ref ro), s.2.2]) (Mf := fun s => [(p, stO s.1.1 s.1.2), (po, .lst (s.2.1.1.map V.str)), (ro, .lst (s.2.1.2.map V.str))])
    (P := fun i s _ => VSt s.1.1 s.1.2 ∧ s.2.1.2.length = i ∧ (s.2.1.2 ++ s.2.1.1).Perm xs) (s0 := ((a, b), (xs, []), none)) hs3 ⟨hv, rfl, List.Perm.refl _⟩ (fun i s B1 H1 hi sb1 hs1 pp => ?_) (fun s B1 H1 sb1 hs1 pp => ?_)
  · obtain ⟨⟨a1, b1⟩, ⟨rest, done⟩, s3⟩ := s
    obtain ⟨hv1, hl1, hp1⟩ := pp
    dsimp only at hs1 hv1 hl1 hp1 ⊢
    have hlen := hp1.length_eq
    rw [List.length_append] at hlen
    walk_at "sx"
    try refine x_tyL (SqL.of (hs1.get (List.mem_cons_of_mem _ (List.mem_cons_of_mem _ List.mem_cons_self)))) ?_
    walk_at "sx"
    try refine x_tyL (SqL.of (hs1.get (List.mem_cons_of_mem _ List.mem_cons_self))) ?_
    walk_at "sx"
    try refine x_lenL (SqL.of (hs1.get (List.mem_cons_of_mem _ List.mem_cons_self))) ?_
    walk_at "sx"
    refine use_take hs1 hv1 (by rw [List.length_map]; omega) (by rw [List.length_map]; omega) (fun B2 H2 a2 b2 m sb2 hs2 hv2 hm => ?_)
    rw [List.length_map] at hm
    have hm' : m < rest.length := by omega
    walk_at "sx"
    refine x_popAt (y := .str rest[m]) hs2.swap (by omega) (by omega) (seqIndex_nat (by rw [List.length_map]; exact hm')) (by rw [List.getElem?_map, List.getElem?_eq_getElem hm']; rfl) (fun H3 hs3 => ?_)
    rw [eraseIdx_mapS] at hs3
    walk_at "sx"
    refine x_append hs3.rot3 (by rw [List.length_map]; omega) (fun H4 hs4 => ?_)
    have hs5 := hs4.unrot3.swap
    refine ⟨((a2, b2), (rest.eraseIdx m, done ++ [rest[m]]), some _), B2, rfl, sb1.trans sb2, by simpa using hs5, hv2, by simp [hl1], ?_⟩
    have e1 : (done ++ [rest[m]] ++ rest.eraseIdx m) = done ++ (rest[m] :: rest.eraseIdx m) := by simp
    dsimp only
    rw [e1]
    exact ((List.Perm.refl done).append (perm_erase hm')).trans hp1
  · obtain ⟨⟨a1, b1⟩, ⟨rest, done⟩, s3⟩ := s
    obtain ⟨hv1, hl1, hp1⟩ := pp
    dsimp only at hs1 hv1 hl1 hp1 ⊢
    have hlen := hp1.length_eq
    rw [List.length_append] at hlen
    have hr : rest = [] := List.length_eq_zero_iff.mp (by omega)
    rw [hr, List.append_nil] at hp1
    walk_at "sx"
    exact k B1 H1 a1 b1 ro done (hs1.swap.drop) hv1 hp1
theorem use_mixed {K : PySem.W.Frag} {S : List Addr} {B0 H0 B H : Hp} {M : List (Addr × HO)} {Q : VK} {E : XK} {p t : Addr} {a b : Int} {xs : List Str} (hs : HS S B0 H0 B H ((p, stO a b) :: M)) (v : VSt a b) (ht : B t = some (.lst (xs.map V.str))) (hl : xs.length ≤ 100)
    (k : ∀ B' H' a' b' l (ys : List Str), Same B B' → HS S B0 H0 B' H' ((p, stO a' b') :: (l, .lst (ys.map V.str)) :: M) → VSt a' b' → ys.Perm xs → Q (.ref l) H') : sp__law_mixed K [.ref p, .ref t] H Q E :=
  ⟨p, t, a, b, xs, B, rfl, hs.bh, (hs.mu _ List.mem_cons_self).1, hs.get List.mem_cons_self, v, ht, hl, fun B' H' a' b' l ys c v' h1 => k B' H' a' b' l ys c.bb (hs.call1N c) v' h1⟩
/-- the same, and the row stands still from now on -/
theorem HS.stillN {p q : Addr} {o u : HO} {M : List (Addr × HO)} {S : List Addr} {B0 H0 B H : Hp} (h : HS S B0 H0 B H ((p, o) :: (q, u) :: M)) (hq : q ∉ S) : ∃ B', HS S B0 H0 B' H ((p, o) :: M) ∧ Same B B' ∧ B' q = some u := by
  obtain ⟨h1, h2⟩ := h.swap.still hq
  exact ⟨_, h1, h2, upd_same⟩
theorem use_mixedF {K : PySem.W.Frag} {B0 H0 B H : Hp} {M : List (Addr × HO)} {Q : VK} {E : XK} {p t : Addr} {a b : Int} {xs : List Str} (hs : HS [p] B0 H0 B H ((p, stO a b) :: M)) (v : VSt a b) (ht : B t = some (.lst (xs.map V.str))) (hl : xs.length ≤ 100)
    (k : ∀ B' H' a' b' l (ys : List Str), Same B B' → HS [p] B0 H0 B' H' ((p, stO a' b') :: M) → B' l = some (.lst (ys.map V.str)) → VSt a' b' → ys.Perm xs → Q (.ref l) H') : sp__law_mixed K [.ref p, .ref t] H Q E :=
  use_mixed hs v ht hl fun B' H' a' b' l ys sb h v' pe => by
    obtain ⟨B'', h1, h2, h3⟩ := h.stillN (by simpa using Ne.symm h.ne01)
    exact k B'' H' a' b' l ys (sb.trans h2) h1 h3 v' pe
abbrev N__law_others : List Str := ["_law_names_here", "_law_a", "_law_b"]
def t__law_others (K : PySem.W.Frag) (E : XK) : TS := (tRet (tLc (iList K (tVar 0)) (gName 2) (tTest (tOp rNe (tVar 2) (tVar 1))) (tVar 2) [2]))
def sp__law_others (K : PySem.W.Frag) : Sp := fun vs H Q E => ∃ (t : Addr) (x : Str) (xs : List Str) (B : Hp), vs = [.ref t, .str x] ∧ Same B H ∧ B t = some (.lst (xs.map V.str)) ∧ xs.length ≤ 1000 ∧
  ∀ B' H' l, HS [] B H B' H' [(l, .lst ((xs.filter fun y => !decide (y = x)).map V.str))] → Q (.ref l) H'
theorem pure__law_others {K : PySem.W.Frag} {vs : List V} {H : Hp} {Q : VK} {E : XK} (h : sp__law_others K vs H Q E) : t__law_others K E { nx := fun _ H' => Q .non H', rt := Q } (start N__law_others vs) H := by
  obtain ⟨t, x, xs, B, rfl, sB, ht, hl, k⟩ := h
  have hs := HS.start sB
  show t__law_others K E _ [some (.ref t), some (.str x), none] H
  unfold t__law_others
  walk_at "sx"
  refine ⟨t, rfl, ⟨_, by walk_at "sl"⟩, fun D hD => ?_⟩
  refine c_list (α := Unit) (Mf := fun _ => []) (P := fun i _ acc _ => acc = ((xs.take i).filter fun y => !decide (y = x)).map V.str) (s0 := ()) hs hD ht rfl (fun i y _ acc B1 H1 hi hacc sb1 hs1 pp => ?_) (fun _ acc B1 H1 sb1 hs1 hacc pp => ?_)
  · obtain ⟨y, hy, rfl⟩ := strs_get hi
    have hil : i < xs.length := (List.getElem?_eq_some_iff.mp hy).1
    walk_at "sx"
    refine ⟨rfl, ?_⟩
    walk_at "sx"
    have e : decide (V.str y = V.str x) = decide (y = x) := by simp
    rw [e]
    refine x_ite (fun h => ?_) (fun h => ?_)
    · walk_at "sx"
      refine c_keep (s := ()) sb1 hs1 hacc (by omega) ?_
      rw [filter_take _ hy, if_pos h, pp]
      simp
    · refine c_left (s := ()) sb1 hs1 hacc ?_
      rw [filter_take _ hy, if_neg (by rw [h]; decide), pp]
  · rw [List.length_map, List.take_length] at pp
    subst pp
    exact k B1 H1 D hs1
theorem use_others {K : PySem.W.Frag} {S : List Addr} {B0 H0 B H : Hp} {M : List (Addr × HO)} {Q : VK} {E : XK} {t : Addr} {x : Str} {xs : List Str} (hs : HS S B0 H0 B H M) (ht : B t = some (.lst (xs.map V.str))) (hl : xs.length ≤ 1000)
    (k : ∀ B' H' l, Same B B' → HS S B0 H0 B' H' ((l, .lst ((xs.filter fun y => !decide (y = x)).map V.str)) :: M) → Q (.ref l) H') : sp__law_others K [.ref t, .str x] H Q E := ⟨t, x, xs, B, rfl, hs.bh, ht, hl, fun B' H' l c => k B' H' l c.bb (hs.callN c)⟩
end Q

set_option Elab.async false
set_option linter.all false
set_option maxRecDepth 100000
set_option maxHeartbeats 4000000
namespace Q
open PySem PySem.Spec PyProof.Rows L2
local macro_rules | `(tactic| walk_at "bf") => `(tactic| first | assumption | (refine' bstep (by assumption) ?r; case r => walk_at "bf") | fail)
local macro_rules | `(tactic| walk_at "rp") => `(tactic| first | assumption | exact Rep.int _ | exact Rep.bl _ | exact Rep.non | (refine' Rep.mono (by assumption) ?r; case r => walk_at "rp") | fail)
local macro_rules | `(tactic| walk_at "hf") => `(tactic| first | assumption | exact HS.up (by assumption) (by walk_at "bf") | exact HS.get (by assumption) List.mem_cons_self | exact HS.get (by assumption) (List.mem_cons_of_mem _ List.mem_cons_self) | exact HS.get (by assumption) (List.mem_cons_of_mem _ (List.mem_cons_of_mem _ List.mem_cons_self)) | exact HS.get (by assumption) (List.mem_cons_of_mem _ (List.mem_cons_of_mem _ (List.mem_cons_of_mem _ List.mem_cons_self))) | fail)
local macro_rules | `(tactic| walk_at "sl") => `(tactic| first | assumption | exact SqL.of (by walk_at "hf") | fail)
local macro_rules | `(tactic| walk_at "st") => `(tactic| first | assumption | exact SqT.of (by walk_at "hf") | fail)
local macro_rules | `(tactic| walk_at "sz") => `(tactic| first | assumption | (refine small_le ?_; first | assumption | omega | (simp; done) | (simp; omega)) | fail)
local macro_rules | `(tactic| walk_at "s1") => `(tactic| first
  | (with_reducible refine x_seq ?_)
  | (with_reducible refine x_asg ?_)
  | ((with_reducible refine x_gname ?_); try simp only [List.set_cons_zero, List.set_cons_succ])
  | ((with_reducible refine' x_var ?h ?_); case h => rfl)
  | (with_reducible refine x_c ?_)
  | (with_reducible refine x_op ?_)
  | (with_reducible refine x_ret ?_)
  | (with_reducible refine x_if ?_)
  | (with_reducible refine x_and ?_)
  | (with_reducible refine x_or ?_)
  | (with_reducible refine x_not ?_)
  | (with_reducible refine x_test ?_)
  | (with_reducible refine x_tB ?_)
  | (with_reducible refine x_tr ?_)
  | (with_reducible refine x_cb ?_)
  | (with_reducible refine x_cons ?_)
  | (with_reducible refine x_nil ?_)
  | (with_reducible refine x_exb ?_)
  | (with_reducible refine x_tt _ _ ?_)
  | (with_reducible refine x_ff _ _ ?_)
  | (with_reducible refine x_dget ?_)
  | (with_reducible refine x_din ?_)
  | (with_reducible refine x_dnin ?_)
  | (with_reducible refine x_dputU ?_)
  | (with_reducible refine x_dnew ?_)
  | (with_reducible refine x_bm ?_)
  | (with_reducible refine x_bm0 ?_)
  | (with_reducible refine x_gsub ?_)
  | (with_reducible refine x_fldU ?_)
  | (with_reducible refine x_sfldU ?_)
  | (with_reducible refine x_gcons ?_)
  | (with_reducible refine x_gnil ?_)
  | (with_reducible refine x_rz1 ?_)
  | (with_reducible refine x_rz2 ?_)
  | (with_reducible refine x_tryAs ?_)
  | (with_reducible refine x_tryOnly ?_)
  | (with_reducible refine x_mtU ?_)
  | (with_reducible refine x_mk ?_)
  | (with_reducible refine x_yes ?_)
  | (with_reducible refine x_un ?_)
  | (with_reducible refine x_neg ?_)
  | (with_reducible refine x_iEnum ?_)
  | (with_reducible refine x_iEnumT ?_)
  | (with_reducible refine x_lst ?_)
  | (with_reducible refine x_tup ?_)
  | (with_reducible refine x_dc ?_)
  | ((with_reducible refine' x_dinO ?h ?_); case h => walk_at "hf")
  | ((with_reducible refine' x_newL ?h ?_); case h => first | exact Nat.zero_le _ | (simp; done) | (simp; omega))
  | ((with_reducible refine' x_newT ?h ?_); case h => first | exact Nat.zero_le _ | (simp; done) | (simp; omega))
  | ((with_reducible refine' x_listL ?h ?_); case h => walk_at "sl")
  | ((with_reducible refine' x_listT ?h ?_); case h => walk_at "st")
  | ((with_reducible refine' x_mulI ?h ?_); case h => first | exact .inl ⟨by decide, by decide⟩ | exact .inr ⟨by decide, by decide⟩ | exact .inl ⟨by omega, by omega⟩ | exact .inr ⟨by omega, by omega⟩)
  | ((with_reducible refine' x_divI ?h ?_); case h => first | exact ⟨by decide, by decide⟩ | exact ⟨by omega, by omega⟩)
  | ((with_reducible refine' x_powI ?h ?_); case h => exact ⟨by decide, by decide, by decide⟩)
  | ((with_reducible refine' x_ixL ?h ?h2 ?_); (case h => walk_at "sl"); (case h2 => first | rfl | assumption))
  | ((with_reducible refine' x_ixT ?h ?h2 ?_); (case h => walk_at "st"); (case h2 => first | rfl | assumption))
  | (with_reducible refine x_m1s ?_)
  | (with_reducible refine x_str1 ?_)
  | (with_reducible refine x_sl ?_)
  | (with_reducible refine x_noPart ?_)
  | (with_reducible refine x_part ?_)
  | (with_reducible refine x_exi ?_)
  | ((with_reducible refine' x_slS ?h ?_); case h => walk_at "sz")
  | ((with_reducible refine' x_slL ?h ?_); case h => walk_at "sl")
  | (with_reducible refine x_pairsC ?_)
  | (with_reducible refine x_pairsN ?_)
  | ((with_reducible refine' x_dgS ?h ?h2 ?_); (case h => walk_at "hf"); (case h2 => assumption))
  | ((with_reducible refine' x_srtT ?h ?h2 ?_); (case h => walk_at "st"); (case h2 => omega))
  | ((with_reducible refine' x_srtL ?h ?h2 ?_); (case h => walk_at "sl"); (case h2 => omega))
  | ((with_reducible refine' x_inLS ?h ?_); case h => walk_at "sl")
  | ((with_reducible refine' x_inTS ?h ?_); case h => walk_at "st")
  | ((with_reducible refine' x_ninLS ?h ?_); case h => walk_at "sl")
  | ((with_reducible refine' x_ninTS ?h ?_); case h => walk_at "st")
  | ((with_reducible refine' x_tyL ?h ?_); case h => walk_at "sl")
  | ((with_reducible refine' x_gtup ?h ?h2 ?_); (case h => walk_at "st"); (case h2 => rfl))
  | (with_reducible refine x_next ?_)
  | (with_reducible refine x_for ?_)
  | (with_reducible refine x_iList ?_)
  | (with_reducible refine x_iTup ?_)
  | (with_reducible refine x_iStr ?_)
  | (with_reducible refine x_iRng1 ?_)
  | (with_reducible refine x_iRng2 ?_)
  | (with_reducible refine x_lc ?_)
  | (with_reducible refine x_drop ?_)
  | (with_reducible refine x_retN ?_)
  | (with_reducible refine x_cont ?_)
  | (with_reducible refine x_break ?_)
  | (with_reducible refine x_cl ?_)
  | (with_reducible refine x_isN ?_)
  | (with_reducible refine x_notN ?_)
  | (with_reducible refine x_andV ?_)
  | (with_reducible refine x_orV ?_)
  | (with_reducible refine x_notV ?_)
  | (with_reducible refine x_ifE ?_)
  | (with_reducible refine x_addI ?_)
  | (with_reducible refine x_subI ?_)
  | (with_reducible refine x_ltI ?_)
  | (with_reducible refine x_leI ?_)
  | (with_reducible refine x_gtI ?_)
  | (with_reducible refine x_geI ?_)
  | (with_reducible refine x_ltS ?_)
  | (with_reducible refine x_abs ?_)
  | (with_reducible refine x_min2 ?_)
  | (with_reducible refine x_max2 ?_)
  | (with_reducible refine x_int1 ?_)
  | (with_reducible refine x_notInS ?_)
  | ((with_reducible refine' x_eq ?h ?_); case h => rfl)
  | ((with_reducible refine' x_ne ?h ?_); case h => rfl)
  | ((with_reducible refine' x_modI ?h ?_); case h => first | decide | omega)
  | ((with_reducible refine' x_isiD ?h1 ?h2 ?h3 ?_); (case h1 => assumption); (case h2 => walk_at "rp"); (case h3 => decide))
  | ((with_reducible refine' x_lenS ?h ?_); case h => walk_at "sz")
  | ((with_reducible refine' x_lenL ?h ?_); case h => walk_at "sl")
  | ((with_reducible refine' x_lenT ?h ?_); case h => walk_at "st")
  | ((with_reducible refine' x_lenD ?h ?_); case h => walk_at "hf")
  | fail)
local macro_rules | `(tactic| walk_at "sx") => `(tactic| repeat walk_at "s1")
/-! ### wishes that are drawn -/
def RowOk (names : List Str) (p : Str) (row : List Str) : Prop := row.Nodup ∧ p ∉ row ∧ ∀ q ∈ row, q ∈ names
theorem RowOk.perm {names row row' : List Str} {p : Str} (h : RowOk names p row) (e : row'.Perm row) : RowOk names p row' := ⟨e.nodup_iff.mpr h.1, fun m => h.2.1 (e.mem_iff.mp m), fun q m => h.2.2 q (e.mem_iff.mp m)⟩
theorem RowOk.take {names row : List Str} {p : Str} (h : RowOk names p row) (n : Nat) : RowOk names p (row.take n) := ⟨h.1.sublist (List.take_sublist n row), fun m => h.2.1 (List.mem_of_mem_take m), fun q m => h.2.2 q (List.mem_of_mem_take m)⟩
theorem RowOk.len {names row : List Str} {p : Str} (h : RowOk names p row) : row.length ≤ names.length := nodup_len h.1 h.2.2
theorem rowOk_rot {names ord : List Str} {i : Nat} {x : Str} (pe : ord.Perm names) (nd : ord.Nodup) (e : ord[i]? = some x) : RowOk names x (ord.drop (i + 1) ++ ord.take i) := by
  have hi : i < ord.length := (List.getElem?_eq_some_iff.mp e).1
  have e1 : ord = ord.take i ++ (x :: ord.drop (i + 1)) := by
    have h1 := (List.take_append_drop i ord).symm
    rw [List.drop_eq_getElem_cons hi, (List.getElem?_eq_some_iff.mp e).2] at h1
    exact h1
  have nd1 : (ord.take i ++ (x :: ord.drop (i + 1))).Nodup := by rw [← e1]; exact nd
  rw [List.nodup_append] at nd1
  obtain ⟨n1, n2, n3⟩ := nd1
  rw [List.nodup_cons] at n2
  refine ⟨?_, fun m => ?_, fun q m => ?_⟩
  · rw [List.nodup_append]
    exact ⟨n2.2, n1, fun a ha b hb z => n3 b hb a (List.mem_cons_of_mem _ ha) z.symm⟩
  · rcases List.mem_append.mp m with z | z
    · exact n2.1 z
    · exact n3 x z x List.mem_cons_self rfl
  · refine pe.mem_iff.mp ?_
    rcases List.mem_append.mp m with z | z
    · exact List.mem_of_mem_drop z
    · exact List.mem_of_mem_take z
theorem rowOk_filter {names ord : List Str} {x : Str} (pe : ord.Perm names) (nd : ord.Nodup) : RowOk names x (ord.filter fun y => !decide (y = x)) :=
  ⟨nd.filter _, fun m => by simpa using (List.mem_filter.mp m).2, fun q m => pe.mem_iff.mp (List.mem_filter.mp m).1⟩
def WRows (B : Hp) (names done : List Str) (kvs : List (Key × V)) : Prop := ∃ al : List Addr, al.length = done.length ∧ kvs = zipK done al ∧ ∀ (j : Nat) p a, done[j]? = some p → al[j]? = some a → ∃ row : List Str, B a = some (.lst (row.map V.str)) ∧ RowOk names p row
theorem WRows.nil {B : Hp} {names : List Str} : WRows B names [] [] := ⟨[], rfl, rfl, by simp⟩
theorem WRows.mono {B B' : Hp} {names done : List Str} {kvs : List (Key × V)} (s : Same B B') (h : WRows B names done kvs) : WRows B' names done kvs := by
  obtain ⟨al, h1, h2, h3⟩ := h
  refine ⟨al, h1, h2, fun j p a e1 e2 => ?_⟩
  obtain ⟨row, q1, q2⟩ := h3 j p a e1 e2
  exact ⟨row, s _ _ q1, q2⟩
theorem WRows.len {B : Hp} {names done : List Str} {kvs : List (Key × V)} (h : WRows B names done kvs) : kvs.length = done.length := by
  obtain ⟨al, h1, h2, h3⟩ := h
  rw [h2]
  unfold zipK
  rw [List.length_map, List.length_zip, h1, Nat.min_self]
theorem WRows.keys {B : Hp} {names done : List Str} {kvs : List (Key × V)} (h : WRows B names done kvs) : kvs.map (·.1) = done.map Sum.inr := by
  obtain ⟨al, h1, h2, h3⟩ := h
  rw [h2]
  exact zipK_keys h1
theorem WRows.snoc {B : Hp} {names done : List Str} {kvs : List (Key × V)} {x : Str} {a : Addr} {row : List Str} (h : WRows B names done kvs) (hx : x ∉ done) (e : B a = some (.lst (row.map V.str))) (ok : RowOk names x row) : WRows B names (done ++ [x]) (putK kvs (.inr x) (.ref a)) := by
  have hk := h.keys
  obtain ⟨al, h1, h2, h3⟩ := h
  refine ⟨al ++ [a], by simp [h1], ?_, fun j p b e1 e2 => ?_⟩
  · rw [putK_new (valV_none_keys ?_), h2, zipK_snoc h1]
    rw [hk]
    intro z
    obtain ⟨y, hy, q⟩ := List.mem_map.mp z
    have := Sum.inr.inj q
    subst this
    exact hx hy
  · by_cases hj : j < done.length
    · rw [List.getElem?_append_left hj] at e1
      rw [List.getElem?_append_left (by omega)] at e2
      exact h3 j p b e1 e2
    · rw [List.getElem?_append_right (by omega)] at e1 e2
      have hj0 : j - done.length = 0 := by
        by_cases z : j - done.length = 0
        · exact z
        · rw [List.getElem?_eq_none (by simp; omega)] at e1; cases e1
      rw [h1] at e2
      rw [hj0] at e1 e2
      cases e1
      cases e2
      exact ⟨row, e, ok⟩
theorem zipK_over {x : Str} {a : Addr} : ∀ {xs : List Str} {al : List Addr} {j : Nat}, al.length = xs.length → xs.Nodup → xs[j]? = some x → (zipK xs al).map (fun q => if q.1 = (Sum.inr x : Key) then (q.1, V.ref a) else q) = zipK xs (al.set j a)
  | [], _, _, _, _, e => by simp at e
  | y :: r, [], _, h, _, _ => by simp at h
  | y :: r, b :: al, 0, h, nd, e => by
    have e : y = x := by simpa using e
    subst e
    rw [List.nodup_cons] at nd
    show (if (Sum.inr y : Key) = Sum.inr y then ((Sum.inr y : Key), V.ref a) else ((Sum.inr y : Key), V.ref b)) :: (zipK r al).map _ = _
    rw [if_pos rfl]
    show _ = (Sum.inr y, V.ref a) :: zipK r al
    congr 1
    have : ∀ q ∈ zipK r al, (if q.1 = (Sum.inr y : Key) then (q.1, V.ref a) else q) = q := fun q m => by
      unfold zipK at m
      obtain ⟨z, hz, rfl⟩ := List.mem_map.mp m
      have : z.1 ∈ r := (List.of_mem_zip hz).1
      rw [if_neg (fun e => nd.1 (by rw [← Sum.inr.inj e]; exact this))]
    rw [List.map_congr_left this]
    simp
  | y :: r, b :: al, j + 1, h, nd, e => by
    rw [List.nodup_cons] at nd
    have e : r[j]? = some x := by simpa using e
    have hxy : ¬ (Sum.inr y : Key) = Sum.inr x := fun z => nd.1 (by rw [Sum.inr.inj z]; exact List.mem_of_getElem? e)
    show (if (Sum.inr y : Key) = Sum.inr x then ((Sum.inr y : Key), V.ref a) else ((Sum.inr y : Key), V.ref b)) :: (zipK r al).map _ = (Sum.inr y, V.ref b) :: zipK r (al.set j a)
    rw [if_neg hxy, zipK_over (by simpa using h) nd.2 e]
theorem WRows.over {B : Hp} {names done : List Str} {kvs : List (Key × V)} {x : Str} {a : Addr} {row : List Str} (h : WRows B names done kvs) (nd : done.Nodup) (hx : x ∈ done) (e : B a = some (.lst (row.map V.str))) (ok : RowOk names x row) : WRows B names done (putK kvs (.inr x) (.ref a)) := by
  obtain ⟨al, h1, h2, h3⟩ := h
  obtain ⟨j, hj, ej⟩ := List.getElem_of_mem hx
  have ej : done[j]? = some x := by rw [List.getElem?_eq_getElem hj, ej]
  obtain ⟨_, _, _, _, hv⟩ := zipK_val h1 nd hx
  refine ⟨al.set j a, by simp [h1], ?_, fun i p b e1 e2 => ?_⟩
  · rw [h2]
    unfold putK
    rw [valV_any, hv]
    exact zipK_over (a := a) h1 nd ej
  · by_cases hij : j = i
    · subst hij
      rw [ej] at e1
      cases e1
      rw [List.getElem?_set_self (by omega)] at e2
      cases e2
      exact ⟨row, e, ok⟩
    · rw [List.getElem?_set_ne hij] at e2
      exact h3 i p b e1 e2
abbrev N__law_plain_wishes : List Str := ["_law_state", "_law_names_here", "_law_mode", "_law_order", "_law_wishes_here", "_law_k", "_law_others_here", "_law_b"]
def t__law_plain_wishes (K : PySem.W.Frag) (E : XK) : TS := (tSeq (tAsg (tCl (sp__law_mixed K) (WE0 E) (tCons (tVar 0) (tCons (tVar 1) tNil))) (gName 3))
  (tSeq (tAsg tDNewK (gName 4))
  (tSeq (tFor (iRng1 (tCons (tCB (rLenA K) (tCons (tVar 3) tNil)) tNil)) (gName 5) (tSeq (tAsg (tOp rCat (tSl (rSlL K) (tVar 3) (tPart (tOp rAddI (tVar 5) (tC (.int 1)))) tNoPart) (tSl (rSlL K) (tVar 3) tNoPart (tPart (tVar 5)))) (gName 6))
  (tSeq (tIfS (tTest (tOp rEq (tVar 2) (tC (.int 1)))) (tAsg (tLc (iList K (tVar 3)) (gName 7) (tTest (tOp rNe (tVar 7) (tOp (rIxL K) (tVar 3) (tVar 5)))) (tVar 7) [7]) (gName 6)) tNext)
  (tSeq (tIfS (tTest (tOp rGtI (tVar 2) (tC (.int 1)))) (tAsg (tCl (sp__law_mixed K) (WE0 E) (tCons (tVar 0) (tCons (tVar 6) tNil))) (gName 6)) tNext)
  (tSeq (tIfS (tTest (tOp rEq (tVar 2) (tC (.int 3)))) (tAsg (tSl (rSlL K) (tVar 6) tNoPart (tPart (tCl (sp__law_take K) (WE0 E) (tCons (tVar 0) (tCons (tOp rAddI (tCB (rLenA K) (tCons (tVar 6) tNil)) (tC (.int 1))) tNil))))) (gName 6)) tNext)
  (tSeq (tIfS (tTest (tOp rEq (tVar 2) (tC (.int 4)))) (tAsg (tSl (rSlL K) (tVar 6) tNoPart (tPart (tCl (sp__law_take K) (WE0 E) (tCons (tVar 0) (tCons (tC (.int 4)) tNil))))) (gName 6)) tNext)
  (sDPut (tVar 4) (tOp (rIxL K) (tVar 3) (tVar 5)) (tVar 6))))))))
  (tRet (tVar 4)))))
def spW (p t : Addr) (H : Hp) (Q : VK) : Prop := ∃ (a b : Int) (xs : List Str) (B : Hp), Same B H ∧ B p = none ∧ H p = some (stO a b) ∧ VSt a b ∧ B t = some (.lst (xs.map V.str)) ∧ xs.length ≤ 25 ∧ xs.Nodup ∧
  ∀ B' H' a' b' w kvs done, HS [p] B H B' H' [(p, stO a' b'), (w, .dK kvs)] → VSt a' b' → done.Perm xs → WRows B' xs done kvs → Q (.ref w) H'
theorem use_W {B0 H0 B H : Hp} {M : List (Addr × HO)} {S : List Addr} {Q : VK} {p t : Addr} {a b : Int} {xs : List Str} (hs : HS S B0 H0 B H ((p, stO a b) :: M)) (v : VSt a b) (ht : B t = some (.lst (xs.map V.str))) (hl : xs.length ≤ 25) (nd : xs.Nodup)
    (k : ∀ B' H' a' b' w kvs done, Same B B' → HS S B0 H0 B' H' ((p, stO a' b') :: (w, .dK kvs) :: M) → VSt a' b' → done.Perm xs → WRows B' xs done kvs → Q (.ref w) H') : spW p t H Q :=
  ⟨a, b, xs, B, hs.bh, (hs.mu _ List.mem_cons_self).1, hs.get List.mem_cons_self, v, ht, hl, nd, fun B' H' a' b' w kvs done c v' h1 h2 => k B' H' a' b' w kvs done c.bb (hs.call1N c) v' h1 h2⟩
def sp__law_plain_wishes (K : PySem.W.Frag) : Sp := fun vs H Q E => ∃ (p t : Addr) (m : Int), vs = [.ref p, .ref t, .int m] ∧ spW p t H Q
theorem take_snoc {α : Type} {l : List α} {i : Nat} {x : α} (h : l[i]? = some x) : l.take (i + 1) = l.take i ++ [x] := by rw [List.take_succ, h]; rfl
theorem notin_take {l : List Str} {i : Nat} {x : Str} (nd : l.Nodup) (h : l[i]? = some x) : x ∉ l.take i := fun m => by
  obtain ⟨j, hj, e⟩ := List.mem_take_iff_getElem.mp m
  have h1 : l[j]? = some x := by rw [← e]; simp
  have := nodup_ix nd h1 h
  omega
theorem pure__law_plain_wishes {K : PySem.W.Frag} {vs : List V} {H : Hp} {Q : VK} {E : XK} (h : sp__law_plain_wishes K vs H Q E) : t__law_plain_wishes K E { nx := fun _ H' => Q .non H', rt := Q } (start N__law_plain_wishes vs) H := by
  obtain ⟨p, t, mo, rfl, a, b, xs, B, sB, bp, hp, hv, ht, hl, nd, k⟩ := h
  have hs := HS.startS sB bp hp
  show t__law_plain_wishes K E _ [some (.ref p), some (.ref t), some (.int mo), none, none, none, none, none] H
  unfold t__law_plain_wishes
  walk_at "sx"
  refine use_mixedF hs hv ht (by omega) (fun B1 H1 a1 b1 o ord sb1 hs1 eo hv1 pe => ?_)
  have ndo : ord.Nodup := pe.nodup_iff.mpr nd
  have hol : ord.length = xs.length := pe.length_eq
  walk_at "sx"
  refine new_M hs1 (fun w H2 hs2 _ => ?_)
  walk_at "sx"
  refine ⟨_, rfl, by rw [List.length_map]; omega, by rw [List.length_map]; omega, ?_⟩
  have en : (((ord.map V.str).length : Nat) : Int).toNat = ord.length := by rw [List.length_map]; omega
  rw [en]
  refine l_range (α := (Int × Int) × List (Key × V) × Option V × Option V) (σf := fun s => [some (.ref p), some (.ref t), some (.int mo), some (.ref o), some (.ref w), s.2.2.1, s.2.2.2, none]) (Mf := fun s => [(p, stO s.1.1 s.1.2), (w, .dK s.2.1)])
    (P := fun i s B1 => VSt s.1.1 s.1.2 ∧ WRows B1 xs (ord.take i) s.2.1) (s0 := ((a1, b1), [], none, none)) hs2.swap ⟨hv1, .nil⟩ (fun i s B3 H3 hi sb3 hs3 pp => ?_) (fun s B3 H3 sb3 hs3 pp => ?_)
  · obtain ⟨⟨a3, b3⟩, kvs, s3, s4⟩ := s
    obtain ⟨hv3, hw3⟩ := pp
    dsimp only at hs3 hv3 hw3 ⊢
    rw [Int.zero_add]
    have hx : ord[i]? = some ord[i] := List.getElem?_eq_getElem hi
    generalize hxe : ord[i] = x at hx
    have hat : atI (ord.map V.str) (i : Int) = some (.str x) := by
      rw [atI_nat (by rw [List.length_map]; exact hi)]
      simp [hxe]
    have eo3 := sb3 _ _ eo
    have rot := rowOk_rot pe ndo hx
    walk_at "sx"
    rw [cutV_fromS (i := i + 1) (by omega)]
    refine new_F hs3 (fun r1 B4 H4 hs4 sb4 e1 _ => ?_)
    walk_at "sx"
    try refine x_slL (SqL.of (hs4.up (sb4 _ _ eo3))) ?_
    rw [cutV_toS (i := i) rfl]
    refine new_F hs4 (fun r2 B5 H5 hs5 sb5 e2 _ => ?_)
    refine x_cat (hs5.up (sb5 _ _ e1)) (hs5.up e2) (by simp; omega) ?_
    rw [← List.map_append]
    refine new_F hs5 (fun r3 B6 H6 hs6 sb6 e3 _ => ?_)
    walk_at "s1"
    let I : L2.St → Hp → Prop := fun σ H' => ∃ a' b' B' r row, HS [p] B H B' H' [(p, stO a' b'), (w, .dK kvs)] ∧ VSt a' b' ∧ Same B3 B' ∧ B' r = some (.lst (row.map V.str)) ∧ RowOk xs x row ∧
      σ = [some (.ref p), some (.ref t), some (.int mo), some (.ref o), some (.ref w), some (.int (i : Nat)), some (.ref r), none]
    have base : I [some (.ref p), some (.ref t), some (.int mo), some (.ref o), some (.ref w), some (.int (i : Nat)), some (.ref r3), none] H6 := ⟨a3, b3, B6, r3, _, hs6, hv3, (sb4.trans sb5).trans sb6, e3, rot, rfl⟩
    refine x_join (I := I) ?_ (fun R hR => ?_)
    case refine_2 =>
      walk_at "sx"
      refine x_ite (fun h => ?_) (fun h => ?_)
      · walk_at "sx"
        refine ⟨o, rfl, ⟨_, SqL.of (hs6.up (sb6 _ _ (sb5 _ _ (sb4 _ _ eo3))))⟩, fun D hD => ?_⟩
        refine c_list (α := Unit) (Mf := fun _ => [(p, stO a3 b3), (w, .dK kvs)]) (P := fun i _ acc _ => acc = ((ord.take i).filter fun y => !decide (y = x)).map V.str) (s0 := ()) hs6 hD (sb6 _ _ (sb5 _ _ (sb4 _ _ eo3))) rfl (fun j y _ acc B7 H7 hj hacc sb7 hs7 pp => ?_) (fun _ acc B7 H7 sb7 hs7 hacc pp => ?_)
        · obtain ⟨y, hy, rfl⟩ := strs_get hj
          have hjl : j < ord.length := (List.getElem?_eq_some_iff.mp hy).1
          have eo7 := sb7 _ _ (sb6 _ _ (sb5 _ _ (sb4 _ _ eo3)))
          walk_at "sx"
          refine ⟨rfl, ?_⟩
          walk_at "sx"
          have e : decide (V.str y = V.str x) = decide (y = x) := by simp
          rw [e]
          refine x_ite (fun h => ?_) (fun h => ?_)
          · walk_at "sx"
            refine c_keep (s := ()) sb7 hs7 hacc (by omega) ?_
            rw [filter_take _ hy, if_pos h, pp]
            simp
          · refine c_left (s := ()) sb7 hs7 hacc ?_
            rw [filter_take _ hy, if_neg (by rw [h]; decide), pp]
        · rw [List.length_map, List.take_length] at pp
          subst pp
          obtain ⟨hs8, sb8⟩ := hs7.still (by simpa using hs7.ne01)
          exact hR _ _ ⟨a3, b3, _, D, _, hs8, hv3, ((((sb4.trans sb5).trans sb6).trans sb7).trans sb8), upd_same, rowOk_filter pe ndo, rfl⟩
      · walk_at "sx"
        exact hR _ _ base
    rintro σ H7 ⟨a7, b7, B7, r, row, hs7, hv7, sb7, er, ok7, rfl⟩
    refine x_join (I := I) ?_ (fun R hR => ?_)
    case refine_2 =>
      walk_at "sx"
      refine x_ite (fun h => ?_) (fun h => ?_)
      · walk_at "sx"
        refine use_mixedF hs7 hv7 er (by have := ok7.len; omega) (fun B8 H8 a8 b8 l ys sb8 hs8 el hv8 pe8 => ?_)
        exact hR _ _ ⟨a8, b8, B8, l, ys, hs8, hv8, sb7.trans sb8, el, ok7.perm pe8, rfl⟩
      · walk_at "sx"
        exact hR _ _ ⟨a7, b7, B7, r, row, hs7, hv7, sb7, er, ok7, rfl⟩
    clear er ok7 hs7 base
    clear sb7
    rintro σ H7 ⟨a7, b7, B7, r, row, hs7, hv7, sb7, er, ok7, rfl⟩
    refine x_join (I := I) ?_ (fun R hR => ?_)
    case refine_2 =>
      walk_at "sx"
      refine x_ite (fun h => ?_) (fun h => ?_)
      · walk_at "sx"
        refine use_take hs7 hv7 (by omega) (by have := ok7.len; rw [List.length_map]; omega) (fun B8 H8 a8 b8 m sb8 hs8 hv8 hm => ?_)
        walk_at "sx"
        try refine x_slL (SqL.of (hs8.up (sb8 _ _ er))) ?_
        rw [cutV_toS (i := m) rfl]
        refine new_F hs8 (fun r2 B9 H9 hs9 sb9 e2 _ => ?_)
        exact hR _ _ ⟨a8, b8, B9, r2, _, hs9, hv8, (sb7.trans sb8).trans sb9, e2, ok7.take m, rfl⟩
      · walk_at "sx"
        exact hR _ _ ⟨a7, b7, B7, r, row, hs7, hv7, sb7, er, ok7, rfl⟩
    clear er ok7 hs7
    clear sb7
    rintro σ H7 ⟨a7, b7, B7, r, row, hs7, hv7, sb7, er, ok7, rfl⟩
    refine x_join (I := I) ?_ (fun R hR => ?_)
    case refine_2 =>
      walk_at "sx"
      refine x_ite (fun h => ?_) (fun h => ?_)
      · walk_at "sx"
        refine use_take hs7 hv7 (by decide) (by decide) (fun B8 H8 a8 b8 m sb8 hs8 hv8 hm => ?_)
        walk_at "sx"
        try refine x_slL (SqL.of (hs8.up (sb8 _ _ er))) ?_
        rw [cutV_toS (i := m) rfl]
        refine new_F hs8 (fun r2 B9 H9 hs9 sb9 e2 _ => ?_)
        exact hR _ _ ⟨a8, b8, B9, r2, _, hs9, hv8, (sb7.trans sb8).trans sb9, e2, ok7.take m, rfl⟩
      · walk_at "sx"
        exact hR _ _ ⟨a7, b7, B7, r, row, hs7, hv7, sb7, er, ok7, rfl⟩
    clear er ok7 hs7
    clear sb7
    rintro σ H7 ⟨a7, b7, B7, r, row, hs7, hv7, sb7, er, ok7, rfl⟩
    have eo7 := sb7 _ _ eo3
    walk_at "sx"
    have hwl := hw3.len
    rw [List.length_take] at hwl
    refine x_dput hs7.swap (by omega) (fun H8 hs8 => ?_)
    refine ⟨((a7, b7), putK kvs (.inr x) (.ref r), some _, some _), B7, rfl, sb3.trans sb7, hs8.swap, hv7, ?_⟩
    dsimp only
    rw [take_snoc hx]
    exact (hw3.mono sb7).snoc (notin_take ndo hx) er ok7
  · obtain ⟨⟨a3, b3⟩, kvs, s3, s4⟩ := s
    obtain ⟨hv3, hw3⟩ := pp
    rw [List.take_length] at hw3
    walk_at "sx"
    exact k B3 H3 a3 b3 w kvs ord hs3 hv3 pe hw3
end Q

set_option Elab.async false
set_option linter.all false
set_option maxRecDepth 100000
set_option maxHeartbeats 4000000
namespace Q
open PySem PySem.Spec PyProof.Rows L2
local macro_rules | `(tactic| walk_at "bf") => `(tactic| first | assumption | (refine' bstep (by assumption) ?r; case r => walk_at "bf") | fail)
local macro_rules | `(tactic| walk_at "rp") => `(tactic| first | assumption | exact Rep.int _ | exact Rep.bl _ | exact Rep.non | (refine' Rep.mono (by assumption) ?r; case r => walk_at "rp") | fail)
local macro_rules | `(tactic| walk_at "hf") => `(tactic| first | assumption | exact HS.up (by assumption) (by walk_at "bf") | exact HS.get (by assumption) List.mem_cons_self | exact HS.get (by assumption) (List.mem_cons_of_mem _ List.mem_cons_self) | exact HS.get (by assumption) (List.mem_cons_of_mem _ (List.mem_cons_of_mem _ List.mem_cons_self)) | exact HS.get (by assumption) (List.mem_cons_of_mem _ (List.mem_cons_of_mem _ (List.mem_cons_of_mem _ List.mem_cons_self))) | fail)
local macro_rules | `(tactic| walk_at "sl") => `(tactic| first | assumption | exact SqL.of (by walk_at "hf") | fail)
local macro_rules | `(tactic| walk_at "st") => `(tactic| first | assumption | exact SqT.of (by walk_at "hf") | fail)
local macro_rules | `(tactic| walk_at "sz") => `(tactic| first | assumption | (refine small_le ?_; first | assumption | omega | (simp; done) | (simp; omega)) | fail)
local macro_rules | `(tactic| walk_at "s1") => `(tactic| first
  | (with_reducible refine x_seq ?_)
  | (with_reducible refine x_asg ?_)
  | ((with_reducible refine x_gname ?_); try simp only [List.set_cons_zero, List.set_cons_succ])
  | ((with_reducible refine' x_var ?h ?_); case h => rfl)
  | (with_reducible refine x_c ?_)
  | (with_reducible refine x_op ?_)
  | (with_reducible refine x_ret ?_)
  | (with_reducible refine x_if ?_)
  | (with_reducible refine x_and ?_)
  | (with_reducible refine x_or ?_)
  | (with_reducible refine x_not ?_)
  | (with_reducible refine x_test ?_)
  | (with_reducible refine x_tB ?_)
  | (with_reducible refine x_tr ?_)
  | (with_reducible refine x_cb ?_)
  | (with_reducible refine x_cons ?_)
  | (with_reducible refine x_nil ?_)
  | (with_reducible refine x_exb ?_)
  | (with_reducible refine x_tt _ _ ?_)
  | (with_reducible refine x_ff _ _ ?_)
  | (with_reducible refine x_dget ?_)
  | (with_reducible refine x_din ?_)
  | (with_reducible refine x_dnin ?_)
  | (with_reducible refine x_dputU ?_)
  | (with_reducible refine x_dnew ?_)
  | (with_reducible refine x_bm ?_)
  | (with_reducible refine x_bm0 ?_)
  | (with_reducible refine x_gsub ?_)
  | (with_reducible refine x_fldU ?_)
  | (with_reducible refine x_sfldU ?_)
  | (with_reducible refine x_gcons ?_)
  | (with_reducible refine x_gnil ?_)
  | (with_reducible refine x_rz1 ?_)
  | (with_reducible refine x_rz2 ?_)
  | (with_reducible refine x_tryAs ?_)
  | (with_reducible refine x_tryOnly ?_)
  | (with_reducible refine x_mtU ?_)
  | (with_reducible refine x_mk ?_)
  | (with_reducible refine x_yes ?_)
  | (with_reducible refine x_un ?_)
  | (with_reducible refine x_neg ?_)
  | (with_reducible refine x_iEnum ?_)
  | (with_reducible refine x_iEnumT ?_)
  | (with_reducible refine x_lst ?_)
  | (with_reducible refine x_tup ?_)
  | (with_reducible refine x_dc ?_)
  | ((with_reducible refine' x_dinO ?h ?_); case h => walk_at "hf")
  | ((with_reducible refine' x_newL ?h ?_); case h => first | exact Nat.zero_le _ | (simp; done) | (simp; omega))
  | ((with_reducible refine' x_newT ?h ?_); case h => first | exact Nat.zero_le _ | (simp; done) | (simp; omega))
  | ((with_reducible refine' x_listL ?h ?_); case h => walk_at "sl")
  | ((with_reducible refine' x_listT ?h ?_); case h => walk_at "st")
  | ((with_reducible refine' x_mulI ?h ?_); case h => first | exact .inl ⟨by decide, by decide⟩ | exact .inr ⟨by decide, by decide⟩ | exact .inl ⟨by omega, by omega⟩ | exact .inr ⟨by omega, by omega⟩)
  | ((with_reducible refine' x_divI ?h ?_); case h => first | exact ⟨by decide, by decide⟩ | exact ⟨by omega, by omega⟩)
  | ((with_reducible refine' x_powI ?h ?_); case h => exact ⟨by decide, by decide, by decide⟩)
  | ((with_reducible refine' x_ixL ?h ?h2 ?_); (case h => walk_at "sl"); (case h2 => first | rfl | assumption))
  | ((with_reducible refine' x_ixT ?h ?h2 ?_); (case h => walk_at "st"); (case h2 => first | rfl | assumption))
  | (with_reducible refine x_m1s ?_)
  | (with_reducible refine x_str1 ?_)
  | (with_reducible refine x_sl ?_)
  | (with_reducible refine x_noPart ?_)
  | (with_reducible refine x_part ?_)
  | (with_reducible refine x_exi ?_)
  | ((with_reducible refine' x_slS ?h ?_); case h => walk_at "sz")
  | ((with_reducible refine' x_slL ?h ?_); case h => walk_at "sl")
  | (with_reducible refine x_pairsC ?_)
  | (with_reducible refine x_pairsN ?_)
  | ((with_reducible refine' x_dgS ?h ?h2 ?_); (case h => walk_at "hf"); (case h2 => assumption))
  | ((with_reducible refine' x_srtT ?h ?h2 ?_); (case h => walk_at "st"); (case h2 => omega))
  | ((with_reducible refine' x_srtL ?h ?h2 ?_); (case h => walk_at "sl"); (case h2 => omega))
  | ((with_reducible refine' x_inLS ?h ?_); case h => walk_at "sl")
  | ((with_reducible refine' x_inTS ?h ?_); case h => walk_at "st")
  | ((with_reducible refine' x_ninLS ?h ?_); case h => walk_at "sl")
  | ((with_reducible refine' x_ninTS ?h ?_); case h => walk_at "st")
  | ((with_reducible refine' x_tyL ?h ?_); case h => walk_at "sl")
  | ((with_reducible refine' x_gtup ?h ?h2 ?_); (case h => walk_at "st"); (case h2 => rfl))
  | (with_reducible refine x_next ?_)
  | (with_reducible refine x_for ?_)
  | (with_reducible refine x_iList ?_)
  | (with_reducible refine x_iTup ?_)
  | (with_reducible refine x_iStr ?_)
  | (with_reducible refine x_iRng1 ?_)
  | (with_reducible refine x_iRng2 ?_)
  | (with_reducible refine x_lc ?_)
  | (with_reducible refine x_drop ?_)
  | (with_reducible refine x_retN ?_)
  | (with_reducible refine x_cont ?_)
  | (with_reducible refine x_break ?_)
  | (with_reducible refine x_cl ?_)
  | (with_reducible refine x_isN ?_)
  | (with_reducible refine x_notN ?_)
  | (with_reducible refine x_andV ?_)
  | (with_reducible refine x_orV ?_)
  | (with_reducible refine x_notV ?_)
  | (with_reducible refine x_ifE ?_)
  | (with_reducible refine x_addI ?_)
  | (with_reducible refine x_subI ?_)
  | (with_reducible refine x_ltI ?_)
  | (with_reducible refine x_leI ?_)
  | (with_reducible refine x_gtI ?_)
  | (with_reducible refine x_geI ?_)
  | (with_reducible refine x_ltS ?_)
  | (with_reducible refine x_abs ?_)
  | (with_reducible refine x_min2 ?_)
  | (with_reducible refine x_max2 ?_)
  | (with_reducible refine x_int1 ?_)
  | (with_reducible refine x_notInS ?_)
  | ((with_reducible refine' x_eq ?h ?_); case h => rfl)
  | ((with_reducible refine' x_ne ?h ?_); case h => rfl)
  | ((with_reducible refine' x_modI ?h ?_); case h => first | decide | omega)
  | ((with_reducible refine' x_isiD ?h1 ?h2 ?h3 ?_); (case h1 => assumption); (case h2 => walk_at "rp"); (case h3 => decide))
  | ((with_reducible refine' x_lenS ?h ?_); case h => walk_at "sz")
  | ((with_reducible refine' x_lenL ?h ?_); case h => walk_at "sl")
  | ((with_reducible refine' x_lenT ?h ?_); case h => walk_at "st")
  | ((with_reducible refine' x_lenD ?h ?_); case h => walk_at "hf")
  | fail)
local macro_rules | `(tactic| walk_at "sx") => `(tactic| repeat walk_at "s1")
/-! ### wishes of two sides, of blocks -/
abbrev N__law_side_wishes : List Str := ["_law_state", "_law_names_here", "_law_order", "_law_left", "_law_right", "_law_turned", "_law_wishes_here", "_law_k"]
def t__law_side_wishes (K : PySem.W.Frag) (E : XK) : TS := (tSeq (tAsg (tCl (sp__law_mixed K) (WE0 E) (tCons (tVar 0) (tCons (tVar 1) tNil))) (gName 2))
  (tSeq (tAsg (tSl (rSlL K) (tVar 2) tNoPart (tPart (tOp rDivI (tCB (rLenA K) (tCons (tVar 2) tNil)) (tC (.int 2))))) (gName 3))
  (tSeq (tAsg (tSl (rSlL K) (tVar 2) (tPart (tOp rDivI (tCB (rLenA K) (tCons (tVar 2) tNil)) (tC (.int 2)))) tNoPart) (gName 4))
  (tSeq (tAsg (tCl (sp__law_take K) (WE0 E) (tCons (tVar 0) (tCons (tC (.int 2)) tNil))) (gName 5))
  (tSeq (tAsg tDNewK (gName 6))
  (tSeq (tFor (iRng1 (tCons (tCB (rLenA K) (tCons (tVar 3) tNil)) tNil)) (gName 7) (tSeq (sDPut (tVar 6) (tOp (rIxL K) (tVar 3) (tVar 7)) (tOp rCat (tSl (rSlL K) (tVar 4) (tPart (tVar 7)) tNoPart) (tSl (rSlL K) (tVar 4) tNoPart (tPart (tVar 7)))))
  (tIfS (tTest (tOp rEq (tVar 5) (tC (.int 0)))) (sDPut (tVar 6) (tOp (rIxL K) (tVar 3) (tVar 7)) (tCl (sp__law_mixed K) (WE0 E) (tCons (tVar 0) (tCons (tVar 4) tNil)))) tNext)))
  (tSeq (tFor (iRng1 (tCons (tCB (rLenA K) (tCons (tVar 4) tNil)) tNil)) (gName 7) (tSeq (sDPut (tVar 6) (tOp (rIxL K) (tVar 4) (tVar 7)) (tOp rCat (tSl (rSlL K) (tVar 3) (tPart (tOp rAddI (tVar 7) (tC (.int 1)))) tNoPart) (tSl (rSlL K) (tVar 3) tNoPart (tPart (tOp rAddI (tVar 7) (tC (.int 1)))))))
  (tIfS (tTest (tOp rEq (tVar 5) (tC (.int 0)))) (sDPut (tVar 6) (tOp (rIxL K) (tVar 4) (tVar 7)) (tCl (sp__law_mixed K) (WE0 E) (tCons (tVar 0) (tCons (tVar 3) tNil)))) tNext)))
  (tRet (tVar 6)))))))))
def sp__law_side_wishes (K : PySem.W.Frag) : Sp := fun vs H Q E => ∃ (p t : Addr), vs = [.ref p, .ref t] ∧ spW p t H Q
theorem RowOk.of_perm {names side row : List Str} {x : Str} (nd : side.Nodup) (hx : x ∉ side) (hn : ∀ q ∈ side, q ∈ names) (pe : row.Perm side) : RowOk names x row :=
  ⟨pe.nodup_iff.mpr nd, fun m => hx (pe.mem_iff.mp m), fun q m => hn q (pe.mem_iff.mp m)⟩
theorem perm_rot {α : Type} (l : List α) (i : Nat) : (l.drop i ++ l.take i).Perm l := List.perm_append_comm.trans (by rw [List.take_append_drop])
theorem atI_str {xs : List Str} {i : Nat} {x : Str} (h : xs[i]? = some x) : atI (xs.map V.str) (i : Int) = some (.str x) := by
  have hi : i < xs.length := (List.getElem?_eq_some_iff.mp h).1
  rw [atI_nat (by rw [List.length_map]; exact hi)]
  simp [(List.getElem?_eq_some_iff.mp h).2]
theorem pure__law_side_wishes {K : PySem.W.Frag} {vs : List V} {H : Hp} {Q : VK} {E : XK} (h : sp__law_side_wishes K vs H Q E) : t__law_side_wishes K E { nx := fun _ H' => Q .non H', rt := Q } (start N__law_side_wishes vs) H := by
  obtain ⟨p, t, rfl, a, b, xs, B, sB, bp, hp, hv, ht, hl, nd, k⟩ := h
  have hs := HS.startS sB bp hp
  show t__law_side_wishes K E _ [some (.ref p), some (.ref t), none, none, none, none, none, none] H
  unfold t__law_side_wishes
  walk_at "sx"
  refine use_mixedF hs hv ht (by omega) (fun B1 H1 a1 b1 o ord sb1 hs1 eo hv1 pe => ?_)
  have ndo : ord.Nodup := pe.nodup_iff.mpr nd
  have hol : ord.length = xs.length := pe.length_eq
  walk_at "sx"
  try refine x_slL (SqL.of (hs1.up eo)) ?_
  rw [cutV_toS (i := ord.length / 2) (by rw [List.length_map]; omega)]
  refine new_F hs1 (fun lf B2 H2 hs2 sb2 el _ => ?_)
  have eo2 := sb2 _ _ eo
  walk_at "sx"
  try refine x_slL (SqL.of (hs2.up eo2)) ?_
  rw [cutV_fromS (i := ord.length / 2) (by rw [List.length_map]; omega)]
  refine new_F hs2 (fun rt B3 H3 hs3 sb3 er _ => ?_)
  have el3 := sb3 _ _ el
  have hsplit := List.take_append_drop (ord.length / 2) ord
  generalize hL : ord.take (ord.length / 2) = left at el3 hsplit
  generalize hR : ord.drop (ord.length / 2) = right at er hsplit
  have ndlr : (left ++ right).Nodup := by rw [hsplit]; exact ndo
  have hll : left.length ≤ 25 := by rw [← hL, List.length_take]; omega
  have hrl : right.length ≤ 25 := by rw [← hR, List.length_drop]; omega
  have inx : ∀ q ∈ left ++ right, q ∈ xs := fun q m => pe.mem_iff.mp (by rw [← hsplit]; exact m)
  rw [List.nodup_append] at ndlr
  obtain ⟨ndl, ndr, dis⟩ := ndlr
  walk_at "sx"
  refine use_take hs3 hv1 (by decide) (by decide) (fun B4 H4 a4 b4 tu sb4 hs4 hv4 _ => ?_)
  have el4 := sb4 _ _ el3
  have er4 := sb4 _ _ er
  walk_at "sx"
  refine new_M hs4 (fun w H5 hs5 _ => ?_)
  walk_at "sx"
  refine ⟨_, rfl, by rw [List.length_map]; omega, by rw [List.length_map]; omega, ?_⟩
  have en : (((left.map V.str).length : Nat) : Int).toNat = left.length := by rw [List.length_map]; omega
  rw [en]
  refine l_range (α := (Int × Int) × List (Key × V) × Option V) (σf := fun s => [some (.ref p), some (.ref t), some (.ref o), some (.ref lf), some (.ref rt), some (.int (tu : Nat)), some (.ref w), s.2.2]) (Mf := fun s => [(p, stO s.1.1 s.1.2), (w, .dK s.2.1)])
    (P := fun i s B1 => VSt s.1.1 s.1.2 ∧ WRows B1 xs (left.take i) s.2.1) (s0 := ((a4, b4), [], none)) hs5.swap ⟨hv4, .nil⟩ (fun i s B6 H6 hi sb6 hs6 pp => ?_) (fun s B6 H6 sb6 hs6 pp => ?_)
  · obtain ⟨⟨a6, b6⟩, kvs, s3⟩ := s
    obtain ⟨hv6, hw6⟩ := pp
    dsimp only at hs6 hv6 hw6 ⊢
    rw [Int.zero_add]
    have hx : left[i]? = some left[i] := List.getElem?_eq_getElem hi
    generalize left[i] = x at hx
    have hxm := List.mem_of_getElem? hx
    have hat := atI_str hx
    have hxr : x ∉ right := fun m => dis x hxm x m rfl
    have inr : ∀ q ∈ right, q ∈ xs := fun q m => inx q (List.mem_append_right _ m)
    have er6 := sb6 _ _ er4
    have el6 := sb6 _ _ el4
    have hwl := hw6.len
    rw [List.length_take] at hwl
    walk_at "sx"
    try refine x_slL (SqL.of (hs6.up er6)) ?_
    rw [cutV_fromS (i := i) rfl]
    refine new_F hs6 (fun r1 B7 H7 hs7 sb7 e1 _ => ?_)
    walk_at "sx"
    try refine x_slL (SqL.of (hs7.up (sb7 _ _ er6))) ?_
    rw [cutV_toS (i := i) rfl]
    refine new_F hs7 (fun r2 B8 H8 hs8 sb8 e2 _ => ?_)
    refine x_cat (hs8.up (sb8 _ _ e1)) (hs8.up e2) (by simp; omega) ?_
    rw [← List.map_append]
    refine new_F hs8 (fun r3 B9 H9 hs9 sb9 e3 _ => ?_)
    have s69 := (sb7.trans sb8).trans sb9
    have el9 := s69 _ _ el6
    walk_at "sx"
    refine x_dput hs9.swap (by omega) (fun H10 hs10 => ?_)
    have hw10 : WRows B9 xs (left.take (i + 1)) (putK kvs (.inr x) (.ref r3)) := by
      rw [take_snoc hx]
      exact (hw6.mono s69).snoc (notin_take ndl hx) e3 (RowOk.of_perm ndr hxr inr (perm_rot right i))
    walk_at "sx"
    refine x_ite (fun h => ?_) (fun h => ?_)
    · walk_at "sx"
      refine use_mixedF hs10.swap hv6 (s69 _ _ er6) (by omega) (fun B11 H11 a11 b11 l ys sb11 hs11 ely hv11 pe11 => ?_)
      have el11 := sb11 _ _ el9
      walk_at "sx"
      have hwl := hw10.len
      rw [List.length_take] at hwl
      refine x_dput hs11.swap (by omega) (fun H12 hs12 => ?_)
      exact ⟨((a11, b11), _, some _), B11, rfl, (sb6.trans s69).trans sb11, hs12.swap, hv11, (hw10.mono sb11).over (ndl.sublist (List.take_sublist _ _)) (by rw [take_snoc hx]; simp) ely (RowOk.of_perm ndr hxr inr pe11)⟩
    · walk_at "sx"
      exact ⟨((a6, b6), _, some _), B9, rfl, sb6.trans s69, hs10.swap, hv6, hw10⟩
  · obtain ⟨⟨a6, b6⟩, kvs0, s3⟩ := s
    obtain ⟨hv6, hw6⟩ := pp
    dsimp only at hs6 hv6 hw6 ⊢
    rw [List.take_length] at hw6
    have er6 := sb6 _ _ er4
    have el6 := sb6 _ _ el4
    walk_at "sx"
    refine ⟨_, rfl, by rw [List.length_map]; omega, by rw [List.length_map]; omega, ?_⟩
    have en : (((right.map V.str).length : Nat) : Int).toNat = right.length := by rw [List.length_map]; omega
    rw [en]
    refine l_range (α := (Int × Int) × List (Key × V) × Option V) (σf := fun s => [some (.ref p), some (.ref t), some (.ref o), some (.ref lf), some (.ref rt), some (.int (tu : Nat)), some (.ref w), s.2.2]) (Mf := fun s => [(p, stO s.1.1 s.1.2), (w, .dK s.2.1)])
      (P := fun i s B1 => VSt s.1.1 s.1.2 ∧ WRows B1 xs (left ++ right.take i) s.2.1) (s0 := ((a6, b6), kvs0, s3)) hs6 ⟨hv6, by simpa using hw6⟩ (fun i s B7 H7 hi sb7 hs7 pp => ?_) (fun s B7 H7 sb7 hs7 pp => ?_)
    · obtain ⟨⟨a7, b7⟩, kvs, s4⟩ := s
      obtain ⟨hv7, hw7⟩ := pp
      dsimp only at hs7 hv7 hw7 ⊢
      rw [Int.zero_add]
      have hx : right[i]? = some right[i] := List.getElem?_eq_getElem hi
      generalize right[i] = x at hx
      have hxm := List.mem_of_getElem? hx
      have hat := atI_str hx
      have hxr : x ∉ left := fun m => dis x m x hxm rfl
      have inl : ∀ q ∈ left, q ∈ xs := fun q m => inx q (List.mem_append_left _ m)
      have er7 := sb7 _ _ er6
      have el7 := sb7 _ _ el6
      have hwl := hw7.len
      rw [List.length_append, List.length_take] at hwl
      have snx : left ++ right.take (i + 1) = (left ++ right.take i) ++ [x] := by rw [take_snoc hx, List.append_assoc]
      have nox : x ∉ left ++ right.take i := fun m => by
        rcases List.mem_append.mp m with z | z
        · exact hxr z
        · exact notin_take ndr hx z
      walk_at "sx"
      try refine x_slL (SqL.of (hs7.up el7)) ?_
      rw [cutV_fromS (i := i + 1) (by omega)]
      refine new_F hs7 (fun r1 B8 H8 hs8 sb8 e1 _ => ?_)
      walk_at "sx"
      try refine x_slL (SqL.of (hs8.up (sb8 _ _ el7))) ?_
      rw [cutV_toS (i := i + 1) (by omega)]
      refine new_F hs8 (fun r2 B9 H9 hs9 sb9 e2 _ => ?_)
      refine x_cat (hs9.up (sb9 _ _ e1)) (hs9.up e2) (by simp; omega) ?_
      rw [← List.map_append]
      refine new_F hs9 (fun r3 B10 H10 hs10 sb10 e3 _ => ?_)
      have s710 := (sb8.trans sb9).trans sb10
      have er10 := s710 _ _ er7
      walk_at "sx"
      refine x_dput hs10.swap (by omega) (fun H11 hs11 => ?_)
      have hw11 : WRows B10 xs (left ++ right.take (i + 1)) (putK kvs (.inr x) (.ref r3)) := by
        rw [snx]
        exact (hw7.mono s710).snoc nox e3 (RowOk.of_perm ndl hxr inl (perm_rot left (i + 1)))
      walk_at "sx"
      refine x_ite (fun h => ?_) (fun h => ?_)
      · walk_at "sx"
        refine use_mixedF hs11.swap hv7 (s710 _ _ el7) (by omega) (fun B12 H12 a12 b12 l ys sb12 hs12 ely hv12 pe12 => ?_)
        have er12 := sb12 _ _ er10
        walk_at "sx"
        have hwl := hw11.len
        rw [List.length_append, List.length_take] at hwl
        refine x_dput hs12.swap (by omega) (fun H13 hs13 => ?_)
        refine ⟨((a12, b12), _, some _), B12, rfl, (sb7.trans s710).trans sb12, hs13.swap, hv12, (hw11.mono sb12).over ?_ (by rw [snx]; simp) ely (RowOk.of_perm ndl hxr inl pe12)⟩
        have : (left ++ right.take (i + 1)).Sublist (left ++ right) := (List.Sublist.refl left).append (List.take_sublist _ _)
        refine List.Nodup.sublist this ?_
        rw [hsplit]
        exact ndo
      · walk_at "sx"
        exact ⟨((a7, b7), _, some _), B10, rfl, sb7.trans s710, hs11.swap, hv7, hw11⟩
    · obtain ⟨⟨a7, b7⟩, kvs, s4⟩ := s
      obtain ⟨hv7, hw7⟩ := pp
      rw [List.take_length, hsplit] at hw7
      walk_at "sx"
      exact k B7 H7 a7 b7 w kvs ord hs7 hv7 pe hw7
end Q

set_option Elab.async false
set_option linter.all false
set_option maxRecDepth 100000
set_option maxHeartbeats 4000000
namespace Q
open PySem PySem.Spec PyProof.Rows L2
local macro_rules | `(tactic| walk_at "bf") => `(tactic| first | assumption | (refine' bstep (by assumption) ?r; case r => walk_at "bf") | fail)
local macro_rules | `(tactic| walk_at "rp") => `(tactic| first | assumption | exact Rep.int _ | exact Rep.bl _ | exact Rep.non | (refine' Rep.mono (by assumption) ?r; case r => walk_at "rp") | fail)
local macro_rules | `(tactic| walk_at "hf") => `(tactic| first | assumption | exact HS.up (by assumption) (by walk_at "bf") | exact HS.get (by assumption) List.mem_cons_self | exact HS.get (by assumption) (List.mem_cons_of_mem _ List.mem_cons_self) | exact HS.get (by assumption) (List.mem_cons_of_mem _ (List.mem_cons_of_mem _ List.mem_cons_self)) | exact HS.get (by assumption) (List.mem_cons_of_mem _ (List.mem_cons_of_mem _ (List.mem_cons_of_mem _ List.mem_cons_self))) | fail)
local macro_rules | `(tactic| walk_at "sl") => `(tactic| first | assumption | exact SqL.of (by walk_at "hf") | fail)
local macro_rules | `(tactic| walk_at "st") => `(tactic| first | assumption | exact SqT.of (by walk_at "hf") | fail)
local macro_rules | `(tactic| walk_at "sz") => `(tactic| first | assumption | (refine small_le ?_; first | assumption | omega | (simp; done) | (simp; omega)) | fail)
local macro_rules | `(tactic| walk_at "s1") => `(tactic| first
  | (with_reducible refine x_seq ?_)
  | (with_reducible refine x_asg ?_)
  | ((with_reducible refine x_gname ?_); try simp only [List.set_cons_zero, List.set_cons_succ])
  | ((with_reducible refine' x_var ?h ?_); case h => rfl)
  | (with_reducible refine x_c ?_)
  | (with_reducible refine x_op ?_)
  | (with_reducible refine x_ret ?_)
  | (with_reducible refine x_if ?_)
  | (with_reducible refine x_and ?_)
  | (with_reducible refine x_or ?_)
  | (with_reducible refine x_not ?_)
  | (with_reducible refine x_test ?_)
  | (with_reducible refine x_tB ?_)
  | (with_reducible refine x_tr ?_)
  | (with_reducible refine x_cb ?_)
  | (with_reducible refine x_cons ?_)
  | (with_reducible refine x_nil ?_)
  | (with_reducible refine x_exb ?_)
  | (with_reducible refine x_tt _ _ ?_)
  | (with_reducible refine x_ff _ _ ?_)
  | (with_reducible refine x_dget ?_)
  | (with_reducible refine x_din ?_)
  | (with_reducible refine x_dnin ?_)
  | (with_reducible refine x_dputU ?_)
  | (with_reducible refine x_dnew ?_)
  | (with_reducible refine x_bm ?_)
  | (with_reducible refine x_bm0 ?_)
  | (with_reducible refine x_gsub ?_)
  | (with_reducible refine x_fldU ?_)
  | (with_reducible refine x_sfldU ?_)
  | (with_reducible refine x_gcons ?_)
  | (with_reducible refine x_gnil ?_)
  | (with_reducible refine x_rz1 ?_)
  | (with_reducible refine x_rz2 ?_)
  | (with_reducible refine x_tryAs ?_)
  | (with_reducible refine x_tryOnly ?_)
  | (with_reducible refine x_mtU ?_)
  | (with_reducible refine x_mk ?_)
  | (with_reducible refine x_yes ?_)
  | (with_reducible refine x_un ?_)
  | (with_reducible refine x_neg ?_)
  | (with_reducible refine x_iEnum ?_)
  | (with_reducible refine x_iEnumT ?_)
  | (with_reducible refine x_lst ?_)
  | (with_reducible refine x_tup ?_)
  | (with_reducible refine x_dc ?_)
  | ((with_reducible refine' x_dinO ?h ?_); case h => walk_at "hf")
  | ((with_reducible refine' x_newL ?h ?_); case h => first | exact Nat.zero_le _ | (simp; done) | (simp; omega))
  | ((with_reducible refine' x_newT ?h ?_); case h => first | exact Nat.zero_le _ | (simp; done) | (simp; omega))
  | ((with_reducible refine' x_listL ?h ?_); case h => walk_at "sl")
  | ((with_reducible refine' x_listT ?h ?_); case h => walk_at "st")
  | ((with_reducible refine' x_mulI ?h ?_); case h => first | exact .inl ⟨by decide, by decide⟩ | exact .inr ⟨by decide, by decide⟩ | exact .inl ⟨by omega, by omega⟩ | exact .inr ⟨by omega, by omega⟩)
  | ((with_reducible refine' x_divI ?h ?_); case h => first | exact ⟨by decide, by decide⟩ | exact ⟨by omega, by omega⟩)
  | ((with_reducible refine' x_powI ?h ?_); case h => exact ⟨by decide, by decide, by decide⟩)
  | ((with_reducible refine' x_ixL ?h ?h2 ?_); (case h => walk_at "sl"); (case h2 => first | rfl | assumption))
  | ((with_reducible refine' x_ixT ?h ?h2 ?_); (case h => walk_at "st"); (case h2 => first | rfl | assumption))
  | (with_reducible refine x_m1s ?_)
  | (with_reducible refine x_str1 ?_)
  | (with_reducible refine x_sl ?_)
  | (with_reducible refine x_noPart ?_)
  | (with_reducible refine x_part ?_)
  | (with_reducible refine x_exi ?_)
  | ((with_reducible refine' x_slS ?h ?_); case h => walk_at "sz")
  | ((with_reducible refine' x_slL ?h ?_); case h => walk_at "sl")
  | (with_reducible refine x_pairsC ?_)
  | (with_reducible refine x_pairsN ?_)
  | ((with_reducible refine' x_dgS ?h ?h2 ?_); (case h => walk_at "hf"); (case h2 => assumption))
  | ((with_reducible refine' x_srtT ?h ?h2 ?_); (case h => walk_at "st"); (case h2 => omega))
  | ((with_reducible refine' x_srtL ?h ?h2 ?_); (case h => walk_at "sl"); (case h2 => omega))
  | ((with_reducible refine' x_inLS ?h ?_); case h => walk_at "sl")
  | ((with_reducible refine' x_inTS ?h ?_); case h => walk_at "st")
  | ((with_reducible refine' x_ninLS ?h ?_); case h => walk_at "sl")
  | ((with_reducible refine' x_ninTS ?h ?_); case h => walk_at "st")
  | ((with_reducible refine' x_tyL ?h ?_); case h => walk_at "sl")
  | ((with_reducible refine' x_gtup ?h ?h2 ?_); (case h => walk_at "st"); (case h2 => rfl))
  | (with_reducible refine x_next ?_)
  | (with_reducible refine x_for ?_)
  | (with_reducible refine x_iList ?_)
  | (with_reducible refine x_iTup ?_)
  | (with_reducible refine x_iStr ?_)
  | (with_reducible refine x_iRng1 ?_)
  | (with_reducible refine x_iRng2 ?_)
  | (with_reducible refine x_lc ?_)
  | (with_reducible refine x_drop ?_)
  | (with_reducible refine x_retN ?_)
  | (with_reducible refine x_cont ?_)
  | (with_reducible refine x_break ?_)
  | (with_reducible refine x_cl ?_)
  | (with_reducible refine x_isN ?_)
  | (with_reducible refine x_notN ?_)
  | (with_reducible refine x_andV ?_)
  | (with_reducible refine x_orV ?_)
  | (with_reducible refine x_notV ?_)
  | (with_reducible refine x_ifE ?_)
  | (with_reducible refine x_addI ?_)
  | (with_reducible refine x_subI ?_)
  | (with_reducible refine x_ltI ?_)
  | (with_reducible refine x_leI ?_)
  | (with_reducible refine x_gtI ?_)
  | (with_reducible refine x_geI ?_)
  | (with_reducible refine x_ltS ?_)
  | (with_reducible refine x_abs ?_)
  | (with_reducible refine x_min2 ?_)
  | (with_reducible refine x_max2 ?_)
  | (with_reducible refine x_int1 ?_)
  | (with_reducible refine x_notInS ?_)
  | ((with_reducible refine' x_eq ?h ?_); case h => rfl)
  | ((with_reducible refine' x_ne ?h ?_); case h => rfl)
  | ((with_reducible refine' x_modI ?h ?_); case h => first | decide | omega)
  | ((with_reducible refine' x_isiD ?h1 ?h2 ?h3 ?_); (case h1 => assumption); (case h2 => walk_at "rp"); (case h3 => decide))
  | ((with_reducible refine' x_lenS ?h ?_); case h => walk_at "sz")
  | ((with_reducible refine' x_lenL ?h ?_); case h => walk_at "sl")
  | ((with_reducible refine' x_lenT ?h ?_); case h => walk_at "st")
  | ((with_reducible refine' x_lenD ?h ?_); case h => walk_at "hf")
  | fail)
local macro_rules | `(tactic| walk_at "sx") => `(tactic| repeat walk_at "s1")
/-! ### wishes of blocks -/
abbrev N__law_block_wishes : List Str := ["_law_state", "_law_names_here", "_law_order", "_law_wishes_here", "_law_at", "_law_turn", "_law_size", "_law_block", "_law_k", "_law_ring", "_law_head", "_law_tail", "_law_b"]
def t__law_block_wishes (K : PySem.W.Frag) (E : XK) : TS := (tSeq (tAsg (tCl (sp__law_mixed K) (WE0 E) (tCons (tVar 0) (tCons (tVar 1) tNil))) (gName 2))
  (tSeq (tAsg tDNewK (gName 3))
  (tSeq (tAsg (tC (.int 0)) (gName 4))
  (tSeq (tFor (iRng1 (tCons (tCB (rLenA K) (tCons (tVar 2) tNil)) tNil)) (gName 5) (tSeq (tAsg (tOp rAddI (tC (.int 1)) (tCl (sp__law_take K) (WE0 E) (tCons (tVar 0) (tCons (tC (.int 7)) tNil)))) (gName 6))
  (tSeq (tAsg (tSl (rSlL K) (tVar 2) (tPart (tVar 4)) (tPart (tOp rAddI (tVar 4) (tVar 6)))) (gName 7))
  (tSeq (tAug 4 (tVar 6) (ipI fun i j => i + j))
  (tFor (iRng1 (tCons (tCB (rLenA K) (tCons (tVar 7) tNil)) tNil)) (gName 8) (tSeq (tAsg (tOp rCat (tSl (rSlL K) (tVar 7) (tPart (tOp rAddI (tVar 8) (tC (.int 1)))) tNoPart) (tSl (rSlL K) (tVar 7) tNoPart (tPart (tVar 8)))) (gName 9))
  (tSeq (tAsg (tSl (rSlL K) (tVar 9) tNoPart (tPart (tC (.int 1)))) (gName 10))
  (tSeq (tIfS (tTest (tOp rGtI (tCB (rLenA K) (tCons (tVar 9) tNil)) (tC (.int 1)))) (tAsg (tLst (tCons (tOp (rIxL K) (tVar 9) (tC (.int 0))) (tCons (tOp (rIxL K) (tVar 9) (tUn rNegI (tC (.int 1)))) tNil))) (gName 10)) tNext)
  (tSeq (tAsg (tCl (sp__law_mixed K) (WE0 E) (tCons (tVar 0) (tCons (tLc (iList K (tCl (sp__law_others K) (WE0 E) (tCons (tVar 1) (tCons (tOp (rIxL K) (tVar 7) (tVar 8)) tNil)))) (gName 12) (tTest (tOp (rIn K true) (tVar 12) (tVar 10))) (tVar 12) [12]) tNil))) (gName 11))
  (tSeq (tAsg (tSl (rSlL K) (tVar 11) tNoPart (tPart (tCl (sp__law_take K) (WE0 E) (tCons (tVar 0) (tCons (tOp rAddI (tCB (rLenA K) (tCons (tVar 11) tNil)) (tC (.int 1))) tNil))))) (gName 11))
  (tSeq (tIfS (tAnd (tTr K (tVar 11)) (tTest (tOp rEq (tCl (sp__law_take K) (WE0 E) (tCons (tVar 0) (tCons (tC (.int 5)) tNil))) (tC (.int 0))))) (tSeq (tAsg (tOp rCat (tSl (rSlL K) (tVar 11) tNoPart (tPart (tC (.int 1)))) (tVar 10)) (gName 10))
  (tAsg (tSl (rSlL K) (tVar 11) (tPart (tC (.int 1))) tNoPart) (gName 11))) tNext)
  (sDPut (tVar 3) (tOp (rIxL K) (tVar 7) (tVar 8)) (tOp rCat (tVar 10) (tVar 11))))))))))))))
  (tRet (tVar 3))))))
def sp__law_block_wishes (K : PySem.W.Frag) : Sp := fun vs H Q E => ∃ (p t : Addr), vs = [.ref p, .ref t] ∧ spW p t H Q
theorem x_augI {σ : L2.St} {H : Hp} {De : Ends} {te : TE} {i : Nat} {m : Int} {f : Int → Int → Int} (e : σ[i]? = some (some (.int m))) (h : te σ H fun y H1 => ipI f (.int m) y H1 fun z H2 => De.nx (σ.set i (some z)) H2) : tAug i te (ipI f) De σ H := ⟨_, e, h⟩
theorem x_ipI {H : Hp} {Q : VK} {m n : Int} {f : Int → Int → Int} (h : Q (.int (f m n)) H) : ipI f (.int m) (.int n) H Q := ⟨m, n, rfl, rfl, h⟩
theorem RowOk.weak {names names' row : List Str} {p : Str} (h : RowOk names p row) (w : ∀ q ∈ names, q ∈ names') : RowOk names' p row := ⟨h.1, h.2.1, fun q m => w q (h.2.2 q m)⟩
theorem atI_last {xs : List Str} (h : 0 < xs.length) : atI (xs.map V.str) (-1) = some (.str (xs[xs.length - 1]'(by omega))) := by
  unfold atI ixN
  rw [List.length_map, if_neg (by decide), if_pos (by omega)]
  have : (-1 + (xs.length : Int)).toNat = xs.length - 1 := by omega
  rw [this]
  simp
theorem rowOk_ends {names row : List Str} {p : Str} (h : RowOk names p row) (h1 : 1 < row.length) : RowOk names p [row[0], row[row.length - 1]] := by
  refine ⟨?_, fun m => ?_, fun q m => ?_⟩
  · rw [List.nodup_cons]
    refine ⟨fun m => ?_, by simp⟩
    have e : row[0] = row[row.length - 1] := by simpa using m
    have := (List.getElem_inj h.1).mp e
    omega
  · rcases List.mem_cons.mp m with z | z
    · exact h.2.1 (by rw [z]; exact List.getElem_mem _)
    · have z : p = row[row.length - 1] := by simpa using z
      exact h.2.1 (by rw [z]; exact List.getElem_mem _)
  · rcases List.mem_cons.mp m with z | z
    · exact h.2.2 _ (by rw [z]; exact List.getElem_mem _)
    · have z : q = row[row.length - 1] := by simpa using z
      exact h.2.2 _ (by rw [z]; exact List.getElem_mem _)
theorem rowOk_join {names hd tl : List Str} {p : Str} (h : RowOk names p hd) (ht : RowOk names p tl) (d : ∀ q ∈ tl, q ∉ hd) : RowOk names p (hd ++ tl) := by
  refine ⟨?_, fun m => ?_, fun q m => ?_⟩
  · rw [List.nodup_append]
    exact ⟨h.1, ht.1, fun a ha b hb e => d b hb (by rw [← e]; exact ha)⟩
  · rcases List.mem_append.mp m with z | z
    · exact h.2.1 z
    · exact ht.2.1 z
  · rcases List.mem_append.mp m with z | z
    · exact h.2.2 q z
    · exact ht.2.2 q z
theorem pure__law_block_wishes {K : PySem.W.Frag} {vs : List V} {H : Hp} {Q : VK} {E : XK} (h : sp__law_block_wishes K vs H Q E) : t__law_block_wishes K E { nx := fun _ H' => Q .non H', rt := Q } (start N__law_block_wishes vs) H := by
  obtain ⟨p, t, rfl, a, b, xs, B, sB, bp, hp, hv, ht, hl, nd, k⟩ := h
  have hs := HS.startS sB bp hp
  show t__law_block_wishes K E _ [some (.ref p), some (.ref t), none, none, none, none, none, none, none, none, none, none, none] H
  unfold t__law_block_wishes
  walk_at "sx"
  refine use_mixedF hs hv ht (by omega) (fun B1 H1 a1 b1 o ord sb1 hs1 eo hv1 pe => ?_)
  have ndo : ord.Nodup := pe.nodup_iff.mpr nd
  have hol : ord.length = xs.length := pe.length_eq
  have ht1 := sb1 _ _ ht
  walk_at "sx"
  refine new_M hs1 (fun w H2 hs2 _ => ?_)
  walk_at "sx"
  refine ⟨_, rfl, by rw [List.length_map]; omega, by rw [List.length_map]; omega, ?_⟩
  have en : (((ord.map V.str).length : Nat) : Int).toNat = ord.length := by rw [List.length_map]; omega
  rw [en]
  refine l_range (α := (Int × Int) × (Nat × List (Key × V)) × Option V × Option V × Option V × Option V × Option V × Option V × Option V)
    (σf := fun s => [some (.ref p), some (.ref t), some (.ref o), some (.ref w), some (.int (s.2.1.1 : Nat)), s.2.2.1, s.2.2.2.1, s.2.2.2.2.1, s.2.2.2.2.2.1, s.2.2.2.2.2.2.1, s.2.2.2.2.2.2.2.1, s.2.2.2.2.2.2.2.2, none]) (Mf := fun s => [(p, stO s.1.1 s.1.2), (w, .dK s.2.1.2)])
    (P := fun i s B1 => VSt s.1.1 s.1.2 ∧ i ≤ s.2.1.1 ∧ s.2.1.1 ≤ 7 * i ∧ WRows B1 xs (ord.take s.2.1.1) s.2.1.2) (s0 := ((a1, b1), (0, []), none, none, none, none, none, none, none)) hs2.swap ⟨hv1, Nat.le_refl _, Nat.le_refl _, .nil⟩ (fun i s B3 H3 hi sb3 hs3 pp => ?_) (fun s B3 H3 sb3 hs3 pp => ?_)
  · obtain ⟨⟨a3, b3⟩, ⟨at_, kvs0⟩, q5, q6, q7, q8, q9, q10, q11⟩ := s
    obtain ⟨hv3, hat1, hat2, hw3⟩ := pp
    dsimp only at hs3 hv3 hat1 hat2 hw3 ⊢
    have eo3 := sb3 _ _ eo
    have ht3 := sb3 _ _ ht1
    walk_at "sx"
    refine use_take hs3 hv3 (by decide) (by decide) (fun B4 H4 a4 b4 m sb4 hs4 hv4 hm => ?_)
    have eo4 := sb4 _ _ eo3
    have ht4 := sb4 _ _ ht3
    walk_at "sx"
    try refine x_slL (SqL.of (hs4.up eo4)) ?_
    rw [cutV_midS (i := at_) (j := 1 + m) rfl (by omega)]
    refine new_F hs4 (fun bk B5 H5 hs5 sb5 ek _ => ?_)
    have eo5 := sb5 _ _ eo4
    have ht5 := sb5 _ _ ht4
    walk_at "sx"
    refine x_augI rfl ?_
    walk_at "sx"
    refine x_ipI ?_
    simp only [List.set_cons_zero, List.set_cons_succ]
    have eat : ((at_ : Int) + (1 + (m : Int))) = ((at_ + (1 + m) : Nat) : Int) := by omega
    rw [eat]
    have hblk : ∀ (j : Nat) x, ((ord.drop at_).take (1 + m))[j]? = some x → ord[at_ + j]? = some x := fun j x e => by
      rw [List.getElem?_take] at e
      split at e
      · rw [List.getElem?_drop] at e; exact e
      · cases e
    have hbs : ((ord.drop at_).take (1 + m)).Sublist ord := (List.take_sublist _ _).trans (List.drop_sublist _ _)
    have hbl : at_ + ((ord.drop at_).take (1 + m)).length ≤ max ord.length at_ := by rw [List.length_take, List.length_drop]; omega
    have hbl2 : ((ord.drop at_).take (1 + m)).length = min (1 + m) (ord.length - at_) := by rw [List.length_take, List.length_drop]
    generalize (ord.drop at_).take (1 + m) = blk at ek hblk hbs hbl hbl2
    have ndb : blk.Nodup := ndo.sublist hbs
    have inb : ∀ q ∈ blk, q ∈ xs := fun q mq => pe.mem_iff.mp (hbs.subset mq)
    have hbn : blk.length ≤ 7 := by omega
    walk_at "sx"
    refine ⟨_, rfl, by rw [List.length_map]; omega, by rw [List.length_map]; omega, ?_⟩
    have en : (((blk.map V.str).length : Nat) : Int).toNat = blk.length := by rw [List.length_map]; omega
    rw [en]
    refine l_range (α := (Int × Int) × List (Key × V) × Option V × Option V × Option V × Option V)
      (σf := fun s => [some (.ref p), some (.ref t), some (.ref o), some (.ref w), some (.int ((at_ + (1 + m) : Nat))), some (.int (0 + (i : Nat))), some (.int (1 + (m : Nat))), some (.ref bk), s.2.2.1, s.2.2.2.1, s.2.2.2.2.1, s.2.2.2.2.2, none]) (Mf := fun s => [(p, stO s.1.1 s.1.2), (w, .dK s.2.1)])
      (P := fun j s B1 => VSt s.1.1 s.1.2 ∧ WRows B1 xs (ord.take (at_ + j)) s.2.1) (s0 := ((a4, b4), kvs0, q8, q9, q10, q11)) hs5 ⟨hv4, by simpa using (hw3.mono sb4).mono sb5⟩ (fun j s B6 H6 hj sb6 hs6 pp => ?_) (fun s B6 H6 sb6 hs6 pp => ?_)
    · obtain ⟨⟨a6, b6⟩, kvs, r8, r9, r10, r11⟩ := s
      obtain ⟨hv6, hw6⟩ := pp
      dsimp only at hs6 hv6 hw6 ⊢
      rw [Int.zero_add]
      have hx : blk[j]? = some blk[j] := List.getElem?_eq_getElem hj
      generalize blk[j] = x at hx
      have hxo := hblk j x hx
      have hat := atI_str hx
      have ek6 := sb6 _ _ ek
      have ht6 := sb6 _ _ ht5
      have rot : RowOk xs x (blk.drop (j + 1) ++ blk.take j) := (rowOk_rot (List.Perm.refl blk) ndb hx).weak inb
      walk_at "sx"
      try refine x_slL (SqL.of (hs6.up ek6)) ?_
      rw [cutV_fromS (i := j + 1) (by omega)]
      refine new_F hs6 (fun r1 B7 H7 hs7 sb7 e1 _ => ?_)
      walk_at "sx"
      try refine x_slL (SqL.of (hs7.up (sb7 _ _ ek6))) ?_
      rw [cutV_toS (i := j) rfl]
      refine new_F hs7 (fun r2 B8 H8 hs8 sb8 e2 _ => ?_)
      refine x_cat (hs8.up (sb8 _ _ e1)) (hs8.up e2) (by simp; omega) ?_
      rw [← List.map_append]
      refine new_F hs8 (fun ri B9 H9 hs9 sb9 er _ => ?_)
      have s69 := (sb7.trans sb8).trans sb9
      generalize blk.drop (j + 1) ++ blk.take j = ring at er rot
      have hrl := rot.len
      walk_at "sx"
      try refine x_slL (SqL.of (hs9.up er)) ?_
      rw [cutV_toS (m := 1) (i := 1) rfl]
      refine new_F hs9 (fun h1 B10 H10 hs10 sb10 eh _ => ?_)
      have er10 := sb10 _ _ er
      walk_at "s1"
      let Ia : L2.St → Hp → Prop := fun σ H' => ∃ B' h hd, HS [p] B H B' H' [(p, stO a6 b6), (w, .dK kvs)] ∧ Same B10 B' ∧ B' h = some (.lst (hd.map V.str)) ∧ RowOk xs x hd ∧
        σ = [some (.ref p), some (.ref t), some (.ref o), some (.ref w), some (.int ((at_ + (1 + m) : Nat))), some (.int (0 + (i : Nat))), some (.int (1 + (m : Nat))), some (.ref bk), some (.int (j : Nat)), some (.ref ri), some (.ref h), r11, none]
      refine x_join (I := Ia) ?_ (fun R hR => ?_)
      case refine_2 =>
        walk_at "sx"
        refine x_ite (fun h => ?_) (fun h => ?_)
        · have h := of_decide_eq_true h
          rw [List.length_map] at h
          have h1r : 1 < ring.length := by omega
          have a0 : atI (ring.map V.str) 0 = some (.str (ring[0]'(by omega))) := atI_str (i := 0) (List.getElem?_eq_getElem (by omega))
          have al := atI_last (xs := ring) (by omega)
          walk_at "sx"
          refine new_F hs10 (fun h2 B11 H11 hs11 sb11 e11 _ => ?_)
          walk_at "sx"
          exact hR _ _ ⟨B11, h2, [ring[0], ring[ring.length - 1]], hs11, sb11, e11, rowOk_ends rot h1r, rfl⟩
        · walk_at "sx"
          exact hR _ _ ⟨B10, h1, _, hs10, Same.refl _, eh, rot.take 1, rfl⟩
      rintro σ H11 ⟨B11, h, hd, hs11, sb11, eh11, okh, rfl⟩
      have s611 : Same B6 B11 := (s69.trans sb10).trans sb11
      have ek11 := s611 _ _ ek6
      walk_at "sx"
      refine use_others hs11 (s611 _ _ ht6) (by omega) (fun B12 H12 l1 sb12 hs12 => ?_)
      obtain ⟨hs13, sb13⟩ := hs12.still (by simpa using hs12.ne01)
      have e13 : upd B12 l1 (.lst ((xs.filter fun y => !decide (y = x)).map V.str)) l1 = some (.lst ((xs.filter fun y => !decide (y = x)).map V.str)) := upd_same
      generalize upd B12 l1 (.lst ((xs.filter fun y => !decide (y = x)).map V.str)) = B13 at hs13 sb13 e13
      have eh13 := sb13 _ _ (sb12 _ _ eh11)
      have okf : RowOk xs x (xs.filter fun y => !decide (y = x)) := rowOk_filter (List.Perm.refl xs) nd
      generalize (xs.filter fun y => !decide (y = x)) = oth at e13 okf
      have hol2 := okf.len
      refine ⟨l1, rfl, ⟨_, SqL.of (hs13.up e13)⟩, fun D hD => ?_⟩
      refine c_list (α := Unit) (Mf := fun _ => [(p, stO a6 b6), (w, .dK kvs)]) (P := fun i _ acc _ => acc = ((oth.take i).filter fun y => !decide (y ∈ hd)).map V.str) (s0 := ()) hs13 hD e13 rfl (fun n y _ acc B14 H14 hn hacc sb14 hs14 pp => ?_) (fun _ acc B14 H14 sb14 hs14 hacc pp => ?_)
      · obtain ⟨y, hy, rfl⟩ := strs_get hn
        have hnl : n < oth.length := (List.getElem?_eq_some_iff.mp hy).1
        have eh14 := sb14 _ _ eh13
        walk_at "sx"
        refine ⟨rfl, ?_⟩
        walk_at "sx"
        try (refine x_ninLS (SqL.of (hs14.up eh14)) ?_; walk_at "sx")
        refine x_ite (fun h => ?_) (fun h => ?_)
        · walk_at "sx"
          refine c_keep (s := ()) sb14 hs14 hacc (by omega) ?_
          rw [filter_take _ hy, if_pos h, pp]
          simp
        · refine c_left (s := ()) sb14 hs14 hacc ?_
          rw [filter_take _ hy, if_neg (by rw [h]; decide), pp]
      · rw [List.length_map, List.take_length] at pp
        subst pp
        obtain ⟨hs15, sb15⟩ := hs14.still (by simpa using hs14.ne01)
        have e15 : upd B14 D (.lst ((oth.filter fun y => !decide (y ∈ hd)).map V.str)) D = some (.lst ((oth.filter fun y => !decide (y ∈ hd)).map V.str)) := upd_same
        generalize upd B14 D (.lst ((oth.filter fun y => !decide (y ∈ hd)).map V.str)) = B15 at hs15 sb15 e15
        have okt : RowOk xs x (oth.filter fun y => !decide (y ∈ hd)) := ⟨okf.1.filter _, fun mm => okf.2.1 (List.mem_filter.mp mm).1, fun q mm => okf.2.2 q (List.mem_filter.mp mm).1⟩
        have dis : ∀ q ∈ oth.filter fun y => !decide (y ∈ hd), q ∉ hd := fun q mm => by simpa using (List.mem_filter.mp mm).2
        generalize (oth.filter fun y => !decide (y ∈ hd)) = rest at e15 okt dis
        have hrl2 := okt.len
        have s1115 : Same B11 B15 := ((sb12.trans sb13).trans sb14).trans sb15
        walk_at "sx"
        refine use_mixedF hs15 hv6 e15 (by omega) (fun B16 H16 a16 b16 l2 ys sb16 hs16 e16 hv16 pe16 => ?_)
        have okt := okt.perm pe16
        have dis : ∀ q ∈ ys, q ∉ hd := fun q mm => dis q (pe16.mem_iff.mp mm)
        have hyl := okt.len
        walk_at "sx"
        try (refine x_lenL (SqL.of (hs16.up e16)) ?_; walk_at "sx")
        refine use_take hs16 hv16 (by rw [List.length_map]; omega) (by rw [List.length_map]; omega) (fun B17 H17 a17 b17 n sb17 hs17 hv17 hn => ?_)
        walk_at "sx"
        try refine x_slL (SqL.of (hs17.up (sb17 _ _ e16))) ?_
        rw [cutV_toS (i := n) rfl]
        refine new_F hs17 (fun l3 B18 H18 hs18 sb18 e18 _ => ?_)
        have s1118 : Same B11 B18 := ((s1115.trans sb16).trans sb17).trans sb18
        have eh18 := s1118 _ _ eh11
        have okr : RowOk xs x (hd ++ ys.take n) := rowOk_join okh (okt.take n) fun q mm => dis q (List.mem_of_mem_take mm)
        generalize ys.take n = tl at e18 okr
        walk_at "s1"
        let Ib : L2.St → Hp → Prop := fun σ H' => ∃ a' b' B' h hd l tl, HS [p] B H B' H' [(p, stO a' b'), (w, .dK kvs)] ∧ VSt a' b' ∧ Same B18 B' ∧ B' h = some (.lst (hd.map V.str)) ∧ B' l = some (.lst (tl.map V.str)) ∧ RowOk xs x (hd ++ tl) ∧
          σ = [some (.ref p), some (.ref t), some (.ref o), some (.ref w), some (.int ((at_ + (1 + m) : Nat))), some (.int (0 + (i : Nat))), some (.int (1 + (m : Nat))), some (.ref bk), some (.int (j : Nat)), some (.ref ri), some (.ref h), some (.ref l), none]
        refine x_join (I := Ib) ?_ (fun R hR => ?_)
        case refine_2 =>
          walk_at "sx"
          refine x_trL (hs18.up e18) ?_
          refine x_ite (fun hh => ?_) (fun hh => ?_)
          · walk_at "sx"
            refine use_take hs18 hv17 (by decide) (by decide) (fun B19 H19 a19 b19 n2 sb19 hs19 hv19 _ => ?_)
            have e19 := sb19 _ _ e18
            have eh19 := sb19 _ _ eh18
            walk_at "sx"
            refine x_ite (fun hh => ?_) (fun hh => ?_)
            · walk_at "sx"
              try refine x_slL (SqL.of (hs19.up e19)) ?_
              rw [cutV_toS (m := 1) (i := 1) rfl]
              refine new_F hs19 (fun l4 B20 H20 hs20 sb20 e20 _ => ?_)
              have htl := okr.len
              rw [List.length_append] at htl
              walk_at "sx"
              refine x_cat (hs20.up e20) (hs20.up (sb20 _ _ eh19)) (by simp; omega) ?_
              rw [← List.map_append]
              refine new_F hs20 (fun l5 B21 H21 hs21 sb21 e21 _ => ?_)
              walk_at "sx"
              try refine x_slL (SqL.of (hs21.up (sb21 _ _ (sb20 _ _ e19)))) ?_
              rw [cutV_fromS (m := 1) (i := 1) rfl]
              refine new_F hs21 (fun l6 B22 H22 hs22 sb22 e22 _ => ?_)
              walk_at "sx"
              refine hR _ _ ⟨a19, b19, B22, l5, _, l6, _, hs22, hv19, ((sb19.trans sb20).trans sb21).trans sb22, sb22 _ _ e21, e22, okr.perm ?_, rfl⟩
              have h1 : (tl.take 1 ++ hd ++ tl.drop 1).Perm (hd ++ tl.take 1 ++ tl.drop 1) := List.perm_append_comm.append_right _
              rw [List.append_assoc hd, List.take_append_drop] at h1
              exact h1
            · walk_at "sx"
              exact hR _ _ ⟨a19, b19, B19, h, hd, l3, tl, hs19, hv19, sb19, eh19, e19, okr, rfl⟩
          · walk_at "sx"
            exact hR _ _ ⟨a17, b17, B18, h, hd, l3, tl, hs18, hv17, Same.refl _, eh18, e18, okr, rfl⟩
        clear okr e18 eh18 dis okt
        rintro σ H19 ⟨a19, b19, B19, h', hd', l', tl', hs19, hv19, sb19, eh19, el19, okr, rfl⟩
        have s1119 := s1118.trans sb19
        have ek19 := s1119 _ _ ek11
        have htl := okr.len
        rw [List.length_append] at htl
        walk_at "sx"
        refine x_cat (hs19.up eh19) (hs19.up el19) (by simp; omega) ?_
        rw [← List.map_append]
        refine new_F hs19 (fun rr B20 H20 hs20 sb20 e20 _ => ?_)
        have ek20 := sb20 _ _ ek19
        walk_at "sx"
        have hwl := hw6.len
        rw [List.length_take] at hwl
        refine x_dput hs20.swap (by omega) (fun H21 hs21 => ?_)
        have s620 : Same B6 B20 := (s611.trans s1119).trans sb20
        refine ⟨((a19, b19), _, some _, some _, some _, some _), B20, rfl, sb6.trans s620, hs21.swap, hv19, ?_⟩
        dsimp only
        have e2 : at_ + (j + 1) = (at_ + j) + 1 := by omega
        rw [e2, take_snoc hxo]
        exact (hw6.mono s620).snoc (notin_take ndo hxo) e20 okr
    · obtain ⟨⟨a6, b6⟩, kvs, r8, r9, r10, r11⟩ := s
      obtain ⟨hv6, hw6⟩ := pp
      dsimp only at hs6 hv6 hw6 ⊢
      refine ⟨((a6, b6), (at_ + (1 + m), kvs), _, _, _, _, _, _, _), B6, rfl, (((sb3.trans sb4).trans sb5).trans sb6), hs6, hv6, by dsimp only; omega, by dsimp only; omega, ?_⟩
      dsimp only
      have e3 : ord.take (at_ + (1 + m)) = ord.take (at_ + blk.length) := by
        by_cases hh : 1 + m ≤ ord.length - at_
        · rw [hbl2, Nat.min_eq_left hh]
        · rw [List.take_of_length_le (by omega), List.take_of_length_le (by omega)]
      rw [e3]
      exact hw6
  · obtain ⟨⟨a3, b3⟩, ⟨at_, kvs0⟩, q5, q6, q7, q8, q9, q10, q11⟩ := s
    obtain ⟨hv3, hat1, hat2, hw3⟩ := pp
    dsimp only at hs3 hv3 hat1 hat2 hw3 ⊢
    rw [List.take_of_length_le hat1] at hw3
    walk_at "sx"
    exact k B3 H3 a3 b3 w kvs0 ord hs3 hv3 pe hw3
end Q

set_option Elab.async false
set_option linter.all false
set_option maxRecDepth 100000
set_option maxHeartbeats 4000000
namespace Q
open PySem PySem.Spec PyProof.Rows L2
local macro_rules | `(tactic| walk_at "bf") => `(tactic| first | assumption | (refine' bstep (by assumption) ?r; case r => walk_at "bf") | fail)
local macro_rules | `(tactic| walk_at "rp") => `(tactic| first | assumption | exact Rep.int _ | exact Rep.bl _ | exact Rep.non | (refine' Rep.mono (by assumption) ?r; case r => walk_at "rp") | fail)
local macro_rules | `(tactic| walk_at "hf") => `(tactic| first | assumption | exact HS.up (by assumption) (by walk_at "bf") | exact HS.get (by assumption) List.mem_cons_self | exact HS.get (by assumption) (List.mem_cons_of_mem _ List.mem_cons_self) | exact HS.get (by assumption) (List.mem_cons_of_mem _ (List.mem_cons_of_mem _ List.mem_cons_self)) | exact HS.get (by assumption) (List.mem_cons_of_mem _ (List.mem_cons_of_mem _ (List.mem_cons_of_mem _ List.mem_cons_self))) | fail)
local macro_rules | `(tactic| walk_at "sl") => `(tactic| first | assumption | exact SqL.of (by walk_at "hf") | fail)
local macro_rules | `(tactic| walk_at "st") => `(tactic| first | assumption | exact SqT.of (by walk_at "hf") | fail)
local macro_rules | `(tactic| walk_at "sz") => `(tactic| first | assumption | (refine small_le ?_; first | assumption | omega | (simp; done) | (simp; omega)) | fail)
local macro_rules | `(tactic| walk_at "s1") => `(tactic| first
  | (with_reducible refine x_seq ?_)
  | (with_reducible refine x_asg ?_)
  | ((with_reducible refine x_gname ?_); try simp only [List.set_cons_zero, List.set_cons_succ])
  | ((with_reducible refine' x_var ?h ?_); case h => rfl)
  | (with_reducible refine x_c ?_)
  | (with_reducible refine x_op ?_)
  | (with_reducible refine x_ret ?_)
  | (with_reducible refine x_if ?_)
  | (with_reducible refine x_and ?_)
  | (with_reducible refine x_or ?_)
  | (with_reducible refine x_not ?_)
  | (with_reducible refine x_test ?_)
  | (with_reducible refine x_tB ?_)
  | (with_reducible refine x_tr ?_)
  | (with_reducible refine x_cb ?_)
  | (with_reducible refine x_cons ?_)
  | (with_reducible refine x_nil ?_)
  | (with_reducible refine x_exb ?_)
  | (with_reducible refine x_tt _ _ ?_)
  | (with_reducible refine x_ff _ _ ?_)
  | (with_reducible refine x_dget ?_)
  | (with_reducible refine x_din ?_)
  | (with_reducible refine x_dnin ?_)
  | (with_reducible refine x_dputU ?_)
  | (with_reducible refine x_dnew ?_)
  | (with_reducible refine x_bm ?_)
  | (with_reducible refine x_bm0 ?_)
  | (with_reducible refine x_gsub ?_)
  | (with_reducible refine x_fldU ?_)
  | (with_reducible refine x_sfldU ?_)
  | (with_reducible refine x_gcons ?_)
  | (with_reducible refine x_gnil ?_)
  | (with_reducible refine x_rz1 ?_)
  | (with_reducible refine x_rz2 ?_)
  | (with_reducible refine x_tryAs ?_)
  | (with_reducible refine x_tryOnly ?_)
  | (with_reducible refine x_mtU ?_)
  | (with_reducible refine x_mk ?_)
  | (with_reducible refine x_yes ?_)
  | (with_reducible refine x_un ?_)
  | (with_reducible refine x_neg ?_)
  | (with_reducible refine x_iEnum ?_)
  | (with_reducible refine x_iEnumT ?_)
  | (with_reducible refine x_lst ?_)
  | (with_reducible refine x_tup ?_)
  | (with_reducible refine x_dc ?_)
  | ((with_reducible refine' x_dinO ?h ?_); case h => walk_at "hf")
  | ((with_reducible refine' x_newL ?h ?_); case h => first | exact Nat.zero_le _ | (simp; done) | (simp; omega))
  | ((with_reducible refine' x_newT ?h ?_); case h => first | exact Nat.zero_le _ | (simp; done) | (simp; omega))
  | ((with_reducible refine' x_listL ?h ?_); case h => walk_at "sl")
  | ((with_reducible refine' x_listT ?h ?_); case h => walk_at "st")
  | ((with_reducible refine' x_mulI ?h ?_); case h => first | exact .inl ⟨by decide, by decide⟩ | exact .inr ⟨by decide, by decide⟩ | exact .inl ⟨by omega, by omega⟩ | exact .inr ⟨by omega, by omega⟩)
  | ((with_reducible refine' x_divI ?h ?_); case h => first | exact ⟨by decide, by decide⟩ | exact ⟨by omega, by omega⟩)
  | ((with_reducible refine' x_powI ?h ?_); case h => exact ⟨by decide, by decide, by decide⟩)
  | ((with_reducible refine' x_ixL ?h ?h2 ?_); (case h => walk_at "sl"); (case h2 => first | rfl | assumption))
  | ((with_reducible refine' x_ixT ?h ?h2 ?_); (case h => walk_at "st"); (case h2 => first | rfl | assumption))
  | (with_reducible refine x_m1s ?_)
  | (with_reducible refine x_str1 ?_)
  | (with_reducible refine x_sl ?_)
  | (with_reducible refine x_noPart ?_)
  | (with_reducible refine x_part ?_)
  | (with_reducible refine x_exi ?_)
  | ((with_reducible refine' x_slS ?h ?_); case h => walk_at "sz")
  | ((with_reducible refine' x_slL ?h ?_); case h => walk_at "sl")
  | (with_reducible refine x_pairsC ?_)
  | (with_reducible refine x_pairsN ?_)
  | ((with_reducible refine' x_dgS ?h ?h2 ?_); (case h => walk_at "hf"); (case h2 => assumption))
  | ((with_reducible refine' x_srtT ?h ?h2 ?_); (case h => walk_at "st"); (case h2 => omega))
  | ((with_reducible refine' x_srtL ?h ?h2 ?_); (case h => walk_at "sl"); (case h2 => omega))
  | ((with_reducible refine' x_inLS ?h ?_); case h => walk_at "sl")
  | ((with_reducible refine' x_inTS ?h ?_); case h => walk_at "st")
  | ((with_reducible refine' x_ninLS ?h ?_); case h => walk_at "sl")
  | ((with_reducible refine' x_ninTS ?h ?_); case h => walk_at "st")
  | ((with_reducible refine' x_tyL ?h ?_); case h => walk_at "sl")
  | ((with_reducible refine' x_gtup ?h ?h2 ?_); (case h => walk_at "st"); (case h2 => rfl))
  | (with_reducible refine x_next ?_)
  | (with_reducible refine x_for ?_)
  | (with_reducible refine x_iList ?_)
  | (with_reducible refine x_iTup ?_)
  | (with_reducible refine x_iStr ?_)
  | (with_reducible refine x_iRng1 ?_)
  | (with_reducible refine x_iRng2 ?_)
  | (with_reducible refine x_lc ?_)
  | (with_reducible refine x_drop ?_)
  | (with_reducible refine x_retN ?_)
  | (with_reducible refine x_cont ?_)
  | (with_reducible refine x_break ?_)
  | (with_reducible refine x_cl ?_)
  | (with_reducible refine x_isN ?_)
  | (with_reducible refine x_notN ?_)
  | (with_reducible refine x_andV ?_)
  | (with_reducible refine x_orV ?_)
  | (with_reducible refine x_notV ?_)
  | (with_reducible refine x_ifE ?_)
  | (with_reducible refine x_addI ?_)
  | (with_reducible refine x_subI ?_)
  | (with_reducible refine x_ltI ?_)
  | (with_reducible refine x_leI ?_)
  | (with_reducible refine x_gtI ?_)
  | (with_reducible refine x_geI ?_)
  | (with_reducible refine x_ltS ?_)
  | (with_reducible refine x_abs ?_)
  | (with_reducible refine x_min2 ?_)
  | (with_reducible refine x_max2 ?_)
  | (with_reducible refine x_int1 ?_)
  | (with_reducible refine x_notInS ?_)
  | ((with_reducible refine' x_eq ?h ?_); case h => rfl)
  | ((with_reducible refine' x_ne ?h ?_); case h => rfl)
  | ((with_reducible refine' x_modI ?h ?_); case h => first | decide | omega)
  | ((with_reducible refine' x_isiD ?h1 ?h2 ?h3 ?_); (case h1 => assumption); (case h2 => walk_at "rp"); (case h3 => decide))
  | ((with_reducible refine' x_lenS ?h ?_); case h => walk_at "sz")
  | ((with_reducible refine' x_lenL ?h ?_); case h => walk_at "sl")
  | ((with_reducible refine' x_lenT ?h ?_); case h => walk_at "st")
  | ((with_reducible refine' x_lenD ?h ?_); case h => walk_at "hf")
  | fail)
local macro_rules | `(tactic| walk_at "sx") => `(tactic| repeat walk_at "s1")
/-! ### a drawn group -/
def WAt (B : Hp) (done : List Str) (kvs : List (Key × V)) (ws : Str → List Str) : Prop := ∃ al : List Addr, al.length = done.length ∧ kvs = zipK done al ∧ ∀ (j : Nat) p a, done[j]? = some p → al[j]? = some a → LAt B ws p a
theorem WAt.mono {B B' : Hp} {done : List Str} {kvs : List (Key × V)} {ws : Str → List Str} (s : Same B B') (h : WAt B done kvs ws) : WAt B' done kvs ws := by
  obtain ⟨al, h1, h2, h3⟩ := h
  exact ⟨al, h1, h2, fun j p a e1 e2 => s _ _ (h3 j p a e1 e2)⟩
theorem WAt.get {B : Hp} {done : List Str} {kvs : List (Key × V)} {ws : Str → List Str} (h : WAt B done kvs ws) (nd : done.Nodup) {p : Str} (m : p ∈ done) : ∃ a, valV kvs (.inr p) = some (.ref a) ∧ B a = some (.lst ((ws p).map V.str)) := by
  obtain ⟨al, h1, h2, h3⟩ := h
  obtain ⟨j, a, e1, e2, e3⟩ := zipK_val h1 nd m
  exact ⟨a, by rw [h2]; exact e3, h3 j p a e1 e2⟩
theorem WAt.keys {B : Hp} {done : List Str} {kvs : List (Key × V)} {ws : Str → List Str} (h : WAt B done kvs ws) : kvs.map (·.1) = done.map Sum.inr := by
  obtain ⟨al, h1, h2, h3⟩ := h
  rw [h2]
  exact zipK_keys h1
theorem WRows.fn {B : Hp} {names done : List Str} {kvs : List (Key × V)} (h : WRows B names done kvs) (pe : done.Perm names) (nd : names.Nodup) : ∃ ws : Str → List Str, (∀ p ∈ names, RowOk names p (ws p)) ∧ WAt B done kvs ws := by
  have ndd : done.Nodup := pe.nodup_iff.mpr nd
  obtain ⟨al, h1, h2, h3⟩ := h
  have hex : ∀ p, ∃ row : List Str, p ∈ done → (∀ a, valV kvs (.inr p) = some (.ref a) → B a = some (.lst (row.map V.str))) ∧ RowOk names p row := fun p => by
    by_cases m : p ∈ done
    · obtain ⟨j, a, e1, e2, e3⟩ := zipK_val h1 ndd m
      obtain ⟨row, q1, q2⟩ := h3 j p a e1 e2
      refine ⟨row, fun _ => ⟨fun b hb => ?_, q2⟩⟩
      rw [h2, e3] at hb
      cases hb
      exact q1
    · exact ⟨[], fun z => absurd z m⟩
  refine ⟨fun p => (hex p).choose, fun p m => ((hex p).choose_spec (pe.mem_iff.mpr m)).2, al, h1, h2, fun j p a e1 e2 => ?_⟩
  have m : p ∈ done := List.mem_of_getElem? e1
  refine ((hex p).choose_spec m).1 a ?_
  obtain ⟨j', a', f1, f2, f3⟩ := zipK_val h1 ndd m
  have := nodup_ix ndd f1 e1
  subst this
  rw [e2] at f2
  cases f2
  rw [h2]
  exact f3
/-- names and wishes that fit them -/
structure Drawn (xs done : List Str) (ws : Str → List Str) : Prop where
  nd : xs.Nodup
  ok : ∀ x ∈ xs, okName x = true
  pe : done.Perm xs
  row : ∀ p ∈ xs, RowOk xs p (ws p)
abbrev N__law_wishes : List Str := ["_law_state", "_law_names_here", "_law_mode"]
def t__law_wishes (K : PySem.W.Frag) (E : XK) : TS := (tSeq (tAsg (tCl (sp__law_take K) (WE0 E) (tCons (tVar 0) (tCons (tC (.int 9)) tNil))) (gName 2))
  (tSeq (tIfS (tTest (tOp rGtI (tVar 2) (tC (.int 6)))) (tRet (tCl (sp__law_block_wishes K) (WE0 E) (tCons (tVar 0) (tCons (tVar 1) tNil)))) tNext)
  (tSeq (tIfS (tTest (tOp rGtI (tVar 2) (tC (.int 4)))) (tRet (tCl (sp__law_side_wishes K) (WE0 E) (tCons (tVar 0) (tCons (tVar 1) tNil)))) tNext)
  (tRet (tCl (sp__law_plain_wishes K) (WE0 E) (tCons (tVar 0) (tCons (tVar 1) (tCons (tVar 2) tNil))))))))
def sp__law_wishes (K : PySem.W.Frag) : Sp := fun vs H Q E => ∃ (p t : Addr), vs = [.ref p, .ref t] ∧ spW p t H Q
theorem pure__law_wishes {K : PySem.W.Frag} {vs : List V} {H : Hp} {Q : VK} {E : XK} (h : sp__law_wishes K vs H Q E) : t__law_wishes K E { nx := fun _ H' => Q .non H', rt := Q } (start N__law_wishes vs) H := by
  obtain ⟨p, t, rfl, a, b, xs, B, sB, bp, hp, hv, ht, hl, nd, k⟩ := h
  have hs := HS.startS sB bp hp
  show t__law_wishes K E _ [some (.ref p), some (.ref t), none] H
  unfold t__law_wishes
  walk_at "sx"
  refine use_take hs hv (by decide) (by decide) (fun B1 H1 a1 b1 m sb1 hs1 hv1 hm => ?_)
  have ht1 := sb1 _ _ ht
  have go : spW p t H1 Q := use_W hs1 hv1 ht1 hl nd fun B' H' a' b' w kvs done _ c v d r => k B' H' a' b' w kvs done c v d r
  walk_at "sx"
  refine x_ite (fun h => ?_) (fun h => ?_)
  · walk_at "sx"
    exact ⟨p, t, rfl, go⟩
  · walk_at "sx"
    refine x_ite (fun h => ?_) (fun h => ?_)
    · walk_at "sx"
      exact ⟨p, t, rfl, go⟩
    · walk_at "sx"
      exact ⟨p, t, _, rfl, go⟩
abbrev N__law_group : List Str := ["_law_state", "_law_top", "_law_names_here", "_law_wishes_here"]
def t__law_group (K : PySem.W.Frag) (E : XK) : TS := (tSeq (tAsg (tCl (sp__law_names K) (WE0 E) (tCons (tVar 0) (tCons (tCl (sp__law_take K) (WE0 E) (tCons (tVar 0) (tCons (tOp rAddI (tVar 1) (tC (.int 1))) tNil))) tNil))) (gName 2))
  (tSeq (tAsg (tCl (sp__law_wishes K) (WE0 E) (tCons (tVar 0) (tCons (tVar 2) tNil))) (gName 3))
  (tRet (tTup (tCons (tVar 2) (tCons (tVar 3) tNil))))))
def sp__law_group (K : PySem.W.Frag) : Sp := fun vs H Q E => ∃ (p : Addr) (top : Nat) (a b : Int) (B : Hp), vs = [.ref p, .int (top : Nat)] ∧ Same B H ∧ B p = none ∧ H p = some (stO a b) ∧ VSt a b ∧ top ≤ 24 ∧
  ∀ B' H' a' b' T n w xs kvs done ws, HS [p] B H B' H' [(p, stO a' b'), (w, .dK kvs)] → VSt a' b' → B' T = some (.tup [.ref n, .ref w]) → B' n = some (.lst (xs.map V.str)) → xs.length ≤ top → Drawn xs done ws → WAt B' done kvs ws → Q (.ref T) H'
theorem pure__law_group {K : PySem.W.Frag} {vs : List V} {H : Hp} {Q : VK} {E : XK} (h : sp__law_group K vs H Q E) : t__law_group K E { nx := fun _ H' => Q .non H', rt := Q } (start N__law_group vs) H := by
  obtain ⟨p, top, a, b, B, rfl, sB, bp, hp, hv, htop, k⟩ := h
  have hs := HS.startS sB bp hp
  show t__law_group K E _ [some (.ref p), some (.int (top : Nat)), none, none] H
  unfold t__law_group
  walk_at "sx"
  refine use_take hs hv (by omega) (by omega) (fun B1 H1 a1 b1 m sb1 hs1 hv1 hm => ?_)
  walk_at "sx"
  refine use_names hs1 hv1 (by omega) (fun B2 H2 a2 b2 n xs sb2 hs2 hv2 hxl hnd hok => ?_)
  obtain ⟨B3, hs3, sb3, en⟩ := hs2.stillN (by simpa using Ne.symm hs2.ne01)
  walk_at "sx"
  refine ⟨p, n, rfl, use_W hs3 hv2 en (by omega) hnd fun B4 H4 a4 b4 w kvs done sb4 hs4 hv4 pe hw => ?_⟩
  have en4 := sb4 _ _ en
  walk_at "sx"
  refine new_F hs4 (fun T B5 H5 hs5 sb5 eT _ => ?_)
  obtain ⟨ws, h1, h2⟩ := (hw.mono sb5).fn pe hnd
  exact k B5 H5 a4 b4 T n w xs kvs done ws hs5 hv4 eT (sb5 _ _ en4) (by omega) ⟨hnd, hok, pe, h1⟩ h2
theorem use_group {K : PySem.W.Frag} {S : List Addr} {B0 H0 B H : Hp} {M : List (Addr × HO)} {Q : VK} {E : XK} {p : Addr} {a b : Int} {top : Nat} (hs : HS S B0 H0 B H ((p, stO a b) :: M)) (v : VSt a b) (ht : top ≤ 24)
    (k : ∀ B' H' a' b' T n w xs kvs done ws, Same B B' → HS S B0 H0 B' H' ((p, stO a' b') :: (w, .dK kvs) :: M) → VSt a' b' → B' T = some (.tup [.ref n, .ref w]) → B' n = some (.lst (xs.map V.str)) → xs.length ≤ top → Drawn xs done ws → WAt B' done kvs ws → Q (.ref T) H') : sp__law_group K [.ref p, .int (top : Nat)] H Q E :=
  ⟨p, top, a, b, B, rfl, hs.bh, (hs.mu _ List.mem_cons_self).1, hs.get List.mem_cons_self, v, ht, fun B' H' a' b' T n w xs kvs done ws c v' h1 h2 h3 h4 h5 => k B' H' a' b' T n w xs kvs done ws c.bb (hs.call1N c) v' h1 h2 h3 h4 h5⟩
/-! ### for x in a dict -/
def Lk (d : Addr) (u : HO) (o : Obj) (De : Ends) : Ends := ⟨fun σ' H' => H' d = some (.frz o u) ∧ De.nx σ' (upd H' d u), fun v H' => H' d = some (.frz o u) ∧ De.rt v (upd H' d u), fun σ' H' => H' d = some (.frz o u) ∧ De.bk σ' (upd H' d u), fun σ' H' => H' d = some (.frz o u) ∧ De.ct σ' (upd H' d u)⟩
theorem walk_keys {d : Addr} {o : Obj} {kvs : List (Key × V)} : Walk (Itk d o kvs) kvs.length (fun H => H d = some (.frz o (.dK kvs))) (fun i H v H' => H' = H ∧ ∃ k w, kvs[i]? = some (k, w) ∧ v = kV k) := ⟨fun i _ hi q => ⟨q, hi⟩, fun _ q => ⟨q, Nat.le_refl _⟩, fun i H v H' _ q y => y⟩
section
variable {α : Type} {S : List Addr} {B0 H0 B : Hp} {σf : α → L2.St} {Mf : α → List (Addr × HO)} {P : Nat → α → Hp → Prop} {g : TG} {tb : TS} {De : Ends} {H : Hp} {s0 : α} {d : Addr} {kvs : List (Key × V)} {ks : List Str} {td : TE}
theorem l_keys (hk : kvs.map (·.1) = ks.map Sum.inr) (hs : HS S B0 H0 B H ((d, .dK kvs) :: Mf s0)) (h0 : P 0 s0 B) (ev : ∀ (H' : Hp) (Qv : VK), Qv (.ref d) H' → td (σf s0) H' Qv)
    (hb : ∀ o i x s B1 H1, ks[i]? = some x → Same B B1 → HS S B0 H0 B1 H1 ((d, .frz o (.dK kvs)) :: Mf s) → P i s B1 → g (.str x) (σf s) H1 fun σ2 H2 => tb { (Lk d (.dK kvs) o De) with nx := LI S B0 H0 B σf (fun s => (d, .frz o (.dK kvs)) :: Mf s) P (i + 1), ct := LI S B0 H0 B σf (fun s => (d, .frz o (.dK kvs)) :: Mf s) P (i + 1), bk := (Lk d (.dK kvs) o De).nx } σ2 H2)
    (hd : ∀ s B1 H1, Same B B1 → HS S B0 H0 B1 H1 ((d, .dK kvs) :: Mf s) → P ks.length s B1 → De.nx (σf s) H1) : tLock (tFor (iKeys td) g tb) De (σf s0) H := by
  have hlen : kvs.length = ks.length := by
    have := congrArg List.length hk
    simpa using this
  refine ⟨d, .dK kvs, hs.get List.mem_cons_self, trivial, fun o => ?_⟩
  have hs1 := hs.set0 (o' := .frz o (.dK kvs))
  refine x_for (ev _ _ ⟨d, o, rfl, .inl ⟨kvs, hs1.get List.mem_cons_self, ?_⟩⟩)
  refine for_it walk_keys (LI S B0 H0 B σf (fun s => (d, .frz o (.dK kvs)) :: Mf s) P) ⟨s0, B, rfl, Same.refl _, hs1, h0⟩ (fun i σ H' _ ⟨s, B1, _, sb, hs', _⟩ => hs'.get List.mem_cons_self) (fun i v σ H' H2 hi ⟨s, B1, e, sb, hs', p⟩ y => ?_) fun σ H' ⟨s, B1, e, sb, hs', p⟩ => ?_
  · obtain ⟨rfl, k, w, e1, rfl⟩ := y
    rw [e]
    have hki : (kvs.map (·.1))[i]? = some k := by rw [List.getElem?_map, e1]; rfl
    rw [hk, List.getElem?_map] at hki
    cases hx : ks[i]? with
    | none => rw [hx] at hki; cases hki
    | some x =>
      rw [hx] at hki
      cases hki
      exact hb o i x s B1 _ hx sb hs' p
  · rw [e]
    refine ⟨hs'.get List.mem_cons_self, ?_⟩
    exact hd s B1 _ sb hs'.set0 (by rw [← hlen]; exact p)
end
/-- a key of a locked dict -/
theorem x_dgF {H : Hp} {p : Addr} {kvs : List (Key × V)} {x : Str} {v : V} {o : Obj} {R : V → Prop} (hd : H p = some (.frz o (.dK kvs))) (e : valV kvs (.inr x) = some v) (h : R v) : ∃ a v, V.ref p = .ref a ∧ DGet H a (.str x) (some v) ∧ R v :=
  ⟨p, v, rfl, .inl ⟨kvs, .inr x, .inr ⟨o, hd⟩, rfl, e.symm⟩, h⟩
/-! ### copies -/
def lsM (al : List Addr) (done : List Str) (ws : Str → List Str) : List (Addr × HO) := (al.zip done).map fun q => (q.1, .lst ((ws q.2).map V.str))
theorem lsM_snoc {al : List Addr} {done : List Str} {ws : Str → List Str} {a : Addr} {x : Str} (h : al.length = done.length) : lsM (al ++ [a]) (done ++ [x]) ws = lsM al done ws ++ [(a, .lst ((ws x).map V.str))] := by
  unfold lsM
  rw [List.zip_append h, List.map_append]
  rfl
abbrev N__law_copy : List Str := ["_law_wishes_here", "_law_copy_here", "_law_a"]
def t__law_copy (K : PySem.W.Frag) (E : XK) : TS := (tSeq (tAsg tDNewK (gName 1))
  (tSeq (tLock (tFor (iKeys (tVar 0)) (gName 2) (sDPut (tVar 1) (tVar 2) (tCB (rListOf K) (tCons (tDGet (tVar 0) (tVar 2)) tNil)))))
  (tRet (tVar 1))))
def sp__law_copy (K : PySem.W.Frag) : Sp := fun vs H Q E => ∃ (d : Addr) (kvs : List (Key × V)) (done : List Str) (ws : Str → List Str) (B : Hp), vs = [.ref d] ∧ Same B H ∧ B d = none ∧ H d = some (.dK kvs) ∧ WAt B done kvs ws ∧ done.Nodup ∧ done.length ≤ 100 ∧
  ∀ B' H' c al, HS [d] B H B' H' ((d, .dK kvs) :: (c, .dK (zipK done al)) :: lsM al done ws) → al.length = done.length → Q (.ref c) H'
theorem pure__law_copy {K : PySem.W.Frag} {vs : List V} {H : Hp} {Q : VK} {E : XK} (h : sp__law_copy K vs H Q E) : t__law_copy K E { nx := fun _ H' => Q .non H', rt := Q } (start N__law_copy vs) H := by
  obtain ⟨d, kvs, done, ws, B, rfl, sB, bd, hd, hw, nd, hl, k⟩ := h
  have hs := HS.startS sB bd hd
  show t__law_copy K E _ [some (.ref d), none, none] H
  unfold t__law_copy
  walk_at "sx"
  refine new_M hs (fun c H1 hs1 _ => ?_)
  walk_at "sx"
  refine l_keys (α := List Addr × Option V) (σf := fun s => [some (.ref d), some (.ref c), s.2]) (Mf := fun s => (c, .dK (zipK (done.take s.1.length) s.1)) :: lsM s.1 (done.take s.1.length) ws) (P := fun i s _ => s.1.length = i) (s0 := ([], none)) hw.keys hs1.swap rfl (fun H' Qv q => ⟨_, rfl, q⟩)
    (fun o i x s B1 H1 hx sb1 hs1 pp => ?_) (fun s B1 H1 sb1 hs1 pp => ?_)
  · obtain ⟨al, s2⟩ := s
    dsimp only at pp hs1 ⊢
    have hil : i < done.length := (List.getElem?_eq_some_iff.mp hx).1
    obtain ⟨a, e1, e2⟩ := (hw.mono sb1).get nd (List.mem_of_getElem? hx)
    iterate 7 walk_at "s1"
    refine x_dgF (hs1.get List.mem_cons_self) e1 ?_
    walk_at "sx"
    try refine x_listL (SqL.of (hs1.up e2)) ?_
    refine new_M hs1 (fun r H2 hs2 _ => ?_)
    walk_at "sx"
    have hs3 : HS [d] B H B1 H2 ((c, .dK (zipK (done.take al.length) al)) :: (r, .lst ((ws x).map V.str)) :: (d, .frz o (.dK kvs)) :: lsM al (done.take al.length) ws) := hs2.perm ((List.Perm.cons _ (List.Perm.swap _ _ _)).trans ((List.Perm.swap _ _ _)))
    refine x_dput hs3 (by have := zipK_len (done.take al.length) al; rw [List.length_take] at this; omega) (fun H3 hs4 => ?_)
    refine ⟨(al ++ [r], some _), B1, rfl, sb1, ?_, by simp [pp]⟩
    dsimp only
    have hz := zipK_put (c := r) nd hx pp
    rw [pp, hz] at hs4
    have e3 : (al ++ [r]).length = i + 1 := by simp [pp]
    rw [e3, take_snoc hx, lsM_snoc (by rw [List.length_take]; omega)]
    rw [take_snoc hx] at hs4
    refine hs4.perm ?_
    have p1 : ((r, HO.lst ((ws x).map V.str)) :: lsM al (done.take i) ws).Perm (lsM al (done.take i) ws ++ [(r, HO.lst ((ws x).map V.str))]) := (List.perm_append_singleton _ _).symm
    exact (List.Perm.cons _ ((List.Perm.swap _ _ _).trans (List.Perm.cons _ p1))).trans (List.Perm.swap _ _ _)
  · obtain ⟨al, s2⟩ := s
    dsimp only at pp hs1 ⊢
    rw [pp, List.take_length] at hs1
    walk_at "sx"
    exact k B1 H1 c al hs1 pp
end Q

set_option Elab.async false
set_option linter.all false
set_option maxRecDepth 100000
set_option maxHeartbeats 4000000
namespace Q
open PySem PySem.Spec PyProof.Rows L2
local macro_rules | `(tactic| walk_at "bf") => `(tactic| first | assumption | (refine' bstep (by assumption) ?r; case r => walk_at "bf") | fail)
local macro_rules | `(tactic| walk_at "rp") => `(tactic| first | assumption | exact Rep.int _ | exact Rep.bl _ | exact Rep.non | (refine' Rep.mono (by assumption) ?r; case r => walk_at "rp") | fail)
local macro_rules | `(tactic| walk_at "hf") => `(tactic| first | assumption | exact HS.up (by assumption) (by walk_at "bf") | exact HS.get (by assumption) List.mem_cons_self | exact HS.get (by assumption) (List.mem_cons_of_mem _ List.mem_cons_self) | exact HS.get (by assumption) (List.mem_cons_of_mem _ (List.mem_cons_of_mem _ List.mem_cons_self)) | exact HS.get (by assumption) (List.mem_cons_of_mem _ (List.mem_cons_of_mem _ (List.mem_cons_of_mem _ List.mem_cons_self))) | fail)
local macro_rules | `(tactic| walk_at "sl") => `(tactic| first | assumption | exact SqL.of (by walk_at "hf") | fail)
local macro_rules | `(tactic| walk_at "st") => `(tactic| first | assumption | exact SqT.of (by walk_at "hf") | fail)
local macro_rules | `(tactic| walk_at "sz") => `(tactic| first | assumption | (refine small_le ?_; first | assumption | omega | (simp; done) | (simp; omega)) | fail)
local macro_rules | `(tactic| walk_at "s1") => `(tactic| first
  | (with_reducible refine x_seq ?_)
  | (with_reducible refine x_asg ?_)
  | ((with_reducible refine x_gname ?_); try simp only [List.set_cons_zero, List.set_cons_succ])
  | ((with_reducible refine' x_var ?h ?_); case h => rfl)
  | (with_reducible refine x_c ?_)
  | (with_reducible refine x_op ?_)
  | (with_reducible refine x_ret ?_)
  | (with_reducible refine x_if ?_)
  | (with_reducible refine x_and ?_)
  | (with_reducible refine x_or ?_)
  | (with_reducible refine x_not ?_)
  | (with_reducible refine x_test ?_)
  | (with_reducible refine x_tB ?_)
  | (with_reducible refine x_tr ?_)
  | (with_reducible refine x_cb ?_)
  | (with_reducible refine x_cons ?_)
  | (with_reducible refine x_nil ?_)
  | (with_reducible refine x_exb ?_)
  | (with_reducible refine x_tt _ _ ?_)
  | (with_reducible refine x_ff _ _ ?_)
  | (with_reducible refine x_dget ?_)
  | (with_reducible refine x_din ?_)
  | (with_reducible refine x_dnin ?_)
  | (with_reducible refine x_dputU ?_)
  | (with_reducible refine x_dnew ?_)
  | (with_reducible refine x_bm ?_)
  | (with_reducible refine x_bm0 ?_)
  | (with_reducible refine x_gsub ?_)
  | (with_reducible refine x_fldU ?_)
  | (with_reducible refine x_sfldU ?_)
  | (with_reducible refine x_gcons ?_)
  | (with_reducible refine x_gnil ?_)
  | (with_reducible refine x_rz1 ?_)
  | (with_reducible refine x_rz2 ?_)
  | (with_reducible refine x_tryAs ?_)
  | (with_reducible refine x_tryOnly ?_)
  | (with_reducible refine x_mtU ?_)
  | (with_reducible refine x_mk ?_)
  | (with_reducible refine x_yes ?_)
  | (with_reducible refine x_un ?_)
  | (with_reducible refine x_neg ?_)
  | (with_reducible refine x_iEnum ?_)
  | (with_reducible refine x_iEnumT ?_)
  | (with_reducible refine x_lst ?_)
  | (with_reducible refine x_tup ?_)
  | (with_reducible refine x_dc ?_)
  | ((with_reducible refine' x_dinO ?h ?_); case h => walk_at "hf")
  | ((with_reducible refine' x_newL ?h ?_); case h => first | exact Nat.zero_le _ | (simp; done) | (simp; omega))
  | ((with_reducible refine' x_newT ?h ?_); case h => first | exact Nat.zero_le _ | (simp; done) | (simp; omega))
  | ((with_reducible refine' x_listL ?h ?_); case h => walk_at "sl")
  | ((with_reducible refine' x_listT ?h ?_); case h => walk_at "st")
  | ((with_reducible refine' x_mulI ?h ?_); case h => first | exact .inl ⟨by decide, by decide⟩ | exact .inr ⟨by decide, by decide⟩ | exact .inl ⟨by omega, by omega⟩ | exact .inr ⟨by omega, by omega⟩)
  | ((with_reducible refine' x_divI ?h ?_); case h => first | exact ⟨by decide, by decide⟩ | exact ⟨by omega, by omega⟩)
  | ((with_reducible refine' x_powI ?h ?_); case h => exact ⟨by decide, by decide, by decide⟩)
  | ((with_reducible refine' x_ixL ?h ?h2 ?_); (case h => walk_at "sl"); (case h2 => first | rfl | assumption))
  | ((with_reducible refine' x_ixT ?h ?h2 ?_); (case h => walk_at "st"); (case h2 => first | rfl | assumption))
  | (with_reducible refine x_m1s ?_)
  | (with_reducible refine x_str1 ?_)
  | (with_reducible refine x_sl ?_)
  | (with_reducible refine x_noPart ?_)
  | (with_reducible refine x_part ?_)
  | (with_reducible refine x_exi ?_)
  | ((with_reducible refine' x_slS ?h ?_); case h => walk_at "sz")
  | ((with_reducible refine' x_slL ?h ?_); case h => walk_at "sl")
  | (with_reducible refine x_pairsC ?_)
  | (with_reducible refine x_pairsN ?_)
  | ((with_reducible refine' x_dgS ?h ?h2 ?_); (case h => walk_at "hf"); (case h2 => assumption))
  | ((with_reducible refine' x_srtT ?h ?h2 ?_); (case h => walk_at "st"); (case h2 => omega))
  | ((with_reducible refine' x_srtL ?h ?h2 ?_); (case h => walk_at "sl"); (case h2 => omega))
  | ((with_reducible refine' x_inLS ?h ?_); case h => walk_at "sl")
  | ((with_reducible refine' x_inTS ?h ?_); case h => walk_at "st")
  | ((with_reducible refine' x_ninLS ?h ?_); case h => walk_at "sl")
  | ((with_reducible refine' x_ninTS ?h ?_); case h => walk_at "st")
  | ((with_reducible refine' x_tyL ?h ?_); case h => walk_at "sl")
  | ((with_reducible refine' x_gtup ?h ?h2 ?_); (case h => walk_at "st"); (case h2 => rfl))
  | (with_reducible refine x_next ?_)
  | (with_reducible refine x_for ?_)
  | (with_reducible refine x_iList ?_)
  | (with_reducible refine x_iTup ?_)
  | (with_reducible refine x_iStr ?_)
  | (with_reducible refine x_iRng1 ?_)
  | (with_reducible refine x_iRng2 ?_)
  | (with_reducible refine x_lc ?_)
  | (with_reducible refine x_drop ?_)
  | (with_reducible refine x_retN ?_)
  | (with_reducible refine x_cont ?_)
  | (with_reducible refine x_break ?_)
  | (with_reducible refine x_cl ?_)
  | (with_reducible refine x_isN ?_)
  | (with_reducible refine x_notN ?_)
  | (with_reducible refine x_andV ?_)
  | (with_reducible refine x_orV ?_)
  | (with_reducible refine x_notV ?_)
  | (with_reducible refine x_ifE ?_)
  | (with_reducible refine x_addI ?_)
  | (with_reducible refine x_subI ?_)
  | (with_reducible refine x_ltI ?_)
  | (with_reducible refine x_leI ?_)
  | (with_reducible refine x_gtI ?_)
  | (with_reducible refine x_geI ?_)
  | (with_reducible refine x_ltS ?_)
  | (with_reducible refine x_abs ?_)
  | (with_reducible refine x_min2 ?_)
  | (with_reducible refine x_max2 ?_)
  | (with_reducible refine x_int1 ?_)
  | (with_reducible refine x_notInS ?_)
  | ((with_reducible refine' x_eq ?h ?_); case h => rfl)
  | ((with_reducible refine' x_ne ?h ?_); case h => rfl)
  | ((with_reducible refine' x_modI ?h ?_); case h => first | decide | omega)
  | ((with_reducible refine' x_isiD ?h1 ?h2 ?h3 ?_); (case h1 => assumption); (case h2 => walk_at "rp"); (case h3 => decide))
  | ((with_reducible refine' x_lenS ?h ?_); case h => walk_at "sz")
  | ((with_reducible refine' x_lenL ?h ?_); case h => walk_at "sl")
  | ((with_reducible refine' x_lenT ?h ?_); case h => walk_at "st")
  | ((with_reducible refine' x_lenD ?h ?_); case h => walk_at "hf")
  | fail)
local macro_rules | `(tactic| walk_at "sx") => `(tactic| repeat walk_at "s1")
/-! ### methods of a group -/
def Grp.has (G : Grp) : D → Bool
  | .str x => decide (x ∈ G.names)
  | _ => false
theorem Thr.up {K : PySem.W.Frag} {B H B1 H1 : Hp} {E : XK} {c : Str} {fs : List (Str × V)} {M : List (Addr × HO)} (k : Thr K B H E c fs) (hs : HS [] B H B1 H1 M) : Thr K B1 H1 E c fs := fun B' H' d c h1 h2 => k B' H' d (hs.call c).all h1 h2
/-- an error in a caller's frame -/
def ThrW (K : PySem.W.Frag) (S : List Addr) (B0 H0 B : Hp) (M : List (Addr × HO)) (E : XK) (c : Str) (fs : List (Str × V)) : Prop := ∀ B' H' d, Same B B' → HS S B0 H0 B' H' M → B' d = none → H' d = some (.xd fs) → E (.ref (He.ga K c)) (some d) H'
theorem ThrW.thr {K : PySem.W.Frag} {S : List Addr} {B0 H0 B H : Hp} {M : List (Addr × HO)} {E : XK} {c : Str} {fs : List (Str × V)} (k : ThrW K S B0 H0 B M E c fs) (hs : HS S B0 H0 B H M) : Thr K B H E c fs := fun B' H' d c h1 h2 => k B' H' d c.bb (hs.call c) h1 h2
theorem Thr.w {K : PySem.W.Frag} {B H B1 : Hp} {E : XK} {c : Str} {fs : List (Str × V)} {M : List (Addr × HO)} (k : Thr K B H E c fs) : ThrW K [] B H B1 M E c fs := fun B' H' d _ c h1 h2 => k B' H' d c.all h1 h2
abbrev N_Group_check : List Str := ["self", "a"]
def t_Group_check (K : PySem.W.Frag) (E : XK) : TS := (tIfS (tOr (tNot (tB (tCB (rIsi K) (tCons (tVar 1) (tCons (tC (.ty "str")) tNil))))) (tB (tDNotIn (tVar 1) (tFld K (tVar 0) "lists")))) (tRz1 (He.ga K "NoPerson") "value" (tVar 1) (WE0 E)) tNext)
def sp_Group_check (K : PySem.W.Frag) : Sp := fun vs H Q E => ∃ p v B G d, vs = [.ref p, v] ∧ Same B H ∧ GAt K B p G ∧ Rep K B v d ∧ (G.has d = true → Ret B H Q fun _ r => r = .non) ∧ (G.has d = false → Thr K B H E "NoPerson" [("value", v)])
theorem pure_Group_check {K : PySem.W.Frag} (gk : GK K) {vs : List V} {H : Hp} {Q : VK} {E : XK} (h : sp_Group_check K vs H Q E) : t_Group_check K E { nx := fun _ H' => Q .non H', rt := Q } (start N_Group_check vs) H := by
  obtain ⟨p, v, B, G, d, rfl, sB, g, r, k, ke⟩ := h
  have hs := HS.start sB
  show t_Group_check K E _ [some (.ref p), some v] H
  unfold t_Group_check
  obtain ⟨⟨dx, n, l, m, q, h1, h2, h3, h4, h5⟩, ok⟩ := g
  walk_at "sx"
  cases r with
  | @str x hx =>
    refine x_ite (fun h => by simp [D.isT] at h) (fun _ => ?_)
    walk_at "sx"
    refine x_fld (hs.up h1) gk.cl gk.nl (gf_lists n l m q) ?_
    obtain ⟨kvs, el, hk⟩ := h3.has ok.nd x
    walk_at "sx"
    rw [hk]
    refine x_ite (fun h => ?_) (fun h => ?_)
    · walk_at "sx"
      exact x_thr hs (ke (by simpa [Grp.has] using h))
    · exact k (by simpa [Grp.has] using h) B H _ hs rfl
  | _ =>
    refine x_ite (fun h => ?_) (fun h => by simp [D.isT] at h)
    walk_at "sx"
    exact x_thr hs (ke rfl)
theorem use_check {K : PySem.W.Frag} {S : List Addr} {B0 H0 B H : Hp} {M : List (Addr × HO)} {Q : VK} {E : XK} {p : Addr} {v : V} {G : Grp} {d : D} (hs : HS S B0 H0 B H M) (g : GAt K B p G) (r : Rep K B v d)
    (k : G.has d = true → ∀ B' H', Same B B' → HS S B0 H0 B' H' M → Q .non H') (ke : G.has d = false → ThrW K S B0 H0 B M E "NoPerson" [("value", v)]) : sp_Group_check K [.ref p, v] H Q E :=
  ⟨p, v, B, G, d, rfl, hs.bh, g, r, fun h B' H' v' c e => by rw [e]; exact k h B' H' c.bb (hs.call c), fun h => (ke h).thr hs⟩
theorem has_str {G : Grp} {d : D} (h : G.has d = true) : ∃ x, d = .str x ∧ x ∈ G.names := by
  cases d with
  | str x => exact ⟨x, rfl, of_decide_eq_true h⟩
  | _ => cases h
theorem rep_str {K : PySem.W.Frag} {B : Hp} {v : V} {x : Str} (r : Rep K B v (.str x)) : v = .str x := by cases r; rfl
abbrev N_Group_wishes : List Str := ["self", "a"]
def t_Group_wishes (K : PySem.W.Frag) (E : XK) : TS := (tSeq (tDrop (tMt (He.ga K "Group") "check" (sp_Group_check K) (WE0 E) (tVar 0) (tCons (tVar 1) tNil)))
  (tRet (tCB (rListOf K) (tCons (tDGet (tFld K (tVar 0) "lists") (tVar 1)) tNil))))
def sp_Group_wishes (K : PySem.W.Frag) : Sp := fun vs H Q E => ∃ p v B G d, vs = [.ref p, v] ∧ Same B H ∧ GAt K B p G ∧ Rep K B v d ∧ (∀ x, d = .str x → x ∈ G.names → ∀ B' H' l, HS [] B H B' H' [(l, .lst ((G.wish x).map V.str))] → Q (.ref l) H') ∧ (G.has d = false → Thr K B H E "NoPerson" [("value", v)])
theorem pure_Group_wishes {K : PySem.W.Frag} (gk : GK K) {vs : List V} {H : Hp} {Q : VK} {E : XK} (h : sp_Group_wishes K vs H Q E) : t_Group_wishes K E { nx := fun _ H' => Q .non H', rt := Q } (start N_Group_wishes vs) H := by
  obtain ⟨p, v, B, G, d, rfl, sB, g, r, k, ke⟩ := h
  have hs := HS.start sB
  show t_Group_wishes K E _ [some (.ref p), some v] H
  unfold t_Group_wishes
  obtain ⟨dx0, n0, l0, m0, q0, hg0⟩ := g.ins
  walk_at "sx"
  refine x_mt (hs.up hg0) (gf_no (by decide +kernel)) ?_
  walk_at "sx"
  refine use_check hs g r (fun hh B1 H1 sb1 hs1 => ?_) (fun hh => (ke hh).w)
  obtain ⟨x, rfl, hx⟩ := has_str hh
  cases rep_str r
  obtain ⟨⟨dx, n, l, m, q, h1, h2, h3, h4, h5⟩, ok⟩ := g.mono sb1
  obtain ⟨kvs, a, ed, ev, ea⟩ := h3.get ok.nd hx
  have ea : B1 a = some (.lst ((G.wish x).map V.str)) := ea
  walk_at "sx"
  refine x_fld (hs1.up h1) gk.cl gk.nl (gf_lists n l m q) ?_
  walk_at "sx"
  try refine x_listL (SqL.of (hs1.up ea)) ?_
  refine new_M hs1 (fun r H2 hs2 _ => k x rfl hx B1 H2 r hs2)
abbrev N_Group_open_to : List Str := ["self", "a"]
def t_Group_open_to (K : PySem.W.Frag) (E : XK) : TS := (tSeq (tDrop (tMt (He.ga K "Group") "check" (sp_Group_check K) (WE0 E) (tVar 0) (tCons (tVar 1) tNil)))
  (tRet (tCB (rListOf K) (tCons (tDGet (tFld K (tVar 0) "mutual") (tVar 1)) tNil))))
def sp_Group_open_to (K : PySem.W.Frag) : Sp := fun vs H Q E => ∃ p v B G d, vs = [.ref p, v] ∧ Same B H ∧ GAt K B p G ∧ Rep K B v d ∧ (∀ x, d = .str x → x ∈ G.names → ∀ B' H' l, HS [] B H B' H' [(l, .lst ((G.open x).map V.str))] → Q (.ref l) H') ∧ (G.has d = false → Thr K B H E "NoPerson" [("value", v)])
theorem pure_Group_open_to {K : PySem.W.Frag} (gk : GK K) {vs : List V} {H : Hp} {Q : VK} {E : XK} (h : sp_Group_open_to K vs H Q E) : t_Group_open_to K E { nx := fun _ H' => Q .non H', rt := Q } (start N_Group_open_to vs) H := by
  obtain ⟨p, v, B, G, d, rfl, sB, g, r, k, ke⟩ := h
  have hs := HS.start sB
  show t_Group_open_to K E _ [some (.ref p), some v] H
  unfold t_Group_open_to
  obtain ⟨dx0, n0, l0, m0, q0, hg0⟩ := g.ins
  walk_at "sx"
  refine x_mt (hs.up hg0) (gf_no (by decide +kernel)) ?_
  walk_at "sx"
  refine use_check hs g r (fun hh B1 H1 sb1 hs1 => ?_) (fun hh => (ke hh).w)
  obtain ⟨x, rfl, hx⟩ := has_str hh
  cases rep_str r
  obtain ⟨⟨dx, n, l, m, q, h1, h2, h3, h4, h5⟩, ok⟩ := g.mono sb1
  obtain ⟨kvs, a, ed, ev, ea⟩ := h4.get ok.nd hx
  have ea : B1 a = some (.lst ((G.open x).map V.str)) := ea
  walk_at "sx"
  refine x_fld (hs1.up h1) gk.cl gk.nm (gf_mutual n l m q) ?_
  walk_at "sx"
  try refine x_listL (SqL.of (hs1.up ea)) ?_
  refine new_M hs1 (fun r H2 hs2 _ => k x rfl hx B1 H2 r hs2)
abbrev N_Group___getitem__ : List Str := ["self", "a"]
def t_Group___getitem__ (K : PySem.W.Frag) (E : XK) : TS := (tSeq (tIfS (tOr (tNot (tB (tCB (rIsi K) (tCons (tVar 1) (tCons (tC (.ty "str")) tNil))))) (tB (tDNotIn (tVar 1) (tFld K (tVar 0) "lists")))) (tRz1 (He.ga K "NoPerson") "value" (tVar 1) (WE0 E)) tNext)
  (tRet (tCB (rListOf K) (tCons (tDGet (tFld K (tVar 0) "mutual") (tVar 1)) tNil))))
def sp_Group___getitem__ (K : PySem.W.Frag) : Sp := sp_Group_open_to K
theorem pure_Group___getitem__ {K : PySem.W.Frag} (gk : GK K) {vs : List V} {H : Hp} {Q : VK} {E : XK} (h : sp_Group___getitem__ K vs H Q E) : t_Group___getitem__ K E { nx := fun _ H' => Q .non H', rt := Q } (start N_Group___getitem__ vs) H := by
  obtain ⟨p, v, B, G, d, rfl, sB, g, r, k, ke⟩ := h
  have hs := HS.start sB
  show t_Group___getitem__ K E _ [some (.ref p), some v] H
  unfold t_Group___getitem__
  obtain ⟨⟨dx, n, l, m, q, h1, h2, h3, h4, h5⟩, ok⟩ := g
  walk_at "sx"
  cases r with
  | @str x hx =>
    refine x_ite (fun h => by simp [D.isT] at h) (fun _ => ?_)
    walk_at "sx"
    refine x_fld (hs.up h1) gk.cl gk.nl (gf_lists n l m q) ?_
    obtain ⟨kvs, el, hk⟩ := h3.has ok.nd x
    walk_at "sx"
    rw [hk]
    refine x_ite (fun h => ?_) (fun h => ?_)
    · walk_at "sx"
      exact x_thr hs (ke (by simpa [Grp.has] using h))
    · have hxm : x ∈ G.names := by simpa using h
      obtain ⟨kvs, a, ed, ev, ea⟩ := h4.get ok.nd hxm
      have ea : B a = some (.lst ((G.open x).map V.str)) := ea
      walk_at "sx"
      refine x_fld (hs.up h1) gk.cl gk.nm (gf_mutual n l m q) ?_
      walk_at "sx"
      try refine x_listL (SqL.of (hs.up ea)) ?_
      exact new_M hs (fun r H2 hs2 _ => k x rfl hxm B H2 r hs2)
  | _ =>
    refine x_ite (fun h => ?_) (fun h => by simp [D.isT] at h)
    walk_at "sx"
    exact x_thr hs (ke rfl)
theorem use_open_to {K : PySem.W.Frag} {S : List Addr} {B0 H0 B H : Hp} {M : List (Addr × HO)} {Q : VK} {E : XK} {p : Addr} {v : V} {G : Grp} {d : D} (hs : HS S B0 H0 B H M) (g : GAt K B p G) (r : Rep K B v d)
    (k : ∀ x, d = .str x → x ∈ G.names → ∀ B' H' l, Same B B' → HS S B0 H0 B' H' ((l, .lst ((G.open x).map V.str)) :: M) → Q (.ref l) H') (ke : G.has d = false → ThrW K S B0 H0 B M E "NoPerson" [("value", v)]) : sp_Group_open_to K [.ref p, v] H Q E :=
  ⟨p, v, B, G, d, rfl, hs.bh, g, r, fun x e hx B' H' l c => k x e hx B' H' l c.bb (hs.callN c), fun h => (ke h).thr hs⟩
theorem use_wishes {K : PySem.W.Frag} {S : List Addr} {B0 H0 B H : Hp} {M : List (Addr × HO)} {Q : VK} {E : XK} {p : Addr} {v : V} {G : Grp} {d : D} (hs : HS S B0 H0 B H M) (g : GAt K B p G) (r : Rep K B v d)
    (k : ∀ x, d = .str x → x ∈ G.names → ∀ B' H' l, Same B B' → HS S B0 H0 B' H' ((l, .lst ((G.wish x).map V.str)) :: M) → Q (.ref l) H') (ke : G.has d = false → ThrW K S B0 H0 B M E "NoPerson" [("value", v)]) : sp_Group_wishes K [.ref p, v] H Q E :=
  ⟨p, v, B, G, d, rfl, hs.bh, g, r, fun x e hx B' H' l c => k x e hx B' H' l c.bb (hs.callN c), fun h => (ke h).thr hs⟩
end Q

set_option Elab.async false
set_option linter.all false
set_option maxRecDepth 100000
set_option maxHeartbeats 4000000
namespace Q
open PySem PySem.Spec PyProof.Rows L2
local macro_rules | `(tactic| walk_at "bf") => `(tactic| first | assumption | (refine' bstep (by assumption) ?r; case r => walk_at "bf") | fail)
local macro_rules | `(tactic| walk_at "rp") => `(tactic| first | assumption | exact Rep.int _ | exact Rep.bl _ | exact Rep.non | (refine' Rep.mono (by assumption) ?r; case r => walk_at "rp") | fail)
local macro_rules | `(tactic| walk_at "hf") => `(tactic| first | assumption | exact HS.up (by assumption) (by walk_at "bf") | exact HS.get (by assumption) List.mem_cons_self | exact HS.get (by assumption) (List.mem_cons_of_mem _ List.mem_cons_self) | exact HS.get (by assumption) (List.mem_cons_of_mem _ (List.mem_cons_of_mem _ List.mem_cons_self)) | exact HS.get (by assumption) (List.mem_cons_of_mem _ (List.mem_cons_of_mem _ (List.mem_cons_of_mem _ List.mem_cons_self))) | fail)
local macro_rules | `(tactic| walk_at "sl") => `(tactic| first | assumption | exact SqL.of (by walk_at "hf") | fail)
local macro_rules | `(tactic| walk_at "st") => `(tactic| first | assumption | exact SqT.of (by walk_at "hf") | fail)
local macro_rules | `(tactic| walk_at "sz") => `(tactic| first | assumption | (refine small_le ?_; first | assumption | omega | (simp; done) | (simp; omega)) | fail)
local macro_rules | `(tactic| walk_at "s1") => `(tactic| first
  | (with_reducible refine x_seq ?_)
  | (with_reducible refine x_asg ?_)
  | ((with_reducible refine x_gname ?_); try simp only [List.set_cons_zero, List.set_cons_succ])
  | ((with_reducible refine' x_var ?h ?_); case h => rfl)
  | (with_reducible refine x_c ?_)
  | (with_reducible refine x_op ?_)
  | (with_reducible refine x_ret ?_)
  | (with_reducible refine x_if ?_)
  | (with_reducible refine x_and ?_)
  | (with_reducible refine x_or ?_)
  | (with_reducible refine x_not ?_)
  | (with_reducible refine x_test ?_)
  | (with_reducible refine x_tB ?_)
  | (with_reducible refine x_tr ?_)
  | (with_reducible refine x_cb ?_)
  | (with_reducible refine x_cons ?_)
  | (with_reducible refine x_nil ?_)
  | (with_reducible refine x_exb ?_)
  | (with_reducible refine x_tt _ _ ?_)
  | (with_reducible refine x_ff _ _ ?_)
  | (with_reducible refine x_dget ?_)
  | (with_reducible refine x_din ?_)
  | (with_reducible refine x_dnin ?_)
  | (with_reducible refine x_dputU ?_)
  | (with_reducible refine x_dnew ?_)
  | (with_reducible refine x_bm ?_)
  | (with_reducible refine x_bm0 ?_)
  | (with_reducible refine x_gsub ?_)
  | (with_reducible refine x_fldU ?_)
  | (with_reducible refine x_sfldU ?_)
  | (with_reducible refine x_gcons ?_)
  | (with_reducible refine x_gnil ?_)
  | (with_reducible refine x_rz1 ?_)
  | (with_reducible refine x_rz2 ?_)
  | (with_reducible refine x_tryAs ?_)
  | (with_reducible refine x_tryOnly ?_)
  | (with_reducible refine x_mtU ?_)
  | (with_reducible refine x_mk ?_)
  | (with_reducible refine x_yes ?_)
  | (with_reducible refine x_un ?_)
  | (with_reducible refine x_neg ?_)
  | (with_reducible refine x_iEnum ?_)
  | (with_reducible refine x_iEnumT ?_)
  | (with_reducible refine x_lst ?_)
  | (with_reducible refine x_tup ?_)
  | (with_reducible refine x_dc ?_)
  | ((with_reducible refine' x_dinO ?h ?_); case h => walk_at "hf")
  | ((with_reducible refine' x_newL ?h ?_); case h => first | exact Nat.zero_le _ | (simp; done) | (simp; omega))
  | ((with_reducible refine' x_newT ?h ?_); case h => first | exact Nat.zero_le _ | (simp; done) | (simp; omega))
  | ((with_reducible refine' x_listL ?h ?_); case h => walk_at "sl")
  | ((with_reducible refine' x_listT ?h ?_); case h => walk_at "st")
  | ((with_reducible refine' x_mulI ?h ?_); case h => first | exact .inl ⟨by decide, by decide⟩ | exact .inr ⟨by decide, by decide⟩ | exact .inl ⟨by omega, by omega⟩ | exact .inr ⟨by omega, by omega⟩)
  | ((with_reducible refine' x_divI ?h ?_); case h => first | exact ⟨by decide, by decide⟩ | exact ⟨by omega, by omega⟩)
  | ((with_reducible refine' x_powI ?h ?_); case h => exact ⟨by decide, by decide, by decide⟩)
  | ((with_reducible refine' x_ixL ?h ?h2 ?_); (case h => walk_at "sl"); (case h2 => first | rfl | assumption))
  | ((with_reducible refine' x_ixT ?h ?h2 ?_); (case h => walk_at "st"); (case h2 => first | rfl | assumption))
  | (with_reducible refine x_m1s ?_)
  | (with_reducible refine x_str1 ?_)
  | (with_reducible refine x_sl ?_)
  | (with_reducible refine x_noPart ?_)
  | (with_reducible refine x_part ?_)
  | (with_reducible refine x_exi ?_)
  | ((with_reducible refine' x_slS ?h ?_); case h => walk_at "sz")
  | ((with_reducible refine' x_slL ?h ?_); case h => walk_at "sl")
  | (with_reducible refine x_pairsC ?_)
  | (with_reducible refine x_pairsN ?_)
  | ((with_reducible refine' x_dgS ?h ?h2 ?_); (case h => walk_at "hf"); (case h2 => assumption))
  | ((with_reducible refine' x_srtT ?h ?h2 ?_); (case h => walk_at "st"); (case h2 => omega))
  | ((with_reducible refine' x_srtL ?h ?h2 ?_); (case h => walk_at "sl"); (case h2 => omega))
  | ((with_reducible refine' x_inLS ?h ?_); case h => walk_at "sl")
  | ((with_reducible refine' x_inTS ?h ?_); case h => walk_at "st")
  | ((with_reducible refine' x_ninLS ?h ?_); case h => walk_at "sl")
  | ((with_reducible refine' x_ninTS ?h ?_); case h => walk_at "st")
  | ((with_reducible refine' x_tyL ?h ?_); case h => walk_at "sl")
  | ((with_reducible refine' x_gtup ?h ?h2 ?_); (case h => walk_at "st"); (case h2 => rfl))
  | (with_reducible refine x_next ?_)
  | (with_reducible refine x_for ?_)
  | (with_reducible refine x_iList ?_)
  | (with_reducible refine x_iTup ?_)
  | (with_reducible refine x_iStr ?_)
  | (with_reducible refine x_iRng1 ?_)
  | (with_reducible refine x_iRng2 ?_)
  | (with_reducible refine x_lc ?_)
  | (with_reducible refine x_drop ?_)
  | (with_reducible refine x_retN ?_)
  | (with_reducible refine x_cont ?_)
  | (with_reducible refine x_break ?_)
  | (with_reducible refine x_cl ?_)
  | (with_reducible refine x_isN ?_)
  | (with_reducible refine x_notN ?_)
  | (with_reducible refine x_andV ?_)
  | (with_reducible refine x_orV ?_)
  | (with_reducible refine x_notV ?_)
  | (with_reducible refine x_ifE ?_)
  | (with_reducible refine x_addI ?_)
  | (with_reducible refine x_subI ?_)
  | (with_reducible refine x_ltI ?_)
  | (with_reducible refine x_leI ?_)
  | (with_reducible refine x_gtI ?_)
  | (with_reducible refine x_geI ?_)
  | (with_reducible refine x_ltS ?_)
  | (with_reducible refine x_abs ?_)
  | (with_reducible refine x_min2 ?_)
  | (with_reducible refine x_max2 ?_)
  | (with_reducible refine x_int1 ?_)
  | (with_reducible refine x_notInS ?_)
  | ((with_reducible refine' x_eq ?h ?_); case h => rfl)
  | ((with_reducible refine' x_ne ?h ?_); case h => rfl)
  | ((with_reducible refine' x_modI ?h ?_); case h => first | decide | omega)
  | ((with_reducible refine' x_isiD ?h1 ?h2 ?h3 ?_); (case h1 => assumption); (case h2 => walk_at "rp"); (case h3 => decide))
  | ((with_reducible refine' x_lenS ?h ?_); case h => walk_at "sz")
  | ((with_reducible refine' x_lenL ?h ?_); case h => walk_at "sl")
  | ((with_reducible refine' x_lenT ?h ?_); case h => walk_at "st")
  | ((with_reducible refine' x_lenD ?h ?_); case h => walk_at "hf")
  | fail)
local macro_rules | `(tactic| walk_at "sx") => `(tactic| repeat walk_at "s1")
/-! ### rank, pairs, in -/
theorem enumK_val {row : List Str} {b : Str} {i : Nat} (nd : row.Nodup) (h : row[i]? = some b) : valV (enumK row) (.inr b) = some (.int (i : Nat)) := by
  have key : ∀ (row : List Str) (n i : Nat), row.Nodup → row[i]? = some b → valV ((row.zipIdx n).map fun q => ((.inr q.1 : Key), V.int (q.2 : Nat))) (.inr b) = some (.int ((n + i : Nat) : Int)) := by
    intro row
    induction row with
    | nil => intro n i _ h; simp at h
    | cons x r ih =>
      intro n i nd h
      rw [List.nodup_cons] at nd
      rw [List.zipIdx_cons, List.map_cons]
      cases i with
      | zero =>
        have e : x = b := by simpa using h
        subst e
        exact valV_pos (p := ((Sum.inr x : Key), V.int ((n : Nat) : Int))) rfl
      | succ i =>
        have h : r[i]? = some b := by simpa using h
        have hne : ¬ (Sum.inr x : Key) = Sum.inr b := fun z => nd.1 (by rw [Sum.inr.inj z]; exact List.mem_of_getElem? h)
        rw [valV_neg (p := ((Sum.inr x : Key), V.int ((n : Nat) : Int))) hne, ih (n + 1) i nd.2 h]
        congr 2
        omega
  have := key row 0 i nd h
  rw [Nat.zero_add] at this
  exact this
theorem enumK_no {row : List Str} {b : Str} (h : b ∉ row) : valV (enumK row) (.inr b) = none := valV_none_keys (by
  rw [enumK_keys]
  intro z
  obtain ⟨y, hy, e⟩ := List.mem_map.mp z
  exact h (by rw [← Sum.inr.inj e]; exact hy))
theorem enumK_has {row : List Str} (nd : row.Nodup) (b : Str) : (valV (enumK row) (.inr b)).isSome = decide (b ∈ row) := by
  by_cases h : b ∈ row
  · obtain ⟨i, hi, e⟩ := List.getElem_of_mem h
    rw [enumK_val nd (show row[i]? = some b by rw [List.getElem?_eq_getElem hi, e]), decide_eq_true h]
    rfl
  · rw [enumK_no h, decide_eq_false h]
    rfl
theorem Grp.Ok.ond {G : Grp} (ok : G.Ok) {x : Str} (h : x ∈ G.names) : (G.open x).Nodup := (ok.wn x h).filter _
theorem Grp.Ok.olen {G : Grp} (ok : G.Ok) {x : Str} (h : x ∈ G.names) : (G.open x).length ≤ 16 := by
  have h1 : (G.open x).length ≤ (G.wish x).length := List.length_filter_le _ _
  have h2 := nodup_len (ok.wn x h) (ok.wi x h)
  have := ok.few
  omega
theorem Grp.Ok.oin {G : Grp} (ok : G.Ok) {x y : Str} (h : x ∈ G.names) (m : y ∈ G.open x) : y ∈ G.names := ok.wi x h y (List.mem_filter.mp m).1
abbrev N_Group_rank : List Str := ["self", "a", "b"]
def t_Group_rank (K : PySem.W.Frag) (E : XK) : TS := (tSeq (tDrop (tMt (He.ga K "Group") "check" (sp_Group_check K) (WE0 E) (tVar 0) (tCons (tVar 1) tNil)))
  (tSeq (tDrop (tMt (He.ga K "Group") "check" (sp_Group_check K) (WE0 E) (tVar 0) (tCons (tVar 2) tNil)))
  (tSeq (tIfS (tB (tDNotIn (tVar 2) (tDGet (tFld K (tVar 0) "places") (tVar 1)))) (tRz2 (He.ga K "NotOpen") "one" "other" (tVar 1) (tVar 2) (WE0 E)) tNext)
  (tRet (tDGet (tDGet (tFld K (tVar 0) "places") (tVar 1)) (tVar 2))))))
def sp_Group_rank (K : PySem.W.Frag) : Sp := fun vs H Q E => ∃ p v u B G d e, vs = [.ref p, v, u] ∧ Same B H ∧ GAt K B p G ∧ Rep K B v d ∧ Rep K B u e ∧ (G.has d = false → Thr K B H E "NoPerson" [("value", v)]) ∧ (G.has d = true → G.has e = false → Thr K B H E "NoPerson" [("value", u)]) ∧
  ∀ x y, d = .str x → x ∈ G.names → e = .str y → y ∈ G.names → (y ∉ G.open x → Thr K B H E "NotOpen" [("other", u), ("one", v)]) ∧ ∀ i : Nat, (G.open x)[i]? = some y → Ret B H Q fun _ r => r = .int (i : Nat)
theorem pure_Group_rank {K : PySem.W.Frag} (gk : GK K) {vs : List V} {H : Hp} {Q : VK} {E : XK} (h : sp_Group_rank K vs H Q E) : t_Group_rank K E { nx := fun _ H' => Q .non H', rt := Q } (start N_Group_rank vs) H := by
  obtain ⟨p, v, u, B, G, d, e, rfl, sB, g, r, re, k1, k2, k3⟩ := h
  have hs := HS.start sB
  show t_Group_rank K E _ [some (.ref p), some v, some u] H
  unfold t_Group_rank
  obtain ⟨dx0, n0, l0, m0, q0, hg0⟩ := g.ins
  walk_at "sx"
  refine x_mt (hs.up hg0) (gf_no (by decide +kernel)) ?_
  walk_at "sx"
  refine use_check hs g r (fun hh B1 H1 sb1 hs1 => ?_) (fun hh => (k1 hh).w)
  walk_at "sx"
  refine x_mt (hs1.up (sb1 _ _ hg0)) (gf_no (by decide +kernel)) ?_
  walk_at "sx"
  refine use_check hs1 (g.mono sb1) (re.mono sb1) (fun hh2 B2 H2 sb2 hs2 => ?_) (fun hh2 => (k2 hh hh2).w)
  obtain ⟨x, rfl, hx⟩ := has_str hh
  obtain ⟨y, rfl, hy⟩ := has_str hh2
  cases rep_str r
  cases rep_str re
  obtain ⟨k4, k5⟩ := k3 x y rfl hx rfl hy
  obtain ⟨⟨dx, n, l, m, q, h1, h2, h3, h4, h5⟩, ok⟩ := (g.mono sb1).mono sb2
  obtain ⟨kvs, a, ed, ev, ea⟩ := h5.get ok.nd hx
  have ea : B2 a = some (.dK (enumK (G.open x))) := ea
  walk_at "sx"
  refine x_fld (hs2.up h1) gk.cl gk.np (gf_places n l m q) ?_
  walk_at "sx"
  rw [enumK_has (ok.ond hx)]
  refine x_ite (fun h => ?_) (fun h => ?_)
  · walk_at "sx"
    exact x_thr hs2 (k4 (by simpa using h))
  · have hym : y ∈ G.open x := by simpa using h
    obtain ⟨i, hi, ei⟩ := List.getElem_of_mem hym
    have ei : (G.open x)[i]? = some y := by rw [List.getElem?_eq_getElem hi, ei]
    have hval := enumK_val (ok.ond hx) ei
    walk_at "sx"
    refine x_fld (hs2.up h1) gk.cl gk.np (gf_places n l m q) ?_
    walk_at "sx"
    exact k5 i ei B2 H2 _ hs2 rfl
theorem use_rank {K : PySem.W.Frag} {S : List Addr} {B0 H0 B H : Hp} {M : List (Addr × HO)} {Q : VK} {E : XK} {p : Addr} {v u : V} {G : Grp} {d e : D} (hs : HS S B0 H0 B H M) (g : GAt K B p G) (r : Rep K B v d) (re : Rep K B u e)
    (k1 : G.has d = false → ThrW K S B0 H0 B M E "NoPerson" [("value", v)]) (k2 : G.has d = true → G.has e = false → ThrW K S B0 H0 B M E "NoPerson" [("value", u)])
    (k3 : ∀ x y, d = .str x → x ∈ G.names → e = .str y → y ∈ G.names → (y ∉ G.open x → ThrW K S B0 H0 B M E "NotOpen" [("other", u), ("one", v)]) ∧ ∀ i : Nat, (G.open x)[i]? = some y → ∀ B' H', Same B B' → HS S B0 H0 B' H' M → Q (.int (i : Nat)) H') : sp_Group_rank K [.ref p, v, u] H Q E :=
  ⟨p, v, u, B, G, d, e, rfl, hs.bh, g, r, re, fun h => (k1 h).thr hs, fun h1 h2 => (k2 h1 h2).thr hs, fun x y e1 hx e2 hy => ⟨fun h => ((k3 x y e1 hx e2 hy).1 h).thr hs, fun i hi B' H' v' c ev => by rw [ev]; exact (k3 x y e1 hx e2 hy).2 i hi B' H' c.bb (hs.call c)⟩⟩
/-! ### rows of tuples of texts -/
inductive TRs (B : Hp) : List V → List (List Str) → Prop
  | nil : TRs B [] []
  | cons {t : Addr} {k : List Str} {vs : List V} {ks : List (List Str)} : B t = some (.tup (k.map V.str)) → TRs B vs ks → TRs B (.ref t :: vs) (k :: ks)
theorem TRs.mono {B B' : Hp} (s : Same B B') : ∀ {vs : List V} {ks : List (List Str)}, TRs B vs ks → TRs B' vs ks
  | _, _, .nil => .nil
  | _, _, .cons h r => .cons (s _ _ h) (TRs.mono s r)
theorem TRs.snoc {B : Hp} {t : Addr} {k : List Str} (h : B t = some (.tup (k.map V.str))) : ∀ {vs : List V} {ks : List (List Str)}, TRs B vs ks → TRs B (vs ++ [.ref t]) (ks ++ [k])
  | _, _, .nil => .cons h .nil
  | _, _, .cons a r => .cons a (TRs.snoc h r)
theorem TRs.len {B : Hp} : ∀ {vs : List V} {ks : List (List Str)}, TRs B vs ks → vs.length = ks.length
  | _, _, .nil => rfl
  | _, _, .cons _ r => by simp [TRs.len r]
theorem TRs.dp {K : PySem.W.Frag} {B H : Hp} (s : Same B H) : ∀ {vs : List V} {ks : List (List Str)}, TRs B vs ks → DpAll K H vs (ks.map fun k => PyData.tuple (k.map PyData.str))
  | _, _, .nil => .nil
  | _, _, .cons h r => .cons (.tup (SqT.of (s _ _ h)) (dp_strs _)) (TRs.dp s r)
theorem TRs.get {B : Hp} : ∀ {vs : List V} {ks : List (List Str)} {v : V}, TRs B vs ks → v ∈ vs → ∃ t k, v = .ref t ∧ B t = some (.tup (k.map V.str)) ∧ k ∈ ks
  | _, _, _, .nil, m => nomatch m
  | _, _, _, .cons h r, m => by
    rcases List.mem_cons.mp m with rfl | m
    · exact ⟨_, _, rfl, h, List.mem_cons_self⟩
    · obtain ⟨t, k, e, h1, h2⟩ := TRs.get r m
      exact ⟨t, k, e, h1, List.mem_cons_of_mem _ h2⟩
def Grp.prs (G : Grp) (a : Str) : List (List Str) := ((sortS (G.open a)).filter fun b => decide (a.cps.toList < b.cps.toList)).map fun b => [a, b]
def Grp.pairs (G : Grp) : List (List Str) := (sortS G.names).flatMap G.prs
theorem flatMap_take {α β : Type} {l : List α} {i : Nat} {x : α} (f : α → List β) (h : l[i]? = some x) : (l.take (i + 1)).flatMap f = (l.take i).flatMap f ++ f x := by
  rw [List.take_succ, h]
  simp
theorem prs_len (G : Grp) (a : Str) : (G.prs a).length ≤ (G.open a).length := by
  unfold Grp.prs
  rw [List.length_map]
  exact Nat.le_trans (List.length_filter_le _ _) (by rw [sortS_len]; exact Nat.le_refl _)
theorem flat_len {α β : Type} {f : α → List β} {n : Nat} : ∀ {l : List α}, (∀ x ∈ l, (f x).length ≤ n) → (l.flatMap f).length ≤ l.length * n
  | [], _ => by simp
  | x :: r, h => by
    rw [List.flatMap_cons, List.length_append, List.length_cons]
    have h1 := h x List.mem_cons_self
    have h2 := flat_len (l := r) fun y m => h y (List.mem_cons_of_mem _ m)
    rw [Nat.add_mul]
    omega
abbrev N_Group_pairs : List Str := ["self", "rows", "a", "b"]
def t_Group_pairs (K : PySem.W.Frag) (E : XK) : TS := (tSeq (tAsg (tLst tNil) (gName 1))
  (tSeq (tFor (iList K (tCB (rSortL K) (tCons (tFld K (tVar 0) "names") tNil))) (gName 2) (tFor (iList K (tCB (rSortL K) (tCons (tDGet (tFld K (tVar 0) "mutual") (tVar 2)) tNil))) (gName 3) (tIfS (tTest (tOp rLtS (tVar 2) (tVar 3))) (tDrop (tBM K "list" rAppend (tVar 1) (tCons (tTup (tCons (tVar 2) (tCons (tVar 3) tNil))) tNil))) tNext)))
  (tRet (tVar 1))))
def sp_Group_pairs (K : PySem.W.Frag) : Sp := fun vs H Q E => ∃ p B G, vs = [.ref p] ∧ Same B H ∧ GAt K B p G ∧ ∀ B' H' l vs, HS [] B H B' H' [(l, .lst vs)] → TRs B' vs G.pairs → Q (.ref l) H'
theorem pure_Group_pairs {K : PySem.W.Frag} (gk : GK K) {vs : List V} {H : Hp} {Q : VK} {E : XK} (h : sp_Group_pairs K vs H Q E) : t_Group_pairs K E { nx := fun _ H' => Q .non H', rt := Q } (start N_Group_pairs vs) H := by
  obtain ⟨p, B, G, rfl, sB, g, k⟩ := h
  have hs := HS.start sB
  show t_Group_pairs K E _ [some (.ref p), none, none, none] H
  unfold t_Group_pairs
  obtain ⟨⟨dx, n, l, m, q, h1, h2, h3, h4, h5⟩, ok⟩ := g
  have few := ok.few
  walk_at "sx"
  refine new_M hs (fun ro H1 hs1 _ => ?_)
  walk_at "sx"
  refine x_fld (hs1.up h1) gk.cl gk.nn (gf_names n l m q) ?_
  walk_at "sx"
  try refine x_srtL (SqL.of (hs1.up h2)) (by omega) ?_
  refine new_F hs1 (fun so B2 H2 hs2 sb2 e2 _ => ?_)
  refine ⟨so, rfl, ⟨_, SqL.of (hs2.up e2)⟩, ?_⟩
  refine l_list (α := List V × Option V × Option V) (σf := fun s => [some (.ref p), some (.ref ro), s.2.1, s.2.2]) (Mf := fun s => [(ro, .lst s.1)]) (P := fun i s B1 => TRs B1 s.1 (((sortS G.names).take i).flatMap G.prs)) (s0 := ([], none, none)) hs2 e2 .nil
    (fun i x s B3 H3 hi sb3 hs3 pp => ?_) (fun s B3 H3 sb3 hs3 pp => ?_)
  · obtain ⟨rows, s2, s3⟩ := s
    dsimp only at pp hs3 ⊢
    obtain ⟨a, ha, rfl⟩ := strs_get hi
    have ham : a ∈ G.names := mem_sortS.mp (List.mem_of_getElem? ha)
    have sb03 : Same B B3 := sb2.trans sb3
    obtain ⟨kvs, oa, ed, ev, eo⟩ := (h4.mono sb03 (R' := LAt B3 G.open) fun _ _ z => sb03 _ _ z).get ok.nd ham
    have eo : B3 oa = some (.lst ((G.open a).map V.str)) := eo
    have h1' := sb03 _ _ h1
    have ol := ok.olen ham
    walk_at "sx"
    refine x_fld (hs3.up h1') gk.cl gk.nm (gf_mutual n l m q) ?_
    walk_at "sx"
    try refine x_srtL (SqL.of (hs3.up eo)) (by omega) ?_
    refine new_F hs3 (fun so2 B4 H4 hs4 sb4 e4 _ => ?_)
    refine ⟨so2, rfl, ⟨_, SqL.of (hs4.up e4)⟩, ?_⟩
    refine l_list (α := List V × Option V) (σf := fun s => [some (.ref p), some (.ref ro), some (.str a), s.2]) (Mf := fun s => [(ro, .lst s.1)])
      (P := fun j s B1 => TRs B1 s.1 (((sortS G.names).take i).flatMap G.prs ++ (((sortS (G.open a)).take j).filter fun b => decide (a.cps.toList < b.cps.toList)).map fun b => [a, b])) (s0 := (rows, s3)) hs4 e4 (by simpa using pp.mono sb4)
      (fun j y s B5 H5 hj sb5 hs5 pp => ?_) (fun s B5 H5 sb5 hs5 pp => ?_)
    · obtain ⟨rows, s3⟩ := s
      dsimp only at pp hs5 ⊢
      obtain ⟨b, hb, rfl⟩ := strs_get hj
      have hjl : j < (sortS (G.open a)).length := (List.getElem?_eq_some_iff.mp hb).1
      rw [sortS_len] at hjl
      walk_at "sx"
      refine x_ite (fun h => ?_) (fun h => ?_)
      · walk_at "sx"
        try refine x_tyL (SqL.of (hs5.get List.mem_cons_self)) ?_
        walk_at "sx"
        refine new_F hs5 (fun t B6 H6 hs6 sb6 e6 _ => ?_)
        walk_at "sx"
        have hlen := pp.len
        rw [List.length_append] at hlen
        have l1 : (((sortS G.names).take i).flatMap G.prs).length ≤ ((sortS G.names).take i).length * 16 := flat_len fun z mz => Nat.le_trans (prs_len G z) (ok.olen (mem_sortS.mp (List.mem_of_mem_take mz)))
        have l2 : ((((sortS (G.open a)).take j).filter fun b => decide (a.cps.toList < b.cps.toList)).map fun b => [a, b]).length ≤ 16 := by
          rw [List.length_map]
          exact Nat.le_trans (List.length_filter_le _ _) (by rw [List.length_take]; omega)
        rw [List.length_take, sortS_len] at l1
        have l3 : min i G.names.length * 16 ≤ 256 := by
          have : min i G.names.length ≤ 16 := by omega
          omega
        refine x_append hs6 (by omega) (fun H7 hs7 => ?_)
        refine ⟨(rows ++ [.ref t], some _), B6, rfl, sb5.trans sb6, hs7, ?_⟩
        dsimp only
        rw [filter_take _ hb, if_pos h, List.map_append, ← List.append_assoc]
        exact (pp.mono sb6).snoc e6
      · walk_at "sx"
        refine ⟨(rows, some _), B5, rfl, sb5, hs5, ?_⟩
        dsimp only
        rw [filter_take _ hb, if_neg (by rw [h]; decide)]
        exact pp
    · obtain ⟨rows, s3⟩ := s
      dsimp only at pp hs5 ⊢
      rw [List.length_map, List.take_length] at pp
      refine ⟨(rows, some _, s3), B5, rfl, (sb3.trans sb4).trans sb5, hs5, ?_⟩
      dsimp only
      rw [flatMap_take _ ha]
      exact pp
  · obtain ⟨rows, s2, s3⟩ := s
    dsimp only at pp hs3 ⊢
    rw [List.length_map, List.take_length] at pp
    walk_at "sx"
    exact k B3 H3 ro rows hs3 pp
theorem use_pairs {K : PySem.W.Frag} {S : List Addr} {B0 H0 B H : Hp} {M : List (Addr × HO)} {Q : VK} {E : XK} {p : Addr} {G : Grp} (hs : HS S B0 H0 B H M) (g : GAt K B p G)
    (k : ∀ B' H' l vs, Same B B' → HS S B0 H0 B' H' ((l, .lst vs) :: M) → TRs B' vs G.pairs → Q (.ref l) H') : sp_Group_pairs K [.ref p] H Q E := ⟨p, B, G, rfl, hs.bh, g, fun B' H' l vs c h => k B' H' l vs c.bb (hs.callN c) h⟩
/-! ### x in group -/
def Grp.isin (G : Grp) : D → Bool
  | .str x => decide (x ∈ G.names)
  | .tup [.str x, .str y] => decide (x ∈ G.names) && decide (y ∈ G.open x)
  | _ => false
theorem isin_len {G : Grp} {ds : List D} (h : ds.length ≠ 2) : G.isin (.tup ds) = false := by
  unfold Grp.isin
  split
  · rename_i e; cases e
  · rename_i e; cases e; exact absurd rfl h
  · rfl
abbrev N_Group___contains__ : List Str := ["self", "value", "one", "other"]
def t_Group___contains__ (K : PySem.W.Frag) (E : XK) : TS := (tSeq (tIfS (tB (tCB (rIsi K) (tCons (tVar 1) (tCons (tC (.ty "str")) tNil)))) (tRet (tDIn (tVar 1) (tFld K (tVar 0) "lists"))) tNext)
  (tSeq (tIfS (tOr (tNot (tB (tCB (rIsi K) (tCons (tVar 1) (tCons (tC (.ty "tuple")) tNil))))) (tTest (tOp rNe (tCB (rLenA K) (tCons (tVar 1) tNil)) (tC (.int 2))))) (tRet (tC (.bl false))) tNext)
  (tSeq (tAsg (tVar 1) (gTup K 2 (gCons (gName 2) (gCons (gName 3) gNil))))
  (tSeq (tIfS (tOr (tNot (tB (tCB (rIsi K) (tCons (tVar 2) (tCons (tC (.ty "str")) tNil))))) (tOr (tNot (tB (tCB (rIsi K) (tCons (tVar 3) (tCons (tC (.ty "str")) tNil))))) (tB (tDNotIn (tVar 2) (tFld K (tVar 0) "lists"))))) (tRet (tC (.bl false))) tNext)
  (tRet (tDIn (tVar 3) (tDGet (tFld K (tVar 0) "places") (tVar 2))))))))
def sp_Group___contains__ (K : PySem.W.Frag) : Sp := fun vs H Q E => ∃ p v B G d, vs = [.ref p, v] ∧ Same B H ∧ GAt K B p G ∧ Rep K B v d ∧ Ret B H Q fun _ r => r = .bl (G.isin d)
theorem pure_Group___contains__ {K : PySem.W.Frag} (gk : GK K) {vs : List V} {H : Hp} {Q : VK} {E : XK} (h : sp_Group___contains__ K vs H Q E) : t_Group___contains__ K E { nx := fun _ H' => Q .non H', rt := Q } (start N_Group___contains__ vs) H := by
  obtain ⟨p, v, B, G, d, rfl, sB, g, r, k⟩ := h
  have hs := HS.start sB
  show t_Group___contains__ K E _ [some (.ref p), some v, none, none] H
  unfold t_Group___contains__
  obtain ⟨⟨dx, n, l, m, q, h1, h2, h3, h4, h5⟩, ok⟩ := g
  walk_at "sx"
  have r0 := r
  cases r with
  | @str x hx =>
    refine x_ite (fun _ => ?_) (fun h => by simp [D.isT] at h)
    walk_at "sx"
    refine x_fld (hs.up h1) gk.cl gk.nl (gf_lists n l m q) ?_
    obtain ⟨kvs, el, hk⟩ := h3.has ok.nd x
    walk_at "sx"
    rw [hk]
    exact k B H _ hs rfl
  | @tup a vs ds e r =>
    refine x_ite (fun h => by simp [D.isT] at h) (fun _ => ?_)
    have hl := r.length
    walk_at "sx"
    refine x_ite (fun h => by simp [D.isT] at h) (fun _ => ?_)
    walk_at "sx"
    refine x_ite (fun h => ?_) (fun h => ?_)
    · walk_at "sx"
      refine k B H _ hs (congrArg V.bl ?_)
      have h2 : ds.length ≠ 2 := fun z => by
        rw [hl, z] at h
        simp at h
      exact (isin_len h2).symm
    · have h2' : ds.length = 2 := by
        have h2 := of_decide_eq_true (Bool.not_eq_false' .. ▸ h)
        injection h2 with h2
        omega
      match ds, vs, r, h2', hl, e with
      | [d1, d2], [v1, v2], .cons r1 (.cons r2 .nil), _, _, e =>
        clear r0
        walk_at "sx"
        have fin : ∀ b, b = false → G.isin (.tup [d1, d2]) = false → Q (.bl b) H := fun b e1 e2 => k B H _ hs (by rw [e1, e2])
        cases r1 with
        | @str x hx =>
          refine x_ite (fun h => by simp [D.isT] at h) (fun _ => ?_)
          walk_at "sx"
          cases r2 with
          | @str y hy =>
            refine x_ite (fun h => by simp [D.isT] at h) (fun _ => ?_)
            walk_at "sx"
            refine x_fld (hs.up h1) gk.cl gk.nl (gf_lists n l m q) ?_
            obtain ⟨kvs, el, hk⟩ := h3.has ok.nd x
            walk_at "sx"
            rw [hk]
            refine x_ite (fun h => ?_) (fun h => ?_)
            · walk_at "sx"
              refine fin _ rfl ?_
              have : ¬ x ∈ G.names := by simpa using h
              simp [Grp.isin, this]
            · have hxm : x ∈ G.names := by simpa using h
              obtain ⟨kvs, oa, ed, ev, eo⟩ := h5.get ok.nd hxm
              have eo : B oa = some (.dK (enumK (G.open x))) := eo
              walk_at "sx"
              refine x_fld (hs.up h1) gk.cl gk.np (gf_places n l m q) ?_
              walk_at "sx"
              rw [enumK_has (ok.ond hxm)]
              refine k B H _ hs (congrArg V.bl ?_)
              simp [Grp.isin, hxm]
          | _ =>
            refine x_ite (fun h => ?_) (fun h => by simp [D.isT] at h)
            walk_at "sx"
            exact fin _ rfl rfl
        | _ =>
          refine x_ite (fun h => ?_) (fun h => by simp [D.isT] at h)
          walk_at "sx"
          exact fin _ rfl rfl
  | _ =>
    refine x_ite (fun h => by simp [D.isT] at h) (fun _ => ?_)
    walk_at "sx"
    refine x_ite (fun _ => ?_) (fun h => by simp [D.isT] at h)
    walk_at "sx"
    exact k B H _ hs rfl
end Q

set_option Elab.async false
set_option linter.all false
set_option maxRecDepth 100000
set_option maxHeartbeats 4000000
namespace Q
open PySem PySem.Spec PyProof.Rows L2
local macro_rules | `(tactic| walk_at "bf") => `(tactic| first | assumption | (refine' bstep (by assumption) ?r; case r => walk_at "bf") | fail)
local macro_rules | `(tactic| walk_at "rp") => `(tactic| first | assumption | exact Rep.int _ | exact Rep.bl _ | exact Rep.non | (refine' Rep.mono (by assumption) ?r; case r => walk_at "rp") | fail)
local macro_rules | `(tactic| walk_at "hf") => `(tactic| first | assumption | exact HS.up (by assumption) (by walk_at "bf") | exact HS.get (by assumption) List.mem_cons_self | exact HS.get (by assumption) (List.mem_cons_of_mem _ List.mem_cons_self) | exact HS.get (by assumption) (List.mem_cons_of_mem _ (List.mem_cons_of_mem _ List.mem_cons_self)) | exact HS.get (by assumption) (List.mem_cons_of_mem _ (List.mem_cons_of_mem _ (List.mem_cons_of_mem _ List.mem_cons_self))) | fail)
local macro_rules | `(tactic| walk_at "sl") => `(tactic| first | assumption | exact SqL.of (by walk_at "hf") | fail)
local macro_rules | `(tactic| walk_at "st") => `(tactic| first | assumption | exact SqT.of (by walk_at "hf") | fail)
local macro_rules | `(tactic| walk_at "sz") => `(tactic| first | assumption | (refine small_le ?_; first | assumption | omega | (simp; done) | (simp; omega)) | fail)
local macro_rules | `(tactic| walk_at "s1") => `(tactic| first
  | (with_reducible refine x_seq ?_)
  | (with_reducible refine x_asg ?_)
  | ((with_reducible refine x_gname ?_); try simp only [List.set_cons_zero, List.set_cons_succ])
  | ((with_reducible refine' x_var ?h ?_); case h => rfl)
  | (with_reducible refine x_c ?_)
  | (with_reducible refine x_op ?_)
  | (with_reducible refine x_ret ?_)
  | (with_reducible refine x_if ?_)
  | (with_reducible refine x_and ?_)
  | (with_reducible refine x_or ?_)
  | (with_reducible refine x_not ?_)
  | (with_reducible refine x_test ?_)
  | (with_reducible refine x_tB ?_)
  | (with_reducible refine x_tr ?_)
  | (with_reducible refine x_cb ?_)
  | (with_reducible refine x_cons ?_)
  | (with_reducible refine x_nil ?_)
  | (with_reducible refine x_exb ?_)
  | (with_reducible refine x_tt _ _ ?_)
  | (with_reducible refine x_ff _ _ ?_)
  | (with_reducible refine x_dget ?_)
  | (with_reducible refine x_din ?_)
  | (with_reducible refine x_dnin ?_)
  | (with_reducible refine x_dputU ?_)
  | (with_reducible refine x_dnew ?_)
  | (with_reducible refine x_bm ?_)
  | (with_reducible refine x_bm0 ?_)
  | (with_reducible refine x_gsub ?_)
  | (with_reducible refine x_fldU ?_)
  | (with_reducible refine x_sfldU ?_)
  | (with_reducible refine x_gcons ?_)
  | (with_reducible refine x_gnil ?_)
  | (with_reducible refine x_rz1 ?_)
  | (with_reducible refine x_rz2 ?_)
  | (with_reducible refine x_tryAs ?_)
  | (with_reducible refine x_tryOnly ?_)
  | (with_reducible refine x_mtU ?_)
  | (with_reducible refine x_mk ?_)
  | (with_reducible refine x_yes ?_)
  | (with_reducible refine x_un ?_)
  | (with_reducible refine x_neg ?_)
  | (with_reducible refine x_iEnum ?_)
  | (with_reducible refine x_iEnumT ?_)
  | (with_reducible refine x_lst ?_)
  | (with_reducible refine x_tup ?_)
  | (with_reducible refine x_dc ?_)
  | ((with_reducible refine' x_dinO ?h ?_); case h => walk_at "hf")
  | ((with_reducible refine' x_newL ?h ?_); case h => first | exact Nat.zero_le _ | (simp; done) | (simp; omega))
  | ((with_reducible refine' x_newT ?h ?_); case h => first | exact Nat.zero_le _ | (simp; done) | (simp; omega))
  | ((with_reducible refine' x_listL ?h ?_); case h => walk_at "sl")
  | ((with_reducible refine' x_listT ?h ?_); case h => walk_at "st")
  | ((with_reducible refine' x_mulI ?h ?_); case h => first | exact .inl ⟨by decide, by decide⟩ | exact .inr ⟨by decide, by decide⟩ | exact .inl ⟨by omega, by omega⟩ | exact .inr ⟨by omega, by omega⟩)
  | ((with_reducible refine' x_divI ?h ?_); case h => first | exact ⟨by decide, by decide⟩ | exact ⟨by omega, by omega⟩)
  | ((with_reducible refine' x_powI ?h ?_); case h => exact ⟨by decide, by decide, by decide⟩)
  | ((with_reducible refine' x_ixL ?h ?h2 ?_); (case h => walk_at "sl"); (case h2 => first | rfl | assumption))
  | ((with_reducible refine' x_ixT ?h ?h2 ?_); (case h => walk_at "st"); (case h2 => first | rfl | assumption))
  | (with_reducible refine x_m1s ?_)
  | (with_reducible refine x_str1 ?_)
  | (with_reducible refine x_sl ?_)
  | (with_reducible refine x_noPart ?_)
  | (with_reducible refine x_part ?_)
  | (with_reducible refine x_exi ?_)
  | ((with_reducible refine' x_slS ?h ?_); case h => walk_at "sz")
  | ((with_reducible refine' x_slL ?h ?_); case h => walk_at "sl")
  | (with_reducible refine x_pairsC ?_)
  | (with_reducible refine x_pairsN ?_)
  | ((with_reducible refine' x_dgS ?h ?h2 ?_); (case h => walk_at "hf"); (case h2 => assumption))
  | ((with_reducible refine' x_srtT ?h ?h2 ?_); (case h => walk_at "st"); (case h2 => omega))
  | ((with_reducible refine' x_srtL ?h ?h2 ?_); (case h => walk_at "sl"); (case h2 => omega))
  | ((with_reducible refine' x_inLS ?h ?_); case h => walk_at "sl")
  | ((with_reducible refine' x_inTS ?h ?_); case h => walk_at "st")
  | ((with_reducible refine' x_ninLS ?h ?_); case h => walk_at "sl")
  | ((with_reducible refine' x_ninTS ?h ?_); case h => walk_at "st")
  | ((with_reducible refine' x_tyL ?h ?_); case h => walk_at "sl")
  | ((with_reducible refine' x_gtup ?h ?h2 ?_); (case h => walk_at "st"); (case h2 => rfl))
  | (with_reducible refine x_next ?_)
  | (with_reducible refine x_for ?_)
  | (with_reducible refine x_iList ?_)
  | (with_reducible refine x_iTup ?_)
  | (with_reducible refine x_iStr ?_)
  | (with_reducible refine x_iRng1 ?_)
  | (with_reducible refine x_iRng2 ?_)
  | (with_reducible refine x_lc ?_)
  | (with_reducible refine x_drop ?_)
  | (with_reducible refine x_retN ?_)
  | (with_reducible refine x_cont ?_)
  | (with_reducible refine x_break ?_)
  | (with_reducible refine x_cl ?_)
  | (with_reducible refine x_isN ?_)
  | (with_reducible refine x_notN ?_)
  | (with_reducible refine x_andV ?_)
  | (with_reducible refine x_orV ?_)
  | (with_reducible refine x_notV ?_)
  | (with_reducible refine x_ifE ?_)
  | (with_reducible refine x_addI ?_)
  | (with_reducible refine x_subI ?_)
  | (with_reducible refine x_ltI ?_)
  | (with_reducible refine x_leI ?_)
  | (with_reducible refine x_gtI ?_)
  | (with_reducible refine x_geI ?_)
  | (with_reducible refine x_ltS ?_)
  | (with_reducible refine x_abs ?_)
  | (with_reducible refine x_min2 ?_)
  | (with_reducible refine x_max2 ?_)
  | (with_reducible refine x_int1 ?_)
  | (with_reducible refine x_notInS ?_)
  | ((with_reducible refine' x_eq ?h ?_); case h => rfl)
  | ((with_reducible refine' x_ne ?h ?_); case h => rfl)
  | ((with_reducible refine' x_modI ?h ?_); case h => first | decide | omega)
  | ((with_reducible refine' x_isiD ?h1 ?h2 ?h3 ?_); (case h1 => assumption); (case h2 => walk_at "rp"); (case h3 => decide))
  | ((with_reducible refine' x_lenS ?h ?_); case h => walk_at "sz")
  | ((with_reducible refine' x_lenL ?h ?_); case h => walk_at "sl")
  | ((with_reducible refine' x_lenT ?h ?_); case h => walk_at "st")
  | ((with_reducible refine' x_lenD ?h ?_); case h => walk_at "hf")
  | fail)
local macro_rules | `(tactic| walk_at "sx") => `(tactic| repeat walk_at "s1")
/-! ### a group made of what was drawn -/
theorem HS.stillL {B0 H0 : Hp} {M : List (Addr × HO)} : ∀ {N : List (Addr × HO)} {B H : Hp}, HS [] B0 H0 B H (N ++ M) → ∃ B', HS [] B0 H0 B' H M ∧ Same B B' ∧ ∀ q ∈ N, B' q.1 = some q.2
  | [], B, H, h => ⟨B, h, Same.refl _, fun _ z => nomatch z⟩
  | (p, o) :: N, B, H, h => by
    obtain ⟨B1, h1, s1, e1⟩ := HS.still0 (M := N ++ M) h
    obtain ⟨B2, h2, s2, e2⟩ := HS.stillL h1
    refine ⟨B2, h2, s1.trans s2, fun q m => ?_⟩
    rcases List.mem_cons.mp m with rfl | m
    · exact s2 _ _ e1
    · exact e2 q m
theorem repK_zip {K : PySem.W.Frag} {B : Hp} {ws : Str → List Str} : ∀ {done : List Str} {al : List Addr}, al.length = done.length → (∀ q ∈ lsM al done ws, B q.1 = some q.2) → (∀ p ∈ done, (ws p).length ≤ 100000 ∧ ∀ x ∈ ws p, x.length ≤ 1000000) → RepK K B (zipK done al) (done.map fun p => (.inr p, D.strs (ws p)))
  | [], [], _, _, _ => .nil
  | p :: r, [], h, _, _ => by simp at h
  | [], _ :: _, h, _, _ => by simp at h
  | p :: r, a :: al, h, hl, hw => by
    have e : B a = some (.lst ((ws p).map V.str)) := hl (a, .lst ((ws p).map V.str)) List.mem_cons_self
    obtain ⟨h1, h2⟩ := hw p List.mem_cons_self
    exact .cons (rep_strs h2 h1 e) (repK_zip (by simpa using h) (fun q m => hl q (List.mem_cons_of_mem _ m)) fun q m => hw q (List.mem_cons_of_mem _ m))
def wsD (done : List Str) (ws : Str → List Str) : List (Key × D) := done.map fun p => (.inr p, D.strs (ws p))
theorem wsD_val {ws : Str → List Str} {p : Str} : ∀ {done : List Str}, p ∈ done → dval (wsD done ws) (.inr p) = some (D.strs (ws p))
  | [], m => nomatch m
  | y :: r, m => by
    by_cases e : y = p
    · simp [wsD, dval, e]
    · have m' : p ∈ r := by
        rcases List.mem_cons.mp m with z | z
        · exact absurd z.symm e
        · exact z
      have ih := wsD_val (ws := ws) m'
      unfold wsD dval at ih ⊢
      rw [List.map_cons, List.find?_cons, decide_eq_false (fun z => e (Sum.inr.inj z))]
      exact ih
theorem badAt_names : ∀ {xs : List Str} {i : Nat} {seen : List Str}, (∀ x ∈ xs, okName x = true ∧ x ∉ seen) → xs.Nodup → badAt i seen (xs.map D.str) = none
  | [], _, _, _, _ => rfl
  | x :: r, i, seen, h, nd => by
    rw [List.nodup_cons] at nd
    obtain ⟨h1, h2⟩ := h x List.mem_cons_self
    unfold badAt
    rw [List.map_cons]
    simp only [h1, decide_eq_false h2, Bool.not_false, Bool.and_self, if_true]
    refine badAt_names (fun y m => ⟨(h y (List.mem_cons_of_mem _ m)).1, fun z => ?_⟩) nd.2
    rcases List.mem_append.mp z with z | z
    · exact (h y (List.mem_cons_of_mem _ m)).2 z
    · have : y = x := by simpa using z
      exact nd.1 (by rw [← this]; exact m)
theorem fitsGo_row {xs : List Str} {p : Str} : ∀ {ws seen : List Str}, (∀ x ∈ ws, x ≠ p ∧ x ∈ xs ∧ x ∉ seen) → ws.Nodup → fitsGo xs p seen (ws.map D.str) = true
  | [], _, _, _ => rfl
  | x :: r, seen, h, nd => by
    rw [List.nodup_cons] at nd
    obtain ⟨h1, h2, h3⟩ := h x List.mem_cons_self
    unfold fitsGo
    rw [List.map_cons]
    simp only [decide_eq_false h1, decide_eq_true h2, decide_eq_false h3, Bool.not_false, Bool.true_and]
    refine fitsGo_row (fun y m => ?_) nd.2
    obtain ⟨g1, g2, g3⟩ := h y (List.mem_cons_of_mem _ m)
    refine ⟨g1, g2, fun z => ?_⟩
    rcases List.mem_append.mp z with z | z
    · exact g3 z
    · have : y = x := by simpa using z
      exact nd.1 (by rw [← this]; exact m)
theorem drawn_group {xs done : List Str} {ws : Str → List Str} (d : Drawn xs done ws) (hl : xs.length ≤ 16) : ∃ G, mkGroup (.tup (xs.map D.str)) (.dct (wsD done ws)) = .ok G ∧ G.names = xs ∧ ∀ p ∈ xs, G.wish p = ws p := by
  have ex : (D.tup (xs.map D.str)).asStrs = xs := strL_map xs
  have hv : ∀ p ∈ xs, vald (.dct (wsD done ws)) p = D.strs (ws p) := fun p m => by simp only [vald, wsD_val (d.pe.mem_iff.mpr m), Option.getD_some]
  have hbp : badPeople (.tup (xs.map D.str)) = none := by
    unfold badPeople
    have hb := badAt_names (i := 0) (seen := []) (fun x m => ⟨d.ok x m, by simp⟩) d.nd
    simp only [List.length_map, if_pos hl, hb, Option.map_none]
  have hsk : sameKeys (.dct (wsD done ws)) xs = true := by
    unfold sameKeys
    simp only [Bool.and_eq_true, decide_eq_true_eq, List.all_eq_true]
    refine ⟨?_, fun x m => ?_⟩
    · unfold wsD
      rw [List.length_map]
      exact d.pe.length_eq
    · rw [wsD_val (d.pe.mem_iff.mpr m)]
      rfl
  have hbw : badWishes (.dct (wsD done ws)) xs = none := by
    unfold badWishes
    rw [if_pos hsk, List.find?_eq_none]
    intro p m
    have m := mem_sortS.mp m
    rw [hv p m]
    obtain ⟨r1, r2, r3⟩ := d.row p m
    have : fitsW (D.strs (ws p)) xs p = true := fitsGo_row (fun x mx => ⟨fun e => r2 (e ▸ mx), r3 x mx, by simp⟩) r1
    simp [this]
  refine ⟨⟨xs, fun p => (vald (.dct (wsD done ws)) p).asStrs⟩, ?_, rfl, fun p m => ?_⟩
  · simp only [mkGroup, hbp, ex, hbw]
  · show (vald (.dct (wsD done ws)) p).asStrs = ws p
    rw [hv p m, asStrs_strs]
theorem use_copy {K : PySem.W.Frag} {S : List Addr} {B0 H0 B H : Hp} {M : List (Addr × HO)} {Q : VK} {E : XK} {d : Addr} {kvs : List (Key × V)} {done : List Str} {ws : Str → List Str} (hs : HS S B0 H0 B H ((d, .dK kvs) :: M)) (hw : WAt B done kvs ws) (nd : done.Nodup) (hl : done.length ≤ 100)
    (k : ∀ B' H' c al, Same B B' → HS S B0 H0 B' H' ((d, .dK kvs) :: (((c, .dK (zipK done al)) :: lsM al done ws) ++ M)) → al.length = done.length → Q (.ref c) H') : sp__law_copy K [.ref d] H Q E :=
  ⟨d, kvs, done, ws, B, rfl, hs.bh, (hs.mu _ List.mem_cons_self).1, hs.get List.mem_cons_self, hw, nd, hl, fun B' H' c al h e => k B' H' c al h.bb (hs.call1N h) e⟩
/-- the copy stands still from now on -/
theorem use_copyF {K : PySem.W.Frag} {B0 H0 B H : Hp} {M : List (Addr × HO)} {Q : VK} {E : XK} {d : Addr} {kvs : List (Key × V)} {xs done : List Str} {ws : Str → List Str} (hs : HS [] B0 H0 B H ((d, .dK kvs) :: M)) (hw : WAt B done kvs ws) (dr : Drawn xs done ws) (hl : xs.length ≤ 16)
    (k : ∀ B' H' c, Same B B' → HS [] B0 H0 B' H' ((d, .dK kvs) :: M) → Rep K B' (.ref c) (.dct (wsD done ws)) → Q (.ref c) H') : sp__law_copy K [.ref d] H Q E :=
  use_copy hs hw (dr.pe.nodup_iff.mpr dr.nd) (by have := dr.pe.length_eq; omega) fun B' H' c al sb h hal => by
    have h2 : HS [] B0 H0 B' H' (((c, .dK (zipK done al)) :: lsM al done ws) ++ ((d, .dK kvs) :: M)) := h.perm (List.perm_middle (a := (d, HO.dK kvs)) (l₁ := (c, .dK (zipK done al)) :: lsM al done ws) (l₂ := M)).symm
    obtain ⟨B2, h3, s2, e2⟩ := HS.stillL h2
    refine k B2 H' c (sb.trans s2) h3 (.dct (e2 _ List.mem_cons_self) (repK_zip hal (fun q m => e2 q (List.mem_cons_of_mem _ m)) fun p m => ?_))
    obtain ⟨r1, r2, r3⟩ := dr.row p (dr.pe.mem_iff.mp m)
    have := nodup_len r1 r3
    exact ⟨by omega, fun x mx => okName_len (dr.ok x (r3 x mx))⟩
theorem rep_names {K : PySem.W.Frag} {B : Hp} {T : Addr} {xs : List Str} (e : B T = some (.tup (xs.map V.str))) (h : ∀ x ∈ xs, okName x = true) : Rep K B (.ref T) (.tup (xs.map D.str)) := .tup e (reps_str fun x m => okName_len (h x m))
/-! ### open pairs, in order -/
theorem pw_flat {α : Type} {f : α → List (List Str)} {R : α → α → Prop} (hin : ∀ a, (f a).Pairwise fun x y => leT x y = true) (hac : ∀ a b, R a b → ∀ x ∈ f a, ∀ y ∈ f b, leT x y = true) : ∀ {l : List α}, l.Pairwise R → (l.flatMap f).Pairwise fun x y => leT x y = true
  | [], _ => List.Pairwise.nil
  | a :: r, h => by
    rw [List.pairwise_cons] at h
    rw [List.flatMap_cons, List.pairwise_append]
    refine ⟨hin a, pw_flat hin hac h.2, fun x mx y my => ?_⟩
    obtain ⟨b, mb, my⟩ := List.mem_flatMap.mp my
    exact hac a b (h.1 b mb) x mx y my
theorem leT_2 {a b c d : Str} (h : ltS a c ∨ (a = c ∧ leS b d = true)) : leT [a, b] [c, d] = true := by
  rw [leT_iff]
  unfold lexT
  rcases h with h | ⟨rfl, h⟩
  · have hne : ¬ c = a := fun z => (ltS_iff.mp h).2 z.symm
    rw [if_neg hne]
    exact decide_eq_false (not_ltS.mpr (ltS_iff.mp h).1)
  · rw [if_pos rfl]
    unfold lexT
    by_cases e : d = b
    · rw [if_pos e]; rfl
    · rw [if_neg e]
      exact decide_eq_false (not_ltS.mpr h)
theorem Grp.pairs_sorted {G : Grp} (ok : G.Ok) : G.pairs.Pairwise fun x y => leT x y = true := by
  refine pw_flat (R := ltS) (fun a => ?_) (fun a b h x mx y my => ?_) ?_
  · unfold Grp.prs
    rw [List.pairwise_map]
    exact List.Pairwise.imp (fun h => leT_2 (.inr ⟨rfl, h⟩)) ((sortS_pw (G.open a)).filter _)
  · obtain ⟨b1, _, rfl⟩ := List.mem_map.mp mx
    obtain ⟨b2, _, rfl⟩ := List.mem_map.mp my
    exact leT_2 (.inl h)
  · have h1 := sortS_pw G.names
    have h2 : (sortS G.names).Pairwise fun a b => a ≠ b := sortS_nodup ok.nd
    exact (h1.and h2).imp fun h => ltS_iff.mpr h
theorem perm_flat {α β : Type} {f g : α → List β} (h : ∀ a, (f a).Perm (g a)) : ∀ {l : List α}, (l.flatMap f).Perm (l.flatMap g)
  | [] => List.Perm.refl _
  | a :: r => by
    rw [List.flatMap_cons, List.flatMap_cons]
    exact (h a).append (perm_flat h)
def Grp.due (G : Grp) (a : Str) : List (List Str) := ((G.open a).filter fun b => decide (a.cps.toList < b.cps.toList)).map fun b => [a, b]
theorem Grp.pairs_perm (G : Grp) : G.pairs.Perm (G.names.flatMap G.due) := by
  unfold Grp.pairs
  refine (perm_flat fun a => ?_).trans ((sortS_perm G.names).flatMap_right _)
  exact ((sortS_perm (G.open a)).filter _).map _
theorem Grp.pairs_eq {G : Grp} (ok : G.Ok) : sortT (G.names.flatMap G.due) = G.pairs := (sortT_eq G.pairs_perm (G.pairs_sorted ok)).symm
/-! ### rows of tuples of texts are equal -/
theorem shaped_tups {ks : List (List Str)} (h : ∀ k ∈ ks, ∀ x ∈ k, PyData.strOk x = true) : SeqAt.shaped (.list (ks.map fun k => PyData.tuple (k.map PyData.str))) = true := by
  have h1 : PyData.canLayAll0 (ks.map fun k => PyData.tuple (k.map PyData.str)) = true := by
    induction ks with
    | nil => rfl
    | cons k r ih =>
      simp only [List.map_cons, PyData.canLayAll0, PyData.canLay0, canLay_strs (h k List.mem_cons_self), ih fun k m => h k (List.mem_cons_of_mem _ m), Bool.and_self]
  have h2 : PyData.depthAll (ks.map fun k => PyData.tuple (k.map PyData.str)) ≤ 1 := by
    clear h h1
    induction ks with
    | nil => simp only [List.map_nil, PyData.depthAll]; omega
    | cons k r ih => simp only [List.map_cons, PyData.depthAll, PyData.depth, depth_strs]; omega
  unfold SeqAt.shaped
  simp only [PyData.canLay0, h1, PyData.depth, Bool.true_and]
  exact decide_eq_true (by omega)
theorem eqv_tups : ∀ ks ls : List (List Str), PyData.eqvAll (ks.map fun k => PyData.tuple (k.map PyData.str)) (ls.map fun k => PyData.tuple (k.map PyData.str)) = decide (ks = ls)
  | [], [] => by simp [PyData.eqvAll]
  | [], _ :: _ => by simp [PyData.eqvAll]
  | _ :: _, [] => by simp [PyData.eqvAll]
  | x :: xs, y :: ys => by
    simp only [List.map_cons, PyData.eqvAll, PyData.eqv, eqv_tups xs ys, eqv_strs]
    by_cases e : x = y <;> simp [e]
theorem row_tups {K : PySem.W.Frag} {H B : Hp} {Q : VK} {E : XK} {p q : Addr} {vs us : List V} {ks ls : List (List Str)} (sB : Same B H) (hp : H p = some (.lst vs)) (hq : H q = some (.lst us)) (t1 : TRs B vs ks) (t2 : TRs B us ls) (h1 : ∀ k ∈ ks, ∀ x ∈ k, PyData.strOk x = true) (h2 : ∀ k ∈ ls, ∀ x ∈ k, PyData.strOk x = true)
    (k : Q (.bl (decide (ks = ls))) H) : sp__law_row K [.ref p, .ref q] H Q E := ⟨p, q, _, _, _, B, rfl, sB, hp, .lst (SqL.of hp) (t1.dp sB), .lst (SqL.of hq) (t2.dp sB), shaped_tups h1, shaped_tups h2, by simp only [PyData.eqv, eqv_tups]; exact k⟩
end Q

set_option Elab.async false
set_option linter.all false
set_option maxRecDepth 100000
set_option maxHeartbeats 4000000
namespace Q
open PySem PySem.Spec PyProof.Rows L2
local macro_rules | `(tactic| walk_at "bf") => `(tactic| first | assumption | (refine' bstep (by assumption) ?r; case r => walk_at "bf") | fail)
local macro_rules | `(tactic| walk_at "rp") => `(tactic| first | assumption | exact Rep.int _ | exact Rep.bl _ | exact Rep.non | (refine' Rep.mono (by assumption) ?r; case r => walk_at "rp") | fail)
local macro_rules | `(tactic| walk_at "hf") => `(tactic| first | assumption | exact HS.up (by assumption) (by walk_at "bf") | exact HS.get (by assumption) List.mem_cons_self | exact HS.get (by assumption) (List.mem_cons_of_mem _ List.mem_cons_self) | exact HS.get (by assumption) (List.mem_cons_of_mem _ (List.mem_cons_of_mem _ List.mem_cons_self)) | exact HS.get (by assumption) (List.mem_cons_of_mem _ (List.mem_cons_of_mem _ (List.mem_cons_of_mem _ List.mem_cons_self))) | fail)
local macro_rules | `(tactic| walk_at "sl") => `(tactic| first | assumption | exact SqL.of (by walk_at "hf") | fail)
local macro_rules | `(tactic| walk_at "st") => `(tactic| first | assumption | exact SqT.of (by walk_at "hf") | fail)
local macro_rules | `(tactic| walk_at "sz") => `(tactic| first | assumption | (refine small_le ?_; first | assumption | omega | (simp; done) | (simp; omega)) | fail)
local macro_rules | `(tactic| walk_at "s1") => `(tactic| first
  | (with_reducible refine x_seq ?_)
  | (with_reducible refine x_asg ?_)
  | ((with_reducible refine x_gname ?_); try simp only [List.set_cons_zero, List.set_cons_succ])
  | ((with_reducible refine' x_var ?h ?_); case h => rfl)
  | (with_reducible refine x_c ?_)
  | (with_reducible refine x_op ?_)
  | (with_reducible refine x_ret ?_)
  | (with_reducible refine x_if ?_)
  | (with_reducible refine x_and ?_)
  | (with_reducible refine x_or ?_)
  | (with_reducible refine x_not ?_)
  | (with_reducible refine x_test ?_)
  | (with_reducible refine x_tB ?_)
  | (with_reducible refine x_tr ?_)
  | (with_reducible refine x_cb ?_)
  | (with_reducible refine x_cons ?_)
  | (with_reducible refine x_nil ?_)
  | (with_reducible refine x_exb ?_)
  | (with_reducible refine x_tt _ _ ?_)
  | (with_reducible refine x_ff _ _ ?_)
  | (with_reducible refine x_dget ?_)
  | (with_reducible refine x_din ?_)
  | (with_reducible refine x_dnin ?_)
  | (with_reducible refine x_dputU ?_)
  | (with_reducible refine x_dnew ?_)
  | (with_reducible refine x_bm ?_)
  | (with_reducible refine x_bm0 ?_)
  | (with_reducible refine x_gsub ?_)
  | (with_reducible refine x_fldU ?_)
  | (with_reducible refine x_sfldU ?_)
  | (with_reducible refine x_gcons ?_)
  | (with_reducible refine x_gnil ?_)
  | (with_reducible refine x_rz1 ?_)
  | (with_reducible refine x_rz2 ?_)
  | (with_reducible refine x_tryAs ?_)
  | (with_reducible refine x_tryOnly ?_)
  | (with_reducible refine x_mtU ?_)
  | (with_reducible refine x_mk ?_)
  | (with_reducible refine x_yes ?_)
  | (with_reducible refine x_un ?_)
  | (with_reducible refine x_neg ?_)
  | (with_reducible refine x_iEnum ?_)
  | (with_reducible refine x_iEnumT ?_)
  | (with_reducible refine x_lst ?_)
  | (with_reducible refine x_tup ?_)
  | (with_reducible refine x_dc ?_)
  | ((with_reducible refine' x_dinO ?h ?_); case h => walk_at "hf")
  | ((with_reducible refine' x_newL ?h ?_); case h => first | exact Nat.zero_le _ | (simp; done) | (simp; omega))
  | ((with_reducible refine' x_newT ?h ?_); case h => first | exact Nat.zero_le _ | (simp; done) | (simp; omega))
  | ((with_reducible refine' x_listL ?h ?_); case h => walk_at "sl")
  | ((with_reducible refine' x_listT ?h ?_); case h => walk_at "st")
  | ((with_reducible refine' x_mulI ?h ?_); case h => first | exact .inl ⟨by decide, by decide⟩ | exact .inr ⟨by decide, by decide⟩ | exact .inl ⟨by omega, by omega⟩ | exact .inr ⟨by omega, by omega⟩)
  | ((with_reducible refine' x_divI ?h ?_); case h => first | exact ⟨by decide, by decide⟩ | exact ⟨by omega, by omega⟩)
  | ((with_reducible refine' x_powI ?h ?_); case h => exact ⟨by decide, by decide, by decide⟩)
  | ((with_reducible refine' x_ixL ?h ?h2 ?_); (case h => walk_at "sl"); (case h2 => first | rfl | assumption))
  | ((with_reducible refine' x_ixT ?h ?h2 ?_); (case h => walk_at "st"); (case h2 => first | rfl | assumption))
  | (with_reducible refine x_m1s ?_)
  | (with_reducible refine x_str1 ?_)
  | (with_reducible refine x_sl ?_)
  | (with_reducible refine x_noPart ?_)
  | (with_reducible refine x_part ?_)
  | (with_reducible refine x_exi ?_)
  | ((with_reducible refine' x_slS ?h ?_); case h => walk_at "sz")
  | ((with_reducible refine' x_slL ?h ?_); case h => walk_at "sl")
  | (with_reducible refine x_pairsC ?_)
  | (with_reducible refine x_pairsN ?_)
  | ((with_reducible refine' x_dgS ?h ?h2 ?_); (case h => walk_at "hf"); (case h2 => assumption))
  | ((with_reducible refine' x_srtT ?h ?h2 ?_); (case h => walk_at "st"); (case h2 => omega))
  | ((with_reducible refine' x_srtL ?h ?h2 ?_); (case h => walk_at "sl"); (case h2 => omega))
  | ((with_reducible refine' x_inLS ?h ?_); case h => walk_at "sl")
  | ((with_reducible refine' x_inTS ?h ?_); case h => walk_at "st")
  | ((with_reducible refine' x_ninLS ?h ?_); case h => walk_at "sl")
  | ((with_reducible refine' x_ninTS ?h ?_); case h => walk_at "st")
  | ((with_reducible refine' x_tyL ?h ?_); case h => walk_at "sl")
  | ((with_reducible refine' x_gtup ?h ?h2 ?_); (case h => walk_at "st"); (case h2 => rfl))
  | (with_reducible refine x_next ?_)
  | (with_reducible refine x_for ?_)
  | (with_reducible refine x_iList ?_)
  | (with_reducible refine x_iTup ?_)
  | (with_reducible refine x_iStr ?_)
  | (with_reducible refine x_iRng1 ?_)
  | (with_reducible refine x_iRng2 ?_)
  | (with_reducible refine x_lc ?_)
  | (with_reducible refine x_drop ?_)
  | (with_reducible refine x_retN ?_)
  | (with_reducible refine x_cont ?_)
  | (with_reducible refine x_break ?_)
  | (with_reducible refine x_cl ?_)
  | (with_reducible refine x_isN ?_)
  | (with_reducible refine x_notN ?_)
  | (with_reducible refine x_andV ?_)
  | (with_reducible refine x_orV ?_)
  | (with_reducible refine x_notV ?_)
  | (with_reducible refine x_ifE ?_)
  | (with_reducible refine x_addI ?_)
  | (with_reducible refine x_subI ?_)
  | (with_reducible refine x_ltI ?_)
  | (with_reducible refine x_leI ?_)
  | (with_reducible refine x_gtI ?_)
  | (with_reducible refine x_geI ?_)
  | (with_reducible refine x_ltS ?_)
  | (with_reducible refine x_abs ?_)
  | (with_reducible refine x_min2 ?_)
  | (with_reducible refine x_max2 ?_)
  | (with_reducible refine x_int1 ?_)
  | (with_reducible refine x_notInS ?_)
  | ((with_reducible refine' x_eq ?h ?_); case h => rfl)
  | ((with_reducible refine' x_ne ?h ?_); case h => rfl)
  | ((with_reducible refine' x_modI ?h ?_); case h => first | decide | omega)
  | ((with_reducible refine' x_isiD ?h1 ?h2 ?h3 ?_); (case h1 => assumption); (case h2 => walk_at "rp"); (case h3 => decide))
  | ((with_reducible refine' x_lenS ?h ?_); case h => walk_at "sz")
  | ((with_reducible refine' x_lenL ?h ?_); case h => walk_at "sl")
  | ((with_reducible refine' x_lenT ?h ?_); case h => walk_at "st")
  | ((with_reducible refine' x_lenD ?h ?_); case h => walk_at "hf")
  | fail)
local macro_rules | `(tactic| walk_at "sx") => `(tactic| repeat walk_at "s1")
/-! ### who is open to whom, by the law; rows of persons and their wishes -/
def opn (ws : Str → List Str) (a : Str) : List Str := (ws a).filter fun b => decide (a ∈ ws b)
theorem WAt.nil {B : Hp} {ws : Str → List Str} : WAt B [] [] ws := ⟨[], rfl, rfl, by simp⟩
theorem WAt.snoc {B : Hp} {done : List Str} {kvs : List (Key × V)} {ws : Str → List Str} {x : Str} {a : Addr} (h : WAt B done kvs ws) (hx : x ∉ done) (e : B a = some (.lst ((ws x).map V.str))) : WAt B (done ++ [x]) (putK kvs (.inr x) (.ref a)) ws := by
  have hk := h.keys
  obtain ⟨al, h1, h2, h3⟩ := h
  refine ⟨al ++ [a], by simp [h1], ?_, fun j p b e1 e2 => ?_⟩
  · rw [putK_new (valV_none_keys ?_), h2, zipK_snoc h1]
    rw [hk]
    intro z
    obtain ⟨y, hy, q⟩ := List.mem_map.mp z
    have := Sum.inr.inj q
    subst this
    exact hx hy
  · by_cases hj : j < done.length
    · rw [List.getElem?_append_left hj] at e1
      rw [List.getElem?_append_left (by omega)] at e2
      exact h3 j p b e1 e2
    · rw [List.getElem?_append_right (by omega)] at e1 e2
      have hj0 : j - done.length = 0 := by
        by_cases z : j - done.length = 0
        · exact z
        · rw [List.getElem?_eq_none (by simp; omega)] at e1; cases e1
      rw [h1] at e2
      rw [hj0] at e1 e2
      cases e1
      cases e2
      exact e
theorem WAt.len {B : Hp} {done : List Str} {kvs : List (Key × V)} {ws : Str → List Str} (h : WAt B done kvs ws) : kvs.length = done.length := by
  have := congrArg List.length h.keys
  simpa using this
abbrev N__law_mutual : List Str := ["_law_names_here", "_law_wishes_here", "_law_mutual_here", "_law_a", "_law_b"]
def t__law_mutual (K : PySem.W.Frag) (E : XK) : TS := (tSeq (tAsg tDNewK (gName 2))
  (tSeq (tFor (iList K (tVar 0)) (gName 3) (sDPut (tVar 2) (tVar 3) (tLc (iList K (tDGet (tVar 1) (tVar 3))) (gName 4) (tTest (tOp (rIn K false) (tVar 3) (tDGet (tVar 1) (tVar 4)))) (tVar 4) [4])))
  (tRet (tVar 2))))
def sp__law_mutual (K : PySem.W.Frag) : Sp := fun vs H Q E => ∃ (n w : Addr) (xs done : List Str) (kvs : List (Key × V)) (ws : Str → List Str) (B : Hp), vs = [.ref n, .ref w] ∧ Same B H ∧ B n = some (.lst (xs.map V.str)) ∧ B w = some (.dK kvs) ∧ WAt B done kvs ws ∧ Drawn xs done ws ∧ xs.length ≤ 25 ∧
  ∀ B' H' m kvs', HS [] B H B' H' [(m, .dK kvs')] → WAt B' xs kvs' (opn ws) → Q (.ref m) H'
theorem pure__law_mutual {K : PySem.W.Frag} {vs : List V} {H : Hp} {Q : VK} {E : XK} (h : sp__law_mutual K vs H Q E) : t__law_mutual K E { nx := fun _ H' => Q .non H', rt := Q } (start N__law_mutual vs) H := by
  obtain ⟨n, w, xs, done, kvs, ws, B, rfl, sB, en, ew, hw, dr, hl, k⟩ := h
  have hs := HS.start sB
  have ndd : done.Nodup := dr.pe.nodup_iff.mpr dr.nd
  show t__law_mutual K E _ [some (.ref n), some (.ref w), none, none, none] H
  unfold t__law_mutual
  walk_at "sx"
  refine new_M hs (fun m H1 hs1 _ => ?_)
  walk_at "sx"
  refine ⟨n, rfl, ⟨_, SqL.of (hs1.up en)⟩, ?_⟩
  refine l_list (α := List (Key × V) × Option V) (σf := fun s => [some (.ref n), some (.ref w), some (.ref m), s.2, none]) (Mf := fun s => [(m, .dK s.1)]) (P := fun i s B1 => WAt B1 (xs.take i) s.1 (opn ws)) (s0 := ([], none)) hs1 en .nil
    (fun i x s B2 H2 hi sb2 hs2 pp => ?_) (fun s B2 H2 sb2 hs2 pp => ?_)
  · obtain ⟨mk, s2⟩ := s
    dsimp only at pp hs2 ⊢
    obtain ⟨a, ha, rfl⟩ := strs_get hi
    have ham : a ∈ xs := List.mem_of_getElem? ha
    obtain ⟨wa, eva, ewa⟩ := (hw.mono sb2).get ndd (dr.pe.mem_iff.mpr ham)
    have ew2 := sb2 _ _ ew
    have hla := nodup_len (dr.row a ham).1 (dr.row a ham).2.2
    walk_at "sx"
    refine ⟨wa, rfl, ⟨_, SqL.of (hs2.up ewa)⟩, fun D hD => ?_⟩
    refine c_list (α := Unit) (Mf := fun _ => [(m, .dK mk)]) (P := fun j _ acc _ => acc = (((ws a).take j).filter fun b => decide (a ∈ ws b)).map V.str) (s0 := ()) hs2 hD ewa rfl (fun j y _ acc B3 H3 hj hacc sb3 hs3 pp => ?_) (fun _ acc B3 H3 sb3 hs3 hacc pp => ?_)
    · obtain ⟨b, hb, rfl⟩ := strs_get hj
      have hjl : j < (ws a).length := (List.getElem?_eq_some_iff.mp hb).1
      have hbm : b ∈ xs := (dr.row a ham).2.2 b (List.mem_of_getElem? hb)
      obtain ⟨wb, evb, ewb⟩ := ((hw.mono sb2).mono sb3).get ndd (dr.pe.mem_iff.mpr hbm)
      have ew3 := sb3 _ _ ew2
      walk_at "sx"
      refine ⟨rfl, ?_⟩
      walk_at "sx"
      refine x_ite (fun h => ?_) (fun h => ?_)
      · walk_at "sx"
        refine c_keep (s := ()) sb3 hs3 hacc (by omega) ?_
        rw [filter_take _ hb, if_pos h, pp]
        simp
      · refine c_left (s := ()) sb3 hs3 hacc ?_
        rw [filter_take _ hb, if_neg (by rw [h]; decide), pp]
    · rw [List.length_map, List.take_length] at pp
      subst pp
      obtain ⟨hs4, sb4⟩ := hs3.still (by simp)
      have er : upd B3 D (.lst (((ws a).filter fun b => decide (a ∈ ws b)).map V.str)) D = some (.lst ((opn ws a).map V.str)) := upd_same
      generalize upd B3 D (.lst (((ws a).filter fun b => decide (a ∈ ws b)).map V.str)) = B4 at hs4 sb4 er
      have hlen := pp.len
      rw [List.length_take] at hlen
      walk_at "sx"
      refine x_dput hs4 (by omega) (fun H5 hs5 => ?_)
      refine ⟨(putK mk (.inr a) (.ref D), some _), B4, rfl, (sb2.trans sb3).trans sb4, hs5, ?_⟩
      dsimp only
      rw [take_snoc ha]
      exact ((pp.mono sb3).mono sb4).snoc (notin_take dr.nd ha) er
  · obtain ⟨mk, s2⟩ := s
    dsimp only at pp hs2 ⊢
    rw [List.length_map, List.take_length] at pp
    walk_at "sx"
    exact k B2 H2 m mk hs2 pp
/-! ### rows of a person and their wishes -/
inductive MRs (B : Hp) : List V → List (Str × List Str) → Prop
  | nil : MRs B [] []
  | cons {t l : Addr} {a : Str} {r : List Str} {vs : List V} {ks : List (Str × List Str)} : B t = some (.tup [.str a, .ref l]) → B l = some (.lst (r.map V.str)) → MRs B vs ks → MRs B (.ref t :: vs) ((a, r) :: ks)
theorem MRs.mono {B B' : Hp} (s : Same B B') : ∀ {vs : List V} {ks : List (Str × List Str)}, MRs B vs ks → MRs B' vs ks
  | _, _, .nil => .nil
  | _, _, .cons h h2 r => .cons (s _ _ h) (s _ _ h2) (MRs.mono s r)
theorem MRs.snoc {B : Hp} {t l : Addr} {a : Str} {r : List Str} (h : B t = some (.tup [.str a, .ref l])) (h2 : B l = some (.lst (r.map V.str))) : ∀ {vs : List V} {ks : List (Str × List Str)}, MRs B vs ks → MRs B (vs ++ [.ref t]) (ks ++ [(a, r)])
  | _, _, .nil => .cons h h2 .nil
  | _, _, .cons a b r => .cons a b (MRs.snoc h h2 r)
theorem MRs.len {B : Hp} : ∀ {vs : List V} {ks : List (Str × List Str)}, MRs B vs ks → vs.length = ks.length
  | _, _, .nil => rfl
  | _, _, .cons _ _ r => by simp [MRs.len r]
def mrD (q : Str × List Str) : PyData := .tuple [.str q.1, .list (q.2.map PyData.str)]
theorem MRs.dp {K : PySem.W.Frag} {B H : Hp} (s : Same B H) : ∀ {vs : List V} {ks : List (Str × List Str)}, MRs B vs ks → DpAll K H vs (ks.map mrD)
  | _, _, .nil => .nil
  | _, _, .cons h h2 r => .cons (.tup (SqT.of (s _ _ h)) (.cons (.str _) (.cons (.lst (SqL.of (s _ _ h2)) (dp_strs _)) .nil))) (MRs.dp s r)
theorem shaped_mrs {ks : List (Str × List Str)} (h : ∀ k ∈ ks, PyData.strOk k.1 = true ∧ ∀ x ∈ k.2, PyData.strOk x = true) : SeqAt.shaped (.list (ks.map mrD)) = true := by
  have h1 : PyData.canLayAll0 (ks.map mrD) = true := by
    induction ks with
    | nil => rfl
    | cons k r ih =>
      obtain ⟨g1, g2⟩ := h k List.mem_cons_self
      simp only [List.map_cons, mrD, PyData.canLayAll0, PyData.canLay0, g1, canLay_strs g2, Bool.and_self, Bool.true_and]
      exact ih fun k m => h k (List.mem_cons_of_mem _ m)
  have h2 : PyData.depthAll (ks.map mrD) ≤ 2 := by
    clear h h1
    induction ks with
    | nil => simp only [List.map_nil, PyData.depthAll]; omega
    | cons k r ih => simp only [List.map_cons, mrD, PyData.depthAll, PyData.depth, depth_strs] at ih ⊢; omega
  unfold SeqAt.shaped
  simp only [PyData.canLay0, h1, PyData.depth, Bool.true_and]
  exact decide_eq_true (by omega)
theorem eqv_mrs : ∀ ks ls : List (Str × List Str), PyData.eqvAll (ks.map mrD) (ls.map mrD) = decide (ks = ls)
  | [], [] => by simp [PyData.eqvAll]
  | [], _ :: _ => by simp [PyData.eqvAll]
  | _ :: _, [] => by simp [PyData.eqvAll]
  | (x, r) :: xs, (y, q) :: ys => by
    simp only [List.map_cons, mrD, PyData.eqvAll, PyData.eqv, eqv_strs]
    rw [eqv_mrs xs ys]
    by_cases e1 : x = y <;> by_cases e2 : r = q <;> simp [e1, e2]
theorem row_mrs {K : PySem.W.Frag} {H B : Hp} {Q : VK} {E : XK} {p q : Addr} {vs us : List V} {ks ls : List (Str × List Str)} (sB : Same B H) (hp : H p = some (.lst vs)) (hq : H q = some (.lst us)) (t1 : MRs B vs ks) (t2 : MRs B us ls) (h1 : ∀ k ∈ ks, PyData.strOk k.1 = true ∧ ∀ x ∈ k.2, PyData.strOk x = true) (h2 : ∀ k ∈ ls, PyData.strOk k.1 = true ∧ ∀ x ∈ k.2, PyData.strOk x = true)
    (k : Q (.bl (decide (ks = ls))) H) : sp__law_row K [.ref p, .ref q] H Q E := ⟨p, q, _, _, _, B, rfl, sB, hp, .lst (SqL.of hp) (t1.dp sB), .lst (SqL.of hq) (t2.dp sB), shaped_mrs h1, shaped_mrs h2, by simp only [PyData.eqv, eqv_mrs]; exact k⟩
def rowsOf (xs : List Str) (ws : Str → List Str) : List (Str × List Str) := xs.map fun a => (a, ws a)
abbrev N__law_model : List Str := ["_law_names_here", "_law_wishes_here", "_law_rows", "_law_a"]
def t__law_model (K : PySem.W.Frag) (E : XK) : TS := (tSeq (tAsg (tLst tNil) (gName 2))
  (tSeq (tFor (iList K (tVar 0)) (gName 3) (tDrop (tBM K "list" rAppend (tVar 2) (tCons (tTup (tCons (tVar 3) (tCons (tCB (rListOf K) (tCons (tDGet (tVar 1) (tVar 3)) tNil)) tNil))) tNil))))
  (tRet (tVar 2))))
def sp__law_model (K : PySem.W.Frag) : Sp := fun vs H Q E => ∃ (n w : Addr) (xs done : List Str) (kvs : List (Key × V)) (ws : Str → List Str) (B : Hp), vs = [.ref n, .ref w] ∧ Same B H ∧ B n = some (.lst (xs.map V.str)) ∧ B w = some (.dK kvs) ∧ WAt B done kvs ws ∧ done.Nodup ∧ (∀ x ∈ xs, x ∈ done) ∧ xs.length ≤ 100 ∧
  ∀ B' H' l vs, HS [] B H B' H' [(l, .lst vs)] → MRs B' vs (rowsOf xs ws) → Q (.ref l) H'
theorem pure__law_model {K : PySem.W.Frag} {vs : List V} {H : Hp} {Q : VK} {E : XK} (h : sp__law_model K vs H Q E) : t__law_model K E { nx := fun _ H' => Q .non H', rt := Q } (start N__law_model vs) H := by
  obtain ⟨n, w, xs, done, kvs, ws, B, rfl, sB, en, ew, hw, ndd, hin, hl, k⟩ := h
  have hs := HS.start sB
  show t__law_model K E _ [some (.ref n), some (.ref w), none, none] H
  unfold t__law_model
  walk_at "sx"
  refine new_M hs (fun ro H1 hs1 _ => ?_)
  walk_at "sx"
  refine ⟨n, rfl, ⟨_, SqL.of (hs1.up en)⟩, ?_⟩
  refine l_list (α := List V × Option V) (σf := fun s => [some (.ref n), some (.ref w), some (.ref ro), s.2]) (Mf := fun s => [(ro, .lst s.1)]) (P := fun i s B1 => MRs B1 s.1 (rowsOf (xs.take i) ws)) (s0 := ([], none)) hs1 en .nil
    (fun i x s B2 H2 hi sb2 hs2 pp => ?_) (fun s B2 H2 sb2 hs2 pp => ?_)
  · obtain ⟨rows, s2⟩ := s
    dsimp only at pp hs2 ⊢
    obtain ⟨a, ha, rfl⟩ := strs_get hi
    have hil : i < xs.length := (List.getElem?_eq_some_iff.mp ha).1
    obtain ⟨wa, eva, ewa⟩ := (hw.mono sb2).get ndd (hin a (List.mem_of_getElem? ha))
    have ew2 := sb2 _ _ ew
    walk_at "sx"
    refine new_F hs2 (fun l B3 H3 hs3 sb3 el _ => ?_)
    walk_at "sx"
    refine new_F hs3 (fun t B4 H4 hs4 sb4 et _ => ?_)
    walk_at "sx"
    have hlen := pp.len
    unfold rowsOf at hlen
    rw [List.length_map, List.length_take] at hlen
    refine x_append hs4 (by omega) (fun H5 hs5 => ?_)
    refine ⟨(rows ++ [.ref t], some _), B4, rfl, (sb2.trans sb3).trans sb4, hs5, ?_⟩
    dsimp only
    have e : rowsOf (xs.take (i + 1)) ws = rowsOf (xs.take i) ws ++ [(a, ws a)] := by
      unfold rowsOf
      rw [take_snoc ha, List.map_append]
      rfl
    rw [e]
    exact ((pp.mono sb3).mono sb4).snoc et (sb4 _ _ el)
  · obtain ⟨rows, s2⟩ := s
    dsimp only at pp hs2 ⊢
    rw [List.length_map, List.take_length] at pp
    walk_at "sx"
    exact k B2 H2 ro rows hs2 pp
abbrev N__law_shows : List Str := ["_law_group_here", "_law_rows", "_law_a"]
def t__law_shows (K : PySem.W.Frag) (E : XK) : TS := (tSeq (tAsg (tLst tNil) (gName 1))
  (tSeq (tFor (iList K (tMt (He.ga K "Group") "people" (sp_Group_people K) (WE0 E) (tVar 0) tNil)) (gName 2) (tDrop (tBM K "list" rAppend (tVar 1) (tCons (tTup (tCons (tVar 2) (tCons (tMt (He.ga K "Group") "wishes" (sp_Group_wishes K) (WE0 E) (tVar 0) (tCons (tVar 2) tNil)) tNil))) tNil))))
  (tRet (tVar 1))))
def sp__law_shows (K : PySem.W.Frag) : Sp := fun vs H Q E => ∃ p B G, vs = [.ref p] ∧ Same B H ∧ GAt K B p G ∧ ∀ B' H' l vs, HS [] B H B' H' [(l, .lst vs)] → MRs B' vs (rowsOf G.names G.wish) → Q (.ref l) H'
theorem pure__law_shows {K : PySem.W.Frag} {vs : List V} {H : Hp} {Q : VK} {E : XK} (h : sp__law_shows K vs H Q E) : t__law_shows K E { nx := fun _ H' => Q .non H', rt := Q } (start N__law_shows vs) H := by
  obtain ⟨p, B, G, rfl, sB, g, k⟩ := h
  have hs := HS.start sB
  have ok := g.ok
  have few := ok.few
  obtain ⟨dx, n', l', m', q', hg⟩ := g.ins
  show t__law_shows K E _ [some (.ref p), none, none] H
  unfold t__law_shows
  walk_at "sx"
  refine new_M hs (fun ro H1 hs1 _ => ?_)
  walk_at "sx"
  refine x_mt (hs1.up hg) (gf_no (by decide +kernel)) ?_
  walk_at "sx"
  refine use_people hs1 g (fun B2 H2 pl sb2 hs2 => ?_)
  obtain ⟨B3, hs3, sb3, epl⟩ := hs2.still0
  have g3 := (g.mono sb2).mono sb3
  have hg3 := sb3 _ _ (sb2 _ _ hg)
  refine ⟨pl, rfl, ⟨_, SqL.of (hs3.up epl)⟩, ?_⟩
  refine l_list (α := List V × Option V) (σf := fun s => [some (.ref p), some (.ref ro), s.2]) (Mf := fun s => [(ro, .lst s.1)]) (P := fun i s B1 => MRs B1 s.1 (rowsOf (G.names.take i) G.wish)) (s0 := ([], none)) hs3 epl .nil
    (fun i x s B4 H4 hi sb4 hs4 pp => ?_) (fun s B4 H4 sb4 hs4 pp => ?_)
  · obtain ⟨rows, s2⟩ := s
    dsimp only at pp hs4 ⊢
    obtain ⟨a, ha, rfl⟩ := strs_get hi
    have hil : i < G.names.length := (List.getElem?_eq_some_iff.mp ha).1
    have ham : a ∈ G.names := List.mem_of_getElem? ha
    walk_at "sx"
    refine x_mt (hs4.up (sb4 _ _ hg3)) (gf_no (by decide +kernel)) ?_
    walk_at "sx"
    refine use_wishes hs4 (g3.mono sb4) (.str (okName_len (ok.nm a ham))) (fun y ey hy B5 H5 l sb5 hs5 => ?_) (fun hh => absurd hh (by simp [Grp.has, ham]))
    cases ey
    obtain ⟨B6, hs6, sb6, el⟩ := hs5.still0
    walk_at "sx"
    refine new_F hs6 (fun t B7 H7 hs7 sb7 et _ => ?_)
    walk_at "sx"
    have hlen := pp.len
    unfold rowsOf at hlen
    rw [List.length_map, List.length_take] at hlen
    refine x_append hs7 (by omega) (fun H8 hs8 => ?_)
    refine ⟨(rows ++ [.ref t], some _), B7, rfl, ((sb4.trans sb5).trans sb6).trans sb7, hs8, ?_⟩
    dsimp only
    have e : rowsOf (G.names.take (i + 1)) G.wish = rowsOf (G.names.take i) G.wish ++ [(a, G.wish a)] := by
      unfold rowsOf
      rw [take_snoc ha, List.map_append]
      rfl
    rw [e]
    exact (((pp.mono sb5).mono sb6).mono sb7).snoc et (sb7 _ _ el)
  · obtain ⟨rows, s2⟩ := s
    dsimp only at pp hs4 ⊢
    rw [List.length_map, List.take_length] at pp
    walk_at "sx"
    exact k B4 H4 ro rows hs4 pp
abbrev N__law_truth : List Str := ["_law_actual", "_law_due"]
def t__law_truth (K : PySem.W.Frag) (E : XK) : TS := (tRet (tAndV (tCB (rIsi K) (tCons (tVar 0) (tCons (tC (.ty "bool")) tNil))) (tOp rEq (tVar 0) (tVar 1))))
def sp__law_truth (K : PySem.W.Frag) : Sp := fun vs H Q E => ∃ b c, vs = [.bl b, .bl c] ∧ Q (.bl (b == c)) H
theorem pure__law_truth {K : PySem.W.Frag} {vs : List V} {H : Hp} {Q : VK} {E : XK} (h : sp__law_truth K vs H Q E) : t__law_truth K E { nx := fun _ H' => Q .non H', rt := Q } (start N__law_truth vs) H := by
  obtain ⟨b, c, rfl, k⟩ := h
  show t__law_truth K E _ [some (.bl b), some (.bl c)] H
  unfold t__law_truth
  walk_at "sx"
  refine x_isi (.base (.bl b)) (kit_ty (show kitB "bool" "bool" = some true by decide +kernel)) ?_
  walk_at "sx"
  have e : decide (V.bl b = V.bl c) = (b == c) := by cases b <;> cases c <;> rfl
  rw [e]
  exact k
end Q

set_option Elab.async false
set_option linter.all false
set_option maxRecDepth 100000
set_option maxHeartbeats 4000000
namespace Q
open PySem PySem.Spec PyProof.Rows L2
local macro_rules | `(tactic| walk_at "bf") => `(tactic| first | assumption | (refine' bstep (by assumption) ?r; case r => walk_at "bf") | fail)
local macro_rules | `(tactic| walk_at "rp") => `(tactic| first | assumption | exact Rep.int _ | exact Rep.bl _ | exact Rep.non | (refine' Rep.mono (by assumption) ?r; case r => walk_at "rp") | fail)
local macro_rules | `(tactic| walk_at "hf") => `(tactic| first | assumption | exact HS.up (by assumption) (by walk_at "bf") | exact HS.get (by assumption) List.mem_cons_self | exact HS.get (by assumption) (List.mem_cons_of_mem _ List.mem_cons_self) | exact HS.get (by assumption) (List.mem_cons_of_mem _ (List.mem_cons_of_mem _ List.mem_cons_self)) | exact HS.get (by assumption) (List.mem_cons_of_mem _ (List.mem_cons_of_mem _ (List.mem_cons_of_mem _ List.mem_cons_self))) | fail)
local macro_rules | `(tactic| walk_at "sl") => `(tactic| first | assumption | exact SqL.of (by walk_at "hf") | fail)
local macro_rules | `(tactic| walk_at "st") => `(tactic| first | assumption | exact SqT.of (by walk_at "hf") | fail)
local macro_rules | `(tactic| walk_at "sz") => `(tactic| first | assumption | (refine small_le ?_; first | assumption | omega | (simp; done) | (simp; omega)) | fail)
local macro_rules | `(tactic| walk_at "s1") => `(tactic| first
  | (with_reducible refine x_seq ?_)
  | (with_reducible refine x_asg ?_)
  | ((with_reducible refine x_gname ?_); try simp only [List.set_cons_zero, List.set_cons_succ])
  | ((with_reducible refine' x_var ?h ?_); case h => rfl)
  | (with_reducible refine x_c ?_)
  | (with_reducible refine x_op ?_)
  | (with_reducible refine x_ret ?_)
  | (with_reducible refine x_if ?_)
  | (with_reducible refine x_and ?_)
  | (with_reducible refine x_or ?_)
  | (with_reducible refine x_not ?_)
  | (with_reducible refine x_test ?_)
  | (with_reducible refine x_tB ?_)
  | (with_reducible refine x_tr ?_)
  | (with_reducible refine x_cb ?_)
  | (with_reducible refine x_cons ?_)
  | (with_reducible refine x_nil ?_)
  | (with_reducible refine x_exb ?_)
  | (with_reducible refine x_tt _ _ ?_)
  | (with_reducible refine x_ff _ _ ?_)
  | (with_reducible refine x_dget ?_)
  | (with_reducible refine x_din ?_)
  | (with_reducible refine x_dnin ?_)
  | (with_reducible refine x_dputU ?_)
  | (with_reducible refine x_dnew ?_)
  | (with_reducible refine x_bm ?_)
  | (with_reducible refine x_bm0 ?_)
  | (with_reducible refine x_gsub ?_)
  | (with_reducible refine x_fldU ?_)
  | (with_reducible refine x_sfldU ?_)
  | (with_reducible refine x_gcons ?_)
  | (with_reducible refine x_gnil ?_)
  | (with_reducible refine x_rz1 ?_)
  | (with_reducible refine x_rz2 ?_)
  | (with_reducible refine x_tryAs ?_)
  | (with_reducible refine x_tryOnly ?_)
  | (with_reducible refine x_mtU ?_)
  | (with_reducible refine x_mk ?_)
  | (with_reducible refine x_yes ?_)
  | (with_reducible refine x_un ?_)
  | (with_reducible refine x_neg ?_)
  | (with_reducible refine x_iEnum ?_)
  | (with_reducible refine x_iEnumT ?_)
  | (with_reducible refine x_lst ?_)
  | (with_reducible refine x_tup ?_)
  | (with_reducible refine x_dc ?_)
  | ((with_reducible refine' x_dinO ?h ?_); case h => walk_at "hf")
  | ((with_reducible refine' x_newL ?h ?_); case h => first | exact Nat.zero_le _ | (simp; done) | (simp; omega))
  | ((with_reducible refine' x_newT ?h ?_); case h => first | exact Nat.zero_le _ | (simp; done) | (simp; omega))
  | ((with_reducible refine' x_listL ?h ?_); case h => walk_at "sl")
  | ((with_reducible refine' x_listT ?h ?_); case h => walk_at "st")
  | ((with_reducible refine' x_mulI ?h ?_); case h => first | exact .inl ⟨by decide, by decide⟩ | exact .inr ⟨by decide, by decide⟩ | exact .inl ⟨by omega, by omega⟩ | exact .inr ⟨by omega, by omega⟩)
  | ((with_reducible refine' x_divI ?h ?_); case h => first | exact ⟨by decide, by decide⟩ | exact ⟨by omega, by omega⟩)
  | ((with_reducible refine' x_powI ?h ?_); case h => exact ⟨by decide, by decide, by decide⟩)
  | ((with_reducible refine' x_ixL ?h ?h2 ?_); (case h => walk_at "sl"); (case h2 => first | rfl | assumption))
  | ((with_reducible refine' x_ixT ?h ?h2 ?_); (case h => walk_at "st"); (case h2 => first | rfl | assumption))
  | (with_reducible refine x_m1s ?_)
  | (with_reducible refine x_str1 ?_)
  | (with_reducible refine x_sl ?_)
  | (with_reducible refine x_noPart ?_)
  | (with_reducible refine x_part ?_)
  | (with_reducible refine x_exi ?_)
  | ((with_reducible refine' x_slS ?h ?_); case h => walk_at "sz")
  | ((with_reducible refine' x_slL ?h ?_); case h => walk_at "sl")
  | (with_reducible refine x_pairsC ?_)
  | (with_reducible refine x_pairsN ?_)
  | ((with_reducible refine' x_dgS ?h ?h2 ?_); (case h => walk_at "hf"); (case h2 => assumption))
  | ((with_reducible refine' x_srtT ?h ?h2 ?_); (case h => walk_at "st"); (case h2 => omega))
  | ((with_reducible refine' x_srtL ?h ?h2 ?_); (case h => walk_at "sl"); (case h2 => omega))
  | ((with_reducible refine' x_inLS ?h ?_); case h => walk_at "sl")
  | ((with_reducible refine' x_inTS ?h ?_); case h => walk_at "st")
  | ((with_reducible refine' x_ninLS ?h ?_); case h => walk_at "sl")
  | ((with_reducible refine' x_ninTS ?h ?_); case h => walk_at "st")
  | ((with_reducible refine' x_tyL ?h ?_); case h => walk_at "sl")
  | ((with_reducible refine' x_gtup ?h ?h2 ?_); (case h => walk_at "st"); (case h2 => rfl))
  | (with_reducible refine x_next ?_)
  | (with_reducible refine x_for ?_)
  | (with_reducible refine x_iList ?_)
  | (with_reducible refine x_iTup ?_)
  | (with_reducible refine x_iStr ?_)
  | (with_reducible refine x_iRng1 ?_)
  | (with_reducible refine x_iRng2 ?_)
  | (with_reducible refine x_lc ?_)
  | (with_reducible refine x_drop ?_)
  | (with_reducible refine x_retN ?_)
  | (with_reducible refine x_cont ?_)
  | (with_reducible refine x_break ?_)
  | (with_reducible refine x_cl ?_)
  | (with_reducible refine x_isN ?_)
  | (with_reducible refine x_notN ?_)
  | (with_reducible refine x_andV ?_)
  | (with_reducible refine x_orV ?_)
  | (with_reducible refine x_notV ?_)
  | (with_reducible refine x_ifE ?_)
  | (with_reducible refine x_addI ?_)
  | (with_reducible refine x_subI ?_)
  | (with_reducible refine x_ltI ?_)
  | (with_reducible refine x_leI ?_)
  | (with_reducible refine x_gtI ?_)
  | (with_reducible refine x_geI ?_)
  | (with_reducible refine x_ltS ?_)
  | (with_reducible refine x_abs ?_)
  | (with_reducible refine x_min2 ?_)
  | (with_reducible refine x_max2 ?_)
  | (with_reducible refine x_int1 ?_)
  | (with_reducible refine x_notInS ?_)
  | ((with_reducible refine' x_eq ?h ?_); case h => rfl)
  | ((with_reducible refine' x_ne ?h ?_); case h => rfl)
  | ((with_reducible refine' x_modI ?h ?_); case h => first | decide | omega)
  | ((with_reducible refine' x_isiD ?h1 ?h2 ?h3 ?_); (case h1 => assumption); (case h2 => walk_at "rp"); (case h3 => decide))
  | ((with_reducible refine' x_lenS ?h ?_); case h => walk_at "sz")
  | ((with_reducible refine' x_lenL ?h ?_); case h => walk_at "sl")
  | ((with_reducible refine' x_lenT ?h ?_); case h => walk_at "st")
  | ((with_reducible refine' x_lenD ?h ?_); case h => walk_at "hf")
  | fail)
local macro_rules | `(tactic| walk_at "sx") => `(tactic| repeat walk_at "s1")
/-! ### parts of a group -/
theorem WAt.repK {K : PySem.W.Frag} {B : Hp} {done : List Str} {kvs : List (Key × V)} {ws : Str → List Str} (h : WAt B done kvs ws) (hw : ∀ p ∈ done, (ws p).length ≤ 100000 ∧ ∀ x ∈ ws p, x.length ≤ 1000000) : RepK K B kvs (wsD done ws) := by
  obtain ⟨al, h1, h2, h3⟩ := h
  rw [h2]
  refine repK_zip h1 (fun q m => ?_) hw
  unfold lsM at m
  obtain ⟨z, hz, rfl⟩ := List.mem_map.mp m
  obtain ⟨j, hj, e⟩ := List.getElem_of_mem hz
  have hj' : j < al.length ∧ j < done.length := by
    rw [List.length_zip] at hj
    omega
  rw [List.getElem_zip] at e
  have e1 : al[j] = z.1 := by rw [← e]
  have e2 : done[j] = z.2 := by rw [← e]
  exact h3 j z.2 z.1 (by rw [List.getElem?_eq_getElem hj'.2, e2]) (by rw [List.getElem?_eq_getElem hj'.1, e1])
def Grp.part (G : Grp) (ps : List Str) (x : Str) : List Str := (G.wish x).filter fun b => decide (b ∈ ps)
theorem Grp.Ok.part {G : Grp} (ok : G.Ok) {ps : List Str} (nd : ps.Nodup) (hin : ∀ x ∈ ps, x ∈ G.names) : Drawn ps ps (G.part ps) :=
  ⟨nd, fun x m => ok.nm x (hin x m), List.Perm.refl _, fun p m => ⟨(ok.wn p (hin p m)).filter _, fun z => ok.ws p (hin p m) (List.mem_filter.mp z).1, fun q z => by simpa using (List.mem_filter.mp z).2⟩⟩
theorem Grp.Ok.wlen {G : Grp} (ok : G.Ok) {x : Str} (h : x ∈ G.names) : (G.wish x).length ≤ 16 := by
  have h2 := nodup_len (ok.wn x h) (ok.wi x h)
  have := ok.few
  omega
abbrev N_Group_kept : List Str := ["self", "people", "lists", "person", "other"]
def t_Group_kept (K : PySem.W.Frag) (E : XK) : TS := (tSeq (tAsg tDNewK (gName 2))
  (tSeq (tFor (iList K (tVar 1)) (gName 3) (sDPut (tVar 2) (tVar 3) (tLc (iList K (tDGet (tFld K (tVar 0) "lists") (tVar 3))) (gName 4) (tTest (tOp (rIn K false) (tVar 4) (tVar 1))) (tVar 4) [4])))
  (tRet (tMk (He.ga K "Group") (sp_Group___init__ K) (WE0 E) (tCons (tCB (rTupOf K) (tCons (tVar 1) tNil)) (tCons (tVar 2) tNil))))))
def sp_Group_kept (K : PySem.W.Frag) : Sp := fun vs H Q E => ∃ (p l : Addr) (B : Hp) (G : Grp) (ps : List Str), vs = [.ref p, .ref l] ∧ Same B H ∧ GAt K B p G ∧ B l = some (.lst (ps.map V.str)) ∧ ps.Nodup ∧ (∀ x ∈ ps, x ∈ G.names) ∧
  ∀ B' H' g G', HS [] B H B' H' [] → GAt K B' g G' → G'.names = ps → (∀ x ∈ ps, G'.wish x = G.part ps x) → Q (.ref g) H'
theorem pure_Group_kept {K : PySem.W.Frag} (gk : GK K) {vs : List V} {H : Hp} {Q : VK} {E : XK} (h : sp_Group_kept K vs H Q E) : t_Group_kept K E { nx := fun _ H' => Q .non H', rt := Q } (start N_Group_kept vs) H := by
  obtain ⟨p, l, B, G, ps, rfl, sB, g, el, nd, hin, k⟩ := h
  have hs := HS.start sB
  show t_Group_kept K E _ [some (.ref p), some (.ref l), none, none, none] H
  unfold t_Group_kept
  obtain ⟨⟨dx, n, ls, m, q, h1, h2, h3, h4, h5⟩, ok⟩ := g
  have hpl : ps.length ≤ 16 := by
    have := nodup_len nd hin
    have := ok.few
    omega
  walk_at "sx"
  refine new_M hs (fun d H1 hs1 _ => ?_)
  walk_at "sx"
  refine ⟨l, rfl, ⟨_, SqL.of (hs1.up el)⟩, ?_⟩
  refine l_list (α := List (Key × V) × Option V) (σf := fun s => [some (.ref p), some (.ref l), some (.ref d), s.2, none]) (Mf := fun s => [(d, .dK s.1)]) (P := fun i s B1 => WAt B1 (ps.take i) s.1 (G.part ps)) (s0 := ([], none)) hs1 el .nil
    (fun i x s B2 H2 hi sb2 hs2 pp => ?_) (fun s B2 H2 sb2 hs2 pp => ?_)
  · obtain ⟨mk, s2⟩ := s
    dsimp only at pp hs2 ⊢
    obtain ⟨a, ha, rfl⟩ := strs_get hi
    have hag : a ∈ G.names := hin a (List.mem_of_getElem? ha)
    obtain ⟨kvs, wa, ed, ev, ewa⟩ := (h3.mono sb2 (R' := LAt B2 G.wish) fun _ _ z => sb2 _ _ z).get ok.nd hag
    have ewa : B2 wa = some (.lst ((G.wish a).map V.str)) := ewa
    have hla := ok.wlen hag
    have el2 := sb2 _ _ el
    walk_at "sx"
    refine x_fld (hs2.up (sb2 _ _ h1)) gk.cl gk.nl (gf_lists n ls m q) ?_
    walk_at "sx"
    refine ⟨wa, rfl, ⟨_, SqL.of (hs2.up ewa)⟩, fun D hD => ?_⟩
    refine c_list (α := Unit) (Mf := fun _ => [(d, .dK mk)]) (P := fun j _ acc _ => acc = (((G.wish a).take j).filter fun b => decide (b ∈ ps)).map V.str) (s0 := ()) hs2 hD ewa rfl (fun j y _ acc B3 H3 hj hacc sb3 hs3 pp => ?_) (fun _ acc B3 H3 sb3 hs3 hacc pp => ?_)
    · obtain ⟨b, hb, rfl⟩ := strs_get hj
      have hjl : j < (G.wish a).length := (List.getElem?_eq_some_iff.mp hb).1
      have el3 := sb3 _ _ el2
      walk_at "sx"
      refine ⟨rfl, ?_⟩
      walk_at "sx"
      refine x_ite (fun h => ?_) (fun h => ?_)
      · walk_at "sx"
        refine c_keep (s := ()) sb3 hs3 hacc (by omega) ?_
        rw [filter_take _ hb, if_pos h, pp]
        simp
      · refine c_left (s := ()) sb3 hs3 hacc ?_
        rw [filter_take _ hb, if_neg (by rw [h]; decide), pp]
    · rw [List.length_map, List.take_length] at pp
      subst pp
      obtain ⟨hs4, sb4⟩ := hs3.still (by simp)
      have er : upd B3 D (.lst (((G.wish a).filter fun b => decide (b ∈ ps)).map V.str)) D = some (.lst ((G.part ps a).map V.str)) := upd_same
      generalize upd B3 D (.lst (((G.wish a).filter fun b => decide (b ∈ ps)).map V.str)) = B4 at hs4 sb4 er
      have hlen := pp.len
      rw [List.length_take] at hlen
      walk_at "sx"
      refine x_dput hs4 (by omega) (fun H5 hs5 => ?_)
      refine ⟨(putK mk (.inr a) (.ref D), some _), B4, rfl, (sb2.trans sb3).trans sb4, hs5, ?_⟩
      dsimp only
      rw [take_snoc ha]
      exact ((pp.mono sb3).mono sb4).snoc (notin_take nd ha) er
  · obtain ⟨mk, s2⟩ := s
    dsimp only at pp hs2 ⊢
    rw [List.length_map, List.take_length] at pp
    have el2 := sb2 _ _ el
    obtain ⟨B3, hs3, sb3, ed⟩ := hs2.still0
    have el3 := sb3 _ _ el2
    walk_at "sx"
    try refine x_tupL (SqL.of (hs3.up el3)) ?_
    refine new_F hs3 (fun tp B4 H4 hs4 sb4 etp _ => ?_)
    have dr := ok.part nd hin
    obtain ⟨G', hG, hGn, hGw⟩ := drawn_group dr hpl
    walk_at "sx"
    refine use_Group hs4 (rep_names etp dr.ok) (.dct (sb4 _ _ ed) (WAt.repK ((pp.mono sb3).mono sb4) fun x m => ?_)) (fun G'' hG' B5 H5 g sb5 hs5 gat => ?_) (fun i hi => by rw [hG] at hi; cases hi) (fun i hi => by rw [hG] at hi; cases hi)
    · obtain ⟨r1, r2, r3⟩ := dr.row x m
      have := nodup_len r1 r3
      exact ⟨by omega, fun y my => okName_len (dr.ok y (r3 y my))⟩
    · rw [hG] at hG'
      cases hG'
      exact k B5 H5 g G' hs5 gat hGn hGw
theorem use_kept {K : PySem.W.Frag} {S : List Addr} {B0 H0 B H : Hp} {M : List (Addr × HO)} {Q : VK} {E : XK} {p l : Addr} {G : Grp} {ps : List Str} (hs : HS S B0 H0 B H M) (g : GAt K B p G) (el : B l = some (.lst (ps.map V.str))) (nd : ps.Nodup) (hin : ∀ x ∈ ps, x ∈ G.names)
    (k : ∀ B' H' g G', Same B B' → HS S B0 H0 B' H' M → GAt K B' g G' → G'.names = ps → (∀ x ∈ ps, G'.wish x = G.part ps x) → Q (.ref g) H') : sp_Group_kept K [.ref p, .ref l] H Q E := ⟨p, l, B, G, ps, rfl, hs.bh, g, el, nd, hin, fun B' H' g G' c h1 h2 h3 => k B' H' g G' c.bb (hs.call c) h1 h2 h3⟩
end Q

set_option Elab.async false
set_option linter.all false
set_option maxRecDepth 100000
set_option maxHeartbeats 4000000
namespace Q
open PySem PySem.Spec PyProof.Rows L2
local macro_rules | `(tactic| walk_at "bf") => `(tactic| first | assumption | (refine' bstep (by assumption) ?r; case r => walk_at "bf") | fail)
local macro_rules | `(tactic| walk_at "rp") => `(tactic| first | assumption | exact Rep.int _ | exact Rep.bl _ | exact Rep.non | (refine' Rep.mono (by assumption) ?r; case r => walk_at "rp") | fail)
local macro_rules | `(tactic| walk_at "hf") => `(tactic| first | assumption | exact HS.up (by assumption) (by walk_at "bf") | exact HS.get (by assumption) List.mem_cons_self | exact HS.get (by assumption) (List.mem_cons_of_mem _ List.mem_cons_self) | exact HS.get (by assumption) (List.mem_cons_of_mem _ (List.mem_cons_of_mem _ List.mem_cons_self)) | exact HS.get (by assumption) (List.mem_cons_of_mem _ (List.mem_cons_of_mem _ (List.mem_cons_of_mem _ List.mem_cons_self))) | fail)
local macro_rules | `(tactic| walk_at "sl") => `(tactic| first | assumption | exact SqL.of (by walk_at "hf") | fail)
local macro_rules | `(tactic| walk_at "st") => `(tactic| first | assumption | exact SqT.of (by walk_at "hf") | fail)
local macro_rules | `(tactic| walk_at "sz") => `(tactic| first | assumption | (refine small_le ?_; first | assumption | omega | (simp; done) | (simp; omega)) | fail)
local macro_rules | `(tactic| walk_at "s1") => `(tactic| first
  | (with_reducible refine x_seq ?_)
  | (with_reducible refine x_asg ?_)
  | ((with_reducible refine x_gname ?_); try simp only [List.set_cons_zero, List.set_cons_succ])
  | ((with_reducible refine' x_var ?h ?_); case h => rfl)
  | (with_reducible refine x_c ?_)
  | (with_reducible refine x_op ?_)
  | (with_reducible refine x_ret ?_)
  | (with_reducible refine x_if ?_)
  | (with_reducible refine x_and ?_)
  | (with_reducible refine x_or ?_)
  | (with_reducible refine x_not ?_)
  | (with_reducible refine x_test ?_)
  | (with_reducible refine x_tB ?_)
  | (with_reducible refine x_tr ?_)
  | (with_reducible refine x_cb ?_)
  | (with_reducible refine x_cons ?_)
  | (with_reducible refine x_nil ?_)
  | (with_reducible refine x_exb ?_)
  | (with_reducible refine x_tt _ _ ?_)
  | (with_reducible refine x_ff _ _ ?_)
  | (with_reducible refine x_dget ?_)
  | (with_reducible refine x_din ?_)
  | (with_reducible refine x_dnin ?_)
  | (with_reducible refine x_dputU ?_)
  | (with_reducible refine x_dnew ?_)
  | (with_reducible refine x_bm ?_)
  | (with_reducible refine x_bm0 ?_)
  | (with_reducible refine x_gsub ?_)
  | (with_reducible refine x_fldU ?_)
  | (with_reducible refine x_sfldU ?_)
  | (with_reducible refine x_gcons ?_)
  | (with_reducible refine x_gnil ?_)
  | (with_reducible refine x_rz1 ?_)
  | (with_reducible refine x_rz2 ?_)
  | (with_reducible refine x_tryAs ?_)
  | (with_reducible refine x_tryOnly ?_)
  | (with_reducible refine x_mtU ?_)
  | (with_reducible refine x_mk ?_)
  | (with_reducible refine x_yes ?_)
  | (with_reducible refine x_un ?_)
  | (with_reducible refine x_neg ?_)
  | (with_reducible refine x_iEnum ?_)
  | (with_reducible refine x_iEnumT ?_)
  | (with_reducible refine x_lst ?_)
  | (with_reducible refine x_tup ?_)
  | (with_reducible refine x_dc ?_)
  | ((with_reducible refine' x_dinO ?h ?_); case h => walk_at "hf")
  | ((with_reducible refine' x_newL ?h ?_); case h => first | exact Nat.zero_le _ | (simp; done) | (simp; omega))
  | ((with_reducible refine' x_newT ?h ?_); case h => first | exact Nat.zero_le _ | (simp; done) | (simp; omega))
  | ((with_reducible refine' x_listL ?h ?_); case h => walk_at "sl")
  | ((with_reducible refine' x_listT ?h ?_); case h => walk_at "st")
  | ((with_reducible refine' x_mulI ?h ?_); case h => first | exact .inl ⟨by decide, by decide⟩ | exact .inr ⟨by decide, by decide⟩ | exact .inl ⟨by omega, by omega⟩ | exact .inr ⟨by omega, by omega⟩)
  | ((with_reducible refine' x_divI ?h ?_); case h => first | exact ⟨by decide, by decide⟩ | exact ⟨by omega, by omega⟩)
  | ((with_reducible refine' x_powI ?h ?_); case h => exact ⟨by decide, by decide, by decide⟩)
  | ((with_reducible refine' x_ixL ?h ?h2 ?_); (case h => walk_at "sl"); (case h2 => first | rfl | assumption))
  | ((with_reducible refine' x_ixT ?h ?h2 ?_); (case h => walk_at "st"); (case h2 => first | rfl | assumption))
  | (with_reducible refine x_m1s ?_)
  | (with_reducible refine x_str1 ?_)
  | (with_reducible refine x_sl ?_)
  | (with_reducible refine x_noPart ?_)
  | (with_reducible refine x_part ?_)
  | (with_reducible refine x_exi ?_)
  | ((with_reducible refine' x_slS ?h ?_); case h => walk_at "sz")
  | ((with_reducible refine' x_slL ?h ?_); case h => walk_at "sl")
  | (with_reducible refine x_pairsC ?_)
  | (with_reducible refine x_pairsN ?_)
  | ((with_reducible refine' x_dgS ?h ?h2 ?_); (case h => walk_at "hf"); (case h2 => assumption))
  | ((with_reducible refine' x_srtT ?h ?h2 ?_); (case h => walk_at "st"); (case h2 => omega))
  | ((with_reducible refine' x_srtL ?h ?h2 ?_); (case h => walk_at "sl"); (case h2 => omega))
  | ((with_reducible refine' x_inLS ?h ?_); case h => walk_at "sl")
  | ((with_reducible refine' x_inTS ?h ?_); case h => walk_at "st")
  | ((with_reducible refine' x_ninLS ?h ?_); case h => walk_at "sl")
  | ((with_reducible refine' x_ninTS ?h ?_); case h => walk_at "st")
  | ((with_reducible refine' x_tyL ?h ?_); case h => walk_at "sl")
  | ((with_reducible refine' x_gtup ?h ?h2 ?_); (case h => walk_at "st"); (case h2 => rfl))
  | (with_reducible refine x_next ?_)
  | (with_reducible refine x_for ?_)
  | (with_reducible refine x_iList ?_)
  | (with_reducible refine x_iTup ?_)
  | (with_reducible refine x_iStr ?_)
  | (with_reducible refine x_iRng1 ?_)
  | (with_reducible refine x_iRng2 ?_)
  | (with_reducible refine x_lc ?_)
  | (with_reducible refine x_drop ?_)
  | (with_reducible refine x_retN ?_)
  | (with_reducible refine x_cont ?_)
  | (with_reducible refine x_break ?_)
  | (with_reducible refine x_cl ?_)
  | (with_reducible refine x_isN ?_)
  | (with_reducible refine x_notN ?_)
  | (with_reducible refine x_andV ?_)
  | (with_reducible refine x_orV ?_)
  | (with_reducible refine x_notV ?_)
  | (with_reducible refine x_ifE ?_)
  | (with_reducible refine x_addI ?_)
  | (with_reducible refine x_subI ?_)
  | (with_reducible refine x_ltI ?_)
  | (with_reducible refine x_leI ?_)
  | (with_reducible refine x_gtI ?_)
  | (with_reducible refine x_geI ?_)
  | (with_reducible refine x_ltS ?_)
  | (with_reducible refine x_abs ?_)
  | (with_reducible refine x_min2 ?_)
  | (with_reducible refine x_max2 ?_)
  | (with_reducible refine x_int1 ?_)
  | (with_reducible refine x_notInS ?_)
  | ((with_reducible refine' x_eq ?h ?_); case h => rfl)
  | ((with_reducible refine' x_ne ?h ?_); case h => rfl)
  | ((with_reducible refine' x_modI ?h ?_); case h => first | decide | omega)
  | ((with_reducible refine' x_isiD ?h1 ?h2 ?h3 ?_); (case h1 => assumption); (case h2 => walk_at "rp"); (case h3 => decide))
  | ((with_reducible refine' x_lenS ?h ?_); case h => walk_at "sz")
  | ((with_reducible refine' x_lenL ?h ?_); case h => walk_at "sl")
  | ((with_reducible refine' x_lenT ?h ?_); case h => walk_at "st")
  | ((with_reducible refine' x_lenD ?h ?_); case h => walk_at "hf")
  | fail)
local macro_rules | `(tactic| walk_at "sx") => `(tactic| repeat walk_at "s1")
/-! ### lots; inside, outside, without -/
def lotAt (ns : List Str) : Nat → List Str → List D → Option Nat
  | _, _, [] => none
  | i, seen, .str x :: r => if decide (x ∈ ns) && !decide (x ∈ seen) then lotAt ns (i + 1) (seen ++ [x]) r else some i
  | i, _, _ :: _ => some i
def badLot (ns : List Str) : D → Option Int
  | .lst ds => (lotAt ns 0 [] ds).map fun (n : Nat) => (n : Int)
  | _ => some (-1)
theorem lotAt_none {ns : List Str} : ∀ {ds : List D} {i : Nat} {seen : List Str}, lotAt ns i seen ds = none → ∃ xs : List Str, ds = xs.map D.str ∧ (∀ x ∈ xs, x ∈ ns ∧ x ∉ seen) ∧ xs.Nodup
  | [], _, _, _ => ⟨[], rfl, by simp, List.nodup_nil⟩
  | d :: r, i, seen, h => by
    cases d with
    | str x =>
      unfold lotAt at h
      by_cases hc : (decide (x ∈ ns) && !decide (x ∈ seen)) = true
      · rw [if_pos hc] at h
        obtain ⟨h1, h2⟩ := Bool.and_eq_true_iff.mp hc
        obtain ⟨xs, e, hx, hn⟩ := lotAt_none h
        refine ⟨x :: xs, by rw [e]; rfl, fun y m => ?_, ?_⟩
        · rcases List.mem_cons.mp m with rfl | m
          · exact ⟨by simpa using h1, by simpa using h2⟩
          · exact ⟨(hx y m).1, fun z => (hx y m).2 (List.mem_append_left _ z)⟩
        · rw [List.nodup_cons]
          exact ⟨fun z => (hx x z).2 (by simp), hn⟩
      · rw [if_neg hc] at h
        cases h
    | _ => cases h
theorem badLot_none {ns : List Str} {d : D} (h : badLot ns d = none) : ∃ xs : List Str, d = D.strs xs ∧ (∀ x ∈ xs, x ∈ ns) ∧ xs.Nodup := by
  cases d with
  | lst ds =>
    unfold badLot at h
    simp only [Option.map_eq_none_iff] at h
    obtain ⟨xs, e, hx, hn⟩ := lotAt_none h
    exact ⟨xs, by rw [e]; rfl, fun x m => (hx x m).1, hn⟩
  | _ => cases h
abbrev N_Group_check_lot : List Str := ["self", "lot", "seen", "index", "item"]
def t_Group_check_lot (K : PySem.W.Frag) (E : XK) : TS := (tSeq (tIfS (tNot (tB (tCB (rIsi K) (tCons (tVar 1) (tCons (tC (.ty "list")) tNil))))) (tRz1 (He.ga K "BadLot") "index" (tUn rNegI (tC (.int 1))) (WE0 E)) tNext)
  (tSeq (tAsg (tLst tNil) (gName 2))
  (tFor (iEnum K (tCons (tVar 1) tNil)) (gTup K 2 (gCons (gName 3) (gCons (gName 4) gNil))) (tSeq (tIfS (tOr (tNot (tB (tCB (rIsi K) (tCons (tVar 4) (tCons (tC (.ty "str")) tNil))))) (tOr (tB (tDNotIn (tVar 4) (tFld K (tVar 0) "lists"))) (tTest (tOp (rIn K false) (tVar 4) (tVar 2))))) (tRz1 (He.ga K "BadLot") "index" (tVar 3) (WE0 E)) tNext)
  (tDrop (tBM K "list" rAppend (tVar 2) (tCons (tVar 4) tNil)))))))
def sp_Group_check_lot (K : PySem.W.Frag) : Sp := fun vs H Q E => ∃ p v B G d, vs = [.ref p, v] ∧ Same B H ∧ GAt K B p G ∧ Rep K B v d ∧ (badLot G.names d = none → Ret B H Q fun _ r => r = .non) ∧ ∀ i, badLot G.names d = some i → Thr K B H E "BadLot" [("index", .int i)]
theorem pure_Group_check_lot {K : PySem.W.Frag} (gk : GK K) {vs : List V} {H : Hp} {Q : VK} {E : XK} (h : sp_Group_check_lot K vs H Q E) : t_Group_check_lot K E { nx := fun _ H' => Q .non H', rt := Q } (start N_Group_check_lot vs) H := by
  obtain ⟨p, v, B, G, d, rfl, sB, g, r, k, ke⟩ := h
  have hs := HS.start sB
  show t_Group_check_lot K E _ [some (.ref p), some v, none, none, none] H
  unfold t_Group_check_lot
  obtain ⟨⟨dx, n, ls, m, q, h1, h2, h3, h4, h5⟩, ok⟩ := g
  walk_at "sx"
  cases r with
  | @lst a vs ds e hz r =>
    have hl := r.length
    refine x_ite (fun h => by simp [D.isT] at h) (fun _ => ?_)
    walk_at "sx"
    refine new_M hs (fun l H1 hs1 _ => ?_)
    walk_at "sx"
    refine ⟨a, vs, rfl, by walk_at "sl", ?_⟩
    refine l_enum (α := List Str × Option V × Option V) (σf := fun s => [some (.ref p), some (.ref a), some (.ref l), s.2.1, s.2.2]) (Mf := fun s => [(l, .lst (s.1.map V.str))])
      (P := fun i s _ => s.1.length = i ∧ lotAt G.names 0 [] ds = lotAt G.names i s.1 (ds.drop i)) (s0 := ([], none, none)) hs1 e ⟨rfl, rfl⟩ (fun i x s T B1 H1 hi sb hs2 pp hT => ?_) (fun s B1 H1 sb hs2 pp => ?_) (fun _ _ _ _ p _ => p)
    · obtain ⟨seen, s2, s3⟩ := s
      obtain ⟨hlen, hgo⟩ := pp
      dsimp only at hlen hgo hs2 ⊢
      obtain ⟨d, hd, rd⟩ := r.get hi
      have hil : i < ds.length := (List.getElem?_eq_some_iff.mp hd).1
      have hdrop : ds.drop i = d :: ds.drop (i + 1) := by
        rw [List.drop_eq_getElem_cons hil, (List.getElem?_eq_some_iff.mp hd).2]
      rw [hdrop] at hgo
      have rd1 := rd.mono sb
      have fin : ∀ B2 H2, HS [] B H B2 H2 [(l, .lst (seen.map V.str))] → lotAt G.names i seen (d :: ds.drop (i + 1)) = some i → Rz (WE0 E) (He.ga K "BadLot") [("index", .int (i : Nat))] [some (.ref p), some (.ref a), some (.ref l), some (.int (i : Nat)), some x] H2 := fun B2 H2 h2 e1 => by
        refine x_thr h2 (ke _ ?_)
        simp only [badLot, hgo, e1, Option.map_some]
      walk_at "sx"
      cases rd with
      | @str y hy =>
        refine x_ite (fun h => by simp [D.isT] at h) (fun _ => ?_)
        walk_at "sx"
        refine x_fld (hs2.up (sb _ _ h1)) gk.cl gk.nl (gf_lists n ls m q) ?_
        obtain ⟨kvs, el, hk⟩ := (h3.mono sb (R' := LAt B1 G.wish) fun _ _ z => sb _ _ z).has ok.nd y
        walk_at "sx"
        rw [hk]
        refine x_ite (fun h => ?_) (fun h => ?_)
        · walk_at "sx"
          refine fin _ _ hs2 ?_
          have : ¬ y ∈ G.names := by simpa using h
          simp [lotAt, this]
        have hyn : y ∈ G.names := by simpa using h
        walk_at "sx"
        refine x_ite (fun h => ?_) (fun h => ?_)
        · walk_at "sx"
          refine fin _ _ hs2 ?_
          have : y ∈ seen := by simpa using h
          simp [lotAt, this]
        have hys : ¬ y ∈ seen := by simpa using h
        walk_at "sx"
        refine x_append hs2 (by rw [List.length_map]; omega) (fun H3 hs4 => ?_)
        refine ⟨(seen ++ [y], some _, some _), B1, rfl, sb, by simpa using hs4, by simp [hlen], ?_⟩
        rw [hgo]
        simp [lotAt, hyn, hys]
      | _ =>
        refine x_ite (fun h => ?_) (fun h => by simp [D.isT] at h)
        walk_at "sx"
        exact fin _ _ hs2 rfl
    · obtain ⟨hlen, hgo⟩ := pp
      have : ds.drop vs.length = [] := by rw [hl]; simp
      rw [this] at hgo
      exact k (by simp only [badLot, hgo, lotAt, Option.map_none]) B1 H1 _ (hs.call hs2.all) rfl
  | _ =>
    refine x_ite (fun h => ?_) (fun h => by simp [D.isT] at h)
    walk_at "sx"
    exact x_thr hs (ke _ rfl)
theorem use_check_lot {K : PySem.W.Frag} {S : List Addr} {B0 H0 B H : Hp} {M : List (Addr × HO)} {Q : VK} {E : XK} {p : Addr} {v : V} {G : Grp} {d : D} (hs : HS S B0 H0 B H M) (g : GAt K B p G) (r : Rep K B v d)
    (k : badLot G.names d = none → ∀ B' H', Same B B' → HS S B0 H0 B' H' M → Q .non H') (ke : ∀ i, badLot G.names d = some i → ThrW K S B0 H0 B M E "BadLot" [("index", .int i)]) : sp_Group_check_lot K [.ref p, v] H Q E :=
  ⟨p, v, B, G, d, rfl, hs.bh, g, r, fun h B' H' v' c e => by rw [e]; exact k h B' H' c.bb (hs.call c), fun i h => (ke i h).thr hs⟩
/-- the people of the group that stay -/
def spPart (K : PySem.W.Frag) (f : List Str → Str → Bool) : Sp := fun vs H Q E => ∃ p v B G d, vs = [.ref p, v] ∧ Same B H ∧ GAt K B p G ∧ Rep K B v d ∧ (∀ i, badLot G.names d = some i → Thr K B H E "BadLot" [("index", .int i)]) ∧
  ∀ lot, d = D.strs lot → badLot G.names d = none → ∀ B' H' g G', HS [] B H B' H' [] → GAt K B' g G' → G'.names = G.names.filter (f lot) → (∀ x ∈ G'.names, G'.wish x = G.part (G.names.filter (f lot)) x) → Q (.ref g) H'
abbrev N_Group_inside : List Str := ["self", "lot", "person"]
def t_Group_inside (K : PySem.W.Frag) (E : XK) : TS := (tSeq (tDrop (tMt (He.ga K "Group") "check_lot" (sp_Group_check_lot K) (WE0 E) (tVar 0) (tCons (tVar 1) tNil)))
  (tRet (tMt (He.ga K "Group") "kept" (sp_Group_kept K) (WE0 E) (tVar 0) (tCons (tLc (iList K (tFld K (tVar 0) "names")) (gName 2) (tTest (tOp (rIn K false) (tVar 2) (tVar 1))) (tVar 2) [2]) tNil))))
def sp_Group_inside (K : PySem.W.Frag) : Sp := spPart K fun lot x => decide (x ∈ lot)
theorem pure_Group_inside {K : PySem.W.Frag} (gk : GK K) {vs : List V} {H : Hp} {Q : VK} {E : XK} (h : sp_Group_inside K vs H Q E) : t_Group_inside K E { nx := fun _ H' => Q .non H', rt := Q } (start N_Group_inside vs) H := by
  obtain ⟨p, v, B, G, d, rfl, sB, g, r, ke, k⟩ := h
  have hs := HS.start sB
  show t_Group_inside K E _ [some (.ref p), some v, none] H
  unfold t_Group_inside
  obtain ⟨dx0, n0, l0, m0, q0, hg0⟩ := g.ins
  walk_at "sx"
  refine x_mt (hs.up hg0) (gf_no (by decide +kernel)) ?_
  walk_at "sx"
  refine use_check_lot hs g r (fun hb B1 H1 sb1 hs1 => ?_) (fun i hi => (ke i hi).w)
  obtain ⟨lot, rfl, hin, hnd⟩ := badLot_none hb
  obtain ⟨lo, rfl, elo⟩ := rep_strs_inv r
  have g1 := g.mono sb1
  have elo1 := sb1 _ _ elo
  obtain ⟨⟨dx, n, ls, m, q, h1, h2, h3, h4, h5⟩, ok⟩ := id g1
  walk_at "sx"
  refine x_mt (hs1.up (sb1 _ _ hg0)) (gf_no (by decide +kernel)) ?_
  walk_at "sx"
  refine x_fld (hs1.up h1) gk.cl gk.nn (gf_names n ls m q) ?_
  have few := ok.few
  refine ⟨n, rfl, ⟨_, SqL.of (hs1.up h2)⟩, fun D hD => ?_⟩
  refine c_list (α := Unit) (Mf := fun _ => []) (P := fun j _ acc _ => acc = ((G.names.take j).filter fun b => decide (b ∈ lot)).map V.str) (s0 := ()) hs1 hD h2 rfl (fun j y _ acc B3 H3 hj hacc sb3 hs3 pp => ?_) (fun _ acc B3 H3 sb3 hs3 hacc pp => ?_)
  · obtain ⟨b, hb, rfl⟩ := strs_get hj
    have hjl : j < G.names.length := (List.getElem?_eq_some_iff.mp hb).1
    have elo3 := sb3 _ _ elo1
    walk_at "sx"
    refine ⟨rfl, ?_⟩
    walk_at "sx"
    refine x_ite (fun h => ?_) (fun h => ?_)
    · walk_at "sx"
      refine c_keep (s := ()) sb3 hs3 hacc (by omega) ?_
      rw [filter_take _ hb, if_pos h, pp]
      simp
    · refine c_left (s := ()) sb3 hs3 hacc ?_
      rw [filter_take _ hb, if_neg (by rw [h]; decide), pp]
  · rw [List.length_map, List.take_length] at pp
    subst pp
    obtain ⟨B4, hs4, sb4, er⟩ := hs3.still0
    walk_at "sx"
    refine use_kept hs4 ((g1.mono sb3).mono sb4) er (ok.nd.filter _) (fun x mx => (List.mem_filter.mp mx).1) (fun B5 H5 g' G' sb5 hs5 gat hn hw => ?_)
    exact k lot rfl hb B5 H5 g' G' hs5 gat hn (fun x mx => hw x (by rw [← hn]; exact mx))
abbrev N_Group_outside : List Str := ["self", "lot", "person"]
def t_Group_outside (K : PySem.W.Frag) (E : XK) : TS := (tSeq (tDrop (tMt (He.ga K "Group") "check_lot" (sp_Group_check_lot K) (WE0 E) (tVar 0) (tCons (tVar 1) tNil)))
  (tRet (tMt (He.ga K "Group") "kept" (sp_Group_kept K) (WE0 E) (tVar 0) (tCons (tLc (iList K (tFld K (tVar 0) "names")) (gName 2) (tTest (tOp (rIn K true) (tVar 2) (tVar 1))) (tVar 2) [2]) tNil))))
def sp_Group_outside (K : PySem.W.Frag) : Sp := spPart K fun lot x => !decide (x ∈ lot)
theorem pure_Group_outside {K : PySem.W.Frag} (gk : GK K) {vs : List V} {H : Hp} {Q : VK} {E : XK} (h : sp_Group_outside K vs H Q E) : t_Group_outside K E { nx := fun _ H' => Q .non H', rt := Q } (start N_Group_outside vs) H := by
  obtain ⟨p, v, B, G, d, rfl, sB, g, r, ke, k⟩ := h
  have hs := HS.start sB
  show t_Group_outside K E _ [some (.ref p), some v, none] H
  unfold t_Group_outside
  obtain ⟨dx0, n0, l0, m0, q0, hg0⟩ := g.ins
  walk_at "sx"
  refine x_mt (hs.up hg0) (gf_no (by decide +kernel)) ?_
  walk_at "sx"
  refine use_check_lot hs g r (fun hb B1 H1 sb1 hs1 => ?_) (fun i hi => (ke i hi).w)
  obtain ⟨lot, rfl, hin, hnd⟩ := badLot_none hb
  obtain ⟨lo, rfl, elo⟩ := rep_strs_inv r
  have g1 := g.mono sb1
  have elo1 := sb1 _ _ elo
  obtain ⟨⟨dx, n, ls, m, q, h1, h2, h3, h4, h5⟩, ok⟩ := id g1
  walk_at "sx"
  refine x_mt (hs1.up (sb1 _ _ hg0)) (gf_no (by decide +kernel)) ?_
  walk_at "sx"
  refine x_fld (hs1.up h1) gk.cl gk.nn (gf_names n ls m q) ?_
  have few := ok.few
  refine ⟨n, rfl, ⟨_, SqL.of (hs1.up h2)⟩, fun D hD => ?_⟩
  refine c_list (α := Unit) (Mf := fun _ => []) (P := fun j _ acc _ => acc = ((G.names.take j).filter fun b => !decide (b ∈ lot)).map V.str) (s0 := ()) hs1 hD h2 rfl (fun j y _ acc B3 H3 hj hacc sb3 hs3 pp => ?_) (fun _ acc B3 H3 sb3 hs3 hacc pp => ?_)
  · obtain ⟨b, hb, rfl⟩ := strs_get hj
    have hjl : j < G.names.length := (List.getElem?_eq_some_iff.mp hb).1
    have elo3 := sb3 _ _ elo1
    walk_at "sx"
    refine ⟨rfl, ?_⟩
    walk_at "sx"
    refine x_ite (fun h => ?_) (fun h => ?_)
    · walk_at "sx"
      refine c_keep (s := ()) sb3 hs3 hacc (by omega) ?_
      rw [filter_take _ hb, if_pos h, pp]
      simp
    · refine c_left (s := ()) sb3 hs3 hacc ?_
      rw [filter_take _ hb, if_neg (by rw [h]; decide), pp]
  · rw [List.length_map, List.take_length] at pp
    subst pp
    obtain ⟨B4, hs4, sb4, er⟩ := hs3.still0
    walk_at "sx"
    refine use_kept hs4 ((g1.mono sb3).mono sb4) er (ok.nd.filter _) (fun x mx => (List.mem_filter.mp mx).1) (fun B5 H5 g' G' sb5 hs5 gat hn hw => ?_)
    exact k lot rfl hb B5 H5 g' G' hs5 gat hn (fun x mx => hw x (by rw [← hn]; exact mx))
end Q

set_option Elab.async false
set_option linter.all false
set_option maxRecDepth 100000
set_option maxHeartbeats 4000000
namespace Q
open PySem PySem.Spec PyProof.Rows L2
/-! ### != of two lists of the same things -/
def sameB : V → Bool
  | .ref _ => true
  | v => flatB v
theorem eq_sameB {A : Around} {s : Shared} {v : V} {u u' : Value} (r : RelV v u) (r' : RelV v u') (f : sameB v = true) : SeqAt.EqAt A s u u' true := by
  cases v with
  | ref a =>
    cases (show u = Value.ref a from r)
    cases (show u' = Value.ref a from r')
    exact SeqAt.EqAt.same _
  | _ => exact eqAt_same r r' f
def rNeL (K : PySem.W.Frag) : R2 := fun x y H Q => ∃ a b xs, x = .ref a ∧ y = .ref b ∧ SqL K H a xs ∧ SqL K H b xs ∧ xs.all sameB = true ∧ Q (.bl false) H
theorem op_neL {X : Cx} (hu : X.A.units + 64 < cLine) : OpR X (compareOp .NotEq) (rNeL X.K) := by
  intro pins s σ H x y v u Q I rx ry h
  obtain ⟨a, b, xs, rfl, rfl, ha, hb, hf, q⟩ := h
  cases rx
  cases ry
  obtain ⟨us, r1, p1, _⟩ := I.list ha
  obtain ⟨ws, r2, p2, _⟩ := I.list hb
  have l1 := r1.length
  have l2 := r2.length
  have hsz : us.toArray.size = ws.toArray.size := by
    rw [List.size_toArray, List.size_toArray]
    omega
  refine PySem.W.cmp_ofNotEq (SeqAt.RcNeAt.lists (e := fun _ => true) p1.isList p2.isList hsz (by omega) (fun j h1 h2 => ?_) X.prog X.w X.xe (EP X pins σ Q) ?_)
  · have h1' : j < us.length := by simpa using h1
    have h2' : j < ws.length := by simpa using h2
    have hx : xs[j]? = some (xs[j]'(by omega)) := List.getElem?_eq_getElem (by omega)
    obtain ⟨u1, e1, q1⟩ := r1.get hx
    obtain ⟨u2, e2, q2⟩ := r2.get hx
    rw [List.getElem?_eq_getElem h1'] at e1
    rw [List.getElem?_eq_getElem h2'] at e2
    cases e1
    cases e2
    have := eq_sameB (A := X.A.in1) (s := s) q1 q2 (List.all_eq_true.mp hf _ (List.getElem_mem _))
    simpa using this
  · rw [show ((List.range us.toArray.size).all fun _ => true) = true from List.all_eq_true.mpr fun _ _ => rfl]
    exact ⟨.bl false, H, I, rfl, q⟩
end Q

set_option Elab.async false
set_option linter.all false
set_option maxRecDepth 100000
set_option maxHeartbeats 4000000
namespace Q
open PySem PySem.Spec PyProof.Rows L2
local macro_rules | `(tactic| walk_at "bf") => `(tactic| first | assumption | (refine' bstep (by assumption) ?r; case r => walk_at "bf") | fail)
local macro_rules | `(tactic| walk_at "rp") => `(tactic| first | assumption | exact Rep.int _ | exact Rep.bl _ | exact Rep.non | (refine' Rep.mono (by assumption) ?r; case r => walk_at "rp") | fail)
local macro_rules | `(tactic| walk_at "hf") => `(tactic| first | assumption | exact HS.up (by assumption) (by walk_at "bf") | exact HS.get (by assumption) List.mem_cons_self | exact HS.get (by assumption) (List.mem_cons_of_mem _ List.mem_cons_self) | exact HS.get (by assumption) (List.mem_cons_of_mem _ (List.mem_cons_of_mem _ List.mem_cons_self)) | exact HS.get (by assumption) (List.mem_cons_of_mem _ (List.mem_cons_of_mem _ (List.mem_cons_of_mem _ List.mem_cons_self))) | fail)
local macro_rules | `(tactic| walk_at "sl") => `(tactic| first | assumption | exact SqL.of (by walk_at "hf") | fail)
local macro_rules | `(tactic| walk_at "st") => `(tactic| first | assumption | exact SqT.of (by walk_at "hf") | fail)
local macro_rules | `(tactic| walk_at "sz") => `(tactic| first | assumption | (refine small_le ?_; first | assumption | omega | (simp; done) | (simp; omega)) | fail)
local macro_rules | `(tactic| walk_at "s1") => `(tactic| first
  | (with_reducible refine x_seq ?_)
  | (with_reducible refine x_asg ?_)
  | ((with_reducible refine x_gname ?_); try simp only [List.set_cons_zero, List.set_cons_succ])
  | ((with_reducible refine' x_var ?h ?_); case h => rfl)
  | (with_reducible refine x_c ?_)
  | (with_reducible refine x_op ?_)
  | (with_reducible refine x_ret ?_)
  | (with_reducible refine x_if ?_)
  | (with_reducible refine x_and ?_)
  | (with_reducible refine x_or ?_)
  | (with_reducible refine x_not ?_)
  | (with_reducible refine x_test ?_)
  | (with_reducible refine x_tB ?_)
  | (with_reducible refine x_tr ?_)
  | (with_reducible refine x_cb ?_)
  | (with_reducible refine x_cons ?_)
  | (with_reducible refine x_nil ?_)
  | (with_reducible refine x_exb ?_)
  | (with_reducible refine x_tt _ _ ?_)
  | (with_reducible refine x_ff _ _ ?_)
  | (with_reducible refine x_dget ?_)
  | (with_reducible refine x_din ?_)
  | (with_reducible refine x_dnin ?_)
  | (with_reducible refine x_dputU ?_)
  | (with_reducible refine x_dnew ?_)
  | (with_reducible refine x_bm ?_)
  | (with_reducible refine x_bm0 ?_)
  | (with_reducible refine x_gsub ?_)
  | (with_reducible refine x_fldU ?_)
  | (with_reducible refine x_sfldU ?_)
  | (with_reducible refine x_gcons ?_)
  | (with_reducible refine x_gnil ?_)
  | (with_reducible refine x_rz1 ?_)
  | (with_reducible refine x_rz2 ?_)
  | (with_reducible refine x_tryAs ?_)
  | (with_reducible refine x_tryOnly ?_)
  | (with_reducible refine x_mtU ?_)
  | (with_reducible refine x_mk ?_)
  | (with_reducible refine x_yes ?_)
  | (with_reducible refine x_un ?_)
  | (with_reducible refine x_neg ?_)
  | (with_reducible refine x_iEnum ?_)
  | (with_reducible refine x_iEnumT ?_)
  | (with_reducible refine x_lst ?_)
  | (with_reducible refine x_tup ?_)
  | (with_reducible refine x_dc ?_)
  | ((with_reducible refine' x_dinO ?h ?_); case h => walk_at "hf")
  | ((with_reducible refine' x_newL ?h ?_); case h => first | exact Nat.zero_le _ | (simp; done) | (simp; omega))
  | ((with_reducible refine' x_newT ?h ?_); case h => first | exact Nat.zero_le _ | (simp; done) | (simp; omega))
  | ((with_reducible refine' x_listL ?h ?_); case h => walk_at "sl")
  | ((with_reducible refine' x_listT ?h ?_); case h => walk_at "st")
  | ((with_reducible refine' x_mulI ?h ?_); case h => first | exact .inl ⟨by decide, by decide⟩ | exact .inr ⟨by decide, by decide⟩ | exact .inl ⟨by omega, by omega⟩ | exact .inr ⟨by omega, by omega⟩)
  | ((with_reducible refine' x_divI ?h ?_); case h => first | exact ⟨by decide, by decide⟩ | exact ⟨by omega, by omega⟩)
  | ((with_reducible refine' x_powI ?h ?_); case h => exact ⟨by decide, by decide, by decide⟩)
  | ((with_reducible refine' x_ixL ?h ?h2 ?_); (case h => walk_at "sl"); (case h2 => first | rfl | assumption))
  | ((with_reducible refine' x_ixT ?h ?h2 ?_); (case h => walk_at "st"); (case h2 => first | rfl | assumption))
  | (with_reducible refine x_m1s ?_)
  | (with_reducible refine x_str1 ?_)
  | (with_reducible refine x_sl ?_)
  | (with_reducible refine x_noPart ?_)
  | (with_reducible refine x_part ?_)
  | (with_reducible refine x_exi ?_)
  | ((with_reducible refine' x_slS ?h ?_); case h => walk_at "sz")
  | ((with_reducible refine' x_slL ?h ?_); case h => walk_at "sl")
  | (with_reducible refine x_pairsC ?_)
  | (with_reducible refine x_pairsN ?_)
  | ((with_reducible refine' x_dgS ?h ?h2 ?_); (case h => walk_at "hf"); (case h2 => assumption))
  | ((with_reducible refine' x_srtT ?h ?h2 ?_); (case h => walk_at "st"); (case h2 => omega))
  | ((with_reducible refine' x_srtL ?h ?h2 ?_); (case h => walk_at "sl"); (case h2 => omega))
  | ((with_reducible refine' x_inLS ?h ?_); case h => walk_at "sl")
  | ((with_reducible refine' x_inTS ?h ?_); case h => walk_at "st")
  | ((with_reducible refine' x_ninLS ?h ?_); case h => walk_at "sl")
  | ((with_reducible refine' x_ninTS ?h ?_); case h => walk_at "st")
  | ((with_reducible refine' x_tyL ?h ?_); case h => walk_at "sl")
  | ((with_reducible refine' x_gtup ?h ?h2 ?_); (case h => walk_at "st"); (case h2 => rfl))
  | (with_reducible refine x_next ?_)
  | (with_reducible refine x_for ?_)
  | (with_reducible refine x_iList ?_)
  | (with_reducible refine x_iTup ?_)
  | (with_reducible refine x_iStr ?_)
  | (with_reducible refine x_iRng1 ?_)
  | (with_reducible refine x_iRng2 ?_)
  | (with_reducible refine x_lc ?_)
  | (with_reducible refine x_drop ?_)
  | (with_reducible refine x_retN ?_)
  | (with_reducible refine x_cont ?_)
  | (with_reducible refine x_break ?_)
  | (with_reducible refine x_cl ?_)
  | (with_reducible refine x_isN ?_)
  | (with_reducible refine x_notN ?_)
  | (with_reducible refine x_andV ?_)
  | (with_reducible refine x_orV ?_)
  | (with_reducible refine x_notV ?_)
  | (with_reducible refine x_ifE ?_)
  | (with_reducible refine x_addI ?_)
  | (with_reducible refine x_subI ?_)
  | (with_reducible refine x_ltI ?_)
  | (with_reducible refine x_leI ?_)
  | (with_reducible refine x_gtI ?_)
  | (with_reducible refine x_geI ?_)
  | (with_reducible refine x_ltS ?_)
  | (with_reducible refine x_abs ?_)
  | (with_reducible refine x_min2 ?_)
  | (with_reducible refine x_max2 ?_)
  | (with_reducible refine x_int1 ?_)
  | (with_reducible refine x_notInS ?_)
  | ((with_reducible refine' x_eq ?h ?_); case h => rfl)
  | ((with_reducible refine' x_ne ?h ?_); case h => rfl)
  | ((with_reducible refine' x_modI ?h ?_); case h => first | decide | omega)
  | ((with_reducible refine' x_isiD ?h1 ?h2 ?h3 ?_); (case h1 => assumption); (case h2 => walk_at "rp"); (case h3 => decide))
  | ((with_reducible refine' x_lenS ?h ?_); case h => walk_at "sz")
  | ((with_reducible refine' x_lenL ?h ?_); case h => walk_at "sl")
  | ((with_reducible refine' x_lenT ?h ?_); case h => walk_at "st")
  | ((with_reducible refine' x_lenD ?h ?_); case h => walk_at "hf")
  | fail)
local macro_rules | `(tactic| walk_at "sx") => `(tactic| repeat walk_at "s1")
/-! ### k10: lots by the law -/
abbrev N__law_is_lot : List Str := ["_law_names_here", "_law_lot", "_law_k"]
def t__law_is_lot (K : PySem.W.Frag) (E : XK) : TS := (tSeq (tIfS (tNot (tB (tCB (rIsi K) (tCons (tVar 1) (tCons (tC (.ty "list")) tNil))))) (tRet (tUn rNegI (tC (.int 1)))) tNext)
  (tSeq (tFor (iRng1 (tCons (tCB (rLenA K) (tCons (tVar 1) tNil)) tNil)) (gName 2) (tIfS (tOr (tNot (tB (tCB (rIsi K) (tCons (tOp (rIxL K) (tVar 1) (tVar 2)) (tCons (tC (.ty "str")) tNil))))) (tOr (tTest (tOp (rIn K true) (tOp (rIxL K) (tVar 1) (tVar 2)) (tVar 0))) (tTest (tOp (rIn K false) (tOp (rIxL K) (tVar 1) (tVar 2)) (tSl (rSlL K) (tVar 1) tNoPart (tPart (tVar 2))))))) (tRet (tVar 2)) tNext))
  (tRet (tC .non))))
def sp__law_is_lot (K : PySem.W.Frag) : Sp := fun vs H Q E => ∃ (n : Addr) (v : V) (B : Hp) (ns : List Str) (d : D), vs = [.ref n, v] ∧ Same B H ∧ B n = some (.lst (ns.map V.str)) ∧ Rep K B v d ∧ Ret B H Q fun _ r => r = dueV (badLot ns d)
theorem pure__law_is_lot {K : PySem.W.Frag} {vs : List V} {H : Hp} {Q : VK} {E : XK} (h : sp__law_is_lot K vs H Q E) : t__law_is_lot K E { nx := fun _ H' => Q .non H', rt := Q } (start N__law_is_lot vs) H := by
  obtain ⟨n, v, B, ns, d, rfl, sB, en, r, k⟩ := h
  have hs := HS.start sB
  show t__law_is_lot K E _ [some (.ref n), some v, none] H
  unfold t__law_is_lot
  walk_at "sx"
  cases r with
  | @lst a vs ds e hz r =>
    have hl := r.length
    refine x_ite (fun h => by simp [D.isT] at h) (fun _ => ?_)
    walk_at "sx"
    refine ⟨_, rfl, by omega, by omega, ?_⟩
    have en' : ((vs.length : Nat) : Int).toNat = vs.length := by omega
    rw [en']
    refine l_range (α := List Str × Option V) (σf := fun s => [some (.ref n), some (.ref a), s.2]) (Mf := fun s => [])
      (P := fun i s _ => s.1.length = i ∧ vs.take i = s.1.map V.str ∧ lotAt ns 0 [] ds = lotAt ns i s.1 (ds.drop i)) (s0 := ([], none)) hs ⟨rfl, rfl, rfl⟩ (fun i s B1 H1 hi sb hs2 pp => ?_) (fun s B1 H1 sb hs2 pp => ?_)
    · obtain ⟨seen, s2⟩ := s
      obtain ⟨hlen, htk, hgo⟩ := pp
      dsimp only at hlen htk hgo hs2 ⊢
      rw [Int.zero_add]
      have hx : vs[i]? = some vs[i] := List.getElem?_eq_getElem hi
      obtain ⟨d, hd, rd⟩ := r.get hx
      have hil : i < ds.length := (List.getElem?_eq_some_iff.mp hd).1
      have hdrop : ds.drop i = d :: ds.drop (i + 1) := by
        rw [List.drop_eq_getElem_cons hil, (List.getElem?_eq_some_iff.mp hd).2]
      rw [hdrop] at hgo
      have rd1 := rd.mono sb
      have hat := atI_nat hi
      generalize hxv : vs[i] = x at hx rd rd1 hat
      have fin : ∀ B2 H2, HS [] B H B2 H2 [] → lotAt ns i seen (d :: ds.drop (i + 1)) = some i → Q (.int (i : Nat)) H2 := fun B2 H2 h2 e1 => by
        refine k B2 H2 _ h2 ?_
        simp only [badLot, hgo, e1, Option.map_some, dueV]
      have e1 := sb _ _ e
      have en1 := sb _ _ en
      walk_at "sx"
      cases rd with
      | @str y hy =>
        refine x_ite (fun h => by simp [D.isT] at h) (fun _ => ?_)
        walk_at "sx"
        refine x_ite (fun h => ?_) (fun h => ?_)
        · walk_at "sx"
          refine fin _ _ hs2 ?_
          have : ¬ y ∈ ns := by simpa using h
          simp [lotAt, this]
        have hyn : y ∈ ns := by simpa using h
        walk_at "sx"
        rw [cutV_to (Nat.le_of_lt hi), htk]
        refine new_F hs2 (fun T B3 H3 hs4 sb4 eT _ => ?_)
        walk_at "sx"
        refine x_ite (fun h => ?_) (fun h => ?_)
        · walk_at "sx"
          refine fin _ _ hs4 ?_
          have : y ∈ seen := by simpa using h
          simp [lotAt, this]
        have hys : ¬ y ∈ seen := by simpa using h
        walk_at "sx"
        refine ⟨(seen ++ [y], some _), B3, rfl, sb.trans sb4, hs4, by simp [hlen], ?_, ?_⟩
        · rw [List.take_succ, htk, hx]
          simp
        · rw [hgo]
          simp [lotAt, hyn, hys]
      | _ =>
        refine x_ite (fun h => ?_) (fun h => by simp [D.isT] at h)
        walk_at "sx"
        exact fin _ _ hs2 rfl
    · obtain ⟨hlen, htk, hgo⟩ := pp
      walk_at "sx"
      have : ds.drop vs.length = [] := by rw [hl]; simp
      rw [this] at hgo
      exact k B1 H1 _ hs2 (by simp only [badLot, hgo, lotAt, Option.map_none, dueV])
  | _ =>
    refine x_ite (fun h => ?_) (fun h => by simp [D.isT] at h)
    walk_at "sx"
    exact k B H _ hs rfl
abbrev N__law_part : List Str := ["_law_names_here", "_law_wishes_here", "_law_rest", "_law_rows", "_law_a", "_law_b"]
def t__law_part (K : PySem.W.Frag) (E : XK) : TS := (tSeq (tAsg (tLst tNil) (gName 3))
  (tSeq (tFor (iList K (tVar 0)) (gName 4) (tIfS (tTest (tOp (rIn K false) (tVar 4) (tVar 2))) (tDrop (tBM K "list" rAppend (tVar 3) (tCons (tTup (tCons (tVar 4) (tCons (tLc (iList K (tDGet (tVar 1) (tVar 4))) (gName 5) (tTest (tOp (rIn K false) (tVar 5) (tVar 2))) (tVar 5) [5]) tNil))) tNil))) tNext))
  (tRet (tVar 3))))
def partOf (xs rest : List Str) (ws : Str → List Str) : List (Str × List Str) := (xs.filter fun a => decide (a ∈ rest)).map fun a => (a, (ws a).filter fun b => decide (b ∈ rest))
def sp__law_part (K : PySem.W.Frag) : Sp := fun vs H Q E => ∃ (n w r : Addr) (xs done rest : List Str) (kvs : List (Key × V)) (ws : Str → List Str) (B : Hp), vs = [.ref n, .ref w, .ref r] ∧ Same B H ∧ B n = some (.lst (xs.map V.str)) ∧ B w = some (.dK kvs) ∧ B r = some (.lst (rest.map V.str)) ∧ WAt B done kvs ws ∧ done.Nodup ∧ (∀ x ∈ xs, x ∈ done ∧ (ws x).length ≤ 100) ∧ xs.length ≤ 100 ∧
  ∀ B' H' l vs, HS [] B H B' H' [(l, .lst vs)] → MRs B' vs (partOf xs rest ws) → Q (.ref l) H'
theorem pure__law_part {K : PySem.W.Frag} {vs : List V} {H : Hp} {Q : VK} {E : XK} (h : sp__law_part K vs H Q E) : t__law_part K E { nx := fun _ H' => Q .non H', rt := Q } (start N__law_part vs) H := by
  obtain ⟨n, w, r, xs, done, rest, kvs, ws, B, rfl, sB, en, ew, er, hw, ndd, hin, hl, k⟩ := h
  have hs := HS.start sB
  show t__law_part K E _ [some (.ref n), some (.ref w), some (.ref r), none, none, none] H
  unfold t__law_part
  walk_at "sx"
  refine new_M hs (fun ro H1 hs1 _ => ?_)
  walk_at "sx"
  refine ⟨n, rfl, ⟨_, SqL.of (hs1.up en)⟩, ?_⟩
  refine l_list (α := List V × Option V) (σf := fun s => [some (.ref n), some (.ref w), some (.ref r), some (.ref ro), s.2, none]) (Mf := fun s => [(ro, .lst s.1)]) (P := fun i s B1 => MRs B1 s.1 (partOf (xs.take i) rest ws)) (s0 := ([], none)) hs1 en .nil
    (fun i x s B2 H2 hi sb2 hs2 pp => ?_) (fun s B2 H2 sb2 hs2 pp => ?_)
  · obtain ⟨rows, s2⟩ := s
    dsimp only at pp hs2 ⊢
    obtain ⟨a, ha, rfl⟩ := strs_get hi
    have hil : i < xs.length := (List.getElem?_eq_some_iff.mp ha).1
    obtain ⟨had, hwl⟩ := hin a (List.mem_of_getElem? ha)
    obtain ⟨wa, eva, ewa⟩ := (hw.mono sb2).get ndd had
    have ew2 := sb2 _ _ ew
    have er2 := sb2 _ _ er
    have hpt : partOf (xs.take (i + 1)) rest ws = if decide (a ∈ rest) then partOf (xs.take i) rest ws ++ [(a, (ws a).filter fun b => decide (b ∈ rest))] else partOf (xs.take i) rest ws := by
      unfold partOf
      rw [filter_take _ ha]
      split
      · rw [List.map_append]; rfl
      · rfl
    walk_at "sx"
    refine x_ite (fun h => ?_) (fun h => ?_)
    · rw [if_pos h] at hpt
      walk_at "sx"
      refine ⟨wa, rfl, ⟨_, SqL.of (hs2.up ewa)⟩, fun D hD => ?_⟩
      refine c_list (α := Unit) (Mf := fun _ => [(ro, .lst rows)]) (P := fun j _ acc _ => acc = (((ws a).take j).filter fun b => decide (b ∈ rest)).map V.str) (s0 := ()) hs2 hD ewa rfl (fun j y _ acc B3 H3 hj hacc sb3 hs3 pp => ?_) (fun _ acc B3 H3 sb3 hs3 hacc pp3 => ?_)
      · obtain ⟨b, hb, rfl⟩ := strs_get hj
        have hjl : j < (ws a).length := (List.getElem?_eq_some_iff.mp hb).1
        have er3 := sb3 _ _ er2
        walk_at "sx"
        refine ⟨rfl, ?_⟩
        walk_at "sx"
        refine x_ite (fun h => ?_) (fun h => ?_)
        · walk_at "sx"
          refine c_keep (s := ()) sb3 hs3 hacc (by omega) ?_
          rw [filter_take _ hb, if_pos h, pp]
          simp
        · refine c_left (s := ()) sb3 hs3 hacc ?_
          rw [filter_take _ hb, if_neg (by rw [h]; decide), pp]
      · rw [List.length_map, List.take_length] at pp3
        subst pp3
        obtain ⟨B4, hs4, sb4, eD⟩ := hs3.still0
        walk_at "sx"
        refine new_F hs4 (fun t B5 H5 hs5 sb5 et _ => ?_)
        walk_at "sx"
        have hlen := pp.len
        have l1 : (partOf (xs.take i) rest ws).length ≤ xs.length := by
          unfold partOf
          rw [List.length_map]
          refine Nat.le_trans (List.length_filter_le _ _) ?_
          rw [List.length_take]
          omega
        refine x_append hs5 (by omega) (fun H6 hs6 => ?_)
        refine ⟨(rows ++ [.ref t], some _), B5, rfl, ((sb2.trans sb3).trans sb4).trans sb5, hs6, ?_⟩
        dsimp only
        rw [hpt]
        exact (((pp.mono sb3).mono sb4).mono sb5).snoc et (sb5 _ _ eD)
    · rw [if_neg (by rw [h]; decide)] at hpt
      walk_at "sx"
      refine ⟨(rows, some _), B2, rfl, sb2, hs2, ?_⟩
      dsimp only
      rw [hpt]
      exact pp
  · obtain ⟨rows, s2⟩ := s
    dsimp only at pp hs2 ⊢
    rw [List.length_map, List.take_length] at pp
    walk_at "sx"
    exact k B2 H2 ro rows hs2 pp
end Q

set_option Elab.async false
set_option linter.all false
set_option maxRecDepth 100000
set_option maxHeartbeats 4000000
namespace Q
open PySem PySem.Spec PyProof.Rows L2
local macro_rules | `(tactic| walk_at "bf") => `(tactic| first | assumption | (refine' bstep (by assumption) ?r; case r => walk_at "bf") | fail)
local macro_rules | `(tactic| walk_at "rp") => `(tactic| first | assumption | exact Rep.int _ | exact Rep.bl _ | exact Rep.non | (refine' Rep.mono (by assumption) ?r; case r => walk_at "rp") | fail)
local macro_rules | `(tactic| walk_at "hf") => `(tactic| first | assumption | exact HS.up (by assumption) (by walk_at "bf") | exact HS.get (by assumption) List.mem_cons_self | exact HS.get (by assumption) (List.mem_cons_of_mem _ List.mem_cons_self) | exact HS.get (by assumption) (List.mem_cons_of_mem _ (List.mem_cons_of_mem _ List.mem_cons_self)) | exact HS.get (by assumption) (List.mem_cons_of_mem _ (List.mem_cons_of_mem _ (List.mem_cons_of_mem _ List.mem_cons_self))) | fail)
local macro_rules | `(tactic| walk_at "sl") => `(tactic| first | assumption | exact SqL.of (by walk_at "hf") | fail)
local macro_rules | `(tactic| walk_at "st") => `(tactic| first | assumption | exact SqT.of (by walk_at "hf") | fail)
local macro_rules | `(tactic| walk_at "sz") => `(tactic| first | assumption | (refine small_le ?_; first | assumption | omega | (simp; done) | (simp; omega)) | fail)
local macro_rules | `(tactic| walk_at "s1") => `(tactic| first
  | (with_reducible refine x_seq ?_)
  | (with_reducible refine x_asg ?_)
  | ((with_reducible refine x_gname ?_); try simp only [List.set_cons_zero, List.set_cons_succ])
  | ((with_reducible refine' x_var ?h ?_); case h => rfl)
  | (with_reducible refine x_c ?_)
  | (with_reducible refine x_op ?_)
  | (with_reducible refine x_ret ?_)
  | (with_reducible refine x_if ?_)
  | (with_reducible refine x_and ?_)
  | (with_reducible refine x_or ?_)
  | (with_reducible refine x_not ?_)
  | (with_reducible refine x_test ?_)
  | (with_reducible refine x_tB ?_)
  | (with_reducible refine x_tr ?_)
  | (with_reducible refine x_cb ?_)
  | (with_reducible refine x_cons ?_)
  | (with_reducible refine x_nil ?_)
  | (with_reducible refine x_exb ?_)
  | (with_reducible refine x_tt _ _ ?_)
  | (with_reducible refine x_ff _ _ ?_)
  | (with_reducible refine x_dget ?_)
  | (with_reducible refine x_din ?_)
  | (with_reducible refine x_dnin ?_)
  | (with_reducible refine x_dputU ?_)
  | (with_reducible refine x_dnew ?_)
  | (with_reducible refine x_bm ?_)
  | (with_reducible refine x_bm0 ?_)
  | (with_reducible refine x_gsub ?_)
  | (with_reducible refine x_fldU ?_)
  | (with_reducible refine x_sfldU ?_)
  | (with_reducible refine x_gcons ?_)
  | (with_reducible refine x_gnil ?_)
  | (with_reducible refine x_rz1 ?_)
  | (with_reducible refine x_rz2 ?_)
  | (with_reducible refine x_tryAs ?_)
  | (with_reducible refine x_tryOnly ?_)
  | (with_reducible refine x_mtU ?_)
  | (with_reducible refine x_mk ?_)
  | (with_reducible refine x_yes ?_)
  | (with_reducible refine x_un ?_)
  | (with_reducible refine x_neg ?_)
  | (with_reducible refine x_iEnum ?_)
  | (with_reducible refine x_iEnumT ?_)
  | (with_reducible refine x_lst ?_)
  | (with_reducible refine x_tup ?_)
  | (with_reducible refine x_dc ?_)
  | ((with_reducible refine' x_dinO ?h ?_); case h => walk_at "hf")
  | ((with_reducible refine' x_newL ?h ?_); case h => first | exact Nat.zero_le _ | (simp; done) | (simp; omega))
  | ((with_reducible refine' x_newT ?h ?_); case h => first | exact Nat.zero_le _ | (simp; done) | (simp; omega))
  | ((with_reducible refine' x_listL ?h ?_); case h => walk_at "sl")
  | ((with_reducible refine' x_listT ?h ?_); case h => walk_at "st")
  | ((with_reducible refine' x_mulI ?h ?_); case h => first | exact .inl ⟨by decide, by decide⟩ | exact .inr ⟨by decide, by decide⟩ | exact .inl ⟨by omega, by omega⟩ | exact .inr ⟨by omega, by omega⟩)
  | ((with_reducible refine' x_divI ?h ?_); case h => first | exact ⟨by decide, by decide⟩ | exact ⟨by omega, by omega⟩)
  | ((with_reducible refine' x_powI ?h ?_); case h => exact ⟨by decide, by decide, by decide⟩)
  | ((with_reducible refine' x_ixL ?h ?h2 ?_); (case h => walk_at "sl"); (case h2 => first | rfl | assumption))
  | ((with_reducible refine' x_ixT ?h ?h2 ?_); (case h => walk_at "st"); (case h2 => first | rfl | assumption))
  | (with_reducible refine x_m1s ?_)
  | (with_reducible refine x_str1 ?_)
  | (with_reducible refine x_sl ?_)
  | (with_reducible refine x_noPart ?_)
  | (with_reducible refine x_part ?_)
  | (with_reducible refine x_exi ?_)
  | ((with_reducible refine' x_slS ?h ?_); case h => walk_at "sz")
  | ((with_reducible refine' x_slL ?h ?_); case h => walk_at "sl")
  | (with_reducible refine x_pairsC ?_)
  | (with_reducible refine x_pairsN ?_)
  | ((with_reducible refine' x_dgS ?h ?h2 ?_); (case h => walk_at "hf"); (case h2 => assumption))
  | ((with_reducible refine' x_srtT ?h ?h2 ?_); (case h => walk_at "st"); (case h2 => omega))
  | ((with_reducible refine' x_srtL ?h ?h2 ?_); (case h => walk_at "sl"); (case h2 => omega))
  | ((with_reducible refine' x_inLS ?h ?_); case h => walk_at "sl")
  | ((with_reducible refine' x_inTS ?h ?_); case h => walk_at "st")
  | ((with_reducible refine' x_ninLS ?h ?_); case h => walk_at "sl")
  | ((with_reducible refine' x_ninTS ?h ?_); case h => walk_at "st")
  | ((with_reducible refine' x_tyL ?h ?_); case h => walk_at "sl")
  | ((with_reducible refine' x_gtup ?h ?h2 ?_); (case h => walk_at "st"); (case h2 => rfl))
  | (with_reducible refine x_next ?_)
  | (with_reducible refine x_for ?_)
  | (with_reducible refine x_iList ?_)
  | (with_reducible refine x_iTup ?_)
  | (with_reducible refine x_iStr ?_)
  | (with_reducible refine x_iRng1 ?_)
  | (with_reducible refine x_iRng2 ?_)
  | (with_reducible refine x_lc ?_)
  | (with_reducible refine x_drop ?_)
  | (with_reducible refine x_retN ?_)
  | (with_reducible refine x_cont ?_)
  | (with_reducible refine x_break ?_)
  | (with_reducible refine x_cl ?_)
  | (with_reducible refine x_isN ?_)
  | (with_reducible refine x_notN ?_)
  | (with_reducible refine x_andV ?_)
  | (with_reducible refine x_orV ?_)
  | (with_reducible refine x_notV ?_)
  | (with_reducible refine x_ifE ?_)
  | (with_reducible refine x_addI ?_)
  | (with_reducible refine x_subI ?_)
  | (with_reducible refine x_ltI ?_)
  | (with_reducible refine x_leI ?_)
  | (with_reducible refine x_gtI ?_)
  | (with_reducible refine x_geI ?_)
  | (with_reducible refine x_ltS ?_)
  | (with_reducible refine x_abs ?_)
  | (with_reducible refine x_min2 ?_)
  | (with_reducible refine x_max2 ?_)
  | (with_reducible refine x_int1 ?_)
  | (with_reducible refine x_notInS ?_)
  | ((with_reducible refine' x_eq ?h ?_); case h => rfl)
  | ((with_reducible refine' x_ne ?h ?_); case h => rfl)
  | ((with_reducible refine' x_modI ?h ?_); case h => first | decide | omega)
  | ((with_reducible refine' x_isiD ?h1 ?h2 ?h3 ?_); (case h1 => assumption); (case h2 => walk_at "rp"); (case h3 => decide))
  | ((with_reducible refine' x_lenS ?h ?_); case h => walk_at "sz")
  | ((with_reducible refine' x_lenL ?h ?_); case h => walk_at "sl")
  | ((with_reducible refine' x_lenT ?h ?_); case h => walk_at "st")
  | ((with_reducible refine' x_lenD ?h ?_); case h => walk_at "hf")
  | fail)
local macro_rules | `(tactic| walk_at "sx") => `(tactic| repeat walk_at "s1")
/-! ### k10: asked for a part -/
theorem use_part {K : PySem.W.Frag} {f : List Str → Str → Bool} {S : List Addr} {B0 H0 B H : Hp} {M : List (Addr × HO)} {Q : VK} {E : XK} {p : Addr} {v : V} {G : Grp} {d : D} (hs : HS S B0 H0 B H M) (g : GAt K B p G) (r : Rep K B v d)
    (ke : ∀ i, badLot G.names d = some i → ThrW K S B0 H0 B M E "BadLot" [("index", .int i)])
    (k : ∀ lot, d = D.strs lot → badLot G.names d = none → ∀ B' H' g G', Same B B' → HS S B0 H0 B' H' M → GAt K B' g G' → G'.names = G.names.filter (f lot) → (∀ x ∈ G'.names, G'.wish x = G.part (G.names.filter (f lot)) x) → Q (.ref g) H') : spPart K f [.ref p, v] H Q E :=
  ⟨p, v, B, G, d, rfl, hs.bh, g, r, fun i h => (ke i h).thr hs, fun lot e h B' H' g G' c h1 h2 h3 => k lot e h B' H' g G' c.bb (hs.call c) h1 h2 h3⟩
theorem use_shows {K : PySem.W.Frag} {S : List Addr} {B0 H0 B H : Hp} {M : List (Addr × HO)} {Q : VK} {E : XK} {p : Addr} {G : Grp} (hs : HS S B0 H0 B H M) (g : GAt K B p G)
    (k : ∀ B' H' l vs, Same B B' → HS S B0 H0 B' H' ((l, .lst vs) :: M) → MRs B' vs (rowsOf G.names G.wish) → Q (.ref l) H') : sp__law_shows K [.ref p] H Q E := ⟨p, B, G, rfl, hs.bh, g, fun B' H' l vs c h => k B' H' l vs c.bb (hs.callN c) h⟩
theorem rowsOf_congr {xs : List Str} {f g : Str → List Str} (h : ∀ x ∈ xs, f x = g x) : rowsOf xs f = rowsOf xs g := List.map_congr_left fun x m => by rw [h x m]
def lotF (o : Bool) (lot : List Str) (x : Str) : Bool := if o then !decide (x ∈ lot) else decide (x ∈ lot)
abbrev N__law_asked : List Str := ["_law_group_here", "_law_lot", "_law_outside", "_law_told", "e"]
def t__law_asked (K : PySem.W.Frag) (E : XK) : TS := (tSeq (tAsg (tC .non) (gName 3))
  (tSeq (tTryAs K (.ref (He.ga K "BadLot")) 4 (fun a1 cls1 d1 => (tAsg (tTup (tCons (tC (.str "index")) (tCons (tXf a1 cls1 d1 (He.ga K "BadLot") "index" (tVar 4)) tNil))) (gName 3))) (WE0 E) (fun W1 => (tIfS (tB (tVar 2)) (tAsg (tCl (sp__law_shows K) W1 (tCons (tMt (He.ga K "Group") "outside" (sp_Group_outside K) W1 (tVar 0) (tCons (tVar 1) tNil)) tNil)) (gName 3)) (tAsg (tCl (sp__law_shows K) W1 (tCons (tMt (He.ga K "Group") "inside" (sp_Group_inside K) W1 (tVar 0) (tCons (tVar 1) tNil)) tNil)) (gName 3)))))
  (tRet (tVar 3))))
def sp__law_asked (K : PySem.W.Frag) : Sp := fun vs H Q E => ∃ (p : Addr) (v : V) (o : Bool) (B : Hp) (G : Grp) (d : D), vs = [.ref p, v, .bl o] ∧ Same B H ∧ GAt K B p G ∧ Rep K B v d ∧
  (∀ i, badLot G.names d = some i → ∀ B' H' t, HS [] B H B' H' [] → B' t = some (.tup [.str "index", .int i]) → Q (.ref t) H') ∧
  ∀ lot, d = D.strs lot → badLot G.names d = none → ∀ B' H' l vs, HS [] B H B' H' [] → B' l = some (.lst vs) → MRs B' vs (rowsOf (G.names.filter (lotF o lot)) (G.part (G.names.filter (lotF o lot)))) → Q (.ref l) H'
theorem pure__law_asked {K : PySem.W.Frag} (xm : PySem.W.exmOne K (.ref (He.ga K "BadLot")) (.ref (He.ga K "BadLot")) = some true) {vs : List V} {H : Hp} {Q : VK} {E : XK} (h : sp__law_asked K vs H Q E) : t__law_asked K E { nx := fun _ H' => Q .non H', rt := Q } (start N__law_asked vs) H := by
  obtain ⟨p, v, o, B, G, d, rfl, sB, g, r, ke, k⟩ := h
  have hs := HS.start sB
  show t__law_asked K E _ [some (.ref p), some v, some (.bl o), none, none] H
  unfold t__law_asked
  obtain ⟨dx, n', l', m', q', hg⟩ := g.ins
  walk_at "sx"
  cases o with
  | true =>
    refine x_tt _ _ ?_
    walk_at "sx"
    refine x_mt (hs.up hg) (gf_no (by decide +kernel)) ?_
    walk_at "sx"
    refine use_part hs g r (fun i hi B1 H1 dd sb1 hs1 hb hd => ?_) (fun lot el hn B1 H1 g' G' sb1 hs1 gat hnm hws => ?_)
    · refine ⟨true, xm, fun _ ae hae => ?_, fun z => nomatch z⟩
      walk_at "sx"
      refine ⟨.ref ae, rfl, rfl, rfl, dd, _, .int i, rfl, hd, by simp [List.lookup], ?_⟩
      walk_at "sx"
      refine new_F hs1 (fun t B2 H2 hs2 sb2 et _ => ?_)
      walk_at "sx"
      exact ke i hi B2 H2 t hs2 et
    · walk_at "sx"
      refine use_shows hs1 gat (fun B2 H2 l vs sb2 hs2 mr => ?_)
      obtain ⟨B3, hs3, sb3, el3⟩ := hs2.still0
      walk_at "sx"
      refine k lot el hn B3 H2 l vs hs3 el3 ?_
      have e1 := rowsOf_congr hws
      rw [hnm] at e1
      rw [hnm, e1] at mr
      exact mr.mono sb3
  | false =>
    refine x_ff _ _ ?_
    walk_at "sx"
    refine x_mt (hs.up hg) (gf_no (by decide +kernel)) ?_
    walk_at "sx"
    refine use_part hs g r (fun i hi B1 H1 dd sb1 hs1 hb hd => ?_) (fun lot el hn B1 H1 g' G' sb1 hs1 gat hnm hws => ?_)
    · refine ⟨true, xm, fun _ ae hae => ?_, fun z => nomatch z⟩
      walk_at "sx"
      refine ⟨.ref ae, rfl, rfl, rfl, dd, _, .int i, rfl, hd, by simp [List.lookup], ?_⟩
      walk_at "sx"
      refine new_F hs1 (fun t B2 H2 hs2 sb2 et _ => ?_)
      walk_at "sx"
      exact ke i hi B2 H2 t hs2 et
    · walk_at "sx"
      refine use_shows hs1 gat (fun B2 H2 l vs sb2 hs2 mr => ?_)
      obtain ⟨B3, hs3, sb3, el3⟩ := hs2.still0
      walk_at "sx"
      refine k lot el hn B3 H2 l vs hs3 el3 ?_
      have e1 := rowsOf_congr hws
      rw [hnm] at e1
      rw [hnm, e1] at mr
      exact mr.mono sb3
/-- insert -/
def rInsert : V → List V → Hp → VK → Prop := fun x vs H Q => ∃ (l : Addr) (xs : List V) (i : Nat) (y : V), x = .ref l ∧ vs = [.int (i : Nat), y] ∧ H l = some (.lst xs) ∧ xs.length ≤ 1000000 ∧ i ≤ xs.length ∧ Q .non (upd H l (.lst (xs.take i ++ [y] ++ xs.drop i)))
theorem mtInsert {X : Cx} : MtR X "list.insert" rInsert := by
  intro pins s σ H x xs v us Q I rx rv h
  obtain ⟨l, ys, i, y, rfl, rfl, hH, hz, hi, q⟩ := h
  refine mt_insert pins s σ H _ _ v us Q I rx rv ⟨l, ys, (i : Nat), y, rfl, rfl, hH, small_lt hz, by omega, by omega, ?_⟩
  rw [Int.toNat_natCast]
  exact q
theorem x_insert {S : List Addr} {B0 H0 B H : Hp} {M : List (Addr × HO)} {Q : VK} {l : Addr} {xs : List V} {i : Nat} {y : V} (hs : HS S B0 H0 B H ((l, .lst xs) :: M)) (hz : xs.length ≤ 1000000) (hi : i ≤ xs.length) (h : ∀ H', HS S B0 H0 B H' ((l, .lst (xs.take i ++ [y] ++ xs.drop i)) :: M) → Q .non H') : rInsert (.ref l) [.int (i : Nat), y] H Q :=
  ⟨l, xs, i, y, rfl, rfl, hs.get List.mem_cons_self, hz, hi, h _ hs.set0⟩
theorem Reps.insert {K : PySem.W.Frag} {B : Hp} {v : V} {d : D} (h : Rep K B v d) : ∀ {vs : List V} {ds : List D} (i : Nat), Reps K B vs ds → Reps K B (vs.take i ++ [v] ++ vs.drop i) (ds.take i ++ [d] ++ ds.drop i)
  | _, _, 0, r => .cons h r
  | _, _, i + 1, .nil => .cons h .nil
  | _, _, i + 1, .cons a r => .cons a (Reps.insert h i r)
theorem Reps.sameB {K : PySem.W.Frag} {B : Hp} : ∀ {vs : List V} {ds : List D}, Reps K B vs ds → vs.all sameB = true
  | _, _, .nil => rfl
  | _, _, .cons a r => by
    rw [List.all_cons, Reps.sameB r, Bool.and_true]
    cases a <;> rfl
end Q

set_option Elab.async false
set_option linter.all false
set_option maxRecDepth 100000
set_option maxHeartbeats 4000000
namespace Q
open PySem PySem.Spec PyProof.Rows L2
local macro_rules | `(tactic| walk_at "bf") => `(tactic| first | assumption | (refine' bstep (by assumption) ?r; case r => walk_at "bf") | fail)
local macro_rules | `(tactic| walk_at "rp") => `(tactic| first | assumption | exact Rep.int _ | exact Rep.bl _ | exact Rep.non | (refine' Rep.mono (by assumption) ?r; case r => walk_at "rp") | fail)
local macro_rules | `(tactic| walk_at "hf") => `(tactic| first | assumption | exact HS.up (by assumption) (by walk_at "bf") | exact HS.get (by assumption) List.mem_cons_self | exact HS.get (by assumption) (List.mem_cons_of_mem _ List.mem_cons_self) | exact HS.get (by assumption) (List.mem_cons_of_mem _ (List.mem_cons_of_mem _ List.mem_cons_self)) | exact HS.get (by assumption) (List.mem_cons_of_mem _ (List.mem_cons_of_mem _ (List.mem_cons_of_mem _ List.mem_cons_self))) | fail)
local macro_rules | `(tactic| walk_at "sl") => `(tactic| first | assumption | exact SqL.of (by walk_at "hf") | fail)
local macro_rules | `(tactic| walk_at "st") => `(tactic| first | assumption | exact SqT.of (by walk_at "hf") | fail)
local macro_rules | `(tactic| walk_at "sz") => `(tactic| first | assumption | (refine small_le ?_; first | assumption | omega | (simp; done) | (simp; omega)) | fail)
local macro_rules | `(tactic| walk_at "s1") => `(tactic| first
  | (with_reducible refine x_seq ?_)
  | (with_reducible refine x_asg ?_)
  | ((with_reducible refine x_gname ?_); try simp only [List.set_cons_zero, List.set_cons_succ])
  | ((with_reducible refine' x_var ?h ?_); case h => rfl)
  | (with_reducible refine x_c ?_)
  | (with_reducible refine x_op ?_)
  | (with_reducible refine x_ret ?_)
  | (with_reducible refine x_if ?_)
  | (with_reducible refine x_and ?_)
  | (with_reducible refine x_or ?_)
  | (with_reducible refine x_not ?_)
  | (with_reducible refine x_test ?_)
  | (with_reducible refine x_tB ?_)
  | (with_reducible refine x_tr ?_)
  | (with_reducible refine x_cb ?_)
  | (with_reducible refine x_cons ?_)
  | (with_reducible refine x_nil ?_)
  | (with_reducible refine x_exb ?_)
  | (with_reducible refine x_tt _ _ ?_)
  | (with_reducible refine x_ff _ _ ?_)
  | (with_reducible refine x_dget ?_)
  | (with_reducible refine x_din ?_)
  | (with_reducible refine x_dnin ?_)
  | (with_reducible refine x_dputU ?_)
  | (with_reducible refine x_dnew ?_)
  | (with_reducible refine x_bm ?_)
  | (with_reducible refine x_bm0 ?_)
  | (with_reducible refine x_gsub ?_)
  | (with_reducible refine x_fldU ?_)
  | (with_reducible refine x_sfldU ?_)
  | (with_reducible refine x_gcons ?_)
  | (with_reducible refine x_gnil ?_)
  | (with_reducible refine x_rz1 ?_)
  | (with_reducible refine x_rz2 ?_)
  | (with_reducible refine x_tryAs ?_)
  | (with_reducible refine x_tryOnly ?_)
  | (with_reducible refine x_mtU ?_)
  | (with_reducible refine x_mk ?_)
  | (with_reducible refine x_yes ?_)
  | (with_reducible refine x_un ?_)
  | (with_reducible refine x_neg ?_)
  | (with_reducible refine x_iEnum ?_)
  | (with_reducible refine x_iEnumT ?_)
  | (with_reducible refine x_lst ?_)
  | (with_reducible refine x_tup ?_)
  | (with_reducible refine x_dc ?_)
  | ((with_reducible refine' x_dinO ?h ?_); case h => walk_at "hf")
  | ((with_reducible refine' x_newL ?h ?_); case h => first | exact Nat.zero_le _ | (simp; done) | (simp; omega))
  | ((with_reducible refine' x_newT ?h ?_); case h => first | exact Nat.zero_le _ | (simp; done) | (simp; omega))
  | ((with_reducible refine' x_listL ?h ?_); case h => walk_at "sl")
  | ((with_reducible refine' x_listT ?h ?_); case h => walk_at "st")
  | ((with_reducible refine' x_mulI ?h ?_); case h => first | exact .inl ⟨by decide, by decide⟩ | exact .inr ⟨by decide, by decide⟩ | exact .inl ⟨by omega, by omega⟩ | exact .inr ⟨by omega, by omega⟩)
  | ((with_reducible refine' x_divI ?h ?_); case h => first | exact ⟨by decide, by decide⟩ | exact ⟨by omega, by omega⟩)
  | ((with_reducible refine' x_powI ?h ?_); case h => exact ⟨by decide, by decide, by decide⟩)
  | ((with_reducible refine' x_ixL ?h ?h2 ?_); (case h => walk_at "sl"); (case h2 => first | rfl | assumption))
  | ((with_reducible refine' x_ixT ?h ?h2 ?_); (case h => walk_at "st"); (case h2 => first | rfl | assumption))
  | (with_reducible refine x_m1s ?_)
  | (with_reducible refine x_str1 ?_)
  | (with_reducible refine x_sl ?_)
  | (with_reducible refine x_noPart ?_)
  | (with_reducible refine x_part ?_)
  | (with_reducible refine x_exi ?_)
  | ((with_reducible refine' x_slS ?h ?_); case h => walk_at "sz")
  | ((with_reducible refine' x_slL ?h ?_); case h => walk_at "sl")
  | (with_reducible refine x_pairsC ?_)
  | (with_reducible refine x_pairsN ?_)
  | ((with_reducible refine' x_dgS ?h ?h2 ?_); (case h => walk_at "hf"); (case h2 => assumption))
  | ((with_reducible refine' x_srtT ?h ?h2 ?_); (case h => walk_at "st"); (case h2 => omega))
  | ((with_reducible refine' x_srtL ?h ?h2 ?_); (case h => walk_at "sl"); (case h2 => omega))
  | ((with_reducible refine' x_inLS ?h ?_); case h => walk_at "sl")
  | ((with_reducible refine' x_inTS ?h ?_); case h => walk_at "st")
  | ((with_reducible refine' x_ninLS ?h ?_); case h => walk_at "sl")
  | ((with_reducible refine' x_ninTS ?h ?_); case h => walk_at "st")
  | ((with_reducible refine' x_tyL ?h ?_); case h => walk_at "sl")
  | ((with_reducible refine' x_gtup ?h ?h2 ?_); (case h => walk_at "st"); (case h2 => rfl))
  | (with_reducible refine x_next ?_)
  | (with_reducible refine x_for ?_)
  | (with_reducible refine x_iList ?_)
  | (with_reducible refine x_iTup ?_)
  | (with_reducible refine x_iStr ?_)
  | (with_reducible refine x_iRng1 ?_)
  | (with_reducible refine x_iRng2 ?_)
  | (with_reducible refine x_lc ?_)
  | (with_reducible refine x_drop ?_)
  | (with_reducible refine x_retN ?_)
  | (with_reducible refine x_cont ?_)
  | (with_reducible refine x_break ?_)
  | (with_reducible refine x_cl ?_)
  | (with_reducible refine x_isN ?_)
  | (with_reducible refine x_notN ?_)
  | (with_reducible refine x_andV ?_)
  | (with_reducible refine x_orV ?_)
  | (with_reducible refine x_notV ?_)
  | (with_reducible refine x_ifE ?_)
  | (with_reducible refine x_addI ?_)
  | (with_reducible refine x_subI ?_)
  | (with_reducible refine x_ltI ?_)
  | (with_reducible refine x_leI ?_)
  | (with_reducible refine x_gtI ?_)
  | (with_reducible refine x_geI ?_)
  | (with_reducible refine x_ltS ?_)
  | (with_reducible refine x_abs ?_)
  | (with_reducible refine x_min2 ?_)
  | (with_reducible refine x_max2 ?_)
  | (with_reducible refine x_int1 ?_)
  | (with_reducible refine x_notInS ?_)
  | ((with_reducible refine' x_eq ?h ?_); case h => rfl)
  | ((with_reducible refine' x_ne ?h ?_); case h => rfl)
  | ((with_reducible refine' x_modI ?h ?_); case h => first | decide | omega)
  | ((with_reducible refine' x_isiD ?h1 ?h2 ?h3 ?_); (case h1 => assumption); (case h2 => walk_at "rp"); (case h3 => decide))
  | ((with_reducible refine' x_lenS ?h ?_); case h => walk_at "sz")
  | ((with_reducible refine' x_lenL ?h ?_); case h => walk_at "sl")
  | ((with_reducible refine' x_lenT ?h ?_); case h => walk_at "st")
  | ((with_reducible refine' x_lenD ?h ?_); case h => walk_at "hf")
  | fail)
local macro_rules | `(tactic| walk_at "sx") => `(tactic| repeat walk_at "s1")
/-! ### names, wishes and the group that a law draws -/
structure Pre (K : PySem.W.Frag) (B : Hp) (n g : Addr) (xs done : List Str) (kvs : List (Key × V)) (ws : Str → List Str) (G : Grp) : Prop where
  en : B n = some (.lst (xs.map V.str))
  hw : WAt B done kvs ws
  dr : Drawn xs done ws
  xl : xs.length ≤ 16
  gat : GAt K B g G
  gn : G.names = xs
  gw : ∀ p ∈ xs, G.wish p = ws p
theorem Pre.mono {K : PySem.W.Frag} {B B' : Hp} {n g : Addr} {xs done : List Str} {kvs : List (Key × V)} {ws : Str → List Str} {G : Grp} (s : Same B B') (h : Pre K B n g xs done kvs ws G) : Pre K B' n g xs done kvs ws G :=
  ⟨s _ _ h.en, h.hw.mono s, h.dr, h.xl, h.gat.mono s, h.gn, h.gw⟩
theorem Pre.nd {K : PySem.W.Frag} {B : Hp} {n g : Addr} {xs done : List Str} {kvs : List (Key × V)} {ws : Str → List Str} {G : Grp} (h : Pre K B n g xs done kvs ws G) : done.Nodup := h.dr.pe.nodup_iff.mpr h.dr.nd
theorem Pre.dl {K : PySem.W.Frag} {B : Hp} {n g : Addr} {xs done : List Str} {kvs : List (Key × V)} {ws : Str → List Str} {G : Grp} (h : Pre K B n g xs done kvs ws G) : done.length ≤ 16 := by
  have := h.dr.pe.length_eq
  have := h.xl
  omega
theorem Pre.wl {K : PySem.W.Frag} {B : Hp} {n g : Addr} {xs done : List Str} {kvs : List (Key × V)} {ws : Str → List Str} {G : Grp} (h : Pre K B n g xs done kvs ws G) {p : Str} (m : p ∈ xs) : (ws p).length ≤ 16 := by
  have := nodup_len (h.dr.row p m).1 (h.dr.row p m).2.2
  have := h.xl
  omega
theorem Pre.dn {K : PySem.W.Frag} {B : Hp} {n g : Addr} {xs done : List Str} {kvs : List (Key × V)} {ws : Str → List Str} {G : Grp} (h : Pre K B n g xs done kvs ws G) {p : Str} (m : p ∈ xs) : p ∈ done := h.dr.pe.mem_iff.mpr m
theorem x_pre {K : PySem.W.Frag} {B0 H0 B H : Hp} {M : List (Addr × HO)} {E : XK} {p : Addr} {a b : Int} {σ : L2.St} {De : Ends} {s i j m : Nat} {top : Nat} {rest : TS} (hs : HS [] B0 H0 B H ((p, stO a b) :: M)) (v : VSt a b)
    (e0 : σ[s]? = some (some (.ref p))) (e1 : ∀ x y : Option V, ((σ.set i x).set j y)[i]? = some x) (e2 : ∀ x y : Option V, ((σ.set i x).set j y)[j]? = some y) (ht : top ≤ 16)
    (k : ∀ B' H' a' b' n w g xs kvs done ws G, Same B B' → HS [] B0 H0 B' H' ((p, stO a' b') :: (w, .dK kvs) :: M) → VSt a' b' → Pre K B' n g xs done kvs ws G → xs.length ≤ top → rest De (((σ.set i (some (.ref n))).set j (some (.ref w))).set m (some (.ref g))) H') :
    tSeq (tAsg (tCl (sp__law_group K) (WE0 E) (tCons (tVar s) (tCons (tC (.int (top : Nat))) tNil))) (gTup K 2 (gCons (gName i) (gCons (gName j) gNil))))
      (tSeq (tAsg (tMk (He.ga K "Group") (sp_Group___init__ K) (WE0 E) (tCons (tCB (rTupOf K) (tCons (tVar i) tNil)) (tCons (tCl (sp__law_copy K) (WE0 E) (tCons (tVar j) tNil)) tNil))) (gName m)) rest) De σ H := by
  refine x_seq (x_asg (x_cl (x_cons (x_var e0 (x_cons (x_c (x_nil ?_)))))))
  refine use_group (top := top) hs v (by omega) (fun B2 H2 a2 b2 T n w xs kvs done ws sb2 hs2 hv2 eT en hxl dr hw => ?_)
  refine x_gtup (SqT.of (hs2.up eT)) rfl (x_gcons (x_gname (x_gcons (x_gname (x_gnil ?_)))))
  refine x_seq (x_asg (x_mk (x_cons (x_cb (x_cons (x_var (e1 _ _) (x_nil ?_)))))))
  refine x_tupL (SqL.of (hs2.up en)) ?_
  refine new_F hs2 (fun tp B3 H3 hs3 sb3 etp _ => ?_)
  refine x_cons (x_cl (x_cons (x_var (e2 _ _) (x_nil ?_))))
  refine use_copyF (xs := xs) hs3.swap (hw.mono sb3) dr (by omega) (fun B4 H4 c sb4 hs4 rc => ?_)
  obtain ⟨G, hG, hGn, hGw⟩ := drawn_group dr (by omega)
  refine x_nil ?_
  refine use_Group hs4 (rep_names (sb4 _ _ etp) dr.ok) rc (fun G' hG' B5 H5 g sb5 hs5 gat => ?_) (fun i hi => by rw [hG] at hi; cases hi) (fun i hi => by rw [hG] at hi; cases hi)
  rw [hG] at hG'
  cases hG'
  refine x_gname ?_
  have s25 := (sb3.trans sb4).trans sb5
  exact k B5 H5 a2 b2 n w g xs kvs done ws G (sb2.trans s25) hs5.swap hv2 ⟨s25 _ _ en, hw.mono s25, dr, by omega, gat, hGn, hGw⟩ hxl
/-- the end of many laws: the group shows what was drawn -/
theorem x_end {K : PySem.W.Frag} {B H : Hp} {E : XK} {σ : L2.St} {De : Ends} {i j m : Nat} {n w g : Addr} {xs done : List Str} {kvs : List (Key × V)} {ws : Str → List Str} {G : Grp} {H0 B0 : Hp} (hs : HS [] B0 H0 B H []) (pr : Pre K B n g xs done kvs ws G) (ew : B w = some (.dK kvs))
    (e0 : σ[i]? = some (some (.ref n))) (e1 : σ[j]? = some (some (.ref w))) (e2 : σ[m]? = some (some (.ref g))) (k : ∀ H', De.rt (.bl true) H') :
    tRet (tCl (sp__law_row K) (WE0 E) (tCons (tCl (sp__law_shows K) (WE0 E) (tCons (tVar m) tNil)) (tCons (tCl (sp__law_model K) (WE0 E) (tCons (tVar i) (tCons (tVar j) tNil))) tNil))) De σ H := by
  refine x_ret (x_cl (x_cons (x_cl (x_cons (x_var e2 (x_nil ?_))))))
  refine use_shows hs pr.gat (fun B1 H1 l vs sb1 hs1 mr => ?_)
  refine x_cons (x_cl (x_cons (x_var e0 (x_cons (x_var e1 (x_nil ?_))))))
  have pr1 := pr.mono sb1
  refine ⟨n, w, xs, done, kvs, ws, B1, rfl, hs1.bh, pr1.en, sb1 _ _ ew, pr1.hw, pr.nd, fun x m => pr.dn m, by have := pr.xl; omega, fun B2 H2 l2 vs2 c2 mr2 => ?_⟩
  have hs2 := hs1.callN c2
  have e3 : rowsOf G.names G.wish = rowsOf xs ws := by
    rw [pr.gn]
    exact rowsOf_congr pr.gw
  rw [e3] at mr
  have hok : ∀ k ∈ rowsOf xs ws, PyData.strOk k.1 = true ∧ ∀ x ∈ k.2, PyData.strOk x = true := fun k mk => by
    unfold rowsOf at mk
    obtain ⟨a, ma, rfl⟩ := List.mem_map.mp mk
    exact ⟨okName_strOk (pr.dr.ok a ma), fun x mx => okName_strOk (pr.dr.ok x ((pr.dr.row a ma).2.2 x mx))⟩
  refine x_nil ?_
  refine row_mrs hs2.bh (hs2.get (List.mem_cons_of_mem _ List.mem_cons_self)) (hs2.get List.mem_cons_self) (mr.mono c2.bb) mr2 hok hok ?_
  rw [decide_eq_true rfl]
  exact k _
end Q

set_option Elab.async false
set_option linter.all false
set_option maxRecDepth 100000
set_option maxHeartbeats 4000000
namespace Q
open PySem PySem.Spec PyProof.Rows L2
/-! ### == and != of nested data, both answers -/
/-- two rows, item by item -/
def EqS (F : V → V → Bool → Prop) (xs ys : List V) (b : Bool) : Prop := ∃ e : Nat → Bool, (∀ j u v, xs[j]? = some u → ys[j]? = some v → F u v (e j)) ∧ b = (decide (xs.length = ys.length) && (List.range xs.length).all e)
/-- an item compared with an item -/
def EqA (K : PySem.W.Frag) (H : Hp) : Nat → V → V → Bool → Prop
  | 0 => fun _ _ _ => False
  | n + 1 => fun x y b => (flatV x = true ∧ flatV y = true ∧ b = eqV x y) ∨ (∃ a, x = .ref a ∧ y = .ref a ∧ b = true) ∨
      ∃ a c xs ys, x = .ref a ∧ y = .ref c ∧ ((SqL K H a xs ∧ SqL K H c ys) ∨ (SqT K H a xs ∧ SqT K H c ys)) ∧ EqS (EqA K H n) xs ys b
/-- a whole compared with a whole -/
def EqW (K : PySem.W.Frag) (H : Hp) (n : Nat) (x y : V) (b : Bool) : Prop :=
  (∃ a c xs ys, x = .ref a ∧ y = .ref c ∧ ((SqL K H a xs ∧ SqL K H c ys) ∨ (SqT K H a xs ∧ SqT K H c ys)) ∧ EqS (EqA K H n) xs ys b) ∨
  ∃ a c ks ls, ∃ e : Key → Bool, x = .ref a ∧ y = .ref c ∧ H a = some (.dK ks) ∧ H c = some (.dK ls) ∧ (∀ k u v, (k, u) ∈ ks → valV ls k = some v → EqA K H n u v (e k)) ∧ b = (decide (ks.length = ls.length) && ks.all fun p => (valV ls p.1).isSome && e p.1)
theorem eqV_self {v : V} (f : flatV v = true) : eqV v v = true := by
  cases v <;> first | rfl | (simp [eqV]; done) | cases f
section
variable {X : Cx} {pins : List (Addr × Obj)} {σ : L2.St} {H : Hp} {s : Shared}
theorem eqA_refl (I : Inv X pins σ H s) : ∀ (n : Nat) (x : V) (b : Bool), EqA X.K H n x x b → b = true
  | 0, _, _, h => (show False from h).elim
  | n + 1, x, b, h => by
    rcases h with ⟨f, _, e⟩ | ⟨a, _, _, e⟩ | ⟨a, c, xs, ys, e1, e2, hq, e, he, eb⟩
    · rw [e]; exact eqV_self f
    · exact e
    · have ac : a = c := by rw [e1] at e2; injection e2
      subst ac
      have xy : xs = ys := by
        rcases hq with ⟨h1, h2⟩ | ⟨h1, h2⟩
        · exact I.list_inj h1 h2
        · exact I.tuple_inj h1 h2
      subst xy
      rw [eb, decide_eq_true rfl, Bool.true_and, List.all_eq_true]
      intro j hj
      have hj := List.mem_range.mp hj
      exact eqA_refl I n _ _ (he j _ _ (List.getElem?_eq_getElem hj) (List.getElem?_eq_getElem hj))
theorem eqS_at {A : Around} {n : Nat} (ih : ∀ x y v u b, EqA X.K H n x y b → RelV x v → RelV y u → SeqAt.EqAt A s v u b) {xs ys : List V} {us ws : List Value} (r1 : Vals xs us) (r2 : Vals ys ws) {e : Nat → Bool}
    (he : ∀ j u v, xs[j]? = some u → ys[j]? = some v → EqA X.K H n u v (e j)) (j : Nat) (h1 : j < us.toArray.size) (h2 : j < ws.toArray.size) : SeqAt.EqAt A s us.toArray[j] ws.toArray[j] (e j) := by
  have l1 := r1.length
  have l2 := r2.length
  have h1' : j < us.length := by simpa using h1
  have h2' : j < ws.length := by simpa using h2
  have hx : xs[j]? = some (xs[j]'(by omega)) := List.getElem?_eq_getElem (by omega)
  have hy : ys[j]? = some (ys[j]'(by omega)) := List.getElem?_eq_getElem (by omega)
  obtain ⟨u1, e1, q1⟩ := r1.get hx
  obtain ⟨u2, e2, q2⟩ := r2.get hy
  rw [List.getElem?_eq_getElem h1'] at e1
  rw [List.getElem?_eq_getElem h2'] at e2
  cases e1
  cases e2
  have := ih _ _ _ _ _ (he j _ _ hx hy) q1 q2
  simpa using this
theorem eqA_at (I : Inv X pins σ H s) : ∀ (n : Nat) (A : Around), A.units + n < cLine → ∀ (x y : V) (v u : Value) (b : Bool), EqA X.K H n x y b → RelV x v → RelV y u → SeqAt.EqAt A s v u b
  | 0, _, _, _, _, _, _, _, h, _, _ => (show False from h).elim
  | n + 1, A, hu, x, y, v, u, b, h, rx, ry => by
    have h0 := h
    rcases h with ⟨f1, f2, e⟩ | ⟨a, rfl, rfl, e⟩ | ⟨a, c, xs, ys, rfl, rfl, hq, e, he, eb⟩
    · rw [e]; exact eqAt_V rx ry f1 f2
    · cases (show v = Value.ref a from rx)
      cases (show u = Value.ref a from ry)
      rw [e]
      exact SeqAt.EqAt.same _
    · cases (show v = Value.ref a from rx)
      cases (show u = Value.ref c from ry)
      by_cases ac : a = c
      · subst ac
        rw [eqA_refl I (n + 1) _ _ h0]
        exact SeqAt.EqAt.same _
      · refine SeqAt.EqAt.of_refs ac ?_
        have ih := eqA_at I n A.in1 (by show A.units + 1 + n < cLine; omega)
        rcases hq with ⟨h1, h2⟩ | ⟨h1, h2⟩
        · obtain ⟨us, r1, p1, _⟩ := I.list h1
          obtain ⟨ws, r2, p2, _⟩ := I.list h2
          have l1 := r1.length
          have l2 := r2.length
          by_cases hl : xs.length = ys.length
          · have := SeqAt.RcAt.lists (e := e) p1.isList p2.isList (by rw [List.size_toArray, List.size_toArray]; omega) (by omega) (eqS_at (A := A.in1) ih r1 r2 he)
            rw [eb, decide_eq_true hl, Bool.true_and]
            rw [List.size_toArray, ← l1] at this
            exact this
          · have := SeqAt.RcAt.lists_lengths (A := A) p1.isList p2.isList (by rw [List.size_toArray, List.size_toArray, bne_iff_ne]; omega) (by omega)
            rw [eb, decide_eq_false hl, Bool.false_and]
            exact this
        · obtain ⟨us, r1, p1, _⟩ := I.tuple h1
          obtain ⟨ws, r2, p2, _⟩ := I.tuple h2
          have l1 := r1.length
          have l2 := r2.length
          have := SeqAt.RcAt.tuples (e := e) p1 p2 (by omega) (eqS_at (A := A.in1) ih r1 r2 he)
          rw [List.size_toArray, List.size_toArray, ← l1, ← l2] at this
          by_cases hl : xs.length = ys.length
          · rw [eb, decide_eq_true hl, Bool.true_and]
            rw [← hl, Nat.min_self, beq_self_eq_true, Bool.and_true] at this
            exact this
          · rw [eb, decide_eq_false hl, Bool.false_and]
            rw [beq_eq_false_iff_ne.mpr hl, Bool.and_false] at this
            exact this
theorem hits_A {A : Around} {n : Nat} (ih : ∀ x y v u b, EqA X.K H n x y b → RelV x v → RelV y u → SeqAt.EqAt A s v u b) {ls : List (Key × V)} {vb : List (Key × Value)} (rb : KV ls vb) {e : Key → Bool} {ks : List (Key × V)} {va : List (Key × Value)}
    (ra : KV ks va) : (∀ k u v, (k, u) ∈ ks → valV ls k = some v → EqA X.K H n u v (e k)) → ∃ r, PySem.W.KeqHits A s vb va r ∧ r = ks.all fun p => (valV ls p.1).isSome && e p.1 := by
  unfold KV at ra
  induction ra with
  | nil => intro _; exact ⟨true, .nil, rfl⟩
  | @cons p q ps qs h t k =>
    intro hp
    obtain ⟨h1, h2⟩ := h
    obtain ⟨key, v⟩ := q
    obtain ⟨pk, pv⟩ := p
    have h1' : pk = key := h1
    subst h1'
    obtain ⟨r, hr, er⟩ := k fun k' u v m => hp k' u v (List.mem_cons_of_mem _ m)
    have rr : RelO (valV ls pk) (valueAt vb pk) := rb.val pk
    cases hv : valV ls pk with
    | none =>
      rw [hv] at rr
      have hn : valueAt vb pk = none := by
        cases hq : valueAt vb pk with
        | none => rfl
        | some _ => rw [hq] at rr; cases rr
      exact ⟨false, .miss hn, by simp [hv]⟩
    | some u =>
      rw [hv] at rr
      obtain ⟨y, hy, ry⟩ := rr.some_of
      refine ⟨e pk && r, .hit hy (ih _ _ _ _ _ (hp pk pv u List.mem_cons_self hv) h2 ry) hr, by simp [hv, er]⟩
end
def rEqE (K : PySem.W.Frag) : R2 := fun x y H Q => ∃ n b, n ≤ 60 ∧ EqW K H n x y b ∧ Q (.bl b) H
def rNeE (K : PySem.W.Frag) : R2 := fun x y H Q => ∃ n b, n ≤ 60 ∧ EqW K H n x y b ∧ Q (.bl (!b)) H
section
variable {X : Cx}
theorem op_eqE (hu : X.A.units + 64 < cLine) : OpR X (compareOp .Eq) (rEqE X.K) := by
  intro pins s σ H x y v u Q I rx ry h
  obtain ⟨n, b, hn, h, q⟩ := h
  have ih := eqA_at I n X.A.in1 (by show X.A.units + 1 + n < cLine; omega)
  rcases h with ⟨a, c, xs, ys, rfl, rfl, hq, e, he, eb⟩ | ⟨a, c, ks, ls, e, rfl, rfl, ha, hb, he, eb⟩
  · cases (show v = Value.ref a from rx)
    cases (show u = Value.ref c from ry)
    rcases hq with ⟨h1, h2⟩ | ⟨h1, h2⟩
    · obtain ⟨us, r1, p1, _⟩ := I.list h1
      obtain ⟨ws, r2, p2, _⟩ := I.list h2
      have l1 := r1.length
      have l2 := r2.length
      by_cases hl : xs.length = ys.length
      · refine PySem.W.cmp_ofEq (SeqAt.RcAt.lists (e := e) p1.isList p2.isList (by rw [List.size_toArray, List.size_toArray]; omega) (by omega) (eqS_at (A := X.A.in1) ih r1 r2 he) X.prog X.w X.xe (EP X pins σ Q) ?_)
        rw [eb, decide_eq_true hl, Bool.true_and] at q
        rw [List.size_toArray, ← l1]
        exact ⟨.bl _, H, I, rfl, q⟩
      · refine PySem.W.cmp_ofEq (SeqAt.RcAt.lists_lengths p1.isList p2.isList (by rw [List.size_toArray, List.size_toArray, bne_iff_ne]; omega) (by omega) X.prog X.w X.xe (EP X pins σ Q) ?_)
        rw [eb, decide_eq_false hl, Bool.false_and] at q
        exact ⟨.bl _, H, I, rfl, q⟩
    · obtain ⟨us, r1, p1, _⟩ := I.tuple h1
      obtain ⟨ws, r2, p2, _⟩ := I.tuple h2
      have l1 := r1.length
      have l2 := r2.length
      refine PySem.W.cmp_ofEq (SeqAt.RcAt.tuples (e := e) p1 p2 (by omega) (eqS_at (A := X.A.in1) ih r1 r2 he) X.prog X.w X.xe (EP X pins σ Q) ?_)
      rw [List.size_toArray, List.size_toArray, ← l1, ← l2]
      by_cases hl : xs.length = ys.length
      · rw [eb, decide_eq_true hl, Bool.true_and] at q
        rw [← hl, Nat.min_self, beq_self_eq_true, Bool.and_true]
        exact ⟨.bl _, H, I, rfl, q⟩
      · rw [eb, decide_eq_false hl, Bool.false_and] at q
        rw [beq_eq_false_iff_ne.mpr hl, Bool.and_false]
        exact ⟨.bl _, H, I, rfl, q⟩
  · cases (show v = Value.ref a from rx)
    cases (show u = Value.ref c from ry)
    obtain ⟨_, ya, va, ra, da⟩ := (show ObjOk X.prog X.w H s.heap a (.dK ks) from I.hok a _ ha)
    obtain ⟨_, yb, vb, rb, db⟩ := (show ObjOk X.prog X.w H s.heap c (.dK ls) from I.hok c _ hb)
    obtain ⟨r, hr, er⟩ := hits_A ih rb ra he
    refine PySem.W.keq_eq (knd := mixKind X.prog X.w) (r := r) ya yb da db (by omega) (fun _ => hr) ?_
    rw [← ra.length, ← rb.length, er]
    rw [eb] at q
    exact ⟨.bl _, H, I, rfl, q⟩
theorem op_neE (hu : X.A.units + 64 < cLine) : OpR X (compareOp .NotEq) (rNeE X.K) := by
  intro pins s σ H x y v u Q I rx ry h
  obtain ⟨n, b, hn, h, q⟩ := h
  have ih := eqA_at I n X.A.in1 (by show X.A.units + 1 + n < cLine; omega)
  rcases h with ⟨a, c, xs, ys, rfl, rfl, hq, e, he, eb⟩ | ⟨a, c, ks, ls, e, rfl, rfl, ha, hb, he, eb⟩
  · cases (show v = Value.ref a from rx)
    cases (show u = Value.ref c from ry)
    rcases hq with ⟨h1, h2⟩ | ⟨h1, h2⟩
    · obtain ⟨us, r1, p1, _⟩ := I.list h1
      obtain ⟨ws, r2, p2, _⟩ := I.list h2
      have l1 := r1.length
      have l2 := r2.length
      by_cases hl : xs.length = ys.length
      · refine PySem.W.cmp_ofNotEq (SeqAt.RcNeAt.lists (e := e) p1.isList p2.isList (by rw [List.size_toArray, List.size_toArray]; omega) (by omega) (eqS_at (A := X.A.in1) ih r1 r2 he) X.prog X.w X.xe (EP X pins σ Q) ?_)
        rw [eb, decide_eq_true hl, Bool.true_and] at q
        rw [List.size_toArray, ← l1]
        exact ⟨.bl _, H, I, rfl, q⟩
      · refine PySem.W.cmp_ofNotEq (SeqAt.RcNeAt.lists_lengths p1.isList p2.isList (by rw [List.size_toArray, List.size_toArray, bne_iff_ne]; omega) (by omega) X.prog X.w X.xe (EP X pins σ Q) ?_)
        rw [eb, decide_eq_false hl, Bool.false_and] at q
        exact ⟨.bl _, H, I, rfl, q⟩
    · obtain ⟨us, r1, p1, _⟩ := I.tuple h1
      obtain ⟨ws, r2, p2, _⟩ := I.tuple h2
      have l1 := r1.length
      have l2 := r2.length
      refine PySem.W.cmp_ofNotEq (SeqAt.RcNeAt.tuples (e := e) p1 p2 (by omega) (eqS_at (A := X.A.in1) ih r1 r2 he) X.prog X.w X.xe (EP X pins σ Q) ?_)
      rw [List.size_toArray, List.size_toArray, ← l1, ← l2]
      by_cases hl : xs.length = ys.length
      · rw [eb, decide_eq_true hl, Bool.true_and] at q
        rw [← hl, Nat.min_self, beq_self_eq_true, Bool.and_true]
        exact ⟨.bl _, H, I, rfl, q⟩
      · rw [eb, decide_eq_false hl, Bool.false_and] at q
        rw [beq_eq_false_iff_ne.mpr hl, Bool.and_false]
        exact ⟨.bl _, H, I, rfl, q⟩
  · cases (show v = Value.ref a from rx)
    cases (show u = Value.ref c from ry)
    obtain ⟨_, ya, va, ra, da⟩ := (show ObjOk X.prog X.w H s.heap a (.dK ks) from I.hok a _ ha)
    obtain ⟨_, yb, vb, rb, db⟩ := (show ObjOk X.prog X.w H s.heap c (.dK ls) from I.hok c _ hb)
    obtain ⟨r, hr, er⟩ := hits_A ih rb ra he
    refine PySem.W.keq_ne (knd := mixKind X.prog X.w) (r := r) ya yb da db (by omega) (fun _ => hr) ?_
    rw [← ra.length, ← rb.length, er]
    rw [eb] at q
    exact ⟨.bl _, H, I, rfl, q⟩
end
end Q

set_option Elab.async false
set_option linter.all false
set_option maxRecDepth 100000
set_option maxHeartbeats 4000000
namespace Q
open PySem PySem.Spec PyProof.Rows L2
/-! ### == and != by an own __eq__, two instances of one class -/
def rEqG (C : Addr) (sp : Sp) : R2 := fun x y H Q => ∃ a c dx fs dy gs, x = .ref a ∧ y = .ref c ∧ H a = some (.ins C dx fs) ∧ H c = some (.ins C dy gs) ∧ sp [.ref a, .ref c] H (fun v H' => ∃ b, v = .bl b ∧ Q (.bl b) H') fun _ _ _ => False
def rNeG (C : Addr) (sp : Sp) : R2 := fun x y H Q => ∃ a c dx fs dy gs, x = .ref a ∧ y = .ref c ∧ H a = some (.ins C dx fs) ∧ H c = some (.ins C dy gs) ∧ sp [.ref a, .ref c] H (fun v H' => ∃ b, v = .bl b ∧ Q (.bl (!b)) H') fun _ _ _ => False
section
variable {M : Model} {A : Around} {E : Value → Shared → Prop} {s : Shared} {K : PySem.W.Frag} {x C : Addr} {ox : Obj} {od : Option Obj}
theorem ifBound_objNe {args : List Value} {Q : Option Value → Shared → Prop} (X : K.In s.heap) (I : PySem.W.InstAt s.heap x ox C od) (hs : PySem.W.findIn K (.ref C) "__ne__" = some (some (.builtin "object.__ne__")))
    (h : wpAny M A (call (.builtin "object.__ne__") (.ref x :: args)) (fun v => Q (some v)) E s) : wpAny M A (callSpecialIfBound? (.ref x) "__ne__" args) Q E s := by
  simp only [callSpecialIfBound?, bindSpecialIfBound?]
  refine wpAny_holding (wpAny_bind (wpAny_bind (wpAny_bind (I.type.here ((PySem.W.looks_findIn X hs).here ?_)))))
  refine wpAny_bind (wpAny_askSetting (wpAny_ite ?_))
  have fin : wpAny M A (call (.builtin "object.__ne__") ([.ref x] ++ args) >>= fun v => pure (some v)) Q E s := wpAny_bind (wpAny_mono h (fun v s' h' => wpAny_pure h') fun _ _ h' => h')
  split
  · exact wpAny_bind (wpAny_of_eq (F.cmp_object.ne.bind _) (wpAny_pure (by exact fin)))
  · exact wpAny_tryCatch (wpAny_bind (wpAny_of_eq (F.cmp_object.ne.bind _) (wpAny_pure (by exact fin))))
end
section
variable {prog : Program} {w : World} {A : Around} {E : Value → Shared → Prop} {s : Shared} {K : PySem.W.Frag} {x y C f : Addr} {ox oy : Obj} {od oe : Option Obj}
theorem objNe_own {Q : Fin → Shared → Prop} (hu : A.units < cLine) (X : K.In s.heap) (I : PySem.W.InstAt s.heap x ox C od) (he : PySem.W.findIn K (.ref C) "__eq__" = some (some (.ref f))) (hf : PySem.W.isFn K (.ref f) = true)
    (hcall : wpAny (model prog w) A (call (.ref f) [.ref x, .ref y]) (fun v s' => ∃ b, v = .bool b ∧ Q (.done (.ret (.bool (!b)))) s') E s) :
    wpAny (model prog w) A (Builtin.«object.__ne__» ⟨[.ref x, .ref y], []⟩) Q E s := by
  unfold Builtin.«object.__ne__»
  repeat (first
    | with_reducible refine wpAny_cRoomFor hu ?_
    | (refine wpAny_bind (m := callSpecialIfBound? (.ref x) (Str.ofString "__eq__") [.ref y])
        (PySem.W.ifBound_K X I he hf (wpAny_mono hcall (fun r s' hr => by
          obtain ⟨b, rfl, hq⟩ := hr
          repeat (first | exact hq | exact wpAny_pure hq | exact wpAny_truthy_bool hq | (refine wpAny_bind (m := truthy (.bool _)) (wpAny_truthy_bool ?_)) | wp_step)) fun _ _ e => e)))
    | wp_step)
theorem rcNe_own {Q : Value → Shared → Prop} (hu : A.units + 1 < cLine) (X : K.In s.heap) (I : PySem.W.InstAt s.heap x ox C od) (J : PySem.W.InstAt s.heap y oy C oe) (he : PySem.W.findIn K (.ref C) "__eq__" = some (some (.ref f))) (hf : PySem.W.isFn K (.ref f) = true)
    (hs : PySem.W.findIn K (.ref C) "__ne__" = some (some (.builtin "object.__ne__"))) (hm : PySem.W.mroIn K C (.type "object") = some true)
    (hcall : wpAny (model prog w) A.in1 (call (.ref f) [.ref x, .ref y]) (fun v s' => ∃ b, v = .bool b ∧ Q (.bool (!b)) s') E s) : wpAny (model prog w) A (richCompare .NotEq (.ref x) (.ref y)) Q E s := by
  have one : wpAny (model prog w) A (tryCompare (.ref x) (cmpInfo .NotEq).2.1 (.ref y)) (fun r s' => ∃ v, r = some v ∧ Q v s') E s := by
    unfold tryCompare
    refine wpAny_bind (ifBound_objNe X I hs (wpAny_call (codeAny_call_builtin F.cmp_object.ne.plain F.cmpEntry_ne (PySem.W.check_slot F.cmpKind_ne F.cmpSplit_ne (I.type.andThen (PySem.W.looks_mroIn X hm)) (F.cmpArgs_ne _ _)
      (objNe_own (A := A.in1) hu X I he hf (wpAny_mono hcall (fun v s' hv => ?_) fun _ _ e => e))))))
    obtain ⟨b, rfl, hq⟩ := hv
    first | exact ⟨b, rfl, wpAny_pure ⟨_, rfl, hq⟩⟩ | exact ⟨b, rfl, _, rfl, hq⟩
  unfold richCompare
  simp only [oneThing_ref]
  refine wpAny_holding (wpAny_bind (wpAny_cRoomFor (by omega) ?_))
  refine wpAny_bind (I.type.here (wpAny_bind (J.type.here ?_)))
  split
  · rename_i q
    simp at q
  · refine wpAny_bind (wpAny_pure ?_)
    simp only [Bool.false_eq_true, if_false]
    refine wpAny_bind (wpAny_mono one (fun r s' z => ?_) fun _ _ e => e)
    obtain ⟨v, rfl, hq⟩ := z
    exact wpAny_pure hq
end
section
variable {X : Cx} {k j : Nat} {c : Str} {ps : List Str} {sp : Sp}
theorem o_eqG (F : Mt X.prog X.w X.K X.mg X.base k c "__eq__" ps sp) (hr : Room j X.A) (hj : k ≤ j) : OpR X (compareOp .Eq) (rEqG (He.ga X.K c) sp) := by
  intro pins s σ H x y v u Q I rx ry h
  obtain ⟨a, b, dx, fs, dy, gs, rfl, rfl, ea, eb, q⟩ := h
  cases rx
  cases ry
  obtain ⟨f, fd, c, hm, hb, F⟩ := F
  obtain ⟨mA, J, _⟩ := ins_get I.hok ea
  obtain ⟨od, J, _⟩ := J.look
  obtain ⟨mB, J', _⟩ := ins_get I.hok eb
  obtain ⟨od', J', _⟩ := J'.look
  obtain ⟨m, hF⟩ := I.fr
  refine PySem.W.cmp_ofEq (PySem.W.cmp_K (op := .Eq) (tb := .ref (He.ga X.K _)) hr.units0 hF I.ok.mod.kin J J'.type (by simp [PySem.W.notFirst]) hm.at_ hm.fn ?_)
  refine wpAny_mono (run_fnS (E := WE W0) (us := [.ref a, .ref b]) (vs := [.ref a, .ref b]) F (hr.mono hj) hb (passAt takes0 σ) I (.cons rfl (.cons rfl .nil)) q) (fun r s' hh => ?_) fun _ _ z => z
  obtain ⟨z, H', I', rz, b, ez, qq⟩ := hh
  subst ez
  cases rz
  exact ⟨.bl b, H', I', rfl, qq⟩
theorem o_neG (F : Mt X.prog X.w X.K X.mg X.base k c "__eq__" ps sp) (hs : PySem.W.findIn X.K (.ref (He.ga X.K c)) "__ne__" = some (some (.builtin "object.__ne__"))) (hmo : PySem.W.mroIn X.K (He.ga X.K c) (.type "object") = some true) (hr : Room j X.A) (hj : k + 1 ≤ j) : OpR X (compareOp .NotEq) (rNeG (He.ga X.K c) sp) := by
  intro pins s σ H x y v u Q I rx ry h
  obtain ⟨a, b, dx, fs, dy, gs, rfl, rfl, ea, eb, q⟩ := h
  cases rx
  cases ry
  obtain ⟨f, fd, c, hm, hb, F⟩ := F
  obtain ⟨mA, J, _⟩ := ins_get I.hok ea
  obtain ⟨od, J, _⟩ := J.look
  obtain ⟨mB, J', _⟩ := ins_get I.hok eb
  obtain ⟨od', J', _⟩ := J'.look
  have hu := hr.units
  refine PySem.W.cmp_ofNotEq (rcNe_own (by omega) I.kIn J J' hm.at_ hm.fn hs hmo ?_)
  refine wpAny_mono (run_in1 (W := W0) (us := [.ref a, .ref b]) (vs := [.ref a, .ref b]) F (hr.mono hj) hb takes0 I (.cons rfl (.cons rfl .nil)) q) (fun r s' hh => ?_) fun _ _ z => z
  obtain ⟨z, H', I', rz, b, ez, qq⟩ := hh
  subst ez
  cases rz
  exact ⟨b, rfl, .bl (!b), H', I', rfl, qq⟩
end
end Q

set_option Elab.async false
set_option linter.all false
set_option maxRecDepth 100000
set_option maxHeartbeats 4000000
namespace Q
open PySem PySem.Spec PyProof.Rows L2
local macro_rules | `(tactic| walk_at "bf") => `(tactic| first | assumption | (refine' bstep (by assumption) ?r; case r => walk_at "bf") | fail)
local macro_rules | `(tactic| walk_at "rp") => `(tactic| first | assumption | exact Rep.int _ | exact Rep.bl _ | exact Rep.non | (refine' Rep.mono (by assumption) ?r; case r => walk_at "rp") | fail)
local macro_rules | `(tactic| walk_at "hf") => `(tactic| first | assumption | exact HS.up (by assumption) (by walk_at "bf") | exact HS.get (by assumption) List.mem_cons_self | exact HS.get (by assumption) (List.mem_cons_of_mem _ List.mem_cons_self) | exact HS.get (by assumption) (List.mem_cons_of_mem _ (List.mem_cons_of_mem _ List.mem_cons_self)) | exact HS.get (by assumption) (List.mem_cons_of_mem _ (List.mem_cons_of_mem _ (List.mem_cons_of_mem _ List.mem_cons_self))) | fail)
local macro_rules | `(tactic| walk_at "sl") => `(tactic| first | assumption | exact SqL.of (by walk_at "hf") | fail)
local macro_rules | `(tactic| walk_at "st") => `(tactic| first | assumption | exact SqT.of (by walk_at "hf") | fail)
local macro_rules | `(tactic| walk_at "sz") => `(tactic| first | assumption | (refine small_le ?_; first | assumption | omega | (simp; done) | (simp; omega)) | fail)
local macro_rules | `(tactic| walk_at "s1") => `(tactic| first
  | (with_reducible refine x_seq ?_)
  | (with_reducible refine x_asg ?_)
  | ((with_reducible refine x_gname ?_); try simp only [List.set_cons_zero, List.set_cons_succ])
  | ((with_reducible refine' x_var ?h ?_); case h => rfl)
  | (with_reducible refine x_c ?_)
  | (with_reducible refine x_op ?_)
  | (with_reducible refine x_ret ?_)
  | (with_reducible refine x_if ?_)
  | (with_reducible refine x_and ?_)
  | (with_reducible refine x_or ?_)
  | (with_reducible refine x_not ?_)
  | (with_reducible refine x_test ?_)
  | (with_reducible refine x_tB ?_)
  | (with_reducible refine x_tr ?_)
  | (with_reducible refine x_cb ?_)
  | (with_reducible refine x_cons ?_)
  | (with_reducible refine x_nil ?_)
  | (with_reducible refine x_exb ?_)
  | (with_reducible refine x_tt _ _ ?_)
  | (with_reducible refine x_ff _ _ ?_)
  | (with_reducible refine x_dget ?_)
  | (with_reducible refine x_din ?_)
  | (with_reducible refine x_dnin ?_)
  | (with_reducible refine x_dputU ?_)
  | (with_reducible refine x_dnew ?_)
  | (with_reducible refine x_bm ?_)
  | (with_reducible refine x_bm0 ?_)
  | (with_reducible refine x_gsub ?_)
  | (with_reducible refine x_fldU ?_)
  | (with_reducible refine x_sfldU ?_)
  | (with_reducible refine x_gcons ?_)
  | (with_reducible refine x_gnil ?_)
  | (with_reducible refine x_rz1 ?_)
  | (with_reducible refine x_rz2 ?_)
  | (with_reducible refine x_tryAs ?_)
  | (with_reducible refine x_tryOnly ?_)
  | (with_reducible refine x_mtU ?_)
  | (with_reducible refine x_mk ?_)
  | (with_reducible refine x_yes ?_)
  | (with_reducible refine x_un ?_)
  | (with_reducible refine x_neg ?_)
  | (with_reducible refine x_iEnum ?_)
  | (with_reducible refine x_iEnumT ?_)
  | (with_reducible refine x_lst ?_)
  | (with_reducible refine x_tup ?_)
  | (with_reducible refine x_dc ?_)
  | ((with_reducible refine' x_dinO ?h ?_); case h => walk_at "hf")
  | ((with_reducible refine' x_newL ?h ?_); case h => first | exact Nat.zero_le _ | (simp; done) | (simp; omega))
  | ((with_reducible refine' x_newT ?h ?_); case h => first | exact Nat.zero_le _ | (simp; done) | (simp; omega))
  | ((with_reducible refine' x_listL ?h ?_); case h => walk_at "sl")
  | ((with_reducible refine' x_listT ?h ?_); case h => walk_at "st")
  | ((with_reducible refine' x_mulI ?h ?_); case h => first | exact .inl ⟨by decide, by decide⟩ | exact .inr ⟨by decide, by decide⟩ | exact .inl ⟨by omega, by omega⟩ | exact .inr ⟨by omega, by omega⟩)
  | ((with_reducible refine' x_divI ?h ?_); case h => first | exact ⟨by decide, by decide⟩ | exact ⟨by omega, by omega⟩)
  | ((with_reducible refine' x_powI ?h ?_); case h => exact ⟨by decide, by decide, by decide⟩)
  | ((with_reducible refine' x_ixL ?h ?h2 ?_); (case h => walk_at "sl"); (case h2 => first | rfl | assumption))
  | ((with_reducible refine' x_ixT ?h ?h2 ?_); (case h => walk_at "st"); (case h2 => first | rfl | assumption))
  | (with_reducible refine x_m1s ?_)
  | (with_reducible refine x_str1 ?_)
  | (with_reducible refine x_sl ?_)
  | (with_reducible refine x_noPart ?_)
  | (with_reducible refine x_part ?_)
  | (with_reducible refine x_exi ?_)
  | ((with_reducible refine' x_slS ?h ?_); case h => walk_at "sz")
  | ((with_reducible refine' x_slL ?h ?_); case h => walk_at "sl")
  | (with_reducible refine x_pairsC ?_)
  | (with_reducible refine x_pairsN ?_)
  | ((with_reducible refine' x_dgS ?h ?h2 ?_); (case h => walk_at "hf"); (case h2 => assumption))
  | ((with_reducible refine' x_srtT ?h ?h2 ?_); (case h => walk_at "st"); (case h2 => omega))
  | ((with_reducible refine' x_srtL ?h ?h2 ?_); (case h => walk_at "sl"); (case h2 => omega))
  | ((with_reducible refine' x_inLS ?h ?_); case h => walk_at "sl")
  | ((with_reducible refine' x_inTS ?h ?_); case h => walk_at "st")
  | ((with_reducible refine' x_ninLS ?h ?_); case h => walk_at "sl")
  | ((with_reducible refine' x_ninTS ?h ?_); case h => walk_at "st")
  | ((with_reducible refine' x_tyL ?h ?_); case h => walk_at "sl")
  | ((with_reducible refine' x_gtup ?h ?h2 ?_); (case h => walk_at "st"); (case h2 => rfl))
  | (with_reducible refine x_next ?_)
  | (with_reducible refine x_for ?_)
  | (with_reducible refine x_iList ?_)
  | (with_reducible refine x_iTup ?_)
  | (with_reducible refine x_iStr ?_)
  | (with_reducible refine x_iRng1 ?_)
  | (with_reducible refine x_iRng2 ?_)
  | (with_reducible refine x_lc ?_)
  | (with_reducible refine x_drop ?_)
  | (with_reducible refine x_retN ?_)
  | (with_reducible refine x_cont ?_)
  | (with_reducible refine x_break ?_)
  | (with_reducible refine x_cl ?_)
  | (with_reducible refine x_isN ?_)
  | (with_reducible refine x_notN ?_)
  | (with_reducible refine x_andV ?_)
  | (with_reducible refine x_orV ?_)
  | (with_reducible refine x_notV ?_)
  | (with_reducible refine x_ifE ?_)
  | (with_reducible refine x_addI ?_)
  | (with_reducible refine x_subI ?_)
  | (with_reducible refine x_ltI ?_)
  | (with_reducible refine x_leI ?_)
  | (with_reducible refine x_gtI ?_)
  | (with_reducible refine x_geI ?_)
  | (with_reducible refine x_ltS ?_)
  | (with_reducible refine x_abs ?_)
  | (with_reducible refine x_min2 ?_)
  | (with_reducible refine x_max2 ?_)
  | (with_reducible refine x_int1 ?_)
  | (with_reducible refine x_notInS ?_)
  | ((with_reducible refine' x_eq ?h ?_); case h => rfl)
  | ((with_reducible refine' x_ne ?h ?_); case h => rfl)
  | ((with_reducible refine' x_modI ?h ?_); case h => first | decide | omega)
  | ((with_reducible refine' x_isiD ?h1 ?h2 ?h3 ?_); (case h1 => assumption); (case h2 => walk_at "rp"); (case h3 => decide))
  | ((with_reducible refine' x_lenS ?h ?_); case h => walk_at "sz")
  | ((with_reducible refine' x_lenL ?h ?_); case h => walk_at "sl")
  | ((with_reducible refine' x_lenT ?h ?_); case h => walk_at "st")
  | ((with_reducible refine' x_lenD ?h ?_); case h => walk_at "hf")
  | fail)
local macro_rules | `(tactic| walk_at "sx") => `(tactic| repeat walk_at "s1")
/-! ### isinstance(x, Group) -/
structure GIs (K : PySem.W.Frag) : Prop where
  own : PySem.W.kitOne K (.ref (He.ga K "Group")) (.ref (He.ga K "Group")) = some true
  no : ∀ T ∈ (["NoneType", "bool", "int", "str", "list", "tuple", "dict"] : List String), PySem.W.kitOne K (.type T) (.ref (He.ga K "Group")) = some false
def gisB (K : PySem.W.Frag) : Bool := decide (PySem.W.kitOne K (.ref (He.ga K "Group")) (.ref (He.ga K "Group")) = some true) && (["NoneType", "bool", "int", "str", "list", "tuple", "dict"] : List String).all fun T => decide (PySem.W.kitOne K (.type T) (.ref (He.ga K "Group")) = some false)
theorem gisB_ok {K : PySem.W.Frag} (h : gisB K = true) : GIs K := by
  obtain ⟨h1, h2⟩ := Bool.and_eq_true_iff.mp h
  exact ⟨of_decide_eq_true h1, fun T m => of_decide_eq_true (List.all_eq_true.mp h2 T m)⟩
theorem x_isiO {K : PySem.W.Frag} {B H : Hp} {Q : VK} {p : Addr} {G : Grp} {S : List Addr} {B0 H0 : Hp} {M : List (Addr × HO)} (gk : GK K) (gi : GIs K) (hs : HS S B0 H0 B H M) (g : GAt K B p G) (h : Q (.bl true) H) : rIsi K [.ref p, .ref (He.ga K "Group")] H Q := by
  obtain ⟨dx, n, l, m, q, e⟩ := g.ins
  exact ⟨_, _, _, _, true, rfl, .own _, .base (.ins (hs.up e) gk.cl gk.ik.ha gk.ik.hn gk.ik.tk gk.ik.mo), gi.own, h⟩
/-! ### == of lists and dicts of texts -/
theorem eqa_str {K : PySem.W.Frag} {H : Hp} {n : Nat} {x y : Str} : EqA K H (n + 1) (.str x) (.str y) (decide (x = y)) := .inl ⟨rfl, rfl, by
  show decide (x = y) = (x == y)
  by_cases h : x = y
  · subst h; simp
  · simp [h]⟩
theorem eqs_strs {K : PySem.W.Frag} {H : Hp} {n : Nat} (xs ys : List Str) : EqS (EqA K H (n + 1)) (xs.map V.str) (ys.map V.str) (decide (xs = ys)) := by
  refine ⟨fun j => decide (xs[j]? = ys[j]?), fun j u v h1 h2 => ?_, ?_⟩
  · obtain ⟨x, e1, rfl⟩ := strs_get h1
    obtain ⟨y, e2, rfl⟩ := strs_get h2
    dsimp only
    rw [e1, e2]
    have := eqa_str (K := K) (H := H) (n := n) (x := x) (y := y)
    simpa using this
  · rw [List.length_map, List.length_map]
    by_cases h : xs = ys
    · subst h
      simp
    · rw [decide_eq_false h]
      symm
      rw [Bool.and_eq_false_iff]
      by_cases hl : xs.length = ys.length
      · right
        rw [List.all_eq_false]
        have : ∃ j, xs[j]? ≠ ys[j]? := Classical.byContradiction fun z => h (List.ext_getElem? fun j => Classical.byContradiction fun w => z ⟨j, w⟩)
        obtain ⟨j, hj⟩ := this
        refine ⟨j, List.mem_range.mpr ?_, by simpa using hj⟩
        refine Classical.byContradiction fun z => hj ?_
        rw [List.getElem?_eq_none (by omega), List.getElem?_eq_none (by omega)]
      · exact .inl (decide_eq_false hl)
theorem eqa_strs {K : PySem.W.Frag} {H : Hp} {n : Nat} {a c : Addr} {xs ys : List Str} (ha : H a = some (.lst (xs.map V.str))) (hc : H c = some (.lst (ys.map V.str))) : EqA K H (n + 2) (.ref a) (.ref c) (decide (xs = ys)) :=
  .inr (.inr ⟨a, c, _, _, rfl, rfl, .inl ⟨SqL.of ha, SqL.of hc⟩, eqs_strs xs ys⟩)
theorem zipK_mem {xs : List Str} {al : List Addr} {k : Key} {u : V} (h : (k, u) ∈ zipK xs al) : ∃ (j : Nat) (p : Str) (a : Addr), xs[j]? = some p ∧ al[j]? = some a ∧ k = .inr p ∧ u = .ref a := by
  unfold zipK at h
  obtain ⟨⟨p, a⟩, m, e⟩ := List.mem_map.mp h
  obtain ⟨j, hj⟩ := List.mem_iff_getElem?.mp m
  rw [List.getElem?_zip_eq_some] at hj
  cases e
  exact ⟨j, p, a, hj.1, hj.2, rfl, rfl⟩
theorem zipK_len' {xs : List Str} {al : List Addr} (h : al.length = xs.length) : (zipK xs al).length = xs.length := by
  unfold zipK
  rw [List.length_map, List.length_zip]
  omega
def keyB (f : Str → Bool) : Key → Bool
  | .inr p => f p
  | _ => false
theorem eqw_dict {K : PySem.W.Frag} {H : Hp} {a c : Addr} {xs ys : List Str} {al bl : List Addr} {f g : Str → List Str} (h1 : al.length = xs.length) (h2 : bl.length = ys.length) (nd2 : ys.Nodup) (ha : H a = some (.dK (zipK xs al))) (hc : H c = some (.dK (zipK ys bl)))
    (hf : ∀ (j : Nat) p a, xs[j]? = some p → al[j]? = some a → LAt H f p a) (hg : ∀ (j : Nat) p a, ys[j]? = some p → bl[j]? = some a → LAt H g p a) :
    EqW K H 2 (.ref a) (.ref c) (decide (xs.length = ys.length) && xs.all fun p => decide (p ∈ ys) && decide (f p = g p)) := by
  refine .inr ⟨a, c, _, _, keyB fun p => decide (f p = g p), rfl, rfl, ha, hc, fun k u v m hv => ?_, ?_⟩
  · obtain ⟨j, p, x, e1, e2, rfl, rfl⟩ := zipK_mem m
    by_cases my : p ∈ ys
    · obtain ⟨j', y, e3, e4, e5⟩ := zipK_val h2 nd2 my
      rw [e5] at hv
      cases hv
      exact eqa_strs (hf j p x e1 e2) (hg j' p y e3 e4)
    · rw [zipK_none my] at hv
      cases hv
  · rw [zipK_len' h1, zipK_len' h2]
    congr 1
    have e : ((zipK xs al).all fun p => (valV (zipK ys bl) p.1).isSome && keyB (fun p => decide (f p = g p)) p.1) = (((zipK xs al).map (·.1)).all fun k => (valV (zipK ys bl) k).isSome && keyB (fun p => decide (f p = g p)) k) := by
      rw [List.all_map]
      rfl
    rw [e, zipK_keys h1, List.all_map]
    refine List.all_congr rfl fun p => ?_
    show _ = ((valV (zipK ys bl) (.inr p)).isSome && decide (f p = g p))
    congr 1
    by_cases my : p ∈ ys
    · obtain ⟨j', y, e3, e4, e5⟩ := zipK_val h2 nd2 my
      rw [e5, decide_eq_true my]
      rfl
    · rw [zipK_none my, decide_eq_false my]
      rfl
/-! ### Group.__eq__ -/
def Grp.eq (G G2 : Grp) : Bool := decide (G.names = G2.names) && G.names.all fun p => decide (G.wish p = G2.wish p)
abbrev N_Group___eq__ : List Str := ["self", "other"]
def t_Group___eq__ (K : PySem.W.Frag) (E : XK) : TS := (tRet (tAndV (tCB (rIsi K) (tCons (tVar 1) (tCons (tC (.ref (He.ga K "Group"))) tNil))) (tAndV (tOp (rEqD K) (tFld K (tVar 0) "names") (tFld K (tVar 1) "names")) (tOp (rEqE K) (tFld K (tVar 0) "lists") (tFld K (tVar 1) "lists")))))
def sp_Group___eq__ (K : PySem.W.Frag) : Sp := fun vs H Q E => ∃ p q B G G2, vs = [.ref p, .ref q] ∧ Same B H ∧ GAt K B p G ∧ GAt K B q G2 ∧ Ret B H Q fun _ r => r = .bl (G.eq G2)
theorem pure_Group___eq__ {K : PySem.W.Frag} (gk : GK K) (gi : GIs K) {vs : List V} {H : Hp} {Q : VK} {E : XK} (h : sp_Group___eq__ K vs H Q E) : t_Group___eq__ K E { nx := fun _ H' => Q .non H', rt := Q } (start N_Group___eq__ vs) H := by
  obtain ⟨p, q, B, G, G2, rfl, sB, g, g2, k⟩ := h
  have hs := HS.start sB
  show t_Group___eq__ K E _ [some (.ref p), some (.ref q)] H
  unfold t_Group___eq__
  walk_at "sx"
  refine x_isiO gk gi hs g2 ?_
  refine x_exb ?_
  refine x_tt _ _ ?_
  obtain ⟨⟨dx, n, l, m, pl, h1, h2, ⟨al, hal, el, hLl⟩, h4, h5⟩, ok⟩ := g
  obtain ⟨⟨dx', n', l', m', pl', h1', h2', ⟨al', hal', el', hLl'⟩, h4', h5'⟩, ok'⟩ := g2
  walk_at "sx"
  refine x_fld (hs.up h1) gk.cl gk.nn (gf_names n l m pl) ?_
  walk_at "sx"
  refine x_fld (hs.up h1') gk.cl gk.nn (gf_names n' l' m' pl') ?_
  refine ⟨_, _, .lst (SqL.of (hs.up h2)) (dp_strs _), .lst (SqL.of (hs.up h2')) (dp_strs _), shaped_strs fun x mx => okName_strOk (ok.nm x mx), shaped_strs fun x mx => okName_strOk (ok'.nm x mx), ?_⟩
  refine x_exb ?_
  simp only [PyData.eqv, eqv_strs]
  refine x_ite (fun e => ?_) (fun e => ?_)
  · have e := of_decide_eq_true e
    walk_at "sx"
    refine x_fld (hs.up h1) gk.cl gk.nl (gf_lists n l m pl) ?_
    walk_at "sx"
    refine x_fld (hs.up h1') gk.cl gk.nl (gf_lists n' l' m' pl') ?_
    refine ⟨2, _, by decide, eqw_dict hal hal' ok'.nd (hs.up el) (hs.up el') (fun j p a e1 e2 => hs.up (hLl j p a e1 e2)) (fun j p a e1 e2 => hs.up (hLl' j p a e1 e2)), ?_⟩
    refine k B H _ hs (congrArg V.bl ?_)
    unfold Grp.eq
    rw [e, decide_eq_true rfl, decide_eq_true rfl, Bool.true_and, Bool.true_and, Bool.eq_iff_iff, List.all_eq_true, List.all_eq_true]
    refine forall_congr' fun x => forall_congr' fun mx => ?_
    simp [mx]
  · have e := of_decide_eq_false e
    refine k B H _ hs (congrArg V.bl ?_)
    unfold Grp.eq
    rw [decide_eq_false e, Bool.false_and]
theorem use_eq {K : PySem.W.Frag} {S : List Addr} {B0 H0 B H : Hp} {M : List (Addr × HO)} {Q : VK} {p q : Addr} {G G2 : Grp} (hs : HS S B0 H0 B H M) (g : GAt K B p G) (g2 : GAt K B q G2)
    (k : ∀ B' H', Same B B' → HS S B0 H0 B' H' M → Q (.bl (G.eq G2)) H') : rEqG (He.ga K "Group") (sp_Group___eq__ K) (.ref p) (.ref q) H Q := by
  obtain ⟨dx, n, l, m, pl, e⟩ := g.ins
  obtain ⟨dx', n', l', m', pl', e'⟩ := g2.ins
  exact ⟨p, q, _, _, _, _, rfl, rfl, hs.up e, hs.up e', p, q, B, G, G2, rfl, hs.bh, g, g2, fun B' H' v c z => ⟨_, z, k B' H' c.bb (hs.call c)⟩⟩
theorem use_ne {K : PySem.W.Frag} {S : List Addr} {B0 H0 B H : Hp} {M : List (Addr × HO)} {Q : VK} {p q : Addr} {G G2 : Grp} (hs : HS S B0 H0 B H M) (g : GAt K B p G) (g2 : GAt K B q G2)
    (k : ∀ B' H', Same B B' → HS S B0 H0 B' H' M → Q (.bl (!G.eq G2)) H') : rNeG (He.ga K "Group") (sp_Group___eq__ K) (.ref p) (.ref q) H Q := by
  obtain ⟨dx, n, l, m, pl, e⟩ := g.ins
  obtain ⟨dx', n', l', m', pl', e'⟩ := g2.ins
  exact ⟨p, q, _, _, _, _, rfl, rfl, hs.up e, hs.up e', p, q, B, G, G2, rfl, hs.bh, g, g2, fun B' H' v c z => ⟨_, z, k B' H' c.bb (hs.call c)⟩⟩
end Q

set_option Elab.async false
set_option linter.all false
set_option maxRecDepth 100000
set_option maxHeartbeats 4000000
namespace Q
open PySem PySem.Spec PyProof.Rows L2
local macro_rules | `(tactic| walk_at "bf") => `(tactic| first | assumption | (refine' bstep (by assumption) ?r; case r => walk_at "bf") | fail)
local macro_rules | `(tactic| walk_at "rp") => `(tactic| first | assumption | exact Rep.int _ | exact Rep.bl _ | exact Rep.non | (refine' Rep.mono (by assumption) ?r; case r => walk_at "rp") | fail)
local macro_rules | `(tactic| walk_at "hf") => `(tactic| first | assumption | exact HS.up (by assumption) (by walk_at "bf") | exact HS.get (by assumption) List.mem_cons_self | exact HS.get (by assumption) (List.mem_cons_of_mem _ List.mem_cons_self) | exact HS.get (by assumption) (List.mem_cons_of_mem _ (List.mem_cons_of_mem _ List.mem_cons_self)) | exact HS.get (by assumption) (List.mem_cons_of_mem _ (List.mem_cons_of_mem _ (List.mem_cons_of_mem _ List.mem_cons_self))) | fail)
local macro_rules | `(tactic| walk_at "sl") => `(tactic| first | assumption | exact SqL.of (by walk_at "hf") | fail)
local macro_rules | `(tactic| walk_at "st") => `(tactic| first | assumption | exact SqT.of (by walk_at "hf") | fail)
local macro_rules | `(tactic| walk_at "sz") => `(tactic| first | assumption | (refine small_le ?_; first | assumption | omega | (simp; done) | (simp; omega)) | fail)
local macro_rules | `(tactic| walk_at "s1") => `(tactic| first
  | (with_reducible refine x_seq ?_)
  | (with_reducible refine x_asg ?_)
  | ((with_reducible refine x_gname ?_); try simp only [List.set_cons_zero, List.set_cons_succ])
  | ((with_reducible refine' x_var ?h ?_); case h => rfl)
  | (with_reducible refine x_c ?_)
  | (with_reducible refine x_op ?_)
  | (with_reducible refine x_ret ?_)
  | (with_reducible refine x_if ?_)
  | (with_reducible refine x_and ?_)
  | (with_reducible refine x_or ?_)
  | (with_reducible refine x_not ?_)
  | (with_reducible refine x_test ?_)
  | (with_reducible refine x_tB ?_)
  | (with_reducible refine x_tr ?_)
  | (with_reducible refine x_cb ?_)
  | (with_reducible refine x_cons ?_)
  | (with_reducible refine x_nil ?_)
  | (with_reducible refine x_exb ?_)
  | (with_reducible refine x_tt _ _ ?_)
  | (with_reducible refine x_ff _ _ ?_)
  | (with_reducible refine x_dget ?_)
  | (with_reducible refine x_din ?_)
  | (with_reducible refine x_dnin ?_)
  | (with_reducible refine x_dputU ?_)
  | (with_reducible refine x_dnew ?_)
  | (with_reducible refine x_bm ?_)
  | (with_reducible refine x_bm0 ?_)
  | (with_reducible refine x_gsub ?_)
  | (with_reducible refine x_fldU ?_)
  | (with_reducible refine x_sfldU ?_)
  | (with_reducible refine x_gcons ?_)
  | (with_reducible refine x_gnil ?_)
  | (with_reducible refine x_rz1 ?_)
  | (with_reducible refine x_rz2 ?_)
  | (with_reducible refine x_tryAs ?_)
  | (with_reducible refine x_tryOnly ?_)
  | (with_reducible refine x_mtU ?_)
  | (with_reducible refine x_mk ?_)
  | (with_reducible refine x_yes ?_)
  | (with_reducible refine x_un ?_)
  | (with_reducible refine x_neg ?_)
  | (with_reducible refine x_iEnum ?_)
  | (with_reducible refine x_iEnumT ?_)
  | (with_reducible refine x_lst ?_)
  | (with_reducible refine x_tup ?_)
  | (with_reducible refine x_dc ?_)
  | ((with_reducible refine' x_dinO ?h ?_); case h => walk_at "hf")
  | ((with_reducible refine' x_newL ?h ?_); case h => first | exact Nat.zero_le _ | (simp; done) | (simp; omega))
  | ((with_reducible refine' x_newT ?h ?_); case h => first | exact Nat.zero_le _ | (simp; done) | (simp; omega))
  | ((with_reducible refine' x_listL ?h ?_); case h => walk_at "sl")
  | ((with_reducible refine' x_listT ?h ?_); case h => walk_at "st")
  | ((with_reducible refine' x_mulI ?h ?_); case h => first | exact .inl ⟨by decide, by decide⟩ | exact .inr ⟨by decide, by decide⟩ | exact .inl ⟨by omega, by omega⟩ | exact .inr ⟨by omega, by omega⟩)
  | ((with_reducible refine' x_divI ?h ?_); case h => first | exact ⟨by decide, by decide⟩ | exact ⟨by omega, by omega⟩)
  | ((with_reducible refine' x_powI ?h ?_); case h => exact ⟨by decide, by decide, by decide⟩)
  | ((with_reducible refine' x_ixL ?h ?h2 ?_); (case h => walk_at "sl"); (case h2 => first | rfl | assumption))
  | ((with_reducible refine' x_ixT ?h ?h2 ?_); (case h => walk_at "st"); (case h2 => first | rfl | assumption))
  | (with_reducible refine x_m1s ?_)
  | (with_reducible refine x_str1 ?_)
  | (with_reducible refine x_sl ?_)
  | (with_reducible refine x_noPart ?_)
  | (with_reducible refine x_part ?_)
  | (with_reducible refine x_exi ?_)
  | ((with_reducible refine' x_slS ?h ?_); case h => walk_at "sz")
  | ((with_reducible refine' x_slL ?h ?_); case h => walk_at "sl")
  | (with_reducible refine x_pairsC ?_)
  | (with_reducible refine x_pairsN ?_)
  | ((with_reducible refine' x_dgS ?h ?h2 ?_); (case h => walk_at "hf"); (case h2 => assumption))
  | ((with_reducible refine' x_srtT ?h ?h2 ?_); (case h => walk_at "st"); (case h2 => omega))
  | ((with_reducible refine' x_srtL ?h ?h2 ?_); (case h => walk_at "sl"); (case h2 => omega))
  | ((with_reducible refine' x_inLS ?h ?_); case h => walk_at "sl")
  | ((with_reducible refine' x_inTS ?h ?_); case h => walk_at "st")
  | ((with_reducible refine' x_ninLS ?h ?_); case h => walk_at "sl")
  | ((with_reducible refine' x_ninTS ?h ?_); case h => walk_at "st")
  | ((with_reducible refine' x_tyL ?h ?_); case h => walk_at "sl")
  | ((with_reducible refine' x_gtup ?h ?h2 ?_); (case h => walk_at "st"); (case h2 => rfl))
  | (with_reducible refine x_next ?_)
  | (with_reducible refine x_for ?_)
  | (with_reducible refine x_iList ?_)
  | (with_reducible refine x_iTup ?_)
  | (with_reducible refine x_iStr ?_)
  | (with_reducible refine x_iRng1 ?_)
  | (with_reducible refine x_iRng2 ?_)
  | (with_reducible refine x_lc ?_)
  | (with_reducible refine x_drop ?_)
  | (with_reducible refine x_retN ?_)
  | (with_reducible refine x_cont ?_)
  | (with_reducible refine x_break ?_)
  | (with_reducible refine x_cl ?_)
  | (with_reducible refine x_isN ?_)
  | (with_reducible refine x_notN ?_)
  | (with_reducible refine x_andV ?_)
  | (with_reducible refine x_orV ?_)
  | (with_reducible refine x_notV ?_)
  | (with_reducible refine x_ifE ?_)
  | (with_reducible refine x_addI ?_)
  | (with_reducible refine x_subI ?_)
  | (with_reducible refine x_ltI ?_)
  | (with_reducible refine x_leI ?_)
  | (with_reducible refine x_gtI ?_)
  | (with_reducible refine x_geI ?_)
  | (with_reducible refine x_ltS ?_)
  | (with_reducible refine x_abs ?_)
  | (with_reducible refine x_min2 ?_)
  | (with_reducible refine x_max2 ?_)
  | (with_reducible refine x_int1 ?_)
  | (with_reducible refine x_notInS ?_)
  | ((with_reducible refine' x_eq ?h ?_); case h => rfl)
  | ((with_reducible refine' x_ne ?h ?_); case h => rfl)
  | ((with_reducible refine' x_modI ?h ?_); case h => first | decide | omega)
  | ((with_reducible refine' x_isiD ?h1 ?h2 ?h3 ?_); (case h1 => assumption); (case h2 => walk_at "rp"); (case h3 => decide))
  | ((with_reducible refine' x_lenS ?h ?_); case h => walk_at "sz")
  | ((with_reducible refine' x_lenL ?h ?_); case h => walk_at "sl")
  | ((with_reducible refine' x_lenT ?h ?_); case h => walk_at "st")
  | ((with_reducible refine' x_lenD ?h ?_); case h => walk_at "hf")
  | fail)
local macro_rules | `(tactic| walk_at "sx") => `(tactic| repeat walk_at "s1")
/-! ### dicts by a function of the names -/
def zipF (rs : List Str) (f : Str → Addr) : List (Key × V) := rs.map fun p => (.inr p, .ref (f p))
def lsF (rs : List Str) (f : Str → Addr) (ws : Str → List Str) : List (Addr × HO) := rs.map fun p => (f p, .lst ((ws p).map V.str))
def updW {β : Type} (ws : Str → β) (a : Str) (row : β) : Str → β := fun p => if p = a then row else ws p
theorem updW_eq {β : Type} {ws : Str → β} {a : Str} {row : β} : updW ws a row a = row := if_pos rfl
theorem updW_ne {β : Type} {ws : Str → β} {a p : Str} {row : β} (h : p ≠ a) : updW ws a row p = ws p := if_neg h
theorem zipK_map (rs : List Str) (f : Str → Addr) : zipK rs (rs.map f) = zipF rs f := by
  induction rs with
  | nil => rfl
  | cons x r ih =>
    show ((Sum.inr x : Key), V.ref (f x)) :: zipK r (r.map f) = _
    rw [ih]
    rfl
theorem lsM_map (rs : List Str) (f : Str → Addr) (ws : Str → List Str) : lsM (rs.map f) rs ws = lsF rs f ws := by
  unfold lsM lsF
  induction rs with
  | nil => rfl
  | cons x r ih =>
    rw [List.map_cons, List.zip_cons_cons, List.map_cons, ih, List.map_cons]
theorem fn_of {al : List Addr} {done : List Str} (h : al.length = done.length) (nd : done.Nodup) : ∃ f : Str → Addr, al = done.map f := by
  induction done generalizing al with
  | nil => exact ⟨fun _ => 0, by simpa using h⟩
  | cons x r ih =>
    cases al with
    | nil => simp at h
    | cons a al =>
      obtain ⟨f, e⟩ := ih (by simpa using h) (List.nodup_cons.mp nd).2
      refine ⟨updW f x a, ?_⟩
      rw [List.map_cons, updW_eq, e]
      congr 1
      refine List.map_congr_left fun y m => ?_
      rw [updW_ne]
      exact fun z => (List.nodup_cons.mp nd).1 (z ▸ m)
theorem zipF_val {rs : List Str} {f : Str → Addr} {p : Str} (m : p ∈ rs) : valV (zipF rs f) (.inr p) = some (.ref (f p)) := by
  induction rs with
  | nil => cases m
  | cons x r ih =>
    show valV (((Sum.inr x : Key), V.ref (f x)) :: zipF r f) (.inr p) = _
    by_cases e : x = p
    · subst e
      exact valV_pos (p := ((Sum.inr x : Key), V.ref (f x))) rfl
    · rw [valV_neg (p := ((Sum.inr x : Key), V.ref (f x))) (fun z => e (Sum.inr.inj z))]
      refine ih ?_
      rcases List.mem_cons.mp m with z | z
      · exact absurd z.symm e
      · exact z
theorem zipF_none {rs : List Str} {f : Str → Addr} {p : Str} (m : p ∉ rs) : valV (zipF rs f) (.inr p) = none := by
  rw [← zipK_map]
  exact zipK_none m
theorem lsF_out {rs : List Str} {f : Str → Addr} {ws : Str → List Str} {a : Str} (m : a ∈ rs) : (lsF rs f ws).Perm ((f a, .lst ((ws a).map V.str)) :: lsF (rs.erase a) f ws) := (List.perm_cons_erase m).map _
theorem lsF_in {rs : List Str} {f : Str → Addr} {ws : Str → List Str} {a : Str} {row : List Str} (m : a ∈ rs) (nd : rs.Nodup) : ((f a, HO.lst (row.map V.str)) :: lsF (rs.erase a) f ws).Perm (lsF rs f (updW ws a row)) := by
  have e : lsF (rs.erase a) f ws = lsF (rs.erase a) f (updW ws a row) := List.map_congr_left fun p mp => by
    rw [updW_ne]
    intro z
    subst z
    exact (List.Nodup.not_mem_erase nd) mp
  rw [e]
  have := (lsF_out (f := f) (ws := updW ws a row) m).symm
  rw [updW_eq] at this
  exact this
theorem lsF_perm {rs rs' : List Str} {f : Str → Addr} {ws : Str → List Str} (h : rs.Perm rs') : (lsF rs f ws).Perm (lsF rs' f ws) := h.map _
/-! ### for x in reversed(list) -/
theorem x_listD {H : Hp} {Q : VK} {p : Addr} {kvs : List (Key × V)} (hp : H p = some (.dK kvs)) (h : New (.lst (kvs.map fun kv => kV kv.1)) Q H) : rListD [.ref p] H Q := ⟨p, kvs, rfl, hp, h⟩
theorem zipF_keysV (rs : List Str) (f : Str → Addr) : ((zipF rs f).map fun kv => kV kv.1) = rs.map V.str := by
  unfold zipF
  rw [List.map_map]
  rfl
section
variable {α : Type} {K : PySem.W.Frag} {S : List Addr} {B0 H0 B : Hp} {σf : α → L2.St} {Mf : α → List (Addr × HO)} {P : Nat → α → Hp → Prop} {a : Addr} {xs : List V} {g : TG} {tb : TS} {De : Ends} {H : Hp} {s0 : α}
theorem l_rev (hs : HS S B0 H0 B H (Mf s0)) (ea : B a = some (.lst xs)) (h0 : P 0 s0 B)
    (hb : ∀ i x s B1 H1, xs.reverse[i]? = some x → Same B B1 → HS S B0 H0 B1 H1 (Mf s) → P i s B1 → g x (σf s) H1 fun σ2 H2 => tb { De with nx := LI S B0 H0 B σf Mf P (i + 1), ct := LI S B0 H0 B σf Mf P (i + 1), bk := De.nx } σ2 H2)
    (hd : ∀ s B1 H1, Same B B1 → HS S B0 H0 B1 H1 (Mf s) → P xs.length s B1 → De.nx (σf s) H1) : LoopW (Itv K a xs.length) g tb De (σf s0) H := by
  refine for_it (walk_rev (K := K) (a := a) (xs := xs)) (LI S B0 H0 B σf Mf P) ⟨s0, B, rfl, Same.refl _, hs, h0⟩ (fun i σ H' _ ⟨s, B1, _, sb, hs', _⟩ => SqL.of (hs'.up (sb _ _ ea))) (fun i x σ H' H2 hi ⟨s, B1, e, sb, hs', p⟩ y => ?_) fun σ H' ⟨s, B1, e, sb, hs', p⟩ => ?_
  · obtain ⟨rfl, hx⟩ := y
    rw [e]
    exact hb i x s B1 _ (by rw [List.getElem?_reverse hi]; exact hx) sb hs' p
  · rw [e]
    exact hd s B1 H' sb hs' p
end
theorem map_strs_rev (xs : List Str) : (xs.map V.str).reverse = xs.reverse.map V.str := List.map_reverse.symm
theorem x_iRev {K : PySem.W.Frag} {ta : TA} {σ : L2.St} {H : Hp} {R : It → Hp → Prop} (h : ta σ H fun vs H1 => ∃ (a : Addr) (xs : List V), vs = [.ref a] ∧ SqL K H1 a xs ∧ R (Itv K a xs.length) H1) : iRev K ta σ H R := h
abbrev N__law_turned : List Str := ["_law_x", "_law_turned_here", "_law_a"]
def t__law_turned (K : PySem.W.Frag) (E : XK) : TS := (tSeq (tAsg tDNewK (gName 1))
  (tSeq (tFor (iRev K (tCons (tCB (rSortL K) (tCons (tCB rListD (tCons (tVar 0) tNil)) tNil)) tNil)) (gName 2) (sDPut (tVar 1) (tVar 2) (tDGet (tVar 0) (tVar 2))))
  (tRet (tVar 1))))
def sp__law_turned (K : PySem.W.Frag) : Sp := fun vs H Q E => ∃ (d : Addr) (done : List Str) (f : Str → Addr) (B : Hp), vs = [.ref d] ∧ Same B H ∧ B d = some (.dK (zipF done f)) ∧ done.Nodup ∧ done.length < 64 ∧
  ∀ B' H' T rs, HS [] B H B' H' [(T, .dK (zipF rs f))] → rs.Perm done → Q (.ref T) H'
theorem pure__law_turned {K : PySem.W.Frag} {vs : List V} {H : Hp} {Q : VK} {E : XK} (h : sp__law_turned K vs H Q E) : t__law_turned K E { nx := fun _ H' => Q .non H', rt := Q } (start N__law_turned vs) H := by
  obtain ⟨d, done, f, B, rfl, sB, bd, nd, hl, k⟩ := h
  have hs := HS.start sB
  show t__law_turned K E _ [some (.ref d), none, none] H
  unfold t__law_turned
  walk_at "sx"
  refine new_M hs (fun T H1 hs1 _ => ?_)
  walk_at "sx"
  refine x_iRev ?_
  walk_at "sx"
  refine x_listD (hs1.up bd) ?_
  rw [zipF_keysV]
  refine new_F hs1 (fun l B2 H2 hs2 sb2 el _ => ?_)
  walk_at "sx"
  have pe : (sortS done).Perm done := sortS_perm done
  generalize sortS done = ys at pe ⊢
  refine new_F hs2 (fun l2 B3 H3 hs3 sb3 el2 _ => ?_)
  walk_at "sx"
  have bd3 := sb3 _ _ (sb2 _ _ bd)
  have ndy : ys.Nodup := pe.nodup_iff.mpr nd
  refine ⟨l2, _, rfl, SqL.of (hs3.up el2), ?_⟩
  refine l_rev (α := Nat × Option V) (σf := fun s => [some (.ref d), some (.ref T), s.2]) (Mf := fun s => [(T, .dK (zipF (ys.reverse.take s.1) f))]) (P := fun i s _ => s.1 = i) (s0 := (0, none)) hs3 el2 rfl (fun i x s B4 H4 hx sb4 hs4 pp => ?_) (fun s B4 H4 sb4 hs4 pp => ?_)
  · obtain ⟨i', s2⟩ := s
    dsimp only at pp hs4 ⊢
    subst pp
    rw [map_strs_rev] at hx
    obtain ⟨b, hb, rfl⟩ := strs_get hx
    have mb : b ∈ done := pe.mem_iff.mp (List.mem_reverse.mp (List.mem_of_getElem? hb))
    have hil : i' < ys.reverse.length := (List.getElem?_eq_some_iff.mp hb).1
    have hyl := pe.length_eq
    rw [List.length_reverse] at hil
    walk_at "sx"
    refine x_dgS (hs4.up (sb4 _ _ bd3)) (zipF_val mb) ?_
    walk_at "sx"
    refine x_dput hs4 (by unfold zipF; rw [List.length_map, List.length_take]; omega) (fun H5 hs5 => ?_)
    refine ⟨(i' + 1, some _), B4, rfl, sb4, ?_, rfl⟩
    dsimp only
    rw [putK_new (zipF_none (notin_take ((List.reverse_perm ys).nodup_iff.mpr ndy) hb))] at hs5
    rw [take_snoc hb]
    unfold zipF
    rw [List.map_append]
    exact hs5
  · obtain ⟨i', s2⟩ := s
    dsimp only at pp hs4 ⊢
    subst pp
    walk_at "sx"
    have e : ys.reverse.take (ys.map V.str).length = ys.reverse := List.take_of_length_le (by simp)
    rw [e] at hs4
    exact k B4 H4 T ys.reverse (hs.callN hs4) ((List.reverse_perm ys).trans pe)
theorem use_turned {K : PySem.W.Frag} {S : List Addr} {B0 H0 B H : Hp} {M : List (Addr × HO)} {Q : VK} {E : XK} {d : Addr} {done : List Str} {f : Str → Addr} (hs : HS S B0 H0 B H M) (ed : B d = some (.dK (zipF done f))) (nd : done.Nodup) (hl : done.length < 64)
    (k : ∀ B' H' T rs, Same B B' → HS S B0 H0 B' H' ((T, .dK (zipF rs f)) :: M) → rs.Perm done → Q (.ref T) H') : sp__law_turned K [.ref d] H Q E :=
  ⟨d, done, f, B, rfl, hs.bh, ed, nd, hl, fun B' H' T rs c p => k B' H' T rs c.bb (hs.callN c) p⟩
end Q

set_option Elab.async false
set_option linter.all false
set_option maxRecDepth 100000
set_option maxHeartbeats 4000000
namespace Q
open PySem PySem.Spec PyProof.Rows L2
local macro_rules | `(tactic| walk_at "bf") => `(tactic| first | assumption | (refine' bstep (by assumption) ?r; case r => walk_at "bf") | fail)
local macro_rules | `(tactic| walk_at "rp") => `(tactic| first | assumption | exact Rep.int _ | exact Rep.bl _ | exact Rep.non | (refine' Rep.mono (by assumption) ?r; case r => walk_at "rp") | fail)
local macro_rules | `(tactic| walk_at "hf") => `(tactic| first | assumption | exact HS.up (by assumption) (by walk_at "bf") | exact HS.get (by assumption) List.mem_cons_self | exact HS.get (by assumption) (List.mem_cons_of_mem _ List.mem_cons_self) | exact HS.get (by assumption) (List.mem_cons_of_mem _ (List.mem_cons_of_mem _ List.mem_cons_self)) | exact HS.get (by assumption) (List.mem_cons_of_mem _ (List.mem_cons_of_mem _ (List.mem_cons_of_mem _ List.mem_cons_self))) | fail)
local macro_rules | `(tactic| walk_at "sl") => `(tactic| first | assumption | exact SqL.of (by walk_at "hf") | fail)
local macro_rules | `(tactic| walk_at "st") => `(tactic| first | assumption | exact SqT.of (by walk_at "hf") | fail)
local macro_rules | `(tactic| walk_at "sz") => `(tactic| first | assumption | (refine small_le ?_; first | assumption | omega | (simp; done) | (simp; omega)) | fail)
local macro_rules | `(tactic| walk_at "s1") => `(tactic| first
  | (with_reducible refine x_seq ?_)
  | (with_reducible refine x_asg ?_)
  | ((with_reducible refine x_gname ?_); try simp only [List.set_cons_zero, List.set_cons_succ])
  | ((with_reducible refine' x_var ?h ?_); case h => rfl)
  | (with_reducible refine x_c ?_)
  | (with_reducible refine x_op ?_)
  | (with_reducible refine x_ret ?_)
  | (with_reducible refine x_if ?_)
  | (with_reducible refine x_and ?_)
  | (with_reducible refine x_or ?_)
  | (with_reducible refine x_not ?_)
  | (with_reducible refine x_test ?_)
  | (with_reducible refine x_tB ?_)
  | (with_reducible refine x_tr ?_)
  | (with_reducible refine x_cb ?_)
  | (with_reducible refine x_cons ?_)
  | (with_reducible refine x_nil ?_)
  | (with_reducible refine x_exb ?_)
  | (with_reducible refine x_tt _ _ ?_)
  | (with_reducible refine x_ff _ _ ?_)
  | (with_reducible refine x_dget ?_)
  | (with_reducible refine x_din ?_)
  | (with_reducible refine x_dnin ?_)
  | (with_reducible refine x_dputU ?_)
  | (with_reducible refine x_dnew ?_)
  | (with_reducible refine x_bm ?_)
  | (with_reducible refine x_bm0 ?_)
  | (with_reducible refine x_gsub ?_)
  | (with_reducible refine x_fldU ?_)
  | (with_reducible refine x_sfldU ?_)
  | (with_reducible refine x_gcons ?_)
  | (with_reducible refine x_gnil ?_)
  | (with_reducible refine x_rz1 ?_)
  | (with_reducible refine x_rz2 ?_)
  | (with_reducible refine x_tryAs ?_)
  | (with_reducible refine x_tryOnly ?_)
  | (with_reducible refine x_mtU ?_)
  | (with_reducible refine x_mk ?_)
  | (with_reducible refine x_yes ?_)
  | (with_reducible refine x_un ?_)
  | (with_reducible refine x_neg ?_)
  | (with_reducible refine x_iEnum ?_)
  | (with_reducible refine x_iEnumT ?_)
  | (with_reducible refine x_lst ?_)
  | (with_reducible refine x_tup ?_)
  | (with_reducible refine x_dc ?_)
  | ((with_reducible refine' x_dinO ?h ?_); case h => walk_at "hf")
  | ((with_reducible refine' x_newL ?h ?_); case h => first | exact Nat.zero_le _ | (simp; done) | (simp; omega))
  | ((with_reducible refine' x_newT ?h ?_); case h => first | exact Nat.zero_le _ | (simp; done) | (simp; omega))
  | ((with_reducible refine' x_listL ?h ?_); case h => walk_at "sl")
  | ((with_reducible refine' x_listT ?h ?_); case h => walk_at "st")
  | ((with_reducible refine' x_mulI ?h ?_); case h => first | exact .inl ⟨by decide, by decide⟩ | exact .inr ⟨by decide, by decide⟩ | exact .inl ⟨by omega, by omega⟩ | exact .inr ⟨by omega, by omega⟩)
  | ((with_reducible refine' x_divI ?h ?_); case h => first | exact ⟨by decide, by decide⟩ | exact ⟨by omega, by omega⟩)
  | ((with_reducible refine' x_powI ?h ?_); case h => exact ⟨by decide, by decide, by decide⟩)
  | ((with_reducible refine' x_ixL ?h ?h2 ?_); (case h => walk_at "sl"); (case h2 => first | rfl | assumption))
  | ((with_reducible refine' x_ixT ?h ?h2 ?_); (case h => walk_at "st"); (case h2 => first | rfl | assumption))
  | (with_reducible refine x_m1s ?_)
  | (with_reducible refine x_str1 ?_)
  | (with_reducible refine x_sl ?_)
  | (with_reducible refine x_noPart ?_)
  | (with_reducible refine x_part ?_)
  | (with_reducible refine x_exi ?_)
  | ((with_reducible refine' x_slS ?h ?_); case h => walk_at "sz")
  | ((with_reducible refine' x_slL ?h ?_); case h => walk_at "sl")
  | (with_reducible refine x_pairsC ?_)
  | (with_reducible refine x_pairsN ?_)
  | ((with_reducible refine' x_dgS ?h ?h2 ?_); (case h => walk_at "hf"); (case h2 => assumption))
  | ((with_reducible refine' x_srtT ?h ?h2 ?_); (case h => walk_at "st"); (case h2 => omega))
  | ((with_reducible refine' x_srtL ?h ?h2 ?_); (case h => walk_at "sl"); (case h2 => omega))
  | ((with_reducible refine' x_inLS ?h ?_); case h => walk_at "sl")
  | ((with_reducible refine' x_inTS ?h ?_); case h => walk_at "st")
  | ((with_reducible refine' x_ninLS ?h ?_); case h => walk_at "sl")
  | ((with_reducible refine' x_ninTS ?h ?_); case h => walk_at "st")
  | ((with_reducible refine' x_tyL ?h ?_); case h => walk_at "sl")
  | ((with_reducible refine' x_gtup ?h ?h2 ?_); (case h => walk_at "st"); (case h2 => rfl))
  | (with_reducible refine x_next ?_)
  | (with_reducible refine x_for ?_)
  | (with_reducible refine x_iList ?_)
  | (with_reducible refine x_iTup ?_)
  | (with_reducible refine x_iStr ?_)
  | (with_reducible refine x_iRng1 ?_)
  | (with_reducible refine x_iRng2 ?_)
  | (with_reducible refine x_lc ?_)
  | (with_reducible refine x_drop ?_)
  | (with_reducible refine x_retN ?_)
  | (with_reducible refine x_cont ?_)
  | (with_reducible refine x_break ?_)
  | (with_reducible refine x_cl ?_)
  | (with_reducible refine x_isN ?_)
  | (with_reducible refine x_notN ?_)
  | (with_reducible refine x_andV ?_)
  | (with_reducible refine x_orV ?_)
  | (with_reducible refine x_notV ?_)
  | (with_reducible refine x_ifE ?_)
  | (with_reducible refine x_addI ?_)
  | (with_reducible refine x_subI ?_)
  | (with_reducible refine x_ltI ?_)
  | (with_reducible refine x_leI ?_)
  | (with_reducible refine x_gtI ?_)
  | (with_reducible refine x_geI ?_)
  | (with_reducible refine x_ltS ?_)
  | (with_reducible refine x_abs ?_)
  | (with_reducible refine x_min2 ?_)
  | (with_reducible refine x_max2 ?_)
  | (with_reducible refine x_int1 ?_)
  | (with_reducible refine x_notInS ?_)
  | ((with_reducible refine' x_eq ?h ?_); case h => rfl)
  | ((with_reducible refine' x_ne ?h ?_); case h => rfl)
  | ((with_reducible refine' x_modI ?h ?_); case h => first | decide | omega)
  | ((with_reducible refine' x_isiD ?h1 ?h2 ?h3 ?_); (case h1 => assumption); (case h2 => walk_at "rp"); (case h3 => decide))
  | ((with_reducible refine' x_lenS ?h ?_); case h => walk_at "sz")
  | ((with_reducible refine' x_lenL ?h ?_); case h => walk_at "sl")
  | ((with_reducible refine' x_lenT ?h ?_); case h => walk_at "st")
  | ((with_reducible refine' x_lenD ?h ?_); case h => walk_at "hf")
  | fail)
local macro_rules | `(tactic| walk_at "sx") => `(tactic| repeat walk_at "s1")
/-! ### more of dicts by a function -/
theorem zipF_over {f : Str → Addr} {x : Str} {a : Addr} : ∀ {rs : List Str}, rs.Nodup → x ∈ rs → putK (zipF rs f) (.inr x) (.ref a) = zipF rs (updW f x a) := by
  intro rs nd m
  unfold putK
  rw [valV_any, zipF_val m]
  show (zipF rs f).map _ = _
  unfold zipF
  rw [List.map_map]
  refine List.map_congr_left fun p mp => ?_
  show (if ((Sum.inr p : Key)) = Sum.inr x then _ else _) = _
  by_cases e : p = x
  · subst e
    rw [if_pos rfl, updW_eq]
  · rw [if_neg (fun z => e (Sum.inr.inj z)), updW_ne e]
theorem zipF_drop {f : Str → Addr} {x : Str} {rs : List Str} (nd : rs.Nodup) : dropK (zipF rs f) (.inr x) = zipF (rs.erase x) f := by
  rw [List.Nodup.erase_eq_filter nd]
  unfold dropK zipF
  rw [List.filter_map]
  congr 1
  refine List.filter_congr fun p _ => ?_
  show decide ((Sum.inr p : Key) ≠ Sum.inr x) = (p != x)
  by_cases e : p = x
  · subst e; simp
  · have : (Sum.inr p : Key) ≠ Sum.inr x := fun z => e (Sum.inr.inj z)
    simp [this, e]
theorem zipF_congr {rs : List Str} {f g : Str → Addr} (h : ∀ p ∈ rs, f p = g p) : zipF rs f = zipF rs g := List.map_congr_left fun p m => by rw [h p m]
theorem WAt.ofF {B : Hp} {rs : List Str} {f : Str → Addr} {ws : Str → List Str} (h : ∀ p ∈ rs, B (f p) = some (.lst ((ws p).map V.str))) : WAt B rs (zipF rs f) ws :=
  ⟨rs.map f, by rw [List.length_map], (zipK_map rs f).symm, fun j p a e1 e2 => by
    rw [List.getElem?_map, e1] at e2
    cases e2
    exact h p (List.mem_of_getElem? e1)⟩
theorem HS.pick {S : List Addr} {B0 H0 B H : Hp} {x y z : Addr × HO} {rs : List Str} {f : Str → Addr} {ws : Str → List Str} {a : Str} (h : HS S B0 H0 B H (x :: y :: z :: lsF rs f ws)) (m : a ∈ rs) : HS S B0 H0 B H (x :: (f a, .lst ((ws a).map V.str)) :: y :: z :: lsF (rs.erase a) f ws) :=
  h.perm (List.Perm.cons x ((((lsF_out m).cons z).cons y).trans (((List.Perm.swap _ z _).cons y).trans (List.Perm.swap _ y _))))
theorem HS.unpick {S : List Addr} {B0 H0 B H : Hp} {x y z : Addr × HO} {rs : List Str} {f : Str → Addr} {ws : Str → List Str} {a : Str} {row : List Str} (h : HS S B0 H0 B H ((f a, .lst (row.map V.str)) :: x :: y :: z :: lsF (rs.erase a) f ws)) (m : a ∈ rs) (nd : rs.Nodup) : HS S B0 H0 B H (x :: y :: z :: lsF rs f (updW ws a row)) :=
  h.perm (((List.Perm.swap x _ _).trans (((List.Perm.swap y _ _).trans ((List.Perm.swap z _ _).cons y)).cons x)).trans ((((lsF_in m nd).cons z).cons y).cons x))
theorem x_dpop {S : List Addr} {B0 H0 B H : Hp} {M : List (Addr × HO)} {d : Addr} {kvs : List (Key × V)} {x : Str} {v : V} {Q : VK} {td ty : TE} {σ : L2.St} (e1 : ∀ Qv : VK, Qv (.ref d) H → td σ H Qv) (e2 : ∀ Qv : VK, Qv (.str x) H → ty σ H Qv) (hs : HS S B0 H0 B H ((d, .dK kvs) :: M)) (e : valV kvs (.inr x) = some v)
    (h : ∀ H', HS S B0 H0 B H' ((d, .dK (dropK kvs (.inr x))) :: M) → Q v H') : tDPop1 td ty σ H Q :=
  e1 _ ⟨d, rfl, .inl ⟨kvs, .inl (hs.get List.mem_cons_self)⟩, e2 _ ⟨kvs, .inr x, v, hs.get List.mem_cons_self, rfl, e, h _ hs.set0⟩⟩
theorem x_reverse {S : List Addr} {B0 H0 B H : Hp} {M : List (Addr × HO)} {Q : VK} {l : Addr} {xs : List V} (hs : HS S B0 H0 B H ((l, .lst xs) :: M)) (h : ∀ H', HS S B0 H0 B H' ((l, .lst xs.reverse) :: M) → Q .non H') : rReverse (.ref l) [] H Q :=
  ⟨l, xs, rfl, rfl, hs.get List.mem_cons_self, h _ hs.set0⟩
theorem HS.stillA {B0 H0 B H : Hp} {N : List (Addr × HO)} (h : HS [] B0 H0 B H N) : ∃ B', HS [] B0 H0 B' H [] ∧ Same B B' ∧ ∀ q ∈ N, B' q.1 = some q.2 := HS.stillL (M := []) (by rw [List.append_nil]; exact h)
/-! ### rows that change -/
theorem rowOk_erase {names row : List Str} {p : Str} {i : Nat} (h : RowOk names p row) : RowOk names p (row.eraseIdx i) := ⟨h.1.sublist (List.eraseIdx_sublist row i), fun m => h.2.1 ((List.eraseIdx_sublist row i).mem m), fun q m => h.2.2 q ((List.eraseIdx_sublist row i).mem m)⟩
theorem ins_perm {α : Type} (l : List α) (i : Nat) (x : α) : (l.take i ++ [x] ++ l.drop i).Perm (x :: l) := by
  rw [List.append_assoc]
  refine (List.perm_middle (l₁ := l.take i) (l₂ := l.drop i) (a := x)).trans ?_
  rw [List.take_append_drop]
theorem rowOk_ins {names row : List Str} {p x : Str} {i : Nat} (h : RowOk names p row) (hp : x ≠ p) (hx : x ∈ names) (hn : x ∉ row) : RowOk names p (row.take i ++ [x] ++ row.drop i) := by
  have pe := ins_perm row i x
  refine ⟨pe.nodup_iff.mpr (List.nodup_cons.mpr ⟨hn, h.1⟩), fun m => ?_, fun q m => ?_⟩
  · rcases List.mem_cons.mp (pe.mem_iff.mp m) with z | z
    · exact hp z.symm
    · exact h.2.1 z
  · rcases List.mem_cons.mp (pe.mem_iff.mp m) with z | z
    · rw [z]; exact hx
    · exact h.2.2 q z
theorem Drawn.upd {xs rs : List Str} {ws : Str → List Str} {a : Str} {row : List Str} (d : Drawn xs rs ws) (h : RowOk xs a row) : Drawn xs rs (updW ws a row) := ⟨d.nd, d.ok, d.pe, fun p m => by
  unfold updW
  split
  · rename_i e; subst e; exact h
  · exact d.row p m⟩
theorem RowOk.names {xs ys row : List Str} {p : Str} (h : RowOk xs p row) (s : ∀ q ∈ xs, q ∈ ys) : RowOk ys p row := ⟨h.1, h.2.1, fun q m => s q (h.2.2 q m)⟩
theorem Drawn.permN {xs ys rs : List Str} {ws : Str → List Str} (d : Drawn xs rs ws) (h : ys.Perm xs) : Drawn ys rs ws := ⟨h.nodup_iff.mpr d.nd, fun x m => d.ok x (h.mem_iff.mp m), d.pe.trans h.symm, fun p m => (d.row p (h.mem_iff.mp m)).names fun q z => h.mem_iff.mpr z⟩
theorem set_swap {xs : List Str} {i j : Nat} {x y : Str} (hi : xs[i]? = some x) (hj : xs[j]? = some y) : ((xs.set i y).set j x).Perm xs := by
  obtain ⟨h1, rfl⟩ := List.getElem?_eq_some_iff.mp hi
  obtain ⟨h2, rfl⟩ := List.getElem?_eq_some_iff.mp hj
  exact List.set_set_perm h1 h2
/-! ### one name becomes another -/
def ren (a b : Str) (c : Str) : Str := if c = a then b else c
theorem split_at {xs : List Str} {i : Nat} {x : Str} (h : xs[i]? = some x) : xs = xs.take i ++ x :: xs.drop (i + 1) ∧ ∀ y, xs.set i y = xs.take i ++ y :: xs.drop (i + 1) := by
  obtain ⟨h1, rfl⟩ := List.getElem?_eq_some_iff.mp h
  refine ⟨?_, fun y => List.set_eq_take_append_cons_drop.trans (if_pos h1)⟩
  rw [← List.drop_eq_getElem_cons h1, List.take_append_drop]
theorem set_perm {xs : List Str} {i : Nat} {x y : Str} (h : xs[i]? = some x) : (xs.set i y).Perm (y :: xs.erase x) := by
  obtain ⟨e1, e2⟩ := split_at h
  rw [e2]
  refine List.perm_middle.trans (List.Perm.cons y ?_)
  have p1 : xs.Perm (x :: (xs.take i ++ xs.drop (i + 1))) := by
    have : (xs.take i ++ x :: xs.drop (i + 1)).Perm (x :: (xs.take i ++ xs.drop (i + 1))) := List.perm_middle
    rw [← e1] at this
    exact this
  have p2 : xs.Perm (x :: xs.erase x) := List.perm_cons_erase (List.mem_of_getElem? h)
  exact (p1.symm.trans p2).cons_inv
theorem rowOk_ren {xs row : List Str} {i : Nat} {a b p q : Str} (h : RowOk xs q row) (hi : xs[i]? = some a) (hb : b ∉ xs) (nd : xs.Nodup) (hq : q ∈ xs) (hp : p = ren a b q) : RowOk (xs.set i b) p (row.map (ren a b)) := by
  have inj : ∀ x ∈ xs, ∀ y ∈ xs, ren a b x = ren a b y → x = y := fun x mx y my e => by
    unfold ren at e
    split at e <;> split at e
    · rename_i e1 e2; rw [e1, e2]
    · exact absurd (e ▸ my) hb
    · exact absurd (e ▸ mx) hb
    · exact e
  refine ⟨List.pairwise_map.mpr (h.1.imp_of_mem fun {x y} mx my ne e => ne (inj x (h.2.2 x mx) y (h.2.2 y my) e)), fun m => ?_, fun r m => ?_⟩
  · obtain ⟨c, mc, e⟩ := List.mem_map.mp m
    rw [hp] at e
    exact h.2.1 (inj c (h.2.2 c mc) q hq e ▸ mc)
  · obtain ⟨c, mc, rfl⟩ := List.mem_map.mp m
    rw [(set_perm hi).mem_iff]
    unfold ren
    split
    · exact List.mem_cons_self
    · rename_i ne
      exact List.mem_cons_of_mem _ ((List.mem_erase_of_ne ne).mpr (h.2.2 c mc))
theorem ret_lenW {xs : List Str} {done : List Str} {ws : Str → List Str} (dr : Drawn xs done ws) (hl : xs.length ≤ 16) : ∀ p ∈ done, (ws p).length ≤ 100000 ∧ ∀ x ∈ ws p, x.length ≤ 1000000 := fun p m => by
  obtain ⟨r1, r2, r3⟩ := dr.row p (dr.pe.mem_iff.mp m)
  have := nodup_len r1 r3
  exact ⟨by omega, fun x mx => okName_len (dr.ok x (r3 x mx))⟩
end Q

set_option Elab.async false
set_option linter.all false
set_option maxRecDepth 100000
set_option maxHeartbeats 4000000
namespace Q
open PySem PySem.Spec PyProof.Rows L2
local macro_rules | `(tactic| walk_at "bf") => `(tactic| first | assumption | (refine' bstep (by assumption) ?r; case r => walk_at "bf") | fail)
local macro_rules | `(tactic| walk_at "rp") => `(tactic| first | assumption | exact Rep.int _ | exact Rep.bl _ | exact Rep.non | (refine' Rep.mono (by assumption) ?r; case r => walk_at "rp") | fail)
local macro_rules | `(tactic| walk_at "hf") => `(tactic| first | assumption | exact HS.up (by assumption) (by walk_at "bf") | exact HS.get (by assumption) List.mem_cons_self | exact HS.get (by assumption) (List.mem_cons_of_mem _ List.mem_cons_self) | exact HS.get (by assumption) (List.mem_cons_of_mem _ (List.mem_cons_of_mem _ List.mem_cons_self)) | exact HS.get (by assumption) (List.mem_cons_of_mem _ (List.mem_cons_of_mem _ (List.mem_cons_of_mem _ List.mem_cons_self))) | fail)
local macro_rules | `(tactic| walk_at "sl") => `(tactic| first | assumption | exact SqL.of (by walk_at "hf") | fail)
local macro_rules | `(tactic| walk_at "st") => `(tactic| first | assumption | exact SqT.of (by walk_at "hf") | fail)
local macro_rules | `(tactic| walk_at "sz") => `(tactic| first | assumption | (refine small_le ?_; first | assumption | omega | (simp; done) | (simp; omega)) | fail)
local macro_rules | `(tactic| walk_at "s1") => `(tactic| first
  | (with_reducible refine x_seq ?_)
  | (with_reducible refine x_asg ?_)
  | ((with_reducible refine x_gname ?_); try simp only [List.set_cons_zero, List.set_cons_succ])
  | ((with_reducible refine' x_var ?h ?_); case h => rfl)
  | (with_reducible refine x_c ?_)
  | (with_reducible refine x_op ?_)
  | (with_reducible refine x_ret ?_)
  | (with_reducible refine x_if ?_)
  | (with_reducible refine x_and ?_)
  | (with_reducible refine x_or ?_)
  | (with_reducible refine x_not ?_)
  | (with_reducible refine x_test ?_)
  | (with_reducible refine x_tB ?_)
  | (with_reducible refine x_tr ?_)
  | (with_reducible refine x_cb ?_)
  | (with_reducible refine x_cons ?_)
  | (with_reducible refine x_nil ?_)
  | (with_reducible refine x_exb ?_)
  | (with_reducible refine x_tt _ _ ?_)
  | (with_reducible refine x_ff _ _ ?_)
  | (with_reducible refine x_dget ?_)
  | (with_reducible refine x_din ?_)
  | (with_reducible refine x_dnin ?_)
  | (with_reducible refine x_dputU ?_)
  | (with_reducible refine x_dnew ?_)
  | (with_reducible refine x_bm ?_)
  | (with_reducible refine x_bm0 ?_)
  | (with_reducible refine x_gsub ?_)
  | (with_reducible refine x_fldU ?_)
  | (with_reducible refine x_sfldU ?_)
  | (with_reducible refine x_gcons ?_)
  | (with_reducible refine x_gnil ?_)
  | (with_reducible refine x_rz1 ?_)
  | (with_reducible refine x_rz2 ?_)
  | (with_reducible refine x_tryAs ?_)
  | (with_reducible refine x_tryOnly ?_)
  | (with_reducible refine x_mtU ?_)
  | (with_reducible refine x_mk ?_)
  | (with_reducible refine x_yes ?_)
  | (with_reducible refine x_un ?_)
  | (with_reducible refine x_neg ?_)
  | (with_reducible refine x_iEnum ?_)
  | (with_reducible refine x_iEnumT ?_)
  | (with_reducible refine x_lst ?_)
  | (with_reducible refine x_tup ?_)
  | (with_reducible refine x_dc ?_)
  | ((with_reducible refine' x_dinO ?h ?_); case h => walk_at "hf")
  | ((with_reducible refine' x_newL ?h ?_); case h => first | exact Nat.zero_le _ | (simp; done) | (simp; omega))
  | ((with_reducible refine' x_newT ?h ?_); case h => first | exact Nat.zero_le _ | (simp; done) | (simp; omega))
  | ((with_reducible refine' x_listL ?h ?_); case h => walk_at "sl")
  | ((with_reducible refine' x_listT ?h ?_); case h => walk_at "st")
  | ((with_reducible refine' x_mulI ?h ?_); case h => first | exact .inl ⟨by decide, by decide⟩ | exact .inr ⟨by decide, by decide⟩ | exact .inl ⟨by omega, by omega⟩ | exact .inr ⟨by omega, by omega⟩)
  | ((with_reducible refine' x_divI ?h ?_); case h => first | exact ⟨by decide, by decide⟩ | exact ⟨by omega, by omega⟩)
  | ((with_reducible refine' x_powI ?h ?_); case h => exact ⟨by decide, by decide, by decide⟩)
  | ((with_reducible refine' x_ixL ?h ?h2 ?_); (case h => walk_at "sl"); (case h2 => first | rfl | assumption))
  | ((with_reducible refine' x_ixT ?h ?h2 ?_); (case h => walk_at "st"); (case h2 => first | rfl | assumption))
  | (with_reducible refine x_m1s ?_)
  | (with_reducible refine x_str1 ?_)
  | (with_reducible refine x_sl ?_)
  | (with_reducible refine x_noPart ?_)
  | (with_reducible refine x_part ?_)
  | (with_reducible refine x_exi ?_)
  | ((with_reducible refine' x_slS ?h ?_); case h => walk_at "sz")
  | ((with_reducible refine' x_slL ?h ?_); case h => walk_at "sl")
  | (with_reducible refine x_pairsC ?_)
  | (with_reducible refine x_pairsN ?_)
  | ((with_reducible refine' x_dgS ?h ?h2 ?_); (case h => walk_at "hf"); (case h2 => assumption))
  | ((with_reducible refine' x_srtT ?h ?h2 ?_); (case h => walk_at "st"); (case h2 => omega))
  | ((with_reducible refine' x_srtL ?h ?h2 ?_); (case h => walk_at "sl"); (case h2 => omega))
  | ((with_reducible refine' x_inLS ?h ?_); case h => walk_at "sl")
  | ((with_reducible refine' x_inTS ?h ?_); case h => walk_at "st")
  | ((with_reducible refine' x_ninLS ?h ?_); case h => walk_at "sl")
  | ((with_reducible refine' x_ninTS ?h ?_); case h => walk_at "st")
  | ((with_reducible refine' x_tyL ?h ?_); case h => walk_at "sl")
  | ((with_reducible refine' x_gtup ?h ?h2 ?_); (case h => walk_at "st"); (case h2 => rfl))
  | (with_reducible refine x_next ?_)
  | (with_reducible refine x_for ?_)
  | (with_reducible refine x_iList ?_)
  | (with_reducible refine x_iTup ?_)
  | (with_reducible refine x_iStr ?_)
  | (with_reducible refine x_iRng1 ?_)
  | (with_reducible refine x_iRng2 ?_)
  | (with_reducible refine x_lc ?_)
  | (with_reducible refine x_drop ?_)
  | (with_reducible refine x_retN ?_)
  | (with_reducible refine x_cont ?_)
  | (with_reducible refine x_break ?_)
  | (with_reducible refine x_cl ?_)
  | (with_reducible refine x_isN ?_)
  | (with_reducible refine x_notN ?_)
  | (with_reducible refine x_andV ?_)
  | (with_reducible refine x_orV ?_)
  | (with_reducible refine x_notV ?_)
  | (with_reducible refine x_ifE ?_)
  | (with_reducible refine x_addI ?_)
  | (with_reducible refine x_subI ?_)
  | (with_reducible refine x_ltI ?_)
  | (with_reducible refine x_leI ?_)
  | (with_reducible refine x_gtI ?_)
  | (with_reducible refine x_geI ?_)
  | (with_reducible refine x_ltS ?_)
  | (with_reducible refine x_abs ?_)
  | (with_reducible refine x_min2 ?_)
  | (with_reducible refine x_max2 ?_)
  | (with_reducible refine x_int1 ?_)
  | (with_reducible refine x_notInS ?_)
  | ((with_reducible refine' x_eq ?h ?_); case h => rfl)
  | ((with_reducible refine' x_ne ?h ?_); case h => rfl)
  | ((with_reducible refine' x_modI ?h ?_); case h => first | decide | omega)
  | ((with_reducible refine' x_isiD ?h1 ?h2 ?h3 ?_); (case h1 => assumption); (case h2 => walk_at "rp"); (case h3 => decide))
  | ((with_reducible refine' x_lenS ?h ?_); case h => walk_at "sz")
  | ((with_reducible refine' x_lenL ?h ?_); case h => walk_at "sl")
  | ((with_reducible refine' x_lenT ?h ?_); case h => walk_at "st")
  | ((with_reducible refine' x_lenD ?h ?_); case h => walk_at "hf")
  | fail)
local macro_rules | `(tactic| walk_at "sx") => `(tactic| repeat walk_at "s1")
theorem Grp.eq_comm (G G2 : Grp) : G2.eq G = G.eq G2 := by
  unfold Grp.eq
  by_cases h : G.names = G2.names
  · rw [decide_eq_true h, decide_eq_true h.symm, Bool.true_and, Bool.true_and, h]
    refine List.all_congr rfl fun p => ?_
    exact decide_eq_decide.mpr ⟨Eq.symm, Eq.symm⟩
  · rw [decide_eq_false h, decide_eq_false fun z => h z.symm, Bool.false_and, Bool.false_and]
theorem Grp.eq_self (G : Grp) : G.eq G = true := by simp [Grp.eq]
theorem same_eq {xs xs1 done done1 : List Str} {ws ws1 : Str → List Str} {G G2 : Grp} (hn : G.names = xs) (hw : ∀ p ∈ xs, G.wish p = ws p) (hn2 : G2.names = xs1) (hw2 : ∀ p ∈ xs1, G2.wish p = ws1 p) (p1 : done.Perm xs) (p2 : done1.Perm xs1) (e : xs1 = xs) :
    (decide (done1.length = done.length) && done1.all fun p => decide (p ∈ done) && decide (ws1 p = ws p)) = G.eq G2 := by
  subst e
  unfold Grp.eq
  rw [hn, hn2, decide_eq_true rfl, Bool.true_and, decide_eq_true (p2.length_eq.trans p1.length_eq.symm), Bool.true_and, Bool.eq_iff_iff, List.all_eq_true, List.all_eq_true]
  refine ⟨fun h p m => ?_, fun h p m => ?_⟩
  · have := h p (p2.mem_iff.mpr m)
    simp only [Bool.and_eq_true, decide_eq_true_eq] at this ⊢
    rw [hw p m, hw2 p m, this.2]
  · have mx := p2.mem_iff.mp m
    have := h p mx
    simp only [Bool.and_eq_true, decide_eq_true_eq] at this ⊢
    rw [hw p mx, hw2 p mx] at this
    exact ⟨p1.mem_iff.mpr mx, this.symm⟩
theorem Grp.ne_names {G G2 : Grp} (h : G.names ≠ G2.names) : G.eq G2 = false := by
  unfold Grp.eq
  rw [decide_eq_false h, Bool.false_and]
abbrev N_law : List Str := ["_law_script", "_law_state", "_law_change", "_law_group_here", "_law_order", "_law_lists", "_law_twin", "_law_same", "_law_names_here", "_law_wishes_here", "_law_k", "_law_other", "_law_a", "_law_new", "_law_b", "_law_c"]
def t_law (K : PySem.W.Frag) (E : XK) : TS := (tSeq (tAsg (tCl (sp__law_cell K) (WE0 E) (tCons (tVar 0) (tCons (tC (.int 0)) tNil))) (gName 1))
  (tSeq (tAsg (tCl (sp__law_take K) (WE0 E) (tCons (tVar 1) (tCons (tC (.int 6)) tNil))) (gName 2))
  (tSeq (tAsg (tCl (sp__law_group K) (WE0 E) (tCons (tVar 1) (tCons (tC (.int 16)) tNil))) (gTup K 2 (gCons (gName 8) (gCons (gName 9) gNil))))
  (tSeq (tAsg (tMk (He.ga K "Group") (sp_Group___init__ K) (WE0 E) (tCons (tCB (rTupOf K) (tCons (tVar 8) tNil)) (tCons (tCl (sp__law_copy K) (WE0 E) (tCons (tVar 9) tNil)) tNil))) (gName 3))
  (tSeq (tAsg (tCB (rListOf K) (tCons (tVar 8) tNil)) (gName 4))
  (tSeq (tAsg (tCl (sp__law_turned K) (WE0 E) (tCons (tCl (sp__law_copy K) (WE0 E) (tCons (tVar 9) tNil)) tNil)) (gName 5))
  (tSeq (tIfS (tTr K (tVar 8)) (tSeq (tAsg (tCl (sp__law_take K) (WE0 E) (tCons (tVar 1) (tCons (tCB (rLenA K) (tCons (tVar 8) tNil)) tNil))) (gName 10))
  (tSeq (tAsg (tCl (sp__law_take K) (WE0 E) (tCons (tVar 1) (tCons (tCB (rLenA K) (tCons (tVar 8) tNil)) tNil))) (gName 11))
  (tSeq (tAsg (tOp (rIxL K) (tVar 8) (tVar 10)) (gName 12))
  (tSeq (tIfS (tTest (tOp rEq (tVar 2) (tC (.int 1)))) (tSeq (tAsg (tOp (rIxL K) (tVar 8) (tVar 11)) (gSub (tVar 4) (tVar 10) rSetL))
  (tAsg (tVar 12) (gSub (tVar 4) (tVar 11) rSetL))) tNext)
  (tSeq (tIfS (tAnd (tTest (tOp rEq (tVar 2) (tC (.int 2)))) (tTr K (tDGet (tVar 5) (tVar 12)))) (tDrop (tBM K "list" rPopAt (tDGet (tVar 5) (tVar 12)) (tCons (tCl (sp__law_take K) (WE0 E) (tCons (tVar 1) (tCons (tCB (rLenA K) (tCons (tDGet (tVar 5) (tVar 12)) tNil)) tNil))) tNil))) tNext)
  (tSeq (tIfS (tAnd (tTest (tOp rEq (tVar 2) (tC (.int 3)))) (tAnd (tTest (tOp rNe (tOp (rIxL K) (tVar 8) (tVar 11)) (tVar 12))) (tTest (tOp (rIn K true) (tOp (rIxL K) (tVar 8) (tVar 11)) (tDGet (tVar 5) (tVar 12)))))) (tDrop (tBM K "list" rInsert (tDGet (tVar 5) (tVar 12)) (tCons (tCl (sp__law_take K) (WE0 E) (tCons (tVar 1) (tCons (tOp rAddI (tCB (rLenA K) (tCons (tDGet (tVar 5) (tVar 12)) tNil)) (tC (.int 1))) tNil))) (tCons (tOp (rIxL K) (tVar 8) (tVar 11)) tNil)))) tNext)
  (tSeq (tIfS (tTest (tOp rEq (tVar 2) (tC (.int 4)))) (tDrop (tBM0 K "list" rReverse (tDGet (tVar 5) (tVar 12)))) tNext)
  (tIfS (tTest (tOp rEq (tVar 2) (tC (.int 5)))) (tSeq (tAsg (tCl (sp__law_name K) (WE0 E) (tCons (tVar 1) (tCons (tVar 8) tNil))) (gName 13))
  (tSeq (tAsg (tVar 13) (gSub (tVar 4) (tVar 10) rSetL))
  (tSeq (sDPut (tVar 5) (tVar 13) (tDPop1 (tVar 5) (tVar 12)))
  (tFor (iList K (tVar 4)) (gName 14) (sDPut (tVar 5) (tVar 14) (tLc (iList K (tDGet (tVar 5) (tVar 14))) (gName 15) tYes (tIf (tTest (tOp rEq (tVar 15) (tVar 12))) (tVar 13) (tVar 15)) [15])))))) tNext)))))))) tNext)
  (tSeq (tAsg (tMk (He.ga K "Group") (sp_Group___init__ K) (WE0 E) (tCons (tCB (rTupOf K) (tCons (tVar 4) tNil)) (tCons (tVar 5) tNil))) (gName 6))
  (tSeq (tAsg (tAndV (tOp (rEqD K) (tVar 4) (tVar 8)) (tOp (rEqE K) (tVar 5) (tVar 9))) (gName 7))
  (tSeq (tIfS (tOr (tNot (tB (tCl (sp__law_truth K) (WE0 E) (tCons (tOp (rEqG (He.ga K "Group") (sp_Group___eq__ K)) (tVar 3) (tVar 6)) (tCons (tVar 7) tNil))))) (tNot (tB (tCl (sp__law_truth K) (WE0 E) (tCons (tOp (rEqG (He.ga K "Group") (sp_Group___eq__ K)) (tVar 6) (tVar 3)) (tCons (tVar 7) tNil)))))) (tRet (tC (.bl false))) tNext)
  (tRet (tAndV (tCl (sp__law_truth K) (WE0 E) (tCons (tOp (rNeG (He.ga K "Group") (sp_Group___eq__ K)) (tVar 3) (tVar 6)) (tCons (tNotV (tVar 7)) tNil))) (tCl (sp__law_truth K) (WE0 E) (tCons (tOp (rEqG (He.ga K "Group") (sp_Group___eq__ K)) (tVar 3) (tVar 3)) (tCons (tC (.bl true)) tNil)))))))))))))))
theorem pure_law {K : PySem.W.Frag} (gk : GK K) {vs : List V} {H : Hp} {Q : VK} {E : XK} (h : spLaw K vs H Q E) : t_law K E { nx := fun _ H' => Q .non H', rt := Q } (start N_law vs) H := by
  obtain ⟨sc, ns, rfl, _, hS, k⟩ := h
  have hs := HS.start (Same.refl H)
  show t_law K E _ [some (.ref sc), none, none, none, none, none, none, none, none, none, none, none, none, none, none, none] H
  unfold t_law
  walk_at "sx"
  refine use_cell (j := 0) hs hS (fun B1 H1 p a1 b1 sb1 hs1 hv1 => ?_)
  walk_at "sx"
  refine use_take hs1 hv1 (by decide) (by decide) (fun B2 H2 a2 b2 ch sb2 hs2 hv2 hch => ?_)
  walk_at "s1"
  refine x_pre (s := 1) (i := 8) (j := 9) (m := 3) (top := 16) hs2 hv2 rfl (fun _ _ => rfl) (fun _ _ => rfl) (by decide) (fun B3 H3 a3 b3 n w g xs kvs done ws G sb3 hs3 hv3 pr _ => ?_)
  simp only [List.set_cons_zero, List.set_cons_succ]
  clear hs1 hs2 sb1 sb2 sb3 hv1 hv2
  have en := pr.en
  walk_at "sx"
  refine new_M hs3 (fun o H4 hs4 _ => ?_)
  walk_at "sx"
  refine use_copy hs4.rot3 pr.hw pr.nd (by have := pr.dl; omega) (fun B5 H5 c al sb5 hs5 hal => ?_)
  obtain ⟨f, rfl⟩ := fn_of hal pr.nd
  rw [zipK_map, lsM_map] at hs5
  obtain ⟨B6, hs6, sb6, ew⟩ := hs5.still0
  obtain ⟨B7, hs7, sb7, ec⟩ := HS.still0 hs6
  walk_at "sx"
  refine use_turned hs7 ec pr.nd (by have := pr.dl; omega) (fun B8 H8 T rs sb8 hs8' pe8 => ?_)
  have hs8 : HS [] H H B8 H8 ((p, stO a3 b3) :: (T, .dK (zipF rs f)) :: (o, .lst (xs.map V.str)) :: lsF rs f ws) := hs8'.perm (((lsF_perm (f := f) (ws := ws) pe8.symm).append_right _).cons _ |>.trans ((List.perm_append_comm (l₁ := lsF rs f ws) (l₂ := [(o, .lst (xs.map V.str)), (p, stO a3 b3)])).cons _ |>.trans (List.Perm.trans (List.Perm.cons _ (List.Perm.swap _ _ _)) (List.Perm.swap _ _ _))))
  clear hs8'
  have s38 : Same B3 B8 := ((sb5.trans sb6).trans sb7).trans sb8
  have pr8 := pr.mono s38
  have ew8 := sb8 _ _ (sb7 _ _ ew)
  have dr8 : Drawn xs rs ws := ⟨pr.dr.nd, pr.dr.ok, pe8.trans pr.dr.pe, pr.dr.row⟩
  have xl := pr.xl
  have ndr : rs.Nodup := dr8.pe.nodup_iff.mpr dr8.nd
  have hrl := dr8.pe.length_eq
  clear hs7 hs6 hs5 hs4 hs3 ew ec sb5 sb6 sb7 sb8 s38 en
  have en := pr8.en
  walk_at "s1"
  let I2 : L2.St → Hp → Prop := fun σ H' => ∃ B' xs1 done1 kvs1 ws1 s10 s11 s12 s13 s14, HS [] H H B' H' [] ∧ Same B8 B' ∧ B' o = some (.lst (xs1.map V.str)) ∧ B' T = some (.dK kvs1) ∧ WAt B' done1 kvs1 ws1 ∧ Drawn xs1 done1 ws1 ∧ xs1.length ≤ 16 ∧
    σ = [some (.ref sc), some (.ref p), some (.int (ch : Nat)), some (.ref g), some (.ref o), some (.ref T), none, none, some (.ref n), some (.ref w), s10, s11, s12, s13, s14, none]
  have close : ∀ (B' H' : Hp) a b xs1 ws1 s10 s11 s12 s13 s14, HS [] H H B' H' ((p, stO a b) :: (T, .dK (zipF rs f)) :: (o, .lst (xs1.map V.str)) :: lsF rs f ws1) → Same B8 B' → Drawn xs1 rs ws1 → xs1.Perm xs →
      I2 [some (.ref sc), some (.ref p), some (.int (ch : Nat)), some (.ref g), some (.ref o), some (.ref T), none, none, some (.ref n), some (.ref w), s10, s11, s12, s13, s14, none] H' := fun B' H' a b xs1 ws1 s10 s11 s12 s13 s14 hs' sb' dr' pe' => by
    obtain ⟨B2, h2, sb2, e2⟩ := hs'.stillA
    refine ⟨B2, xs1, rs, _, ws1, s10, s11, s12, s13, s14, h2, sb'.trans sb2, e2 _ (List.mem_cons_of_mem _ (List.mem_cons_of_mem _ List.mem_cons_self)), e2 _ (List.mem_cons_of_mem _ List.mem_cons_self), WAt.ofF fun q m => ?_, dr', by have := pe'.length_eq; omega, rfl⟩
    exact e2 (f q, _) (List.mem_cons_of_mem _ (List.mem_cons_of_mem _ (List.mem_cons_of_mem _ (List.mem_map.mpr ⟨q, m, rfl⟩))))
  refine x_join (I := I2) ?_ (fun R hR => ?_)
  case refine_2 =>
    walk_at "sx"
    refine x_trL (hs8.up en) ?_
    refine x_ite (fun hne => ?_) (fun hne => ?_)
    · have hpos : 0 < xs.length := by have := not_empty_lt hne; rwa [List.length_map] at this
      walk_at "sx"
      try (refine x_lenL (SqL.of (hs8.up en)) ?_; walk_at "sx")
      refine use_take hs8 hv3 (by rw [List.length_map]; omega) (by rw [List.length_map]; omega) (fun B9 H9 a9 b9 kk sb9 hs9 hv9 hkk => ?_)
      rw [List.length_map] at hkk
      have en9 := sb9 _ _ en
      walk_at "sx"
      try (refine x_lenL (SqL.of (hs9.up en9)) ?_; walk_at "sx")
      refine use_take hs9 hv9 (by rw [List.length_map]; omega) (by rw [List.length_map]; omega) (fun B10 H10 a10 b10 oo sb10 hs10 hv10 hoo => ?_)
      rw [List.length_map] at hoo
      have en10 := sb10 _ _ en9
      obtain ⟨xa, hxa⟩ : ∃ xa, xs[kk]? = some xa := ⟨_, List.getElem?_eq_getElem (by omega)⟩
      obtain ⟨xo, hxo⟩ : ∃ xo, xs[oo]? = some xo := ⟨_, List.getElem?_eq_getElem (by omega)⟩
      have mxa : xa ∈ rs := dr8.pe.mem_iff.mpr (List.mem_of_getElem? hxa)
      have mxo : xo ∈ xs := List.mem_of_getElem? hxo
      have hata := atI_str hxa
      have hato := atI_str hxo
      have s810 := sb9.trans sb10
      walk_at "s1"
      walk_at "s1"
      walk_at "s1"
      walk_at "s1"
      walk_at "s1"
      walk_at "s1"
      walk_at "s1"
      walk_at "s1"
      let I3 : L2.St → Hp → Prop := fun σ H' => ∃ B' a b xs1 ws1, HS [] H H B' H' ((p, stO a b) :: (T, .dK (zipF rs f)) :: (o, .lst (xs1.map V.str)) :: lsF rs f ws1) ∧ Same B10 B' ∧ VSt a b ∧ Drawn xs1 rs ws1 ∧ (ch ≠ 1 → xs1 = xs) ∧ xs1.Perm xs ∧
        σ = [some (.ref sc), some (.ref p), some (.int (ch : Nat)), some (.ref g), some (.ref o), some (.ref T), none, none, some (.ref n), some (.ref w), some (.int (kk : Nat)), some (.int (oo : Nat)), some (.str xa), none, none, none]
      refine x_join (I := I3) ?_ (fun R1 hR1 => ?_)
      case refine_2 =>
        walk_at "sx"
        refine x_ite (fun hc => ?_) (fun hc => ?_)
        · walk_at "sx"
          have hs11 := hs10.rot3
          refine x_setL (j := kk) hs11 (ixN_nat (by rw [List.length_map]; omega)) (fun H11 hs12 => ?_)
          walk_at "sx"
          refine x_setL (j := oo) hs12 (ixN_nat (by rw [List.length_set, List.length_map]; omega)) (fun H12 hs13 => ?_)
          have e : (((xs.map V.str).set kk (.str xo)).set oo (.str xa)) = ((xs.set kk xo).set oo xa).map V.str := by rw [← List.map_set, ← List.map_set]
          rw [e] at hs13
          have pe := set_swap hxa hxo
          exact hR1 _ _ ⟨B10, a10, b10, _, ws, hs13.unrot3, Same.refl _, hv10, dr8.permN pe, fun z => absurd (by have := of_decide_eq_true hc; injection this with this; omega) z, pe, rfl⟩
        · walk_at "sx"
          exact hR1 _ _ ⟨B10, a10, b10, xs, ws, hs10, Same.refl _, hv10, dr8, fun _ => rfl, List.Perm.refl _, rfl⟩
      rintro σ H11 ⟨B11, a11, b11, xs1, ws1, hs11, sb11, hv11, dr11, hx11, pe11, rfl⟩
      refine x_join (I := I3) ?_ (fun R1 hR1 => ?_)
      case refine_2 =>
        have stay : ∀ Hz, Hz = H11 → R1 [some (.ref sc), some (.ref p), some (.int (ch : Nat)), some (.ref g), some (.ref o), some (.ref T), none, none, some (.ref n), some (.ref w), some (.int (kk : Nat)), some (.int (oo : Nat)), some (.str xa), none, none, none] Hz := fun Hz e => by
          subst e
          exact hR1 _ _ ⟨B11, a11, b11, xs1, ws1, hs11, sb11, hv11, dr11, hx11, pe11, rfl⟩
        have hsp := hs11.pick mxa
        walk_at "sx"
        refine x_ite (fun hc => ?_) (fun hc => ?_)
        · walk_at "sx"
          refine x_dgS (hs11.get (List.mem_cons_of_mem _ List.mem_cons_self)) (zipF_val mxa) ?_
          refine x_trL (hsp.get (List.mem_cons_of_mem _ List.mem_cons_self)) ?_
          refine x_ite (fun hc2 => ?_) (fun hc2 => ?_)
          · have hlp := not_empty_lt hc2
            have hrow := dr11.row xa (dr11.pe.mem_iff.mp mxa)
            have hrl := hrow.len
            have hxl1 := pe11.length_eq
            rw [List.length_map] at hlp
            walk_at "sx"
            refine x_dgS (hs11.get (List.mem_cons_of_mem _ List.mem_cons_self)) (zipF_val mxa) ?_
            refine x_tyL (SqL.of (hsp.get (List.mem_cons_of_mem _ List.mem_cons_self))) ?_
            walk_at "sx"
            refine x_dgS (hs11.get (List.mem_cons_of_mem _ List.mem_cons_self)) (zipF_val mxa) ?_
            walk_at "sx"
            try (refine x_lenL (SqL.of (hsp.get (List.mem_cons_of_mem _ List.mem_cons_self))) ?_; walk_at "sx")
            refine use_take hsp hv11 (by rw [List.length_map]; omega) (by rw [List.length_map]; omega) (fun B12 H12 a12 b12 q sb12 hs12 hv12 hq => ?_)
            rw [List.length_map] at hq
            walk_at "sx"
            refine x_popAt (k := q) (y := .str ((ws1 xa)[q]'(by omega))) hs12.swap (by omega) (by omega) (seqIndex_nat (by rw [List.length_map]; omega)) (by rw [List.getElem?_map, List.getElem?_eq_getElem]; rfl) (fun H13 hs13 => ?_)
            rw [eraseIdx_mapS] at hs13
            walk_at "sx"
            exact hR1 _ _ ⟨B12, a12, b12, xs1, _, hs13.unpick mxa ndr, sb11.trans sb12, hv12, dr11.upd (rowOk_erase hrow), hx11, pe11, rfl⟩
          · walk_at "sx"
            exact stay _ rfl
        · walk_at "sx"
          exact stay _ rfl
      clear hs11 sb11 hv11 dr11 hx11 pe11
      rintro σ H11 ⟨B11, a11, b11, xs1, ws1, hs11, sb11, hv11, dr11, hx11, pe11, rfl⟩
      refine x_join (I := I3) ?_ (fun R1 hR1 => ?_)
      case refine_2 =>
        have stay : ∀ Hz, Hz = H11 → R1 [some (.ref sc), some (.ref p), some (.int (ch : Nat)), some (.ref g), some (.ref o), some (.ref T), none, none, some (.ref n), some (.ref w), some (.int (kk : Nat)), some (.int (oo : Nat)), some (.str xa), none, none, none] Hz := fun Hz e => by
          subst e
          exact hR1 _ _ ⟨B11, a11, b11, xs1, ws1, hs11, sb11, hv11, dr11, hx11, pe11, rfl⟩
        have hsp := hs11.pick mxa
        have en11 := sb11 _ _ en10
        walk_at "sx"
        refine x_ite (fun hc => ?_) (fun hc => ?_)
        · walk_at "sx"
          refine x_ite (fun hc2 => ?_) (fun hc2 => ?_)
          · walk_at "sx"
            refine x_dgS (hs11.get (List.mem_cons_of_mem _ List.mem_cons_self)) (zipF_val mxa) ?_
            refine x_ninLS (SqL.of (hsp.get (List.mem_cons_of_mem _ List.mem_cons_self))) ?_
            walk_at "sx"
            refine x_ite (fun hc3 => ?_) (fun hc3 => ?_)
            · have hrow := dr11.row xa (dr11.pe.mem_iff.mp mxa)
              have hrl := hrow.len
              have hxl1 := pe11.length_eq
              walk_at "sx"
              refine x_dgS (hs11.get (List.mem_cons_of_mem _ List.mem_cons_self)) (zipF_val mxa) ?_
              refine x_tyL (SqL.of (hsp.get (List.mem_cons_of_mem _ List.mem_cons_self))) ?_
              walk_at "sx"
              refine x_dgS (hs11.get (List.mem_cons_of_mem _ List.mem_cons_self)) (zipF_val mxa) ?_
              walk_at "sx"
              try (refine x_lenL (SqL.of (hsp.get (List.mem_cons_of_mem _ List.mem_cons_self))) ?_; walk_at "sx")
              refine use_take hsp hv11 (by rw [List.length_map]; omega) (by rw [List.length_map]; omega) (fun B12 H12 a12 b12 q sb12 hs12 hv12 hq => ?_)
              have en12 := sb12 _ _ en11
              walk_at "sx"
              refine x_insert hs12.swap (by rw [List.length_map]; omega) (by omega) (fun H13 hs13 => ?_)
              have e : ((ws1 xa).map V.str).take q ++ [V.str xo] ++ ((ws1 xa).map V.str).drop q = ((ws1 xa).take q ++ [xo] ++ (ws1 xa).drop q).map V.str := by simp
              rw [e] at hs13
              walk_at "sx"
              refine hR1 _ _ ⟨B12, a12, b12, xs1, _, hs13.unpick mxa ndr, sb11.trans sb12, hv12, dr11.upd (rowOk_ins hrow ?_ (pe11.mem_iff.mpr mxo) (by simpa using hc3)), hx11, pe11, rfl⟩
              simpa using hc2
            · walk_at "sx"
              exact stay _ rfl
          · walk_at "sx"
            exact stay _ rfl
        · walk_at "sx"
          exact stay _ rfl
      clear hs11 sb11 hv11 dr11 hx11 pe11
      rintro σ H11 ⟨B11, a11, b11, xs1, ws1, hs11, sb11, hv11, dr11, hx11, pe11, rfl⟩
      refine x_join (I := I3) ?_ (fun R1 hR1 => ?_)
      case refine_2 =>
        have hsp := hs11.pick mxa
        walk_at "sx"
        refine x_ite (fun hc => ?_) (fun hc => ?_)
        · walk_at "sx"
          refine x_dgS (hs11.get (List.mem_cons_of_mem _ List.mem_cons_self)) (zipF_val mxa) ?_
          refine x_tyL (SqL.of (hsp.get (List.mem_cons_of_mem _ List.mem_cons_self))) ?_
          refine x_reverse hsp.swap (fun H13 hs13 => ?_)
          rw [map_strs_rev] at hs13
          exact hR1 _ _ ⟨B11, a11, b11, xs1, _, hs13.unpick mxa ndr, sb11, hv11, dr11.upd ((dr11.row xa (dr11.pe.mem_iff.mp mxa)).perm (List.reverse_perm _)), hx11, pe11, rfl⟩
        · walk_at "sx"
          exact hR1 _ _ ⟨B11, a11, b11, xs1, ws1, hs11, sb11, hv11, dr11, hx11, pe11, rfl⟩
      clear hs11 sb11 hv11 dr11 hx11 pe11
      rintro σ H11 ⟨B11, a11, b11, xs1, ws1, hs11, sb11, hv11, dr11, hx11, pe11, rfl⟩
      walk_at "sx"
      refine x_ite (fun hc => ?_) (fun hc => ?_)
      · have hch5 : ch = 5 := by have := of_decide_eq_true hc; injection this with this; omega
        have exx : xs1 = xs := hx11 (by omega)
        subst exx
        have en11 := sb11 _ _ en10
        walk_at "sx"
        refine use_name hs11 hv11 (hs11.up en11) (by omega) (fun B12 H12 a12 b12 nm sb12 hs12 hv12 okn nin => ?_) (fun e => by
          have h1 := (hs11.mu _ List.mem_cons_self).1
          dsimp only at h1
          rw [← e, en11] at h1
          cases h1)
        walk_at "sx"
        refine x_setL (j := kk) hs12.rot3 (ixN_nat (by rw [List.length_map]; omega)) (fun H13 hs13 => ?_)
        rw [← List.map_set] at hs13
        have mrs : nm ∉ rs := fun z => nin (dr11.pe.mem_iff.mp z)
        walk_at "sx"
        refine x_dpop (fun Qv q => ⟨_, rfl, q⟩) (fun Qv q => ⟨_, rfl, q⟩) hs13.rot3 (zipF_val mxa) (fun H14 hs14 => ?_)
        rw [zipF_drop ndr] at hs14
        walk_at "sx"
        refine x_dput hs14 (by unfold zipF; rw [List.length_map]; have := List.length_erase_of_mem mxa; omega) (fun H15 hs15 => ?_)
        have nde : nm ∉ rs.erase xa := fun z => mrs (List.mem_of_mem_erase z)
        have ndk : (rs.erase xa ++ [nm]).Nodup := List.nodup_append.mpr ⟨ndr.sublist (List.erase_sublist), List.nodup_cons.mpr ⟨by simp, List.nodup_nil⟩, fun a ma b mb e => nde (by rw [List.mem_singleton.mp mb] at e; exact e ▸ ma)⟩
        have ek : putK (zipF (rs.erase xa) f) (.inr nm) (.ref (f xa)) = zipF (rs.erase xa ++ [nm]) (updW f nm (f xa)) := by
          rw [putK_new (zipF_none nde)]
          have e1 : zipF (rs.erase xa) f = zipF (rs.erase xa) (updW f nm (f xa)) := zipF_congr fun p m => (updW_ne (fun (z : p = nm) => nde (z ▸ m))).symm
          rw [e1]
          unfold zipF
          rw [List.map_append]
          simp [updW_eq]
        rw [ek] at hs15
        have pek : (rs.erase xa ++ [nm]).Perm (xs1.set kk nm) := (List.perm_append_comm).trans ((List.Perm.cons nm (dr11.pe.erase xa)).trans (set_perm hxa).symm)
        have ndo : (xs1.set kk nm).Nodup := pek.nodup_iff.mp ndk
        obtain ⟨B13, hs16, sb13, e13⟩ := HS.stillL (N := (o, .lst ((xs1.set kk nm).map V.str)) :: (p, stO a12 b12) :: lsF rs f ws1) (M := [(T, .dK (zipF (rs.erase xa ++ [nm]) (updW f nm (f xa))))]) (hs15.perm (by
          refine (List.perm_append_comm (l₁ := [_]) (l₂ := _)).trans ?_
          exact List.Perm.refl _))
        have eo13 := e13 _ List.mem_cons_self
        have eL13 : ∀ q ∈ rs, B13 (f q) = some (.lst ((ws1 q).map V.str)) := fun q m => e13 (f q, _) (List.mem_cons_of_mem _ (List.mem_cons_of_mem _ (List.mem_map.mpr ⟨q, m, rfl⟩)))
        walk_at "sx"
        refine ⟨o, rfl, ⟨_, SqL.of (hs16.up eo13)⟩, ?_⟩
        let un : Str → Str := fun q => if q = nm then xa else q
        have hun : ∀ q ∈ rs.erase xa ++ [nm], un q ∈ xs1 ∧ q = ren xa nm (un q) := fun q m => by
          show (if q = nm then xa else q) ∈ xs1 ∧ q = ren xa nm (if q = nm then xa else q)
          by_cases e : q = nm
          · rw [if_pos e]
            exact ⟨dr11.pe.mem_iff.mp mxa, by unfold ren; rw [if_pos rfl]; exact e⟩
          · rw [if_neg e]
            have m2 : q ∈ rs.erase xa := by
              rcases List.mem_append.mp m with z | z
              · exact z
              · exact absurd (List.mem_singleton.mp z) e
            refine ⟨dr11.pe.mem_iff.mp (List.mem_of_mem_erase m2), ?_⟩
            unfold ren
            rw [if_neg]
            intro z
            subst z
            exact List.Nodup.not_mem_erase ndr m2
        refine l_list (α := (Str → Addr) × (Str → List Str) × Option V) (σf := fun s => [some (.ref sc), some (.ref p), some (.int (ch : Nat)), some (.ref g), some (.ref o), some (.ref T), none, none, some (.ref n), some (.ref w), some (.int (kk : Nat)), some (.int (oo : Nat)), some (.str xa), some (.str nm), s.2.2, none])
          (Mf := fun s => [(T, .dK (zipF (rs.erase xa ++ [nm]) s.1))]) (P := fun i s B1 => ∀ q ∈ rs.erase xa ++ [nm], B1 (s.1 q) = some (.lst ((s.2.1 q).map V.str)) ∧ (if q ∈ (xs1.set kk nm).take i then RowOk (xs1.set kk nm) q (s.2.1 q) else RowOk xs1 (un q) (s.2.1 q)))
          (s0 := (updW f nm (f xa), fun q => ws1 (un q), none)) hs16 eo13 (fun q m => ?_) (fun i x s B14 H14 hx sb14 hs17 pp => ?_) (fun s B14 H14 sb14 hs17 pp => ?_)
        · rw [List.take_zero, if_neg (by simp)]
          refine ⟨?_, dr11.row _ (hun q m).1⟩
          show B13 (updW f nm (f xa) q) = some (.lst ((ws1 (if q = nm then xa else q)).map V.str))
          by_cases e : q = nm
          · rw [if_pos e, e, updW_eq]
            exact eL13 xa mxa
          · rw [if_neg e, updW_ne e]
            have m2 : q ∈ rs.erase xa := by
              rcases List.mem_append.mp m with z | z
              · exact z
              · exact absurd (List.mem_singleton.mp z) e
            exact eL13 q (List.mem_of_mem_erase m2)
        · obtain ⟨fi, gi, s14⟩ := s
          dsimp only at pp hs17 ⊢
          obtain ⟨b, hb, rfl⟩ := strs_get hx
          have mb : b ∈ rs.erase xa ++ [nm] := pek.mem_iff.mpr (List.mem_of_getElem? hb)
          obtain ⟨pb1, pb2⟩ := pp b mb
          rw [if_neg (notin_take ndo hb)] at pb2
          have hgl := pb2.len
          walk_at "sx"
          refine x_dgS (hs17.get List.mem_cons_self) (zipF_val mb) ?_
          refine ⟨_, rfl, ⟨_, SqL.of (hs17.up pb1)⟩, fun D hD => ?_⟩
          refine c_list (α := Unit) (Mf := fun _ => [(T, .dK (zipF (rs.erase xa ++ [nm]) fi))]) (P := fun j _ acc _ => acc = (((gi b).take j).map (ren xa nm)).map V.str) (s0 := ()) hs17 hD pb1 rfl (fun j y _ acc B15 H15 hj hacc sb15 hs18 pp2 => ?_) (fun _ acc B15 H15 sb15 hs18 hacc pp2 => ?_)
          · obtain ⟨cc, hcc, rfl⟩ := strs_get hj
            have hjl := (List.getElem?_eq_some_iff.mp hcc).1
            walk_at "sx"
            refine ⟨rfl, ?_⟩
            walk_at "sx"
            refine x_ite (fun h => ?_) (fun h => ?_)
            · have h := of_decide_eq_true h
              injection h with h
              walk_at "sx"
              refine c_keep (s := ()) sb15 hs18 hacc (by omega) ?_
              rw [take_snoc hcc, pp2]
              simp [ren, h]
            · have h := of_decide_eq_false h
              have h : ¬ cc = xa := fun z => h (by rw [z])
              walk_at "sx"
              refine c_keep (s := ()) sb15 hs18 hacc (by omega) ?_
              rw [take_snoc hcc, pp2]
              simp [ren, h]
          · rw [List.length_map, List.take_length] at pp2
            subst pp2
            obtain ⟨B16, hs19, sb16, eD⟩ := hs18.still0
            walk_at "sx"
            refine x_dput hs19 (by unfold zipF; rw [List.length_map]; have := pek.length_eq; rw [List.length_set] at this; omega) (fun H17 hs20 => ?_)
            rw [zipF_over ndk mb] at hs20
            refine ⟨(updW fi b D, updW gi b ((gi b).map (ren xa nm)), some _), B16, rfl, (sb14.trans sb15).trans sb16, hs20, fun q m => ?_⟩
            dsimp only
            by_cases e : q = b
            · subst e
              rw [updW_eq, updW_eq, if_pos (by rw [take_snoc hb]; simp)]
              exact ⟨eD, rowOk_ren pb2 hxa nin dr11.nd (hun q m).1 (hun q m).2⟩
            · rw [updW_ne e, updW_ne e]
              obtain ⟨q1, q2⟩ := pp q m
              refine ⟨sb16 _ _ (sb15 _ _ q1), ?_⟩
              have hm : q ∈ (xs1.set kk nm).take (i + 1) ↔ q ∈ (xs1.set kk nm).take i := by
                rw [take_snoc hb]
                simp [e]
              by_cases hq : q ∈ (xs1.set kk nm).take i
              · rw [if_pos (hm.mpr hq)]
                rw [if_pos hq] at q2
                exact q2
              · rw [if_neg fun z => hq (hm.mp z)]
                rw [if_neg hq] at q2
                exact q2
        · obtain ⟨fi, gi, s14⟩ := s
          dsimp only at pp hs17 ⊢
          rw [List.length_map, List.take_length] at pp
          obtain ⟨B15, hs18, sb15, eT⟩ := hs17.still0
          walk_at "sx"
          refine hR _ _ ⟨B15, xs1.set kk nm, rs.erase xa ++ [nm], _, gi, _, _, _, _, _, hs18, (((((s810.trans sb11).trans sb12).trans sb13).trans sb14).trans sb15), sb15 _ _ (sb14 _ _ eo13), eT, WAt.ofF fun q m => sb15 _ _ (pp q m).1, ⟨ndo, fun x m => ?_, pek, fun q m => ?_⟩, by rw [List.length_set]; omega, rfl⟩
          · rcases List.mem_cons.mp ((set_perm hxa).mem_iff.mp m) with z | z
            · rw [z]; exact okn
            · exact dr11.ok x (List.mem_of_mem_erase z)
          · have := (pp q (pek.mem_iff.mpr m)).2
            rw [if_pos m] at this
            exact this
      · walk_at "sx"
        exact hR _ _ (close _ _ _ _ _ _ _ _ _ _ _ hs11 (s810.trans sb11) dr11 pe11)
    · walk_at "sx"
      exact hR _ _ (close _ _ _ _ _ _ _ _ _ _ _ hs8 (Same.refl _) dr8 (List.Perm.refl _))
  rintro σ H9 ⟨B9, xs1, done1, kvs1, ws1, s10, s11, s12, s13, s14, hs9, sb9, eo, eT, hw9, dr9, xl9, rfl⟩
  clear hs8 close
  have pr9 := pr8.mono sb9
  have ew9 := sb9 _ _ ew8
  have ndd := pr.nd
  walk_at "sx"
  refine x_tupL (SqL.of (hs9.up eo)) ?_
  refine new_F hs9 (fun tp B10 H10 hs10 sb10 etp _ => ?_)
  walk_at "sx"
  obtain ⟨G2, hG2, hn2, hw2⟩ := drawn_group dr9 xl9
  refine use_Group hs10 (rep_names etp dr9.ok) (.dct (sb10 _ _ eT) ((hw9.mono sb10).repK (ret_lenW dr9 xl9))) (fun G' hG' B11 H11 t sb11 hs11 gat2 => ?_) (fun i hi => by rw [hG2] at hi; cases hi) (fun i hi => by rw [hG2] at hi; cases hi)
  rw [hG2] at hG'
  cases hG'
  have s911 := sb10.trans sb11
  have pr11 := pr9.mono s911
  have ew11 := s911 _ _ ew9
  have eo11 := s911 _ _ eo
  have eT11 := s911 _ _ eT
  have hw11 := hw9.mono s911
  have hGs := same_eq pr.gn pr.gw hn2 hw2 pr.dr.pe dr9.pe
  walk_at "s1"
  let I4 : L2.St → Hp → Prop := fun σ H' => H' = H11 ∧ σ = [some (.ref sc), some (.ref p), some (.int (ch : Nat)), some (.ref g), some (.ref o), some (.ref T), some (.ref t), some (.bl (G.eq G2)), some (.ref n), some (.ref w), s10, s11, s12, s13, s14, none]
  refine x_join (I := I4) ?_ (fun R hR => ?_)
  case refine_2 =>
    walk_at "sx"
    refine ⟨_, _, .lst (SqL.of (hs11.up eo11)) (dp_strs _), .lst (SqL.of (hs11.up pr11.en)) (dp_strs _), shaped_strs fun x mx => okName_strOk (dr9.ok x mx), shaped_strs fun x mx => okName_strOk (pr.dr.ok x mx), ?_⟩
    refine x_exb ?_
    simp only [PyData.eqv, eqv_strs]
    refine x_ite (fun e => ?_) (fun e => ?_)
    · have e := of_decide_eq_true e
      obtain ⟨al, hal', ek, hL⟩ := pr11.hw
      obtain ⟨al1, hal1, ek1, hL1⟩ := hw11
      walk_at "sx"
      refine ⟨2, _, by decide, eqw_dict hal1 hal' ndd (by rw [← ek1]; exact hs11.up eT11) (by rw [← ek]; exact hs11.up ew11) (fun j p a e1 e2 => hs11.up (hL1 j p a e1 e2)) (fun j p a e1 e2 => hs11.up (hL j p a e1 e2)), ?_⟩
      rw [hGs e]
      walk_at "sx"
      exact hR _ _ ⟨rfl, rfl⟩
    · have e := of_decide_eq_false e
      have : G.eq G2 = false := Grp.ne_names (by rw [pr.gn, hn2]; exact fun z => e z.symm)
      walk_at "sx"
      exact hR _ _ ⟨rfl, by rw [this]⟩
  rintro σ H12 ⟨rfl, rfl⟩
  have g11 := pr11.gat
  walk_at "sx"
  refine use_eq hs11 g11 gat2 (fun B12 H12 sb12 hs12 => ?_)
  walk_at "sx"
  refine ⟨_, _, rfl, ?_⟩
  rw [beq_self_eq_true]
  walk_at "sx"
  refine x_ff _ _ ?_
  walk_at "sx"
  refine use_eq hs12 (gat2.mono sb12) (g11.mono sb12) (fun B13 H13 sb13 hs13 => ?_)
  walk_at "sx"
  refine ⟨_, _, rfl, ?_⟩
  rw [Grp.eq_comm G G2, beq_self_eq_true]
  walk_at "sx"
  refine x_ff _ _ ?_
  walk_at "sx"
  refine use_ne hs13 ((g11.mono sb12).mono sb13) ((gat2.mono sb12).mono sb13) (fun B14 H14 sb14 hs14 => ?_)
  walk_at "sx"
  refine ⟨_, _, rfl, ?_⟩
  rw [beq_self_eq_true]
  walk_at "sx"
  refine use_eq hs14 (((g11.mono sb12).mono sb13).mono sb14) (((g11.mono sb12).mono sb13).mono sb14) (fun B15 H15 sb15 hs15 => ?_)
  walk_at "sx"
  refine ⟨_, _, rfl, ?_⟩
  rw [Grp.eq_self]
  exact k _
end Q

set_option Elab.async false
set_option linter.all false
set_option maxRecDepth 100000
set_option maxHeartbeats 0
/-! ### each def keeps its promise; the head -/
namespace Hd
open PySem PySem.Spec PyProof.Rows L2 Q
def top (i : Nat) : Stmt := PySem.Challenge.pw_quietpairs_k06_equal_groups.main.body.getD i (.Pass ⟨0, 0, 0, 0⟩)
structure Top (K : PySem.W.Frag) (mg : Str → Option Value) : Prop where
  f_abs : mg "abs" = none
  f_bool : mg "bool" = none
  f_dict : mg "dict" = none
  f_enumerate : mg "enumerate" = none
  f_int : mg "int" = none
  f_isinstance : mg "isinstance" = none
  f_len : mg "len" = none
  f_list : mg "list" = none
  f_min : mg "min" = none
  f_range : mg "range" = none
  f_reversed : mg "reversed" = none
  f_sorted : mg "sorted" = none
  f_str : mg "str" = none
  f_tuple : mg "tuple" = none
  k_LETTERS : ∃ t, mg "LETTERS" = some (.str "abcdefghijklmnopqrstuvwxyz" t)
  k_MOST_PEOPLE : ∃ t, mg "MOST_PEOPLE" = some (.int 16 t)
  g_BadPeople : mg "BadPeople" = some (.ref (He.ga K "BadPeople"))
  g_BadWishes : mg "BadWishes" = some (.ref (He.ga K "BadWishes"))
  g_Group : mg "Group" = some (.ref (He.ga K "Group"))
  g_QuietError : mg "QuietError" = some (.ref (He.ga K "QuietError"))
  g__law_cell : mg "_law_cell" = some (.ref (He.ga K "_law_cell"))
  g__law_copy : mg "_law_copy" = some (.ref (He.ga K "_law_copy"))
  g__law_take : mg "_law_take" = some (.ref (He.ga K "_law_take"))
  g__law_name : mg "_law_name" = some (.ref (He.ga K "_law_name"))
  g__law_names : mg "_law_names" = some (.ref (He.ga K "_law_names"))
  g__law_mixed : mg "_law_mixed" = some (.ref (He.ga K "_law_mixed"))
  g__law_others : mg "_law_others" = some (.ref (He.ga K "_law_others"))
  g__law_block_wishes : mg "_law_block_wishes" = some (.ref (He.ga K "_law_block_wishes"))
  g__law_plain_wishes : mg "_law_plain_wishes" = some (.ref (He.ga K "_law_plain_wishes"))
  g__law_side_wishes : mg "_law_side_wishes" = some (.ref (He.ga K "_law_side_wishes"))
  g__law_wishes : mg "_law_wishes" = some (.ref (He.ga K "_law_wishes"))
  g__law_group : mg "_law_group" = some (.ref (He.ga K "_law_group"))
  g__law_truth : mg "_law_truth" = some (.ref (He.ga K "_law_truth"))
  g__law_turned : mg "_law_turned" = some (.ref (He.ga K "_law_turned"))
  g_is_name : mg "is_name" = some (.ref (He.ga K "is_name"))
  g_check_people : mg "check_people" = some (.ref (He.ga K "check_people"))
  g_fits_wishes : mg "fits_wishes" = some (.ref (He.ga K "fits_wishes"))
  g_same_keys : mg "same_keys" = some (.ref (He.ga K "same_keys"))
  g_check_wishes : mg "check_wishes" = some (.ref (He.ga K "check_wishes"))
  g_law : mg "law" = some (.ref (He.ga K "law"))
  qi : qInitB K "QuietError" = true
  na_BadPeople_index : PySem.W.findIn K (.ref (He.ga K "BadPeople")) "index" = some none
  na_BadWishes_person : PySem.W.findIn K (.ref (He.ga K "BadWishes")) "person" = some none
  ox_BadPeople : OexC K (He.ga K "BadPeople")
  mi_BadPeople : Meth K (He.ga K "BadPeople") "__init__" (He.ma K (He.ga K "BadPeople") "__init__")
  ti_BadPeople : PySem.W.typeIn K (.ref (He.ma K (He.ga K "BadPeople") "__init__")) = some (.type "function")
  ox_BadWishes : OexC K (He.ga K "BadWishes")
  mi_BadWishes : Meth K (He.ga K "BadWishes") "__init__" (He.ma K (He.ga K "BadWishes") "__init__")
  ti_BadWishes : PySem.W.typeIn K (.ref (He.ma K (He.ga K "BadWishes") "__init__")) = some (.type "function")
  me_Group___eq__ : Meth K (He.ga K "Group") "__eq__" (He.ma K (He.ga K "Group") "__eq__")
  mk_Group : Mk K (He.ga K "Group") (He.ma K (He.ga K "Group") "__init__")
  gk : GK K
  ne_Group : PySem.W.findIn K (.ref (He.ga K "Group")) "__ne__" = some (some (.builtin "object.__ne__"))
  gi : GIs K
section
variable {P : Program} {w : World} {K : PySem.W.Frag} {mg : Str → Option Value} {base : Heap} {f : Addr} {fd : FuncData}
abbrev s__law_cell : Stmt := top 16
abbrev n__law_cell : List Str := ["_law_script", "_law_k", "_law_number", "_law_seed"]
theorem sc__law_cell : FnScope n__law_cell ["_law_script", "_law_k"] (defScope s__law_cell) := ⟨rfl, rfl, rfl, by decide +kernel, rfl, by decide +kernel, by decide +kernel⟩
theorem ok__law_cell (T : Top K mg)  (F : FunD K "_law_cell" "_law_cell" (defArgs s__law_cell) (defBody s__law_cell) (defScope s__law_cell) [] [] f fd) : FnOk P w K mg base (L2.CX P w) 1 f fd ["_law_script", "_law_k"] (sp__law_cell K) := by
  have sc := sc__law_cell
  refine F.ok sc (fun vs H Q E h => ?_) (fun cdv A outer s H vs Q E hr h => ⟨t__law_cell K E, ?_, pure__law_cell h⟩)
  · first | (obtain ⟨rfl, _⟩ := h; rfl) | (obtain ⟨_, rfl, _⟩ := h; rfl) | (obtain ⟨_, _, rfl, _⟩ := h; rfl) | (obtain ⟨_, _, _, rfl, _⟩ := h; rfl) | (obtain ⟨_, _, _, _, rfl, _⟩ := h; rfl) | (obtain ⟨_, _, _, _, _, rfl, _⟩ := h; rfl) | (obtain ⟨_, _, _, _, _, _, rfl, _⟩ := h; rfl) | (obtain ⟨_, _, _, _, _, _, _, rfl, _⟩ := h; rfl) | (obtain ⟨_, _, _, _, _, _, _, _, rfl, _⟩ := h; rfl) | (obtain ⟨_, _, _, _, _, _, _, _, _, rfl, _⟩ := h; rfl) | (obtain ⟨_, _, _, _, _, _, _, _, _, _, rfl, _⟩ := h; rfl) | (obtain ⟨_, _, _, _, _, _, _, _, _, _, _, rfl, _⟩ := h; rfl)
  · have tk : Takes (cxOf (L2.CX P w) P w K mg base n__law_cell "_law_cell" (defScope s__law_cell) f cdv A outer s H E) (WE0 E) := takes_of rfl rfl rfl rfl
    have po : PassesOwn (model P w) (cxOf (L2.CX P w) P w K mg base n__law_cell "_law_cell" (defScope s__law_cell) f cdv A outer s H E).A (cxOf (L2.CX P w) P w K mg base n__law_cell "_law_cell" (defScope s__law_cell) f cdv A outer s H E).env (cxOf (L2.CX P w) P w K mg base n__law_cell "_law_cell" (defScope s__law_cell) f cdv A outer s H E).xe := passes_of rfl
    exact (pss_cons (ps_set (i := 2) sc.nd rfl (by first | exact Or.inl rfl | exact Or.inr rfl) pe_int)
      (pss_cons (ps_if (pt_cmpR oLtI (pv 1) (pe_callB cLenA (by rfl) T.f_len PySem.boot_len (pa_cons (pv 0) pa_nil)) (nomark _)) (pss_one (ps_set (i := 2) sc.nd rfl (by first | exact Or.inl rfl | exact Or.inr rfl) (pe_callB cAbs (by rfl) T.f_abs (by decide +kernel) (pa_cons (pe_ix ix_list (pv 0) (pv 1) (fun _ _ => rfl)) pa_nil)))) pss_nil)
      (pss_cons (ps_set (i := 3) sc.nd rfl (by first | exact Or.inl rfl | exact Or.inr rfl) (pe_op oModI (pe_callTy cInt1 (by rfl) T.f_int (by decide +kernel) (pa_cons (pe_op oAddI (pe_op oAddI (pe_op oAddI (pv 2) (pe_op oMulI pe_int (pv 1))) (pe_op oMulI pe_int (pe_callB (cMin2 rfl) (by rfl) T.f_min (by decide +kernel) (pa_cons (pe_callB cLenA (by rfl) T.f_len PySem.boot_len (pa_cons (pv 0) pa_nil)) (pa_cons pe_int pa_nil))))) pe_int) pa_nil)) pe_int))
      (pss_cons (ps_set (i := 3) sc.nd rfl (by first | exact Or.inl rfl | exact Or.inr rfl) (pe_op oModI (pe_callTy cInt1 (by rfl) T.f_int (by decide +kernel) (pa_cons (pe_op oAddI (pe_op oAddI (pe_op oMulI (pe_op oMulI (pv 3) (pv 3)) (pv 3)) (pe_op oMulI pe_int (pv 3))) pe_int) pa_nil)) pe_int))
      (pss_cons (ps_if (pt_cmpR oLtI (pv 2) (pe_op oPowI pe_int pe_int) (nomark _)) (pss_one (ps_ret (pe_lst (pa_cons pe_int (pa_cons (pv 3) pa_nil))))) pss_nil)
      (pss_one (ps_ret (pe_lst (pa_cons (pv 2) (pa_cons (pv 3) pa_nil))))))))))
abbrev s__law_copy : Stmt := top 27
abbrev n__law_copy : List Str := ["_law_wishes_here", "_law_copy_here", "_law_a"]
theorem sc__law_copy : FnScope n__law_copy ["_law_wishes_here"] (defScope s__law_copy) := ⟨rfl, rfl, rfl, by decide +kernel, rfl, by decide +kernel, by decide +kernel⟩
theorem ok__law_copy (T : Top K mg)  (F : FunD K "_law_copy" "_law_copy" (defArgs s__law_copy) (defBody s__law_copy) (defScope s__law_copy) [] [] f fd) : FnOk P w K mg base (L2.CX P w) 1 f fd ["_law_wishes_here"] (sp__law_copy K) := by
  have sc := sc__law_copy
  refine F.ok sc (fun vs H Q E h => ?_) (fun cdv A outer s H vs Q E hr h => ⟨t__law_copy K E, ?_, pure__law_copy h⟩)
  · first | (obtain ⟨rfl, _⟩ := h; rfl) | (obtain ⟨_, rfl, _⟩ := h; rfl) | (obtain ⟨_, _, rfl, _⟩ := h; rfl) | (obtain ⟨_, _, _, rfl, _⟩ := h; rfl) | (obtain ⟨_, _, _, _, rfl, _⟩ := h; rfl) | (obtain ⟨_, _, _, _, _, rfl, _⟩ := h; rfl) | (obtain ⟨_, _, _, _, _, _, rfl, _⟩ := h; rfl) | (obtain ⟨_, _, _, _, _, _, _, rfl, _⟩ := h; rfl) | (obtain ⟨_, _, _, _, _, _, _, _, rfl, _⟩ := h; rfl) | (obtain ⟨_, _, _, _, _, _, _, _, _, rfl, _⟩ := h; rfl) | (obtain ⟨_, _, _, _, _, _, _, _, _, _, rfl, _⟩ := h; rfl) | (obtain ⟨_, _, _, _, _, _, _, _, _, _, _, rfl, _⟩ := h; rfl)
  · have tk : Takes (cxOf (L2.CX P w) P w K mg base n__law_copy "_law_copy" (defScope s__law_copy) f cdv A outer s H E) (WE0 E) := takes_of rfl rfl rfl rfl
    have po : PassesOwn (model P w) (cxOf (L2.CX P w) P w K mg base n__law_copy "_law_copy" (defScope s__law_copy) f cdv A outer s H E).A (cxOf (L2.CX P w) P w K mg base n__law_copy "_law_copy" (defScope s__law_copy) f cdv A outer s H E).env (cxOf (L2.CX P w) P w K mg base n__law_copy "_law_copy" (defScope s__law_copy) f cdv A outer s H E).xe := passes_of rfl
    exact (pss_cons (ps_set (i := 1) sc.nd rfl (by first | exact Or.inl rfl | exact Or.inr rfl) pe_dnewK)
      (pss_cons (ps_lock (ps_for po rfl (pi_keys (pv 0)) (pg_name (i := 2) sc.nd rfl (by first | exact Or.inl rfl | exact Or.inr rfl)) (pss_one (ps_dput (hu_of hr) (pv 1) (pv 2) (pe_callTy cListOf (by rfl) T.f_list (by decide +kernel) (pa_cons (pe_dget (hu_of hr) (pv 0) (pv 2) (fun _ _ => rfl)) pa_nil)) rfl))))
      (pss_one (ps_ret (pv 1)))))
abbrev s__law_take : Stmt := top 17
abbrev n__law_take : List Str := ["_law_state", "_law_many", "_law_mixed_here", "_law_digit"]
theorem sc__law_take : FnScope n__law_take ["_law_state", "_law_many"] (defScope s__law_take) := ⟨rfl, rfl, rfl, by decide +kernel, rfl, by decide +kernel, by decide +kernel⟩
theorem ok__law_take (T : Top K mg)  (F : FunD K "_law_take" "_law_take" (defArgs s__law_take) (defBody s__law_take) (defScope s__law_take) [] [] f fd) : FnOk P w K mg base (L2.CX P w) 1 f fd ["_law_state", "_law_many"] (sp__law_take K) := by
  have sc := sc__law_take
  refine F.ok sc (fun vs H Q E h => ?_) (fun cdv A outer s H vs Q E hr h => ⟨t__law_take K E, ?_, pure__law_take h⟩)
  · first | (obtain ⟨rfl, _⟩ := h; rfl) | (obtain ⟨_, rfl, _⟩ := h; rfl) | (obtain ⟨_, _, rfl, _⟩ := h; rfl) | (obtain ⟨_, _, _, rfl, _⟩ := h; rfl) | (obtain ⟨_, _, _, _, rfl, _⟩ := h; rfl) | (obtain ⟨_, _, _, _, _, rfl, _⟩ := h; rfl) | (obtain ⟨_, _, _, _, _, _, rfl, _⟩ := h; rfl) | (obtain ⟨_, _, _, _, _, _, _, rfl, _⟩ := h; rfl) | (obtain ⟨_, _, _, _, _, _, _, _, rfl, _⟩ := h; rfl) | (obtain ⟨_, _, _, _, _, _, _, _, _, rfl, _⟩ := h; rfl) | (obtain ⟨_, _, _, _, _, _, _, _, _, _, rfl, _⟩ := h; rfl) | (obtain ⟨_, _, _, _, _, _, _, _, _, _, _, rfl, _⟩ := h; rfl)
  · have tk : Takes (cxOf (L2.CX P w) P w K mg base n__law_take "_law_take" (defScope s__law_take) f cdv A outer s H E) (WE0 E) := takes_of rfl rfl rfl rfl
    have po : PassesOwn (model P w) (cxOf (L2.CX P w) P w K mg base n__law_take "_law_take" (defScope s__law_take) f cdv A outer s H E).A (cxOf (L2.CX P w) P w K mg base n__law_take "_law_take" (defScope s__law_take) f cdv A outer s H E).env (cxOf (L2.CX P w) P w K mg base n__law_take "_law_take" (defScope s__law_take) f cdv A outer s H E).xe := passes_of rfl
    exact (pss_cons (ps_if (pt_cmpR oGtI (pe_ix ix_list (pv 0) pe_int (fun _ _ => rfl)) pe_int (nomark _)) (pss_cons (ps_set (i := 3) sc.nd rfl (by first | exact Or.inl rfl | exact Or.inr rfl) (pe_op oModI (pe_callTy cInt1 (by rfl) T.f_int (by decide +kernel) (pa_cons (pe_ix ix_list (pv 0) pe_int (fun _ _ => rfl)) pa_nil)) (pv 1)))
      (pss_cons (ps_asg (pe_op oDivI (pe_callTy cInt1 (by rfl) T.f_int (by decide +kernel) (pa_cons (pe_ix ix_list (pv 0) pe_int (fun _ _ => rfl)) pa_nil)) (pv 1)) (pg_sub (pv 0) pe_int set_list))
      (pss_one (ps_ret (pv 3))))) pss_nil)
      (pss_cons (ps_asg (pe_op oModI (pe_callTy cInt1 (by rfl) T.f_int (by decide +kernel) (pa_cons (pe_op oAddI (pe_op oMulI (pe_ix ix_list (pv 0) pe_int (fun _ _ => rfl)) pe_int) pe_int) pa_nil)) pe_int) (pg_sub (pv 0) pe_int set_list))
      (pss_cons (ps_set (i := 2) sc.nd rfl (by first | exact Or.inl rfl | exact Or.inr rfl) (pe_op oModI (pe_callTy cInt1 (by rfl) T.f_int (by decide +kernel) (pa_cons (pe_op oMulI (pe_ix ix_list (pv 0) pe_int (fun _ _ => rfl)) (pe_op oAddI (pe_op oDivI (pe_ix ix_list (pv 0) pe_int (fun _ _ => rfl)) pe_int) pe_int)) pa_nil)) pe_int))
      (pss_one (ps_ret (pe_op oModI (pe_callTy cInt1 (by rfl) T.f_int (by decide +kernel) (pa_cons (pe_op oDivI (pv 2) pe_int) pa_nil)) (pv 1)))))))
abbrev s__law_name : Stmt := top 18
abbrev n__law_name : List Str := ["_law_state", "_law_taken", "_law_letters", "_law_size", "_law_name_here", "_law_last", "_law_k", "_law_other"]
theorem sc__law_name : FnScope n__law_name ["_law_state", "_law_taken"] (defScope s__law_name) := ⟨rfl, rfl, rfl, by decide +kernel, rfl, by decide +kernel, by decide +kernel⟩
theorem ok__law_name (T : Top K mg) (F__law_take : Fn P w K mg base 1 "_law_take" ["_law_state", "_law_many"] (sp__law_take K)) (F : FunD K "_law_name" "_law_name" (defArgs s__law_name) (defBody s__law_name) (defScope s__law_name) [] [] f fd) : FnOk P w K mg base (L2.CX P w) 2 f fd ["_law_state", "_law_taken"] (sp__law_name K) := by
  have sc := sc__law_name
  refine F.ok sc (fun vs H Q E h => ?_) (fun cdv A outer s H vs Q E hr h => ⟨t__law_name K E, ?_, pure__law_name h⟩)
  · first | (obtain ⟨rfl, _⟩ := h; rfl) | (obtain ⟨_, rfl, _⟩ := h; rfl) | (obtain ⟨_, _, rfl, _⟩ := h; rfl) | (obtain ⟨_, _, _, rfl, _⟩ := h; rfl) | (obtain ⟨_, _, _, _, rfl, _⟩ := h; rfl) | (obtain ⟨_, _, _, _, _, rfl, _⟩ := h; rfl) | (obtain ⟨_, _, _, _, _, _, rfl, _⟩ := h; rfl) | (obtain ⟨_, _, _, _, _, _, _, rfl, _⟩ := h; rfl) | (obtain ⟨_, _, _, _, _, _, _, _, rfl, _⟩ := h; rfl) | (obtain ⟨_, _, _, _, _, _, _, _, _, rfl, _⟩ := h; rfl) | (obtain ⟨_, _, _, _, _, _, _, _, _, _, rfl, _⟩ := h; rfl) | (obtain ⟨_, _, _, _, _, _, _, _, _, _, _, rfl, _⟩ := h; rfl)
  · have tk : Takes (cxOf (L2.CX P w) P w K mg base n__law_name "_law_name" (defScope s__law_name) f cdv A outer s H E) (WE0 E) := takes_of rfl rfl rfl rfl
    have po : PassesOwn (model P w) (cxOf (L2.CX P w) P w K mg base n__law_name "_law_name" (defScope s__law_name) f cdv A outer s H E).A (cxOf (L2.CX P w) P w K mg base n__law_name "_law_name" (defScope s__law_name) f cdv A outer s H E).env (cxOf (L2.CX P w) P w K mg base n__law_name "_law_name" (defScope s__law_name) f cdv A outer s H E).xe := passes_of rfl
    exact (pss_cons (ps_set (i := 2) sc.nd rfl (by first | exact Or.inl rfl | exact Or.inr rfl) pe_str)
      (pss_cons (ps_set (i := 3) sc.nd rfl (by first | exact Or.inl rfl | exact Or.inr rfl) (pe_op oAddI pe_int (pe_cl F__law_take hr (by decide) tk (pa_cons (pv 0) (pa_cons pe_int pa_nil)))))
      (pss_cons (ps_set (i := 4) sc.nd rfl (by first | exact Or.inl rfl | exact Or.inr rfl) (pe_join pe_str (pe_lc (own := [("_law_k", 6)]) (g := (gName 6)) (tt := tYes) rfl sc.nd (pi_range1 (by rfl) T.f_range (pa_cons (pv 3) pa_nil)) (blkOk_by (own := [("_law_k", 6)]) (N := n__law_name) (sc := defScope (s__law_name)) (by decide +kernel)) (fun _ _ _ _ _ => (pg_name (i := 6) sc.nd rfl (by first | exact Or.inl rfl | exact Or.inr rfl))) (fun _ _ _ _ _ => pts_nil) (fun _ _ _ _ _ => (pe_ix ix_str (pv 2) (pe_cl F__law_take hr (by decide) takes0 (pa_cons (pv 0) (pa_cons pe_int pa_nil))) (fun _ _ => rfl))))))
      (pss_cons (ps_if (pt_cmpR op_notIn_seq (pv 4) (pv 1) (by rfl)) (pss_one (ps_ret (pv 4))) pss_nil)
      (pss_cons (ps_set (i := 5) sc.nd rfl (by first | exact Or.inl rfl | exact Or.inr rfl) (pe_cl F__law_take hr (by decide) tk (pa_cons (pv 0) (pa_cons pe_int pa_nil))))
      (pss_cons (ps_for po rfl (pi_range1 (by rfl) T.f_range (pa_cons pe_int pa_nil)) (pg_name (i := 6) sc.nd rfl (by first | exact Or.inl rfl | exact Or.inr rfl)) (pss_cons (ps_set (i := 7) sc.nd rfl (by first | exact Or.inl rfl | exact Or.inr rfl) (pe_op oAddS (pe_slice sl_str (pv 4) po_none (po_some pe_int)) (pe_ix ix_str (pv 2) (pe_op oModI (pe_callTy cInt1 (by rfl) T.f_int (by decide +kernel) (pa_cons (pe_op oAddI (pv 5) (pv 6)) pa_nil)) pe_int) (fun _ _ => rfl))))
      (pss_one (ps_if (pt_cmpR op_notIn_seq (pv 7) (pv 1) (by rfl)) (pss_one (ps_ret (pv 7))) pss_nil))))
      (pss_one (ps_ret pe_str))))))))
abbrev s__law_names : Stmt := top 19
abbrev n__law_names : List Str := ["_law_state", "_law_many", "_law_names_here", "_law_k"]
theorem sc__law_names : FnScope n__law_names ["_law_state", "_law_many"] (defScope s__law_names) := ⟨rfl, rfl, rfl, by decide +kernel, rfl, by decide +kernel, by decide +kernel⟩
theorem ok__law_names (T : Top K mg) (F__law_name : Fn P w K mg base 2 "_law_name" ["_law_state", "_law_taken"] (sp__law_name K)) (F : FunD K "_law_names" "_law_names" (defArgs s__law_names) (defBody s__law_names) (defScope s__law_names) [] [] f fd) : FnOk P w K mg base (L2.CX P w) 3 f fd ["_law_state", "_law_many"] (sp__law_names K) := by
  have sc := sc__law_names
  refine F.ok sc (fun vs H Q E h => ?_) (fun cdv A outer s H vs Q E hr h => ⟨t__law_names K E, ?_, pure__law_names h⟩)
  · first | (obtain ⟨rfl, _⟩ := h; rfl) | (obtain ⟨_, rfl, _⟩ := h; rfl) | (obtain ⟨_, _, rfl, _⟩ := h; rfl) | (obtain ⟨_, _, _, rfl, _⟩ := h; rfl) | (obtain ⟨_, _, _, _, rfl, _⟩ := h; rfl) | (obtain ⟨_, _, _, _, _, rfl, _⟩ := h; rfl) | (obtain ⟨_, _, _, _, _, _, rfl, _⟩ := h; rfl) | (obtain ⟨_, _, _, _, _, _, _, rfl, _⟩ := h; rfl) | (obtain ⟨_, _, _, _, _, _, _, _, rfl, _⟩ := h; rfl) | (obtain ⟨_, _, _, _, _, _, _, _, _, rfl, _⟩ := h; rfl) | (obtain ⟨_, _, _, _, _, _, _, _, _, _, rfl, _⟩ := h; rfl) | (obtain ⟨_, _, _, _, _, _, _, _, _, _, _, rfl, _⟩ := h; rfl)
  · have tk : Takes (cxOf (L2.CX P w) P w K mg base n__law_names "_law_names" (defScope s__law_names) f cdv A outer s H E) (WE0 E) := takes_of rfl rfl rfl rfl
    have po : PassesOwn (model P w) (cxOf (L2.CX P w) P w K mg base n__law_names "_law_names" (defScope s__law_names) f cdv A outer s H E).A (cxOf (L2.CX P w) P w K mg base n__law_names "_law_names" (defScope s__law_names) f cdv A outer s H E).env (cxOf (L2.CX P w) P w K mg base n__law_names "_law_names" (defScope s__law_names) f cdv A outer s H E).xe := passes_of rfl
    exact (pss_cons (ps_set (i := 2) sc.nd rfl (by first | exact Or.inl rfl | exact Or.inr rfl) (pe_lst pa_nil))
      (pss_cons (ps_for po rfl (pi_range1 (by rfl) T.f_range (pa_cons (pv 1) pa_nil)) (pg_name (i := 3) sc.nd rfl (by first | exact Or.inl rfl | exact Or.inr rfl)) (pss_one (ps_expr (pe_bm PySem.F.plainAttrs_list PySem.F.slot_list_append PySem.F.type_list_append mt_append (pv 2) (pa_cons (pe_cl F__law_name hr (by decide) tk (pa_cons (pv 0) (pa_cons (pv 2) pa_nil))) pa_nil)))))
      (pss_one (ps_ret (pv 2)))))
abbrev s__law_mixed : Stmt := top 20
abbrev n__law_mixed : List Str := ["_law_state", "_law_items", "_law_pool", "_law_row", "_law_k"]
theorem sc__law_mixed : FnScope n__law_mixed ["_law_state", "_law_items"] (defScope s__law_mixed) := ⟨rfl, rfl, rfl, by decide +kernel, rfl, by decide +kernel, by decide +kernel⟩
theorem ok__law_mixed (T : Top K mg) (F__law_take : Fn P w K mg base 1 "_law_take" ["_law_state", "_law_many"] (sp__law_take K)) (F : FunD K "_law_mixed" "_law_mixed" (defArgs s__law_mixed) (defBody s__law_mixed) (defScope s__law_mixed) [] [] f fd) : FnOk P w K mg base (L2.CX P w) 2 f fd ["_law_state", "_law_items"] (sp__law_mixed K) := by
  have sc := sc__law_mixed
  refine F.ok sc (fun vs H Q E h => ?_) (fun cdv A outer s H vs Q E hr h => ⟨t__law_mixed K E, ?_, pure__law_mixed h⟩)
  · first | (obtain ⟨rfl, _⟩ := h; rfl) | (obtain ⟨_, rfl, _⟩ := h; rfl) | (obtain ⟨_, _, rfl, _⟩ := h; rfl) | (obtain ⟨_, _, _, rfl, _⟩ := h; rfl) | (obtain ⟨_, _, _, _, rfl, _⟩ := h; rfl) | (obtain ⟨_, _, _, _, _, rfl, _⟩ := h; rfl) | (obtain ⟨_, _, _, _, _, _, rfl, _⟩ := h; rfl) | (obtain ⟨_, _, _, _, _, _, _, rfl, _⟩ := h; rfl) | (obtain ⟨_, _, _, _, _, _, _, _, rfl, _⟩ := h; rfl) | (obtain ⟨_, _, _, _, _, _, _, _, _, rfl, _⟩ := h; rfl) | (obtain ⟨_, _, _, _, _, _, _, _, _, _, rfl, _⟩ := h; rfl) | (obtain ⟨_, _, _, _, _, _, _, _, _, _, _, rfl, _⟩ := h; rfl)
  · have tk : Takes (cxOf (L2.CX P w) P w K mg base n__law_mixed "_law_mixed" (defScope s__law_mixed) f cdv A outer s H E) (WE0 E) := takes_of rfl rfl rfl rfl
    have po : PassesOwn (model P w) (cxOf (L2.CX P w) P w K mg base n__law_mixed "_law_mixed" (defScope s__law_mixed) f cdv A outer s H E).A (cxOf (L2.CX P w) P w K mg base n__law_mixed "_law_mixed" (defScope s__law_mixed) f cdv A outer s H E).env (cxOf (L2.CX P w) P w K mg base n__law_mixed "_law_mixed" (defScope s__law_mixed) f cdv A outer s H E).xe := passes_of rfl
    exact (pss_cons (ps_set (i := 2) sc.nd rfl (by first | exact Or.inl rfl | exact Or.inr rfl) (pe_callTy cListOf (by rfl) T.f_list (by decide +kernel) (pa_cons (pv 1) pa_nil)))
      (pss_cons (ps_set (i := 3) sc.nd rfl (by first | exact Or.inl rfl | exact Or.inr rfl) (pe_lst pa_nil))
      (pss_cons (ps_for po rfl (pi_range1 (by rfl) T.f_range (pa_cons (pe_callB cLenA (by rfl) T.f_len PySem.boot_len (pa_cons (pv 1) pa_nil)) pa_nil)) (pg_name (i := 4) sc.nd rfl (by first | exact Or.inl rfl | exact Or.inr rfl)) (pss_one (ps_expr (pe_bm PySem.F.plainAttrs_list PySem.F.slot_list_append PySem.F.type_list_append mt_append (pv 3) (pa_cons (pe_bm PySem.F.plainAttrs_list PySem.F.slot_list_pop PySem.F.type_list_pop mt_popAt (pv 2) (pa_cons (pe_cl F__law_take hr (by decide) tk (pa_cons (pv 0) (pa_cons (pe_callB cLenA (by rfl) T.f_len PySem.boot_len (pa_cons (pv 2) pa_nil)) pa_nil))) pa_nil)) pa_nil)))))
      (pss_one (ps_ret (pv 3))))))
abbrev s__law_others : Stmt := top 21
abbrev n__law_others : List Str := ["_law_names_here", "_law_a", "_law_b"]
theorem sc__law_others : FnScope n__law_others ["_law_names_here", "_law_a"] (defScope s__law_others) := ⟨rfl, rfl, rfl, by decide +kernel, rfl, by decide +kernel, by decide +kernel⟩
theorem ok__law_others (T : Top K mg)  (F : FunD K "_law_others" "_law_others" (defArgs s__law_others) (defBody s__law_others) (defScope s__law_others) [] [] f fd) : FnOk P w K mg base (L2.CX P w) 1 f fd ["_law_names_here", "_law_a"] (sp__law_others K) := by
  have sc := sc__law_others
  refine F.ok sc (fun vs H Q E h => ?_) (fun cdv A outer s H vs Q E hr h => ⟨t__law_others K E, ?_, pure__law_others h⟩)
  · first | (obtain ⟨rfl, _⟩ := h; rfl) | (obtain ⟨_, rfl, _⟩ := h; rfl) | (obtain ⟨_, _, rfl, _⟩ := h; rfl) | (obtain ⟨_, _, _, rfl, _⟩ := h; rfl) | (obtain ⟨_, _, _, _, rfl, _⟩ := h; rfl) | (obtain ⟨_, _, _, _, _, rfl, _⟩ := h; rfl) | (obtain ⟨_, _, _, _, _, _, rfl, _⟩ := h; rfl) | (obtain ⟨_, _, _, _, _, _, _, rfl, _⟩ := h; rfl) | (obtain ⟨_, _, _, _, _, _, _, _, rfl, _⟩ := h; rfl) | (obtain ⟨_, _, _, _, _, _, _, _, _, rfl, _⟩ := h; rfl) | (obtain ⟨_, _, _, _, _, _, _, _, _, _, rfl, _⟩ := h; rfl) | (obtain ⟨_, _, _, _, _, _, _, _, _, _, _, rfl, _⟩ := h; rfl)
  · have tk : Takes (cxOf (L2.CX P w) P w K mg base n__law_others "_law_others" (defScope s__law_others) f cdv A outer s H E) (WE0 E) := takes_of rfl rfl rfl rfl
    have po : PassesOwn (model P w) (cxOf (L2.CX P w) P w K mg base n__law_others "_law_others" (defScope s__law_others) f cdv A outer s H E).A (cxOf (L2.CX P w) P w K mg base n__law_others "_law_others" (defScope s__law_others) f cdv A outer s H E).env (cxOf (L2.CX P w) P w K mg base n__law_others "_law_others" (defScope s__law_others) f cdv A outer s H E).xe := passes_of rfl
    exact (pss_one (ps_ret (pe_lc (own := [("_law_b", 2)]) (g := (gName 2)) (tt := (tTest (tOp rNe (tVar 2) (tVar 1)))) rfl sc.nd (pi_list (pv 0)) (blkOk_by (own := [("_law_b", 2)]) (N := n__law_others) (sc := defScope (s__law_others)) (by decide +kernel)) (fun _ _ _ _ _ => (pg_name (i := 2) sc.nd rfl (by first | exact Or.inl rfl | exact Or.inr rfl))) (fun _ _ _ _ _ => (pts_one (pt_cmpR op_ne (pv 2) (pv 1) (nomark _)))) (fun _ _ _ _ _ => (pv 2)))))
abbrev s__law_block_wishes : Stmt := top 22
abbrev n__law_block_wishes : List Str := ["_law_state", "_law_names_here", "_law_order", "_law_wishes_here", "_law_at", "_law_turn", "_law_size", "_law_block", "_law_k", "_law_ring", "_law_head", "_law_tail", "_law_b"]
theorem sc__law_block_wishes : FnScope n__law_block_wishes ["_law_state", "_law_names_here"] (defScope s__law_block_wishes) := ⟨rfl, rfl, rfl, by decide +kernel, rfl, by decide +kernel, by decide +kernel⟩
theorem ok__law_block_wishes (T : Top K mg) (F__law_mixed : Fn P w K mg base 2 "_law_mixed" ["_law_state", "_law_items"] (sp__law_mixed K)) (F__law_others : Fn P w K mg base 1 "_law_others" ["_law_names_here", "_law_a"] (sp__law_others K)) (F__law_take : Fn P w K mg base 1 "_law_take" ["_law_state", "_law_many"] (sp__law_take K)) (F : FunD K "_law_block_wishes" "_law_block_wishes" (defArgs s__law_block_wishes) (defBody s__law_block_wishes) (defScope s__law_block_wishes) [] [] f fd) : FnOk P w K mg base (L2.CX P w) 3 f fd ["_law_state", "_law_names_here"] (sp__law_block_wishes K) := by
  have sc := sc__law_block_wishes
  refine F.ok sc (fun vs H Q E h => ?_) (fun cdv A outer s H vs Q E hr h => ⟨t__law_block_wishes K E, ?_, pure__law_block_wishes h⟩)
  · first | (obtain ⟨rfl, _⟩ := h; rfl) | (obtain ⟨_, rfl, _⟩ := h; rfl) | (obtain ⟨_, _, rfl, _⟩ := h; rfl) | (obtain ⟨_, _, _, rfl, _⟩ := h; rfl) | (obtain ⟨_, _, _, _, rfl, _⟩ := h; rfl) | (obtain ⟨_, _, _, _, _, rfl, _⟩ := h; rfl) | (obtain ⟨_, _, _, _, _, _, rfl, _⟩ := h; rfl) | (obtain ⟨_, _, _, _, _, _, _, rfl, _⟩ := h; rfl) | (obtain ⟨_, _, _, _, _, _, _, _, rfl, _⟩ := h; rfl) | (obtain ⟨_, _, _, _, _, _, _, _, _, rfl, _⟩ := h; rfl) | (obtain ⟨_, _, _, _, _, _, _, _, _, _, rfl, _⟩ := h; rfl) | (obtain ⟨_, _, _, _, _, _, _, _, _, _, _, rfl, _⟩ := h; rfl)
  · have tk : Takes (cxOf (L2.CX P w) P w K mg base n__law_block_wishes "_law_block_wishes" (defScope s__law_block_wishes) f cdv A outer s H E) (WE0 E) := takes_of rfl rfl rfl rfl
    have po : PassesOwn (model P w) (cxOf (L2.CX P w) P w K mg base n__law_block_wishes "_law_block_wishes" (defScope s__law_block_wishes) f cdv A outer s H E).A (cxOf (L2.CX P w) P w K mg base n__law_block_wishes "_law_block_wishes" (defScope s__law_block_wishes) f cdv A outer s H E).env (cxOf (L2.CX P w) P w K mg base n__law_block_wishes "_law_block_wishes" (defScope s__law_block_wishes) f cdv A outer s H E).xe := passes_of rfl
    exact (pss_cons (ps_set (i := 2) sc.nd rfl (by first | exact Or.inl rfl | exact Or.inr rfl) (pe_cl F__law_mixed hr (by decide) tk (pa_cons (pv 0) (pa_cons (pv 1) pa_nil))))
      (pss_cons (ps_set (i := 3) sc.nd rfl (by first | exact Or.inl rfl | exact Or.inr rfl) pe_dnewK)
      (pss_cons (ps_set (i := 4) sc.nd rfl (by first | exact Or.inl rfl | exact Or.inr rfl) pe_int)
      (pss_cons (ps_for po rfl (pi_range1 (by rfl) T.f_range (pa_cons (pe_callB cLenA (by rfl) T.f_len PySem.boot_len (pa_cons (pv 2) pa_nil)) pa_nil)) (pg_name (i := 5) sc.nd rfl (by first | exact Or.inl rfl | exact Or.inr rfl)) (pss_cons (ps_set (i := 6) sc.nd rfl (by first | exact Or.inl rfl | exact Or.inr rfl) (pe_op oAddI pe_int (pe_cl F__law_take hr (by decide) tk (pa_cons (pv 0) (pa_cons pe_int pa_nil)))))
      (pss_cons (ps_set (i := 7) sc.nd rfl (by first | exact Or.inl rfl | exact Or.inr rfl) (pe_slice sl_list (pv 2) (po_some (pv 4)) (po_some (pe_op oAddI (pv 4) (pv 6)))))
      (pss_cons (ps_aug (i := 4) sc.nd rfl (by first | exact Or.inl rfl | exact Or.inr rfl) (pv 6) ip_add)
      (pss_one (ps_for po rfl (pi_range1 (by rfl) T.f_range (pa_cons (pe_callB cLenA (by rfl) T.f_len PySem.boot_len (pa_cons (pv 7) pa_nil)) pa_nil)) (pg_name (i := 8) sc.nd rfl (by first | exact Or.inl rfl | exact Or.inr rfl)) (pss_cons (ps_set (i := 9) sc.nd rfl (by first | exact Or.inl rfl | exact Or.inr rfl) (pe_op op_cat (pe_slice sl_list (pv 7) (po_some (pe_op oAddI (pv 8) pe_int)) po_none) (pe_slice sl_list (pv 7) po_none (po_some (pv 8)))))
      (pss_cons (ps_set (i := 10) sc.nd rfl (by first | exact Or.inl rfl | exact Or.inr rfl) (pe_slice sl_list (pv 9) po_none (po_some pe_int)))
      (pss_cons (ps_if (pt_cmpR oGtI (pe_callB cLenA (by rfl) T.f_len PySem.boot_len (pa_cons (pv 9) pa_nil)) pe_int (nomark _)) (pss_one (ps_set (i := 10) sc.nd rfl (by first | exact Or.inl rfl | exact Or.inr rfl) (pe_lst (pa_cons (pe_ix ix_list (pv 9) pe_int (fun _ _ => rfl)) (pa_cons (pe_ix ix_list (pv 9) (pe_un un_neg pe_int) (fun _ _ => rfl)) pa_nil))))) pss_nil)
      (pss_cons (ps_set (i := 11) sc.nd rfl (by first | exact Or.inl rfl | exact Or.inr rfl) (pe_cl F__law_mixed hr (by decide) tk (pa_cons (pv 0) (pa_cons (pe_lc (own := [("_law_b", 12)]) (g := (gName 12)) (tt := (tTest (tOp (rIn K true) (tVar 12) (tVar 10)))) rfl sc.nd (pi_list (pe_cl F__law_others hr (by decide) tk (pa_cons (pv 1) (pa_cons (pe_ix ix_list (pv 7) (pv 8) (fun _ _ => rfl)) pa_nil)))) (blkOk_by (own := [("_law_b", 12)]) (N := n__law_block_wishes) (sc := defScope (s__law_block_wishes)) (by decide +kernel)) (fun _ _ _ _ _ => (pg_name (i := 12) sc.nd rfl (by first | exact Or.inl rfl | exact Or.inr rfl))) (fun _ _ _ _ _ => (pts_one (pt_cmpR op_notIn_seq (pv 12) (pv 10) (by rfl)))) (fun _ _ _ _ _ => (pv 12))) pa_nil))))
      (pss_cons (ps_set (i := 11) sc.nd rfl (by first | exact Or.inl rfl | exact Or.inr rfl) (pe_slice sl_list (pv 11) po_none (po_some (pe_cl F__law_take hr (by decide) tk (pa_cons (pv 0) (pa_cons (pe_op oAddI (pe_callB cLenA (by rfl) T.f_len PySem.boot_len (pa_cons (pv 11) pa_nil)) pe_int) pa_nil))))))
      (pss_cons (ps_if (PW.pt (pw_and (pt_tr (pv 11)) (pw_and1 (pt_cmpR op_eq (pe_cl F__law_take hr (by decide) tk (pa_cons (pv 0) (pa_cons pe_int pa_nil))) pe_int (nomark _))))) (pss_cons (ps_set (i := 10) sc.nd rfl (by first | exact Or.inl rfl | exact Or.inr rfl) (pe_op op_cat (pe_slice sl_list (pv 11) po_none (po_some pe_int)) (pv 10)))
      (pss_one (ps_set (i := 11) sc.nd rfl (by first | exact Or.inl rfl | exact Or.inr rfl) (pe_slice sl_list (pv 11) (po_some pe_int) po_none)))) pss_nil)
      (pss_one (ps_dput (hu_of hr) (pv 3) (pe_ix ix_list (pv 7) (pv 8) (fun _ _ => rfl)) (pe_op op_cat (pv 10) (pv 11)) rfl))))))))))))))
      (pss_one (ps_ret (pv 3)))))))
abbrev s__law_plain_wishes : Stmt := top 24
abbrev n__law_plain_wishes : List Str := ["_law_state", "_law_names_here", "_law_mode", "_law_order", "_law_wishes_here", "_law_k", "_law_others_here", "_law_b"]
theorem sc__law_plain_wishes : FnScope n__law_plain_wishes ["_law_state", "_law_names_here", "_law_mode"] (defScope s__law_plain_wishes) := ⟨rfl, rfl, rfl, by decide +kernel, rfl, by decide +kernel, by decide +kernel⟩
theorem ok__law_plain_wishes (T : Top K mg) (F__law_mixed : Fn P w K mg base 2 "_law_mixed" ["_law_state", "_law_items"] (sp__law_mixed K)) (F__law_take : Fn P w K mg base 1 "_law_take" ["_law_state", "_law_many"] (sp__law_take K)) (F : FunD K "_law_plain_wishes" "_law_plain_wishes" (defArgs s__law_plain_wishes) (defBody s__law_plain_wishes) (defScope s__law_plain_wishes) [] [] f fd) : FnOk P w K mg base (L2.CX P w) 3 f fd ["_law_state", "_law_names_here", "_law_mode"] (sp__law_plain_wishes K) := by
  have sc := sc__law_plain_wishes
  refine F.ok sc (fun vs H Q E h => ?_) (fun cdv A outer s H vs Q E hr h => ⟨t__law_plain_wishes K E, ?_, pure__law_plain_wishes h⟩)
  · first | (obtain ⟨rfl, _⟩ := h; rfl) | (obtain ⟨_, rfl, _⟩ := h; rfl) | (obtain ⟨_, _, rfl, _⟩ := h; rfl) | (obtain ⟨_, _, _, rfl, _⟩ := h; rfl) | (obtain ⟨_, _, _, _, rfl, _⟩ := h; rfl) | (obtain ⟨_, _, _, _, _, rfl, _⟩ := h; rfl) | (obtain ⟨_, _, _, _, _, _, rfl, _⟩ := h; rfl) | (obtain ⟨_, _, _, _, _, _, _, rfl, _⟩ := h; rfl) | (obtain ⟨_, _, _, _, _, _, _, _, rfl, _⟩ := h; rfl) | (obtain ⟨_, _, _, _, _, _, _, _, _, rfl, _⟩ := h; rfl) | (obtain ⟨_, _, _, _, _, _, _, _, _, _, rfl, _⟩ := h; rfl) | (obtain ⟨_, _, _, _, _, _, _, _, _, _, _, rfl, _⟩ := h; rfl)
  · have tk : Takes (cxOf (L2.CX P w) P w K mg base n__law_plain_wishes "_law_plain_wishes" (defScope s__law_plain_wishes) f cdv A outer s H E) (WE0 E) := takes_of rfl rfl rfl rfl
    have po : PassesOwn (model P w) (cxOf (L2.CX P w) P w K mg base n__law_plain_wishes "_law_plain_wishes" (defScope s__law_plain_wishes) f cdv A outer s H E).A (cxOf (L2.CX P w) P w K mg base n__law_plain_wishes "_law_plain_wishes" (defScope s__law_plain_wishes) f cdv A outer s H E).env (cxOf (L2.CX P w) P w K mg base n__law_plain_wishes "_law_plain_wishes" (defScope s__law_plain_wishes) f cdv A outer s H E).xe := passes_of rfl
    exact (pss_cons (ps_set (i := 3) sc.nd rfl (by first | exact Or.inl rfl | exact Or.inr rfl) (pe_cl F__law_mixed hr (by decide) tk (pa_cons (pv 0) (pa_cons (pv 1) pa_nil))))
      (pss_cons (ps_set (i := 4) sc.nd rfl (by first | exact Or.inl rfl | exact Or.inr rfl) pe_dnewK)
      (pss_cons (ps_for po rfl (pi_range1 (by rfl) T.f_range (pa_cons (pe_callB cLenA (by rfl) T.f_len PySem.boot_len (pa_cons (pv 3) pa_nil)) pa_nil)) (pg_name (i := 5) sc.nd rfl (by first | exact Or.inl rfl | exact Or.inr rfl)) (pss_cons (ps_set (i := 6) sc.nd rfl (by first | exact Or.inl rfl | exact Or.inr rfl) (pe_op op_cat (pe_slice sl_list (pv 3) (po_some (pe_op oAddI (pv 5) pe_int)) po_none) (pe_slice sl_list (pv 3) po_none (po_some (pv 5)))))
      (pss_cons (ps_if (pt_cmpR op_eq (pv 2) pe_int (nomark _)) (pss_one (ps_setLc (i := 6) (own := [("_law_b", 7)]) (g := (gName 7)) (tt := (tTest (tOp rNe (tVar 7) (tOp (rIxL K) (tVar 3) (tVar 5))))) rfl sc.nd rfl rfl (sw_true rfl rfl rfl (by decide +kernel)) (pi_list (pv 3)) (blkOk_by (own := [("_law_b", 7)]) (N := n__law_plain_wishes) (sc := defScope (s__law_plain_wishes)) (by decide +kernel)) (fun _ _ _ _ _ => (pg_name (i := 7) sc.nd rfl (by first | exact Or.inl rfl | exact Or.inr rfl))) (fun _ _ _ _ _ => (pts_one (pt_cmpR op_ne (pv 7) (pe_ix ix_list (pv 3) (pv 5) (fun _ _ => rfl)) (nomark _)))) (fun _ _ _ _ _ => (pv 7)))) pss_nil)
      (pss_cons (ps_if (pt_cmpR oGtI (pv 2) pe_int (nomark _)) (pss_one (ps_set (i := 6) sc.nd rfl (by first | exact Or.inl rfl | exact Or.inr rfl) (pe_cl F__law_mixed hr (by decide) tk (pa_cons (pv 0) (pa_cons (pv 6) pa_nil))))) pss_nil)
      (pss_cons (ps_if (pt_cmpR op_eq (pv 2) pe_int (nomark _)) (pss_one (ps_set (i := 6) sc.nd rfl (by first | exact Or.inl rfl | exact Or.inr rfl) (pe_slice sl_list (pv 6) po_none (po_some (pe_cl F__law_take hr (by decide) tk (pa_cons (pv 0) (pa_cons (pe_op oAddI (pe_callB cLenA (by rfl) T.f_len PySem.boot_len (pa_cons (pv 6) pa_nil)) pe_int) pa_nil))))))) pss_nil)
      (pss_cons (ps_if (pt_cmpR op_eq (pv 2) pe_int (nomark _)) (pss_one (ps_set (i := 6) sc.nd rfl (by first | exact Or.inl rfl | exact Or.inr rfl) (pe_slice sl_list (pv 6) po_none (po_some (pe_cl F__law_take hr (by decide) tk (pa_cons (pv 0) (pa_cons pe_int pa_nil))))))) pss_nil)
      (pss_one (ps_dput (hu_of hr) (pv 4) (pe_ix ix_list (pv 3) (pv 5) (fun _ _ => rfl)) (pv 6) rfl))))))))
      (pss_one (ps_ret (pv 4))))))
abbrev s__law_side_wishes : Stmt := top 23
abbrev n__law_side_wishes : List Str := ["_law_state", "_law_names_here", "_law_order", "_law_left", "_law_right", "_law_turned_here", "_law_wishes_here", "_law_k"]
theorem sc__law_side_wishes : FnScope n__law_side_wishes ["_law_state", "_law_names_here"] (defScope s__law_side_wishes) := ⟨rfl, rfl, rfl, by decide +kernel, rfl, by decide +kernel, by decide +kernel⟩
theorem ok__law_side_wishes (T : Top K mg) (F__law_mixed : Fn P w K mg base 2 "_law_mixed" ["_law_state", "_law_items"] (sp__law_mixed K)) (F__law_take : Fn P w K mg base 1 "_law_take" ["_law_state", "_law_many"] (sp__law_take K)) (F : FunD K "_law_side_wishes" "_law_side_wishes" (defArgs s__law_side_wishes) (defBody s__law_side_wishes) (defScope s__law_side_wishes) [] [] f fd) : FnOk P w K mg base (L2.CX P w) 3 f fd ["_law_state", "_law_names_here"] (sp__law_side_wishes K) := by
  have sc := sc__law_side_wishes
  refine F.ok sc (fun vs H Q E h => ?_) (fun cdv A outer s H vs Q E hr h => ⟨t__law_side_wishes K E, ?_, pure__law_side_wishes h⟩)
  · first | (obtain ⟨rfl, _⟩ := h; rfl) | (obtain ⟨_, rfl, _⟩ := h; rfl) | (obtain ⟨_, _, rfl, _⟩ := h; rfl) | (obtain ⟨_, _, _, rfl, _⟩ := h; rfl) | (obtain ⟨_, _, _, _, rfl, _⟩ := h; rfl) | (obtain ⟨_, _, _, _, _, rfl, _⟩ := h; rfl) | (obtain ⟨_, _, _, _, _, _, rfl, _⟩ := h; rfl) | (obtain ⟨_, _, _, _, _, _, _, rfl, _⟩ := h; rfl) | (obtain ⟨_, _, _, _, _, _, _, _, rfl, _⟩ := h; rfl) | (obtain ⟨_, _, _, _, _, _, _, _, _, rfl, _⟩ := h; rfl) | (obtain ⟨_, _, _, _, _, _, _, _, _, _, rfl, _⟩ := h; rfl) | (obtain ⟨_, _, _, _, _, _, _, _, _, _, _, rfl, _⟩ := h; rfl)
  · have tk : Takes (cxOf (L2.CX P w) P w K mg base n__law_side_wishes "_law_side_wishes" (defScope s__law_side_wishes) f cdv A outer s H E) (WE0 E) := takes_of rfl rfl rfl rfl
    have po : PassesOwn (model P w) (cxOf (L2.CX P w) P w K mg base n__law_side_wishes "_law_side_wishes" (defScope s__law_side_wishes) f cdv A outer s H E).A (cxOf (L2.CX P w) P w K mg base n__law_side_wishes "_law_side_wishes" (defScope s__law_side_wishes) f cdv A outer s H E).env (cxOf (L2.CX P w) P w K mg base n__law_side_wishes "_law_side_wishes" (defScope s__law_side_wishes) f cdv A outer s H E).xe := passes_of rfl
    exact (pss_cons (ps_set (i := 2) sc.nd rfl (by first | exact Or.inl rfl | exact Or.inr rfl) (pe_cl F__law_mixed hr (by decide) tk (pa_cons (pv 0) (pa_cons (pv 1) pa_nil))))
      (pss_cons (ps_set (i := 3) sc.nd rfl (by first | exact Or.inl rfl | exact Or.inr rfl) (pe_slice sl_list (pv 2) po_none (po_some (pe_op oDivI (pe_callB cLenA (by rfl) T.f_len PySem.boot_len (pa_cons (pv 2) pa_nil)) pe_int))))
      (pss_cons (ps_set (i := 4) sc.nd rfl (by first | exact Or.inl rfl | exact Or.inr rfl) (pe_slice sl_list (pv 2) (po_some (pe_op oDivI (pe_callB cLenA (by rfl) T.f_len PySem.boot_len (pa_cons (pv 2) pa_nil)) pe_int)) po_none))
      (pss_cons (ps_set (i := 5) sc.nd rfl (by first | exact Or.inl rfl | exact Or.inr rfl) (pe_cl F__law_take hr (by decide) tk (pa_cons (pv 0) (pa_cons pe_int pa_nil))))
      (pss_cons (ps_set (i := 6) sc.nd rfl (by first | exact Or.inl rfl | exact Or.inr rfl) pe_dnewK)
      (pss_cons (ps_for po rfl (pi_range1 (by rfl) T.f_range (pa_cons (pe_callB cLenA (by rfl) T.f_len PySem.boot_len (pa_cons (pv 3) pa_nil)) pa_nil)) (pg_name (i := 7) sc.nd rfl (by first | exact Or.inl rfl | exact Or.inr rfl)) (pss_cons (ps_dput (hu_of hr) (pv 6) (pe_ix ix_list (pv 3) (pv 7) (fun _ _ => rfl)) (pe_op op_cat (pe_slice sl_list (pv 4) (po_some (pv 7)) po_none) (pe_slice sl_list (pv 4) po_none (po_some (pv 7)))) rfl)
      (pss_one (ps_if (pt_cmpR op_eq (pv 5) pe_int (nomark _)) (pss_one (ps_dput (hu_of hr) (pv 6) (pe_ix ix_list (pv 3) (pv 7) (fun _ _ => rfl)) (pe_cl F__law_mixed hr (by decide) tk (pa_cons (pv 0) (pa_cons (pv 4) pa_nil))) rfl)) pss_nil))))
      (pss_cons (ps_for po rfl (pi_range1 (by rfl) T.f_range (pa_cons (pe_callB cLenA (by rfl) T.f_len PySem.boot_len (pa_cons (pv 4) pa_nil)) pa_nil)) (pg_name (i := 7) sc.nd rfl (by first | exact Or.inl rfl | exact Or.inr rfl)) (pss_cons (ps_dput (hu_of hr) (pv 6) (pe_ix ix_list (pv 4) (pv 7) (fun _ _ => rfl)) (pe_op op_cat (pe_slice sl_list (pv 3) (po_some (pe_op oAddI (pv 7) pe_int)) po_none) (pe_slice sl_list (pv 3) po_none (po_some (pe_op oAddI (pv 7) pe_int)))) rfl)
      (pss_one (ps_if (pt_cmpR op_eq (pv 5) pe_int (nomark _)) (pss_one (ps_dput (hu_of hr) (pv 6) (pe_ix ix_list (pv 4) (pv 7) (fun _ _ => rfl)) (pe_cl F__law_mixed hr (by decide) tk (pa_cons (pv 0) (pa_cons (pv 3) pa_nil))) rfl)) pss_nil))))
      (pss_one (ps_ret (pv 6))))))))))
abbrev s__law_wishes : Stmt := top 25
abbrev n__law_wishes : List Str := ["_law_state", "_law_names_here", "_law_mode"]
theorem sc__law_wishes : FnScope n__law_wishes ["_law_state", "_law_names_here"] (defScope s__law_wishes) := ⟨rfl, rfl, rfl, by decide +kernel, rfl, by decide +kernel, by decide +kernel⟩
theorem ok__law_wishes (T : Top K mg) (F__law_block_wishes : Fn P w K mg base 3 "_law_block_wishes" ["_law_state", "_law_names_here"] (sp__law_block_wishes K)) (F__law_plain_wishes : Fn P w K mg base 3 "_law_plain_wishes" ["_law_state", "_law_names_here", "_law_mode"] (sp__law_plain_wishes K)) (F__law_side_wishes : Fn P w K mg base 3 "_law_side_wishes" ["_law_state", "_law_names_here"] (sp__law_side_wishes K)) (F__law_take : Fn P w K mg base 1 "_law_take" ["_law_state", "_law_many"] (sp__law_take K)) (F : FunD K "_law_wishes" "_law_wishes" (defArgs s__law_wishes) (defBody s__law_wishes) (defScope s__law_wishes) [] [] f fd) : FnOk P w K mg base (L2.CX P w) 4 f fd ["_law_state", "_law_names_here"] (sp__law_wishes K) := by
  have sc := sc__law_wishes
  refine F.ok sc (fun vs H Q E h => ?_) (fun cdv A outer s H vs Q E hr h => ⟨t__law_wishes K E, ?_, pure__law_wishes h⟩)
  · first | (obtain ⟨rfl, _⟩ := h; rfl) | (obtain ⟨_, rfl, _⟩ := h; rfl) | (obtain ⟨_, _, rfl, _⟩ := h; rfl) | (obtain ⟨_, _, _, rfl, _⟩ := h; rfl) | (obtain ⟨_, _, _, _, rfl, _⟩ := h; rfl) | (obtain ⟨_, _, _, _, _, rfl, _⟩ := h; rfl) | (obtain ⟨_, _, _, _, _, _, rfl, _⟩ := h; rfl) | (obtain ⟨_, _, _, _, _, _, _, rfl, _⟩ := h; rfl) | (obtain ⟨_, _, _, _, _, _, _, _, rfl, _⟩ := h; rfl) | (obtain ⟨_, _, _, _, _, _, _, _, _, rfl, _⟩ := h; rfl) | (obtain ⟨_, _, _, _, _, _, _, _, _, _, rfl, _⟩ := h; rfl) | (obtain ⟨_, _, _, _, _, _, _, _, _, _, _, rfl, _⟩ := h; rfl)
  · have tk : Takes (cxOf (L2.CX P w) P w K mg base n__law_wishes "_law_wishes" (defScope s__law_wishes) f cdv A outer s H E) (WE0 E) := takes_of rfl rfl rfl rfl
    have po : PassesOwn (model P w) (cxOf (L2.CX P w) P w K mg base n__law_wishes "_law_wishes" (defScope s__law_wishes) f cdv A outer s H E).A (cxOf (L2.CX P w) P w K mg base n__law_wishes "_law_wishes" (defScope s__law_wishes) f cdv A outer s H E).env (cxOf (L2.CX P w) P w K mg base n__law_wishes "_law_wishes" (defScope s__law_wishes) f cdv A outer s H E).xe := passes_of rfl
    exact (pss_cons (ps_set (i := 2) sc.nd rfl (by first | exact Or.inl rfl | exact Or.inr rfl) (pe_cl F__law_take hr (by decide) tk (pa_cons (pv 0) (pa_cons pe_int pa_nil))))
      (pss_cons (ps_if (pt_cmpR oGtI (pv 2) pe_int (nomark _)) (pss_one (ps_ret (pe_cl F__law_block_wishes hr (by decide) tk (pa_cons (pv 0) (pa_cons (pv 1) pa_nil))))) pss_nil)
      (pss_cons (ps_if (pt_cmpR oGtI (pv 2) pe_int (nomark _)) (pss_one (ps_ret (pe_cl F__law_side_wishes hr (by decide) tk (pa_cons (pv 0) (pa_cons (pv 1) pa_nil))))) pss_nil)
      (pss_one (ps_ret (pe_cl F__law_plain_wishes hr (by decide) tk (pa_cons (pv 0) (pa_cons (pv 1) (pa_cons (pv 2) pa_nil)))))))))
abbrev s__law_group : Stmt := top 26
abbrev n__law_group : List Str := ["_law_state", "_law_top", "_law_names_here", "_law_wishes_here"]
theorem sc__law_group : FnScope n__law_group ["_law_state", "_law_top"] (defScope s__law_group) := ⟨rfl, rfl, rfl, by decide +kernel, rfl, by decide +kernel, by decide +kernel⟩
theorem ok__law_group (T : Top K mg) (F__law_names : Fn P w K mg base 3 "_law_names" ["_law_state", "_law_many"] (sp__law_names K)) (F__law_take : Fn P w K mg base 1 "_law_take" ["_law_state", "_law_many"] (sp__law_take K)) (F__law_wishes : Fn P w K mg base 4 "_law_wishes" ["_law_state", "_law_names_here"] (sp__law_wishes K)) (F : FunD K "_law_group" "_law_group" (defArgs s__law_group) (defBody s__law_group) (defScope s__law_group) [] [] f fd) : FnOk P w K mg base (L2.CX P w) 5 f fd ["_law_state", "_law_top"] (sp__law_group K) := by
  have sc := sc__law_group
  refine F.ok sc (fun vs H Q E h => ?_) (fun cdv A outer s H vs Q E hr h => ⟨t__law_group K E, ?_, pure__law_group h⟩)
  · first | (obtain ⟨rfl, _⟩ := h; rfl) | (obtain ⟨_, rfl, _⟩ := h; rfl) | (obtain ⟨_, _, rfl, _⟩ := h; rfl) | (obtain ⟨_, _, _, rfl, _⟩ := h; rfl) | (obtain ⟨_, _, _, _, rfl, _⟩ := h; rfl) | (obtain ⟨_, _, _, _, _, rfl, _⟩ := h; rfl) | (obtain ⟨_, _, _, _, _, _, rfl, _⟩ := h; rfl) | (obtain ⟨_, _, _, _, _, _, _, rfl, _⟩ := h; rfl) | (obtain ⟨_, _, _, _, _, _, _, _, rfl, _⟩ := h; rfl) | (obtain ⟨_, _, _, _, _, _, _, _, _, rfl, _⟩ := h; rfl) | (obtain ⟨_, _, _, _, _, _, _, _, _, _, rfl, _⟩ := h; rfl) | (obtain ⟨_, _, _, _, _, _, _, _, _, _, _, rfl, _⟩ := h; rfl)
  · have tk : Takes (cxOf (L2.CX P w) P w K mg base n__law_group "_law_group" (defScope s__law_group) f cdv A outer s H E) (WE0 E) := takes_of rfl rfl rfl rfl
    have po : PassesOwn (model P w) (cxOf (L2.CX P w) P w K mg base n__law_group "_law_group" (defScope s__law_group) f cdv A outer s H E).A (cxOf (L2.CX P w) P w K mg base n__law_group "_law_group" (defScope s__law_group) f cdv A outer s H E).env (cxOf (L2.CX P w) P w K mg base n__law_group "_law_group" (defScope s__law_group) f cdv A outer s H E).xe := passes_of rfl
    exact (pss_cons (ps_set (i := 2) sc.nd rfl (by first | exact Or.inl rfl | exact Or.inr rfl) (pe_cl F__law_names hr (by decide) tk (pa_cons (pv 0) (pa_cons (pe_cl F__law_take hr (by decide) tk (pa_cons (pv 0) (pa_cons (pe_op oAddI (pv 1) pe_int) pa_nil))) pa_nil))))
      (pss_cons (ps_set (i := 3) sc.nd rfl (by first | exact Or.inl rfl | exact Or.inr rfl) (pe_cl F__law_wishes hr (by decide) tk (pa_cons (pv 0) (pa_cons (pv 2) pa_nil))))
      (pss_one (ps_ret (pe_tup (pa_cons (pv 2) (pa_cons (pv 3) pa_nil)))))))
abbrev s__law_truth : Stmt := top 29
abbrev n__law_truth : List Str := ["_law_actual", "_law_due"]
theorem sc__law_truth : FnScope n__law_truth ["_law_actual", "_law_due"] (defScope s__law_truth) := ⟨rfl, rfl, rfl, by decide +kernel, rfl, by decide +kernel, by decide +kernel⟩
theorem ok__law_truth (T : Top K mg)  (F : FunD K "_law_truth" "_law_truth" (defArgs s__law_truth) (defBody s__law_truth) (defScope s__law_truth) [] [] f fd) : FnOk P w K mg base (L2.CX P w) 1 f fd ["_law_actual", "_law_due"] (sp__law_truth K) := by
  have sc := sc__law_truth
  refine F.ok sc (fun vs H Q E h => ?_) (fun cdv A outer s H vs Q E hr h => ⟨t__law_truth K E, ?_, pure__law_truth h⟩)
  · first | (obtain ⟨rfl, _⟩ := h; rfl) | (obtain ⟨_, rfl, _⟩ := h; rfl) | (obtain ⟨_, _, rfl, _⟩ := h; rfl) | (obtain ⟨_, _, _, rfl, _⟩ := h; rfl) | (obtain ⟨_, _, _, _, rfl, _⟩ := h; rfl) | (obtain ⟨_, _, _, _, _, rfl, _⟩ := h; rfl) | (obtain ⟨_, _, _, _, _, _, rfl, _⟩ := h; rfl) | (obtain ⟨_, _, _, _, _, _, _, rfl, _⟩ := h; rfl) | (obtain ⟨_, _, _, _, _, _, _, _, rfl, _⟩ := h; rfl) | (obtain ⟨_, _, _, _, _, _, _, _, _, rfl, _⟩ := h; rfl) | (obtain ⟨_, _, _, _, _, _, _, _, _, _, rfl, _⟩ := h; rfl) | (obtain ⟨_, _, _, _, _, _, _, _, _, _, _, rfl, _⟩ := h; rfl)
  · have tk : Takes (cxOf (L2.CX P w) P w K mg base n__law_truth "_law_truth" (defScope s__law_truth) f cdv A outer s H E) (WE0 E) := takes_of rfl rfl rfl rfl
    have po : PassesOwn (model P w) (cxOf (L2.CX P w) P w K mg base n__law_truth "_law_truth" (defScope s__law_truth) f cdv A outer s H E).A (cxOf (L2.CX P w) P w K mg base n__law_truth "_law_truth" (defScope s__law_truth) f cdv A outer s H E).env (cxOf (L2.CX P w) P w K mg base n__law_truth "_law_truth" (defScope s__law_truth) f cdv A outer s H E).xe := passes_of rfl
    exact (pss_one (ps_ret (pe_and (pe_callB call_isi (by rfl) T.f_isinstance (by decide +kernel) (pa_cons (pv 0) (pa_cons (pe_bltn (v := .ty "bool") rfl T.f_bool (by decide +kernel) rfl) pa_nil))) (pe_one (pe_cmpR op_eq (pv 0) (pv 1) (nomark _))))))
abbrev s__law_turned : Stmt := top 28
abbrev n__law_turned : List Str := ["_law_x", "_law_turned_here", "_law_a"]
theorem sc__law_turned : FnScope n__law_turned ["_law_x"] (defScope s__law_turned) := ⟨rfl, rfl, rfl, by decide +kernel, rfl, by decide +kernel, by decide +kernel⟩
theorem ok__law_turned (T : Top K mg)  (F : FunD K "_law_turned" "_law_turned" (defArgs s__law_turned) (defBody s__law_turned) (defScope s__law_turned) [] [] f fd) : FnOk P w K mg base (L2.CX P w) 1 f fd ["_law_x"] (sp__law_turned K) := by
  have sc := sc__law_turned
  refine F.ok sc (fun vs H Q E h => ?_) (fun cdv A outer s H vs Q E hr h => ⟨t__law_turned K E, ?_, pure__law_turned h⟩)
  · first | (obtain ⟨rfl, _⟩ := h; rfl) | (obtain ⟨_, rfl, _⟩ := h; rfl) | (obtain ⟨_, _, rfl, _⟩ := h; rfl) | (obtain ⟨_, _, _, rfl, _⟩ := h; rfl) | (obtain ⟨_, _, _, _, rfl, _⟩ := h; rfl) | (obtain ⟨_, _, _, _, _, rfl, _⟩ := h; rfl) | (obtain ⟨_, _, _, _, _, _, rfl, _⟩ := h; rfl) | (obtain ⟨_, _, _, _, _, _, _, rfl, _⟩ := h; rfl) | (obtain ⟨_, _, _, _, _, _, _, _, rfl, _⟩ := h; rfl) | (obtain ⟨_, _, _, _, _, _, _, _, _, rfl, _⟩ := h; rfl) | (obtain ⟨_, _, _, _, _, _, _, _, _, _, rfl, _⟩ := h; rfl) | (obtain ⟨_, _, _, _, _, _, _, _, _, _, _, rfl, _⟩ := h; rfl)
  · have tk : Takes (cxOf (L2.CX P w) P w K mg base n__law_turned "_law_turned" (defScope s__law_turned) f cdv A outer s H E) (WE0 E) := takes_of rfl rfl rfl rfl
    have po : PassesOwn (model P w) (cxOf (L2.CX P w) P w K mg base n__law_turned "_law_turned" (defScope s__law_turned) f cdv A outer s H E).A (cxOf (L2.CX P w) P w K mg base n__law_turned "_law_turned" (defScope s__law_turned) f cdv A outer s H E).env (cxOf (L2.CX P w) P w K mg base n__law_turned "_law_turned" (defScope s__law_turned) f cdv A outer s H E).xe := passes_of rfl
    exact (pss_cons (ps_set (i := 1) sc.nd rfl (by first | exact Or.inl rfl | exact Or.inr rfl) pe_dnewK)
      (pss_cons (ps_for po rfl (pi_reversed (by rfl) T.f_reversed (pa_cons (pe_callB cSortL (by rfl) T.f_sorted (by decide +kernel) (pa_cons (pe_callTy (call_list_dK rfl) (by rfl) T.f_list (by decide +kernel) (pa_cons (pv 0) pa_nil)) pa_nil)) pa_nil)) (pg_name (i := 2) sc.nd rfl (by first | exact Or.inl rfl | exact Or.inr rfl)) (pss_one (ps_dput (hu_of hr) (pv 1) (pv 2) (pe_dget (hu_of hr) (pv 0) (pv 2) (fun _ _ => rfl)) rfl)))
      (pss_one (ps_ret (pv 1)))))
abbrev s_Group___eq__ : Stmt := inClass (top 14) 2
abbrev n_Group___eq__ : List Str := ["self", "other"]
theorem sc_Group___eq__ : FnScope n_Group___eq__ ["self", "other"] (defScope s_Group___eq__) := ⟨rfl, rfl, rfl, by decide +kernel, rfl, by decide +kernel, by decide +kernel⟩
theorem ok_Group___eq__ (T : Top K mg)  (F : FunD K "__eq__" "Group.__eq__" (defArgs s_Group___eq__) (defBody s_Group___eq__) (defScope s_Group___eq__) [] [] f fd) : FnOk P w K mg base (L2.CX P w) 1 f fd ["self", "other"] (sp_Group___eq__ K) := by
  have sc := sc_Group___eq__
  refine F.ok sc (fun vs H Q E h => ?_) (fun cdv A outer s H vs Q E hr h => ⟨t_Group___eq__ K E, ?_, pure_Group___eq__ T.gk T.gi h⟩)
  · first | (obtain ⟨rfl, _⟩ := h; rfl) | (obtain ⟨_, rfl, _⟩ := h; rfl) | (obtain ⟨_, _, rfl, _⟩ := h; rfl) | (obtain ⟨_, _, _, rfl, _⟩ := h; rfl) | (obtain ⟨_, _, _, _, rfl, _⟩ := h; rfl) | (obtain ⟨_, _, _, _, _, rfl, _⟩ := h; rfl) | (obtain ⟨_, _, _, _, _, _, rfl, _⟩ := h; rfl) | (obtain ⟨_, _, _, _, _, _, _, rfl, _⟩ := h; rfl) | (obtain ⟨_, _, _, _, _, _, _, _, rfl, _⟩ := h; rfl) | (obtain ⟨_, _, _, _, _, _, _, _, _, rfl, _⟩ := h; rfl) | (obtain ⟨_, _, _, _, _, _, _, _, _, _, rfl, _⟩ := h; rfl) | (obtain ⟨_, _, _, _, _, _, _, _, _, _, _, rfl, _⟩ := h; rfl)
  · have tk : Takes (cxOf (L2.CX P w) P w K mg base n_Group___eq__ "Group.__eq__" (defScope s_Group___eq__) f cdv A outer s H E) (WE0 E) := takes_of rfl rfl rfl rfl
    have po : PassesOwn (model P w) (cxOf (L2.CX P w) P w K mg base n_Group___eq__ "Group.__eq__" (defScope s_Group___eq__) f cdv A outer s H E).A (cxOf (L2.CX P w) P w K mg base n_Group___eq__ "Group.__eq__" (defScope s_Group___eq__) f cdv A outer s H E).env (cxOf (L2.CX P w) P w K mg base n_Group___eq__ "Group.__eq__" (defScope s_Group___eq__) f cdv A outer s H E).xe := passes_of rfl
    exact (pss_one (ps_ret (pe_and (pe_callB call_isi (by rfl) T.f_isinstance (by decide +kernel) (pa_cons (pv 1) (pa_cons (pe_glob (v := .ref (He.ga K "Group")) rfl T.g_Group rfl) pa_nil))) (pe_and (pe_cmpR (op_eqD hr.units) (pe_fld (pv 0) rfl) (pe_fld (pv 1) rfl) (nomark _)) (pe_one (pe_cmpR (op_eqE hr.units) (pe_fld (pv 0) rfl) (pe_fld (pv 1) rfl) (nomark _)))))))
abbrev s_is_name : Stmt := top 9
abbrev n_is_name : List Str := ["value", "letter"]
theorem sc_is_name : FnScope n_is_name ["value"] (defScope s_is_name) := ⟨rfl, rfl, rfl, by decide +kernel, rfl, by decide +kernel, by decide +kernel⟩
theorem ok_is_name (T : Top K mg)  (F : FunD K "is_name" "is_name" (defArgs s_is_name) (defBody s_is_name) (defScope s_is_name) [] [] f fd) : FnOk P w K mg base (L2.CX P w) 1 f fd ["value"] (sp_is_name K) := by
  have sc := sc_is_name
  refine F.ok sc (fun vs H Q E h => ?_) (fun cdv A outer s H vs Q E hr h => ⟨t_is_name K E, ?_, pure_is_name h⟩)
  · first | (obtain ⟨rfl, _⟩ := h; rfl) | (obtain ⟨_, rfl, _⟩ := h; rfl) | (obtain ⟨_, _, rfl, _⟩ := h; rfl) | (obtain ⟨_, _, _, rfl, _⟩ := h; rfl) | (obtain ⟨_, _, _, _, rfl, _⟩ := h; rfl) | (obtain ⟨_, _, _, _, _, rfl, _⟩ := h; rfl) | (obtain ⟨_, _, _, _, _, _, rfl, _⟩ := h; rfl) | (obtain ⟨_, _, _, _, _, _, _, rfl, _⟩ := h; rfl) | (obtain ⟨_, _, _, _, _, _, _, _, rfl, _⟩ := h; rfl) | (obtain ⟨_, _, _, _, _, _, _, _, _, rfl, _⟩ := h; rfl) | (obtain ⟨_, _, _, _, _, _, _, _, _, _, rfl, _⟩ := h; rfl) | (obtain ⟨_, _, _, _, _, _, _, _, _, _, _, rfl, _⟩ := h; rfl)
  · have tk : Takes (cxOf (L2.CX P w) P w K mg base n_is_name "is_name" (defScope s_is_name) f cdv A outer s H E) (WE0 E) := takes_of rfl rfl rfl rfl
    have po : PassesOwn (model P w) (cxOf (L2.CX P w) P w K mg base n_is_name "is_name" (defScope s_is_name) f cdv A outer s H E).A (cxOf (L2.CX P w) P w K mg base n_is_name "is_name" (defScope s_is_name) f cdv A outer s H E).env (cxOf (L2.CX P w) P w K mg base n_is_name "is_name" (defScope s_is_name) f cdv A outer s H E).xe := passes_of rfl
    exact (pss_cons (ps_if (PW.pt (pw_or (pt_not (pt_val (pe_callB call_isi (by rfl) T.f_isinstance (by decide +kernel) (pa_cons (pv 0) (pa_cons (pe_bltn (v := .ty "str") rfl T.f_str (by decide +kernel) rfl) pa_nil))))) (pw_or (pt_cmpR oLtI (pe_callB cLenA (by rfl) T.f_len PySem.boot_len (pa_cons (pv 0) pa_nil)) pe_int (nomark _)) (pw_or1 (pt_cmpR oGtI (pe_callB cLenA (by rfl) T.f_len PySem.boot_len (pa_cons (pv 0) pa_nil)) pe_int (nomark _)))))) (pss_one (ps_ret pe_bl)) pss_nil)
      (pss_cons (ps_for po rfl (pi_str (pv 0)) (pg_name (i := 1) sc.nd rfl (by first | exact Or.inl rfl | exact Or.inr rfl)) (pss_one (ps_if (pt_cmpR op_notInS (pv 1) (pe_glob rfl T.k_LETTERS.choose_spec ⟨_, rfl⟩) (by rfl)) (pss_one (ps_ret pe_bl)) pss_nil)))
      (pss_one (ps_ret pe_bl))))
abbrev s_BadPeople___init__ : Stmt := inClass (top 3) 0
abbrev n_BadPeople___init__ : List Str := ["self", "index"]
def t_BadPeople___init__ (K : PySem.W.Frag) (E : XK) : TS := (tSeq (tDrop (tVeI K (tCons (tVar 0) (tCons (tC (.str "the people are not a tuple of different names")) tNil))))
  (tOst K "index" (tVar 0) (tVar 1)))
theorem sc_BadPeople___init__ : FnScope n_BadPeople___init__ ["self", "index"] (defScope s_BadPeople___init__) := ⟨rfl, rfl, rfl, by decide +kernel, rfl, by decide +kernel, by decide +kernel⟩
theorem pure_BadPeople___init__ (T : Top K mg) {vs : List V} {H : Hp} {Q : VK} {E : XK} (h : (spI1 K (He.ga K "BadPeople") "index") vs H Q E) : t_BadPeople___init__ K E { nx := fun _ H' => Q .non H', rt := Q } (start n_BadPeople___init__ vs) H := by
  obtain ⟨a, v, rfl, ha, k⟩ := h
  show t_BadPeople___init__ K E _ [some (.ref a), some v] H
  exact xi1 T.ox_BadPeople T.na_BadPeople_index ha k
theorem ok_BadPeople___init__ (T : Top K mg)  (F : FunD K "__init__" "BadPeople.__init__" (defArgs s_BadPeople___init__) (defBody s_BadPeople___init__) (defScope s_BadPeople___init__) [] [] f fd) : FnOk P w K mg base (L2.CX P w) 1 f fd ["self", "index"] (spI1 K (He.ga K "BadPeople") "index") := by
  have sc := sc_BadPeople___init__
  refine F.ok sc (fun vs H Q E h => ?_) (fun cdv A outer s H vs Q E hr h => ⟨t_BadPeople___init__ K E, ?_, pure_BadPeople___init__ T h⟩)
  · first | (obtain ⟨rfl, _⟩ := h; rfl) | (obtain ⟨_, rfl, _⟩ := h; rfl) | (obtain ⟨_, _, rfl, _⟩ := h; rfl) | (obtain ⟨_, _, _, rfl, _⟩ := h; rfl) | (obtain ⟨_, _, _, _, rfl, _⟩ := h; rfl) | (obtain ⟨_, _, _, _, _, rfl, _⟩ := h; rfl) | (obtain ⟨_, _, _, _, _, _, rfl, _⟩ := h; rfl) | (obtain ⟨_, _, _, _, _, _, _, rfl, _⟩ := h; rfl) | (obtain ⟨_, _, _, _, _, _, _, _, rfl, _⟩ := h; rfl) | (obtain ⟨_, _, _, _, _, _, _, _, _, rfl, _⟩ := h; rfl) | (obtain ⟨_, _, _, _, _, _, _, _, _, _, rfl, _⟩ := h; rfl) | (obtain ⟨_, _, _, _, _, _, _, _, _, _, _, rfl, _⟩ := h; rfl)
  · have tk : Takes (cxOf (L2.CX P w) P w K mg base n_BadPeople___init__ "BadPeople.__init__" (defScope s_BadPeople___init__) f cdv A outer s H E) (WE0 E) := takes_of rfl rfl rfl rfl
    have po : PassesOwn (model P w) (cxOf (L2.CX P w) P w K mg base n_BadPeople___init__ "BadPeople.__init__" (defScope s_BadPeople___init__) f cdv A outer s H E).A (cxOf (L2.CX P w) P w K mg base n_BadPeople___init__ "BadPeople.__init__" (defScope s_BadPeople___init__) f cdv A outer s H E).env (cxOf (L2.CX P w) P w K mg base n_BadPeople___init__ "BadPeople.__init__" (defScope s_BadPeople___init__) f cdv A outer s H E).xe := passes_of rfl
    exact (pss_cons (ps_expr (pe_qinit T.g_QuietError T.qi (pa_cons (pv 0) (pa_cons pe_str pa_nil))))
      (pss_one (ps_ost (pv 0) (pv 1))))
abbrev s_check_people : Stmt := top 12
abbrev n_check_people : List Str := ["people", "seen", "index", "item"]
theorem sc_check_people : FnScope n_check_people ["people"] (defScope s_check_people) := ⟨rfl, rfl, rfl, by decide +kernel, rfl, by decide +kernel, by decide +kernel⟩
theorem ok_check_people (T : Top K mg) (F_is_name : Fn P w K mg base 1 "is_name" ["value"] (sp_is_name K)) (Z_BadPeople : ErC P w K mg base "BadPeople" ["self", "index"] (spI1 K (He.ga K "BadPeople") "index")) (F : FunD K "check_people" "check_people" (defArgs s_check_people) (defBody s_check_people) (defScope s_check_people) [] [] f fd) : FnOk P w K mg base (L2.CX P w) 3 f fd ["people"] (sp_check_people K) := by
  have sc := sc_check_people
  refine F.ok sc (fun vs H Q E h => ?_) (fun cdv A outer s H vs Q E hr h => ⟨t_check_people K E, ?_, pure_check_people h⟩)
  · first | (obtain ⟨rfl, _⟩ := h; rfl) | (obtain ⟨_, rfl, _⟩ := h; rfl) | (obtain ⟨_, _, rfl, _⟩ := h; rfl) | (obtain ⟨_, _, _, rfl, _⟩ := h; rfl) | (obtain ⟨_, _, _, _, rfl, _⟩ := h; rfl) | (obtain ⟨_, _, _, _, _, rfl, _⟩ := h; rfl) | (obtain ⟨_, _, _, _, _, _, rfl, _⟩ := h; rfl) | (obtain ⟨_, _, _, _, _, _, _, rfl, _⟩ := h; rfl) | (obtain ⟨_, _, _, _, _, _, _, _, rfl, _⟩ := h; rfl) | (obtain ⟨_, _, _, _, _, _, _, _, _, rfl, _⟩ := h; rfl) | (obtain ⟨_, _, _, _, _, _, _, _, _, _, rfl, _⟩ := h; rfl) | (obtain ⟨_, _, _, _, _, _, _, _, _, _, _, rfl, _⟩ := h; rfl)
  · have tk : Takes (cxOf (L2.CX P w) P w K mg base n_check_people "check_people" (defScope s_check_people) f cdv A outer s H E) (WE0 E) := takes_of rfl rfl rfl rfl
    have po : PassesOwn (model P w) (cxOf (L2.CX P w) P w K mg base n_check_people "check_people" (defScope s_check_people) f cdv A outer s H E).A (cxOf (L2.CX P w) P w K mg base n_check_people "check_people" (defScope s_check_people) f cdv A outer s H E).env (cxOf (L2.CX P w) P w K mg base n_check_people "check_people" (defScope s_check_people) f cdv A outer s H E).xe := passes_of rfl
    exact (pss_cons (ps_if (PW.pt (pw_or (pt_not (pt_val (pe_callB call_isi (by rfl) T.f_isinstance (by decide +kernel) (pa_cons (pv 0) (pa_cons (pe_bltn (v := .ty "tuple") rfl T.f_tuple (by decide +kernel) rfl) pa_nil))))) (pw_or1 (pt_cmpR oGtI (pe_callB cLenA (by rfl) T.f_len PySem.boot_len (pa_cons (pv 0) pa_nil)) (pe_glob rfl T.k_MOST_PEOPLE.choose_spec ⟨_, rfl⟩) (nomark _))))) (pss_one (ps_rz1 Z_BadPeople hr (by decide) rfl tk (pe_un un_neg pe_int))) pss_nil)
      (pss_cons (ps_set (i := 1) sc.nd rfl (by first | exact Or.inl rfl | exact Or.inr rfl) (pe_lst pa_nil))
      (pss_one (ps_for po rfl (pi_enumT (by rfl) T.f_enumerate (pa_cons (pv 0) pa_nil)) (pg_tup rfl (pgs_cons (pg_name (i := 2) sc.nd rfl (by first | exact Or.inl rfl | exact Or.inr rfl)) (pgs_cons (pg_name (i := 3) sc.nd rfl (by first | exact Or.inl rfl | exact Or.inr rfl)) pgs_nil))) (pss_cons (ps_if (PW.pt (pw_or (pt_not (pt_val (pe_cl F_is_name hr (by decide) tk (pa_cons (pv 3) pa_nil)))) (pw_or1 (pt_cmpR op_in_seq (pv 3) (pv 1) (by rfl))))) (pss_one (ps_rz1 Z_BadPeople hr (by decide) rfl tk (pv 2))) pss_nil)
      (pss_one (ps_expr (pe_bm PySem.F.plainAttrs_list PySem.F.slot_list_append PySem.F.type_list_append mt_append (pv 1) (pa_cons (pv 3) pa_nil)))))))))
abbrev s_fits_wishes : Stmt := top 11
abbrev n_fits_wishes : List Str := ["value", "people", "person", "seen", "item"]
theorem sc_fits_wishes : FnScope n_fits_wishes ["value", "people", "person"] (defScope s_fits_wishes) := ⟨rfl, rfl, rfl, by decide +kernel, rfl, by decide +kernel, by decide +kernel⟩
theorem ok_fits_wishes (T : Top K mg)  (F : FunD K "fits_wishes" "fits_wishes" (defArgs s_fits_wishes) (defBody s_fits_wishes) (defScope s_fits_wishes) [] [] f fd) : FnOk P w K mg base (L2.CX P w) 1 f fd ["value", "people", "person"] (sp_fits_wishes K) := by
  have sc := sc_fits_wishes
  refine F.ok sc (fun vs H Q E h => ?_) (fun cdv A outer s H vs Q E hr h => ⟨t_fits_wishes K E, ?_, pure_fits_wishes h⟩)
  · first | (obtain ⟨rfl, _⟩ := h; rfl) | (obtain ⟨_, rfl, _⟩ := h; rfl) | (obtain ⟨_, _, rfl, _⟩ := h; rfl) | (obtain ⟨_, _, _, rfl, _⟩ := h; rfl) | (obtain ⟨_, _, _, _, rfl, _⟩ := h; rfl) | (obtain ⟨_, _, _, _, _, rfl, _⟩ := h; rfl) | (obtain ⟨_, _, _, _, _, _, rfl, _⟩ := h; rfl) | (obtain ⟨_, _, _, _, _, _, _, rfl, _⟩ := h; rfl) | (obtain ⟨_, _, _, _, _, _, _, _, rfl, _⟩ := h; rfl) | (obtain ⟨_, _, _, _, _, _, _, _, _, rfl, _⟩ := h; rfl) | (obtain ⟨_, _, _, _, _, _, _, _, _, _, rfl, _⟩ := h; rfl) | (obtain ⟨_, _, _, _, _, _, _, _, _, _, _, rfl, _⟩ := h; rfl)
  · have tk : Takes (cxOf (L2.CX P w) P w K mg base n_fits_wishes "fits_wishes" (defScope s_fits_wishes) f cdv A outer s H E) (WE0 E) := takes_of rfl rfl rfl rfl
    have po : PassesOwn (model P w) (cxOf (L2.CX P w) P w K mg base n_fits_wishes "fits_wishes" (defScope s_fits_wishes) f cdv A outer s H E).A (cxOf (L2.CX P w) P w K mg base n_fits_wishes "fits_wishes" (defScope s_fits_wishes) f cdv A outer s H E).env (cxOf (L2.CX P w) P w K mg base n_fits_wishes "fits_wishes" (defScope s_fits_wishes) f cdv A outer s H E).xe := passes_of rfl
    exact (pss_cons (ps_if (pt_not (pt_val (pe_callB call_isi (by rfl) T.f_isinstance (by decide +kernel) (pa_cons (pv 0) (pa_cons (pe_bltn (v := .ty "list") rfl T.f_list (by decide +kernel) rfl) pa_nil))))) (pss_one (ps_ret pe_bl)) pss_nil)
      (pss_cons (ps_set (i := 3) sc.nd rfl (by first | exact Or.inl rfl | exact Or.inr rfl) (pe_lst pa_nil))
      (pss_cons (ps_for po rfl (pi_list (pv 0)) (pg_name (i := 4) sc.nd rfl (by first | exact Or.inl rfl | exact Or.inr rfl)) (pss_cons (ps_if (PW.pt (pw_or (pt_not (pt_val (pe_callB call_isi (by rfl) T.f_isinstance (by decide +kernel) (pa_cons (pv 4) (pa_cons (pe_bltn (v := .ty "str") rfl T.f_str (by decide +kernel) rfl) pa_nil))))) (pw_or (pt_cmpR op_eq (pv 4) (pv 2) (nomark _)) (pw_or (pt_cmpR op_notIn_seq (pv 4) (pv 1) (by rfl)) (pw_or1 (pt_cmpR op_in_seq (pv 4) (pv 3) (by rfl))))))) (pss_one (ps_ret pe_bl)) pss_nil)
      (pss_one (ps_expr (pe_bm PySem.F.plainAttrs_list PySem.F.slot_list_append PySem.F.type_list_append mt_append (pv 3) (pa_cons (pv 4) pa_nil))))))
      (pss_one (ps_ret pe_bl)))))
abbrev s_same_keys : Stmt := top 10
abbrev n_same_keys : List Str := ["value", "people", "person"]
theorem sc_same_keys : FnScope n_same_keys ["value", "people"] (defScope s_same_keys) := ⟨rfl, rfl, rfl, by decide +kernel, rfl, by decide +kernel, by decide +kernel⟩
theorem ok_same_keys (T : Top K mg)  (F : FunD K "same_keys" "same_keys" (defArgs s_same_keys) (defBody s_same_keys) (defScope s_same_keys) [] [] f fd) : FnOk P w K mg base (L2.CX P w) 1 f fd ["value", "people"] (sp_same_keys K) := by
  have sc := sc_same_keys
  refine F.ok sc (fun vs H Q E h => ?_) (fun cdv A outer s H vs Q E hr h => ⟨t_same_keys K E, ?_, pure_same_keys h⟩)
  · first | (obtain ⟨rfl, _⟩ := h; rfl) | (obtain ⟨_, rfl, _⟩ := h; rfl) | (obtain ⟨_, _, rfl, _⟩ := h; rfl) | (obtain ⟨_, _, _, rfl, _⟩ := h; rfl) | (obtain ⟨_, _, _, _, rfl, _⟩ := h; rfl) | (obtain ⟨_, _, _, _, _, rfl, _⟩ := h; rfl) | (obtain ⟨_, _, _, _, _, _, rfl, _⟩ := h; rfl) | (obtain ⟨_, _, _, _, _, _, _, rfl, _⟩ := h; rfl) | (obtain ⟨_, _, _, _, _, _, _, _, rfl, _⟩ := h; rfl) | (obtain ⟨_, _, _, _, _, _, _, _, _, rfl, _⟩ := h; rfl) | (obtain ⟨_, _, _, _, _, _, _, _, _, _, rfl, _⟩ := h; rfl) | (obtain ⟨_, _, _, _, _, _, _, _, _, _, _, rfl, _⟩ := h; rfl)
  · have tk : Takes (cxOf (L2.CX P w) P w K mg base n_same_keys "same_keys" (defScope s_same_keys) f cdv A outer s H E) (WE0 E) := takes_of rfl rfl rfl rfl
    have po : PassesOwn (model P w) (cxOf (L2.CX P w) P w K mg base n_same_keys "same_keys" (defScope s_same_keys) f cdv A outer s H E).A (cxOf (L2.CX P w) P w K mg base n_same_keys "same_keys" (defScope s_same_keys) f cdv A outer s H E).env (cxOf (L2.CX P w) P w K mg base n_same_keys "same_keys" (defScope s_same_keys) f cdv A outer s H E).xe := passes_of rfl
    exact (pss_cons (ps_if (PW.pt (pw_or (pt_not (pt_val (pe_callB call_isi (by rfl) T.f_isinstance (by decide +kernel) (pa_cons (pv 0) (pa_cons (pe_bltn (v := .ty "dict") rfl T.f_dict (by decide +kernel) rfl) pa_nil))))) (pw_or1 (pt_cmpR op_ne (pe_callB cLenD (by rfl) T.f_len PySem.boot_len (pa_cons (pv 0) pa_nil)) (pe_callB cLenA (by rfl) T.f_len PySem.boot_len (pa_cons (pv 1) pa_nil)) (nomark _))))) (pss_one (ps_ret pe_bl)) pss_nil)
      (pss_cons (ps_for po rfl (pi_seq (pv 1)) (pg_name (i := 2) sc.nd rfl (by first | exact Or.inl rfl | exact Or.inr rfl)) (pss_one (ps_if (pt_cmp (pc_dnotin (hu_of hr) (pv 2) (pv 0))) (pss_one (ps_ret pe_bl)) pss_nil)))
      (pss_one (ps_ret pe_bl))))
abbrev s_BadWishes___init__ : Stmt := inClass (top 4) 0
abbrev n_BadWishes___init__ : List Str := ["self", "person"]
def t_BadWishes___init__ (K : PySem.W.Frag) (E : XK) : TS := (tSeq (tDrop (tVeI K (tCons (tVar 0) (tCons (tC (.str "the wishes do not fit the people")) tNil))))
  (tOst K "person" (tVar 0) (tVar 1)))
theorem sc_BadWishes___init__ : FnScope n_BadWishes___init__ ["self", "person"] (defScope s_BadWishes___init__) := ⟨rfl, rfl, rfl, by decide +kernel, rfl, by decide +kernel, by decide +kernel⟩
theorem pure_BadWishes___init__ (T : Top K mg) {vs : List V} {H : Hp} {Q : VK} {E : XK} (h : (spI1 K (He.ga K "BadWishes") "person") vs H Q E) : t_BadWishes___init__ K E { nx := fun _ H' => Q .non H', rt := Q } (start n_BadWishes___init__ vs) H := by
  obtain ⟨a, v, rfl, ha, k⟩ := h
  show t_BadWishes___init__ K E _ [some (.ref a), some v] H
  exact xi1 T.ox_BadWishes T.na_BadWishes_person ha k
theorem ok_BadWishes___init__ (T : Top K mg)  (F : FunD K "__init__" "BadWishes.__init__" (defArgs s_BadWishes___init__) (defBody s_BadWishes___init__) (defScope s_BadWishes___init__) [] [] f fd) : FnOk P w K mg base (L2.CX P w) 1 f fd ["self", "person"] (spI1 K (He.ga K "BadWishes") "person") := by
  have sc := sc_BadWishes___init__
  refine F.ok sc (fun vs H Q E h => ?_) (fun cdv A outer s H vs Q E hr h => ⟨t_BadWishes___init__ K E, ?_, pure_BadWishes___init__ T h⟩)
  · first | (obtain ⟨rfl, _⟩ := h; rfl) | (obtain ⟨_, rfl, _⟩ := h; rfl) | (obtain ⟨_, _, rfl, _⟩ := h; rfl) | (obtain ⟨_, _, _, rfl, _⟩ := h; rfl) | (obtain ⟨_, _, _, _, rfl, _⟩ := h; rfl) | (obtain ⟨_, _, _, _, _, rfl, _⟩ := h; rfl) | (obtain ⟨_, _, _, _, _, _, rfl, _⟩ := h; rfl) | (obtain ⟨_, _, _, _, _, _, _, rfl, _⟩ := h; rfl) | (obtain ⟨_, _, _, _, _, _, _, _, rfl, _⟩ := h; rfl) | (obtain ⟨_, _, _, _, _, _, _, _, _, rfl, _⟩ := h; rfl) | (obtain ⟨_, _, _, _, _, _, _, _, _, _, rfl, _⟩ := h; rfl) | (obtain ⟨_, _, _, _, _, _, _, _, _, _, _, rfl, _⟩ := h; rfl)
  · have tk : Takes (cxOf (L2.CX P w) P w K mg base n_BadWishes___init__ "BadWishes.__init__" (defScope s_BadWishes___init__) f cdv A outer s H E) (WE0 E) := takes_of rfl rfl rfl rfl
    have po : PassesOwn (model P w) (cxOf (L2.CX P w) P w K mg base n_BadWishes___init__ "BadWishes.__init__" (defScope s_BadWishes___init__) f cdv A outer s H E).A (cxOf (L2.CX P w) P w K mg base n_BadWishes___init__ "BadWishes.__init__" (defScope s_BadWishes___init__) f cdv A outer s H E).env (cxOf (L2.CX P w) P w K mg base n_BadWishes___init__ "BadWishes.__init__" (defScope s_BadWishes___init__) f cdv A outer s H E).xe := passes_of rfl
    exact (pss_cons (ps_expr (pe_qinit T.g_QuietError T.qi (pa_cons (pv 0) (pa_cons pe_str pa_nil))))
      (pss_one (ps_ost (pv 0) (pv 1))))
abbrev s_check_wishes : Stmt := top 13
abbrev n_check_wishes : List Str := ["people", "wishes", "person"]
theorem sc_check_wishes : FnScope n_check_wishes ["people", "wishes"] (defScope s_check_wishes) := ⟨rfl, rfl, rfl, by decide +kernel, rfl, by decide +kernel, by decide +kernel⟩
theorem ok_check_wishes (T : Top K mg) (F_fits_wishes : Fn P w K mg base 1 "fits_wishes" ["value", "people", "person"] (sp_fits_wishes K)) (F_same_keys : Fn P w K mg base 1 "same_keys" ["value", "people"] (sp_same_keys K)) (Z_BadWishes : ErC P w K mg base "BadWishes" ["self", "person"] (spI1 K (He.ga K "BadWishes") "person")) (F : FunD K "check_wishes" "check_wishes" (defArgs s_check_wishes) (defBody s_check_wishes) (defScope s_check_wishes) [] [] f fd) : FnOk P w K mg base (L2.CX P w) 3 f fd ["people", "wishes"] (sp_check_wishes K) := by
  have sc := sc_check_wishes
  refine F.ok sc (fun vs H Q E h => ?_) (fun cdv A outer s H vs Q E hr h => ⟨t_check_wishes K E, ?_, pure_check_wishes h⟩)
  · first | (obtain ⟨rfl, _⟩ := h; rfl) | (obtain ⟨_, rfl, _⟩ := h; rfl) | (obtain ⟨_, _, rfl, _⟩ := h; rfl) | (obtain ⟨_, _, _, rfl, _⟩ := h; rfl) | (obtain ⟨_, _, _, _, rfl, _⟩ := h; rfl) | (obtain ⟨_, _, _, _, _, rfl, _⟩ := h; rfl) | (obtain ⟨_, _, _, _, _, _, rfl, _⟩ := h; rfl) | (obtain ⟨_, _, _, _, _, _, _, rfl, _⟩ := h; rfl) | (obtain ⟨_, _, _, _, _, _, _, _, rfl, _⟩ := h; rfl) | (obtain ⟨_, _, _, _, _, _, _, _, _, rfl, _⟩ := h; rfl) | (obtain ⟨_, _, _, _, _, _, _, _, _, _, rfl, _⟩ := h; rfl) | (obtain ⟨_, _, _, _, _, _, _, _, _, _, _, rfl, _⟩ := h; rfl)
  · have tk : Takes (cxOf (L2.CX P w) P w K mg base n_check_wishes "check_wishes" (defScope s_check_wishes) f cdv A outer s H E) (WE0 E) := takes_of rfl rfl rfl rfl
    have po : PassesOwn (model P w) (cxOf (L2.CX P w) P w K mg base n_check_wishes "check_wishes" (defScope s_check_wishes) f cdv A outer s H E).A (cxOf (L2.CX P w) P w K mg base n_check_wishes "check_wishes" (defScope s_check_wishes) f cdv A outer s H E).env (cxOf (L2.CX P w) P w K mg base n_check_wishes "check_wishes" (defScope s_check_wishes) f cdv A outer s H E).xe := passes_of rfl
    exact (pss_cons (ps_if (pt_not (pt_val (pe_cl F_same_keys hr (by decide) tk (pa_cons (pv 1) (pa_cons (pv 0) pa_nil))))) (pss_one (ps_rz1 Z_BadWishes hr (by decide) rfl tk pe_str)) pss_nil)
      (pss_one (ps_for po rfl (pi_list (pe_callB (cSortT rfl) (by rfl) T.f_sorted (by decide +kernel) (pa_cons (pv 0) pa_nil))) (pg_name (i := 2) sc.nd rfl (by first | exact Or.inl rfl | exact Or.inr rfl)) (pss_one (ps_if (pt_not (pt_val (pe_cl F_fits_wishes hr (by decide) tk (pa_cons (pe_dget (hu_of hr) (pv 1) (pv 2) (fun _ _ => rfl)) (pa_cons (pv 0) (pa_cons (pv 2) pa_nil)))))) (pss_one (ps_rz1 Z_BadWishes hr (by decide) rfl tk (pv 2))) pss_nil)))))
abbrev s_Group___init__ : Stmt := inClass (top 14) 0
abbrev n_Group___init__ : List Str := ["self", "people", "wishes", "person", "row", "other", "at"]
theorem sc_Group___init__ : FnScope n_Group___init__ ["self", "people", "wishes"] (defScope s_Group___init__) := ⟨rfl, rfl, rfl, by decide +kernel, rfl, by decide +kernel, by decide +kernel⟩
theorem ok_Group___init__ (T : Top K mg) (F_check_people : Fn P w K mg base 3 "check_people" ["people"] (sp_check_people K)) (F_check_wishes : Fn P w K mg base 3 "check_wishes" ["people", "wishes"] (sp_check_wishes K)) (F : FunD K "__init__" "Group.__init__" (defArgs s_Group___init__) (defBody s_Group___init__) (defScope s_Group___init__) [] [] f fd) : FnOk P w K mg base (L2.CX P w) 4 f fd ["self", "people", "wishes"] (sp_Group___init__ K) := by
  have sc := sc_Group___init__
  refine F.ok sc (fun vs H Q E h => ?_) (fun cdv A outer s H vs Q E hr h => ⟨t_Group___init__ K E, ?_, pure_Group___init__ T.gk h⟩)
  · first | (obtain ⟨rfl, _⟩ := h; rfl) | (obtain ⟨_, rfl, _⟩ := h; rfl) | (obtain ⟨_, _, rfl, _⟩ := h; rfl) | (obtain ⟨_, _, _, rfl, _⟩ := h; rfl) | (obtain ⟨_, _, _, _, rfl, _⟩ := h; rfl) | (obtain ⟨_, _, _, _, _, rfl, _⟩ := h; rfl) | (obtain ⟨_, _, _, _, _, _, rfl, _⟩ := h; rfl) | (obtain ⟨_, _, _, _, _, _, _, rfl, _⟩ := h; rfl) | (obtain ⟨_, _, _, _, _, _, _, _, rfl, _⟩ := h; rfl) | (obtain ⟨_, _, _, _, _, _, _, _, _, rfl, _⟩ := h; rfl) | (obtain ⟨_, _, _, _, _, _, _, _, _, _, rfl, _⟩ := h; rfl) | (obtain ⟨_, _, _, _, _, _, _, _, _, _, _, rfl, _⟩ := h; rfl)
  · have tk : Takes (cxOf (L2.CX P w) P w K mg base n_Group___init__ "Group.__init__" (defScope s_Group___init__) f cdv A outer s H E) (WE0 E) := takes_of rfl rfl rfl rfl
    have po : PassesOwn (model P w) (cxOf (L2.CX P w) P w K mg base n_Group___init__ "Group.__init__" (defScope s_Group___init__) f cdv A outer s H E).A (cxOf (L2.CX P w) P w K mg base n_Group___init__ "Group.__init__" (defScope s_Group___init__) f cdv A outer s H E).env (cxOf (L2.CX P w) P w K mg base n_Group___init__ "Group.__init__" (defScope s_Group___init__) f cdv A outer s H E).xe := passes_of rfl
    exact (pss_cons (ps_expr (pe_cl F_check_people hr (by decide) tk (pa_cons (pv 1) pa_nil)))
      (pss_cons (ps_expr (pe_cl F_check_wishes hr (by decide) tk (pa_cons (pv 1) (pa_cons (pv 2) pa_nil))))
      (pss_cons (ps_fld (pv 0) (pe_callTy cListOf (by rfl) T.f_list (by decide +kernel) (pa_cons (pv 1) pa_nil)) rfl)
      (pss_cons (ps_fld (pv 0) (pe_dc (own := [("person", 3)]) (g := (gName 3)) (tt := tYes) rfl sc.nd (pi_tup (pv 1)) (blkOk_by (own := [("person", 3)]) (N := n_Group___init__) (sc := defScope (s_Group___init__)) (by decide +kernel)) (fun _ _ _ _ _ => (pg_name (i := 3) sc.nd rfl (by first | exact Or.inl rfl | exact Or.inr rfl))) (fun _ _ _ _ _ => pts_nil) (fun _ _ _ _ _ => (pv 3)) (fun _ _ _ _ _ => (pe_callTy cListOf (by rfl) T.f_list (by decide +kernel) (pa_cons (pe_dget (hu_of hr) (pv 2) (pv 3) (fun _ _ => rfl)) pa_nil)))) rfl)
      (pss_cons (ps_fld (pv 0) pe_dnewK rfl)
      (pss_cons (ps_fld (pv 0) pe_dnewK rfl)
      (pss_one (ps_for po rfl (pi_tup (pv 1)) (pg_name (i := 3) sc.nd rfl (by first | exact Or.inl rfl | exact Or.inr rfl)) (pss_cons (ps_setLc (i := 4) (own := [("other", 5)]) (g := (gName 5)) (tt := (tTest (tOp (rIn K false) (tVar 3) (tDGet (tVar 2) (tVar 5))))) rfl sc.nd rfl rfl (sw_true rfl rfl rfl (by decide +kernel)) (pi_list (pe_dget (hu_of hr) (pv 2) (pv 3) (fun _ _ => rfl))) (blkOk_by (own := [("other", 5)]) (N := n_Group___init__) (sc := defScope (s_Group___init__)) (by decide +kernel)) (fun _ _ _ _ _ => (pg_name (i := 5) sc.nd rfl (by first | exact Or.inl rfl | exact Or.inr rfl))) (fun _ _ _ _ _ => (pts_one (pt_cmpR op_in_seq (pv 3) (pe_dget (hu_of hr) (pv 2) (pv 5) (fun _ _ => rfl)) (by rfl)))) (fun _ _ _ _ _ => (pv 5)))
      (pss_cons (ps_dput (hu_of hr) (pe_fld (pv 0) rfl) (pv 3) (pv 4) rfl)
      (pss_one (ps_dput (hu_of hr) (pe_fld (pv 0) rfl) (pv 3) (pe_dc (own := [("at", 6), ("other", 5)]) (g := (gTup K 2 (gCons (gName 6) (gCons (gName 5) gNil)))) (tt := tYes) rfl sc.nd (pi_enum (by rfl) T.f_enumerate (pa_cons (pv 4) pa_nil)) (blkOk_by (own := [("at", 6), ("other", 5)]) (N := n_Group___init__) (sc := defScope (s_Group___init__)) (by decide +kernel)) (fun _ _ _ _ _ => (pg_tup rfl (pgs_cons (pg_name (i := 6) sc.nd rfl (by first | exact Or.inl rfl | exact Or.inr rfl)) (pgs_cons (pg_name (i := 5) sc.nd rfl (by first | exact Or.inl rfl | exact Or.inr rfl)) pgs_nil)))) (fun _ _ _ _ _ => pts_nil) (fun _ _ _ _ _ => (pv 5)) (fun _ _ _ _ _ => (pv 6))) rfl))))))))))))
abbrev s_law : Stmt := top 30
abbrev n_law : List Str := ["_law_script", "_law_state", "_law_change", "_law_group_here", "_law_order", "_law_lists", "_law_twin", "_law_same", "_law_names_here", "_law_wishes_here", "_law_k", "_law_other", "_law_a", "_law_new", "_law_b", "_law_c"]
theorem sc_law : FnScope n_law ["_law_script"] (defScope s_law) := ⟨rfl, rfl, rfl, by decide +kernel, rfl, by decide +kernel, by decide +kernel⟩
theorem ok_law (T : Top K mg) (F__law_cell : Fn P w K mg base 1 "_law_cell" ["_law_script", "_law_k"] (sp__law_cell K)) (F__law_copy : Fn P w K mg base 1 "_law_copy" ["_law_wishes_here"] (sp__law_copy K)) (F__law_group : Fn P w K mg base 5 "_law_group" ["_law_state", "_law_top"] (sp__law_group K)) (F__law_name : Fn P w K mg base 2 "_law_name" ["_law_state", "_law_taken"] (sp__law_name K)) (F__law_take : Fn P w K mg base 1 "_law_take" ["_law_state", "_law_many"] (sp__law_take K)) (F__law_truth : Fn P w K mg base 1 "_law_truth" ["_law_actual", "_law_due"] (sp__law_truth K)) (F__law_turned : Fn P w K mg base 1 "_law_turned" ["_law_x"] (sp__law_turned K)) (M_Group___eq__ : Mt P w K mg base 1 "Group" "__eq__" ["self", "other"] (sp_Group___eq__ K)) (X_Group : Mkr P w K mg base 4 "Group" ["self", "people", "wishes"] (sp_Group___init__ K)) (F : FunD K "law" "law" (defArgs s_law) (defBody s_law) (defScope s_law) [] [] f fd) : FnOk P w K mg base (L2.CX P w) 6 f fd ["_law_script"] (spLaw K) := by
  have sc := sc_law
  refine F.ok sc (fun vs H Q E h => ?_) (fun cdv A outer s H vs Q E hr h => ⟨t_law K E, ?_, pure_law T.gk h⟩)
  · first | (obtain ⟨rfl, _⟩ := h; rfl) | (obtain ⟨_, rfl, _⟩ := h; rfl) | (obtain ⟨_, _, rfl, _⟩ := h; rfl) | (obtain ⟨_, _, _, rfl, _⟩ := h; rfl) | (obtain ⟨_, _, _, _, rfl, _⟩ := h; rfl) | (obtain ⟨_, _, _, _, _, rfl, _⟩ := h; rfl) | (obtain ⟨_, _, _, _, _, _, rfl, _⟩ := h; rfl) | (obtain ⟨_, _, _, _, _, _, _, rfl, _⟩ := h; rfl) | (obtain ⟨_, _, _, _, _, _, _, _, rfl, _⟩ := h; rfl) | (obtain ⟨_, _, _, _, _, _, _, _, _, rfl, _⟩ := h; rfl) | (obtain ⟨_, _, _, _, _, _, _, _, _, _, rfl, _⟩ := h; rfl) | (obtain ⟨_, _, _, _, _, _, _, _, _, _, _, rfl, _⟩ := h; rfl)
  · have tk : Takes (cxOf (L2.CX P w) P w K mg base n_law "law" (defScope s_law) f cdv A outer s H E) (WE0 E) := takes_of rfl rfl rfl rfl
    have po : PassesOwn (model P w) (cxOf (L2.CX P w) P w K mg base n_law "law" (defScope s_law) f cdv A outer s H E).A (cxOf (L2.CX P w) P w K mg base n_law "law" (defScope s_law) f cdv A outer s H E).env (cxOf (L2.CX P w) P w K mg base n_law "law" (defScope s_law) f cdv A outer s H E).xe := passes_of rfl
    exact (pss_cons (ps_set (i := 1) sc.nd rfl (by first | exact Or.inl rfl | exact Or.inr rfl) (pe_cl F__law_cell hr (by decide) tk (pa_cons (pv 0) (pa_cons pe_int pa_nil))))
      (pss_cons (ps_set (i := 2) sc.nd rfl (by first | exact Or.inl rfl | exact Or.inr rfl) (pe_cl F__law_take hr (by decide) tk (pa_cons (pv 1) (pa_cons pe_int pa_nil))))
      (pss_cons (ps_asg (pe_cl F__law_group hr (by decide) tk (pa_cons (pv 1) (pa_cons pe_int pa_nil))) (pg_tup rfl (pgs_cons (pg_name (i := 8) sc.nd rfl (by first | exact Or.inl rfl | exact Or.inr rfl)) (pgs_cons (pg_name (i := 9) sc.nd rfl (by first | exact Or.inl rfl | exact Or.inr rfl)) pgs_nil))))
      (pss_cons (ps_set (i := 3) sc.nd rfl (by first | exact Or.inl rfl | exact Or.inr rfl) (pe_mk X_Group hr (by decide) tk (pa_cons (pe_callTy cTupOf (by rfl) T.f_tuple (by decide +kernel) (pa_cons (pv 8) pa_nil)) (pa_cons (pe_cl F__law_copy hr (by decide) tk (pa_cons (pv 9) pa_nil)) pa_nil))))
      (pss_cons (ps_set (i := 4) sc.nd rfl (by first | exact Or.inl rfl | exact Or.inr rfl) (pe_callTy cListOf (by rfl) T.f_list (by decide +kernel) (pa_cons (pv 8) pa_nil)))
      (pss_cons (ps_set (i := 5) sc.nd rfl (by first | exact Or.inl rfl | exact Or.inr rfl) (pe_cl F__law_turned hr (by decide) tk (pa_cons (pe_cl F__law_copy hr (by decide) tk (pa_cons (pv 9) pa_nil)) pa_nil)))
      (pss_cons (ps_if (pt_tr (pv 8)) (pss_cons (ps_set (i := 10) sc.nd rfl (by first | exact Or.inl rfl | exact Or.inr rfl) (pe_cl F__law_take hr (by decide) tk (pa_cons (pv 1) (pa_cons (pe_callB cLenA (by rfl) T.f_len PySem.boot_len (pa_cons (pv 8) pa_nil)) pa_nil))))
      (pss_cons (ps_set (i := 11) sc.nd rfl (by first | exact Or.inl rfl | exact Or.inr rfl) (pe_cl F__law_take hr (by decide) tk (pa_cons (pv 1) (pa_cons (pe_callB cLenA (by rfl) T.f_len PySem.boot_len (pa_cons (pv 8) pa_nil)) pa_nil))))
      (pss_cons (ps_set (i := 12) sc.nd rfl (by first | exact Or.inl rfl | exact Or.inr rfl) (pe_ix ix_list (pv 8) (pv 10) (fun _ _ => rfl)))
      (pss_cons (ps_if (pt_cmpR op_eq (pv 2) pe_int (nomark _)) (pss_cons (ps_asg (pe_ix ix_list (pv 8) (pv 11) (fun _ _ => rfl)) (pg_sub (pv 4) (pv 10) set_list))
      (pss_one (ps_asg (pv 12) (pg_sub (pv 4) (pv 11) set_list)))) pss_nil)
      (pss_cons (ps_if (PW.pt (pw_and (pt_cmpR op_eq (pv 2) pe_int (nomark _)) (pw_and1 (pt_tr (pe_dget (hu_of hr) (pv 5) (pv 12) (fun _ _ => rfl)))))) (pss_one (ps_expr (pe_bm PySem.F.plainAttrs_list PySem.F.slot_list_pop PySem.F.type_list_pop mt_popAt (pe_dget (hu_of hr) (pv 5) (pv 12) (fun _ _ => rfl)) (pa_cons (pe_cl F__law_take hr (by decide) tk (pa_cons (pv 1) (pa_cons (pe_callB cLenA (by rfl) T.f_len PySem.boot_len (pa_cons (pe_dget (hu_of hr) (pv 5) (pv 12) (fun _ _ => rfl)) pa_nil)) pa_nil))) pa_nil)))) pss_nil)
      (pss_cons (ps_if (PW.pt (pw_and (pt_cmpR op_eq (pv 2) pe_int (nomark _)) (pw_and (pt_cmpR op_ne (pe_ix ix_list (pv 8) (pv 11) (fun _ _ => rfl)) (pv 12) (nomark _)) (pw_and1 (pt_cmpR op_notIn_seq (pe_ix ix_list (pv 8) (pv 11) (fun _ _ => rfl)) (pe_dget (hu_of hr) (pv 5) (pv 12) (fun _ _ => rfl)) (by rfl)))))) (pss_one (ps_expr (pe_bm PySem.F.plainAttrs_list PySem.F.slot_list_insert PySem.F.type_list_insert mtInsert (pe_dget (hu_of hr) (pv 5) (pv 12) (fun _ _ => rfl)) (pa_cons (pe_cl F__law_take hr (by decide) tk (pa_cons (pv 1) (pa_cons (pe_op oAddI (pe_callB cLenA (by rfl) T.f_len PySem.boot_len (pa_cons (pe_dget (hu_of hr) (pv 5) (pv 12) (fun _ _ => rfl)) pa_nil)) pe_int) pa_nil))) (pa_cons (pe_ix ix_list (pv 8) (pv 11) (fun _ _ => rfl)) pa_nil))))) pss_nil)
      (pss_cons (ps_if (pt_cmpR op_eq (pv 2) pe_int (nomark _)) (pss_one (ps_expr (pe_bm0 PySem.F.plainAttrs_list PySem.F.slot_list_reverse PySem.F.type_list_reverse mt_reverse (pe_dget (hu_of hr) (pv 5) (pv 12) (fun _ _ => rfl))))) pss_nil)
      (pss_one (ps_if (pt_cmpR op_eq (pv 2) pe_int (nomark _)) (pss_cons (ps_set (i := 13) sc.nd rfl (by first | exact Or.inl rfl | exact Or.inr rfl) (pe_cl F__law_name hr (by decide) tk (pa_cons (pv 1) (pa_cons (pv 8) pa_nil))))
      (pss_cons (ps_asg (pv 13) (pg_sub (pv 4) (pv 10) set_list))
      (pss_cons (ps_dput (hu_of hr) (pv 5) (pv 13) (pe_dpop1 (pv 5) (pv 12) ⟨rfl, rfl, rfl, rfl⟩) rfl)
      (pss_one (ps_for po rfl (pi_list (pv 4)) (pg_name (i := 14) sc.nd rfl (by first | exact Or.inl rfl | exact Or.inr rfl)) (pss_one (ps_dput (hu_of hr) (pv 5) (pv 14) (pe_lc (own := [("_law_c", 15)]) (g := (gName 15)) (tt := tYes) rfl sc.nd (pi_list (pe_dget (hu_of hr) (pv 5) (pv 14) (fun _ _ => rfl))) (blkOk_by (own := [("_law_c", 15)]) (N := n_law) (sc := defScope (s_law)) (by decide +kernel)) (fun _ _ _ _ _ => (pg_name (i := 15) sc.nd rfl (by first | exact Or.inl rfl | exact Or.inr rfl))) (fun _ _ _ _ _ => pts_nil) (fun _ _ _ _ _ => (pe_ifExp (pt_cmpR op_eq (pv 15) (pv 12) (nomark _)) (pv 13) (pv 15)))) rfl))))))) pss_nil))))))))) pss_nil)
      (pss_cons (ps_set (i := 6) sc.nd rfl (by first | exact Or.inl rfl | exact Or.inr rfl) (pe_mk X_Group hr (by decide) tk (pa_cons (pe_callTy cTupOf (by rfl) T.f_tuple (by decide +kernel) (pa_cons (pv 4) pa_nil)) (pa_cons (pv 5) pa_nil))))
      (pss_cons (ps_set (i := 7) sc.nd rfl (by first | exact Or.inl rfl | exact Or.inr rfl) (pe_and (pe_cmpR (op_eqD hr.units) (pv 4) (pv 8) (nomark _)) (pe_one (pe_cmpR (op_eqE hr.units) (pv 5) (pv 9) (nomark _)))))
      (pss_cons (ps_if (PW.pt (pw_or (pt_not (pt_val (pe_cl F__law_truth hr (by decide) tk (pa_cons (pe_cmpR (o_eqG M_Group___eq__ hr (by decide)) (pv 3) (pv 6) (nomark _)) (pa_cons (pv 7) pa_nil))))) (pw_or1 (pt_not (pt_val (pe_cl F__law_truth hr (by decide) tk (pa_cons (pe_cmpR (o_eqG M_Group___eq__ hr (by decide)) (pv 6) (pv 3) (nomark _)) (pa_cons (pv 7) pa_nil)))))))) (pss_one (ps_ret pe_bl)) pss_nil)
      (pss_one (ps_ret (pe_and (pe_cl F__law_truth hr (by decide) tk (pa_cons (pe_cmpR (o_neG M_Group___eq__ T.ne_Group T.gk.ik.mo hr (by decide)) (pv 3) (pv 6) (nomark _)) (pa_cons (pe_not (pv 7)) pa_nil))) (pe_one (pe_cl F__law_truth hr (by decide) tk (pa_cons (pe_cmpR (o_eqG M_Group___eq__ hr (by decide)) (pv 3) (pv 3) (nomark _)) (pa_cons pe_bl pa_nil)))))))))))))))))
end
def d__law_cell : He.DefD := ⟨("_law_cell", none), "_law_cell", "_law_cell", defArgs s__law_cell, defBody s__law_cell, defScope s__law_cell, [], []⟩
def d__law_copy : He.DefD := ⟨("_law_copy", none), "_law_copy", "_law_copy", defArgs s__law_copy, defBody s__law_copy, defScope s__law_copy, [], []⟩
def d__law_take : He.DefD := ⟨("_law_take", none), "_law_take", "_law_take", defArgs s__law_take, defBody s__law_take, defScope s__law_take, [], []⟩
def d__law_name : He.DefD := ⟨("_law_name", none), "_law_name", "_law_name", defArgs s__law_name, defBody s__law_name, defScope s__law_name, [], []⟩
def d__law_names : He.DefD := ⟨("_law_names", none), "_law_names", "_law_names", defArgs s__law_names, defBody s__law_names, defScope s__law_names, [], []⟩
def d__law_mixed : He.DefD := ⟨("_law_mixed", none), "_law_mixed", "_law_mixed", defArgs s__law_mixed, defBody s__law_mixed, defScope s__law_mixed, [], []⟩
def d__law_others : He.DefD := ⟨("_law_others", none), "_law_others", "_law_others", defArgs s__law_others, defBody s__law_others, defScope s__law_others, [], []⟩
def d__law_block_wishes : He.DefD := ⟨("_law_block_wishes", none), "_law_block_wishes", "_law_block_wishes", defArgs s__law_block_wishes, defBody s__law_block_wishes, defScope s__law_block_wishes, [], []⟩
def d__law_plain_wishes : He.DefD := ⟨("_law_plain_wishes", none), "_law_plain_wishes", "_law_plain_wishes", defArgs s__law_plain_wishes, defBody s__law_plain_wishes, defScope s__law_plain_wishes, [], []⟩
def d__law_side_wishes : He.DefD := ⟨("_law_side_wishes", none), "_law_side_wishes", "_law_side_wishes", defArgs s__law_side_wishes, defBody s__law_side_wishes, defScope s__law_side_wishes, [], []⟩
def d__law_wishes : He.DefD := ⟨("_law_wishes", none), "_law_wishes", "_law_wishes", defArgs s__law_wishes, defBody s__law_wishes, defScope s__law_wishes, [], []⟩
def d__law_group : He.DefD := ⟨("_law_group", none), "_law_group", "_law_group", defArgs s__law_group, defBody s__law_group, defScope s__law_group, [], []⟩
def d__law_truth : He.DefD := ⟨("_law_truth", none), "_law_truth", "_law_truth", defArgs s__law_truth, defBody s__law_truth, defScope s__law_truth, [], []⟩
def d__law_turned : He.DefD := ⟨("_law_turned", none), "_law_turned", "_law_turned", defArgs s__law_turned, defBody s__law_turned, defScope s__law_turned, [], []⟩
def d_Group___eq__ : He.DefD := ⟨("Group", some "__eq__"), "__eq__", "Group.__eq__", defArgs s_Group___eq__, defBody s_Group___eq__, defScope s_Group___eq__, [], []⟩
def d_is_name : He.DefD := ⟨("is_name", none), "is_name", "is_name", defArgs s_is_name, defBody s_is_name, defScope s_is_name, [], []⟩
def d_BadPeople___init__ : He.DefD := ⟨("BadPeople", some "__init__"), "__init__", "BadPeople.__init__", defArgs s_BadPeople___init__, defBody s_BadPeople___init__, defScope s_BadPeople___init__, [], []⟩
def d_check_people : He.DefD := ⟨("check_people", none), "check_people", "check_people", defArgs s_check_people, defBody s_check_people, defScope s_check_people, [], []⟩
def d_fits_wishes : He.DefD := ⟨("fits_wishes", none), "fits_wishes", "fits_wishes", defArgs s_fits_wishes, defBody s_fits_wishes, defScope s_fits_wishes, [], []⟩
def d_same_keys : He.DefD := ⟨("same_keys", none), "same_keys", "same_keys", defArgs s_same_keys, defBody s_same_keys, defScope s_same_keys, [], []⟩
def d_BadWishes___init__ : He.DefD := ⟨("BadWishes", some "__init__"), "__init__", "BadWishes.__init__", defArgs s_BadWishes___init__, defBody s_BadWishes___init__, defScope s_BadWishes___init__, [], []⟩
def d_check_wishes : He.DefD := ⟨("check_wishes", none), "check_wishes", "check_wishes", defArgs s_check_wishes, defBody s_check_wishes, defScope s_check_wishes, [], []⟩
def d_Group___init__ : He.DefD := ⟨("Group", some "__init__"), "__init__", "Group.__init__", defArgs s_Group___init__, defBody s_Group___init__, defScope s_Group___init__, [], []⟩
def d_law : He.DefD := ⟨("law", none), "law", "law", defArgs s_law, defBody s_law, defScope s_law, [], []⟩
def fn : List He.DefD := [d__law_cell, d__law_copy, d__law_take, d__law_name, d__law_names, d__law_mixed, d__law_others, d__law_block_wishes, d__law_plain_wishes, d__law_side_wishes, d__law_wishes, d__law_group, d__law_truth, d__law_turned, d_Group___eq__, d_is_name, d_BadPeople___init__, d_check_people, d_fits_wishes, d_same_keys, d_BadWishes___init__, d_check_wishes, d_Group___init__, d_law]
def fa : List He.Fa := [He.Fa.free "abs", He.Fa.free "bool", He.Fa.free "dict", He.Fa.free "enumerate", He.Fa.free "int", He.Fa.free "isinstance", He.Fa.free "len", He.Fa.free "list", He.Fa.free "min", He.Fa.free "range", He.Fa.free "reversed", He.Fa.free "sorted", He.Fa.free "str", He.Fa.free "tuple", He.Fa.str "LETTERS" "abcdefghijklmnopqrstuvwxyz", He.Fa.int "MOST_PEOPLE" 16, He.Fa.glo "BadPeople", He.Fa.glo "BadWishes", He.Fa.glo "Group", He.Fa.glo "QuietError", He.Fa.glo "_law_cell", He.Fa.glo "_law_copy", He.Fa.glo "_law_take", He.Fa.glo "_law_name", He.Fa.glo "_law_names", He.Fa.glo "_law_mixed", He.Fa.glo "_law_others", He.Fa.glo "_law_block_wishes", He.Fa.glo "_law_plain_wishes", He.Fa.glo "_law_side_wishes", He.Fa.glo "_law_wishes", He.Fa.glo "_law_group", He.Fa.glo "_law_truth", He.Fa.glo "_law_turned", He.Fa.glo "is_name", He.Fa.glo "check_people", He.Fa.glo "fits_wishes", He.Fa.glo "same_keys", He.Fa.glo "check_wishes", He.Fa.glo "law", He.Fa.noat "BadPeople" "index", He.Fa.noat "BadWishes" "person", He.Fa.meth "BadPeople" "__init__", He.Fa.meth "BadWishes" "__init__", He.Fa.meth "Group" "__eq__", He.Fa.mkr "Group", He.Fa.cls "Group", He.Fa.noat "Group" "names", He.Fa.noat "Group" "lists", He.Fa.noat "Group" "mutual", He.Fa.noat "Group" "places"]
def ex : List (PySem.W.Frag → Bool) := [(fun K => qInitB K "QuietError"), (fun K => oexB K (He.ga K "BadPeople")), (fun K => decide (PySem.W.typeIn K (.ref (He.ma K (He.ga K "BadPeople") "__init__")) = some (.type "function"))), (fun K => oexB K (He.ga K "BadWishes")), (fun K => decide (PySem.W.typeIn K (.ref (He.ma K (He.ga K "BadWishes") "__init__")) = some (.type "function"))), (fun K => insB K (He.ga K "Group")), (fun K => decide (PySem.W.findIn K (.ref (He.ga K "Group")) "__ne__" = some (some (.builtin "object.__ne__")))), gisB]
abbrev R : PySem.W.OpenRow := PySem.W.OpenLaw.row PySem.Challenge.rw_quietpairs_k06_equal_groups
abbrev hk : PySem.W.Hook := hookX 5 ex fa fn
def ob (s : PySem.W.SharedT) : Bool × He.AlD := obsXG 5 ex fa fn (HandSHeadRun.getT s)
theorem ob_eq (s : PySem.W.SharedT) : ob s = hk.obs s.abs := obsXG_eq (HandSHeadRun.getT_eq s)
def loose : List Str := "_wall" :: "QuietError" :: "BadPeople" :: "BadWishes" :: "NoPerson" :: "LETTERS" :: "MOST_PEOPLE" :: "is_name" :: "same_keys" :: "fits_wishes" :: "check_people" :: "check_wishes" :: "Group" :: "_law_cell" :: "_law_take" :: "_law_name" :: "_law_names" :: "_law_mixed" :: "_law_others" :: "_law_block_wishes" :: "_law_side_wishes" :: "_law_plain_wishes" :: "_law_wishes" :: "_law_group" :: "_law_copy" :: "_law_turned" :: "_law_truth" :: []
theorem run (w : World) : HandSHeadRun.RunEq R (PySem.W.view R.prog [30]) hk ob 20000 loose w := by
  intro os
  kernel_rfl
theorem facts {P : Program} {w : World} {K : PySem.W.Frag} {h : Heap} {mg : Str → Option Value} {f : Addr} (X : K.In h) (G : h.Ns mainGlobals mg) (hfa : mg ("law" : Str) = some (.ref f)) (c : SaysX ex fa fn K) :
    ∃ fd : FuncData, (∀ (s : Shared) (v : Value), BindsTo s fd ⟨[v], []⟩ [("_law_script", v)]) ∧ ∀ base : Heap, K.In base → base.Ns mainGlobals mg → FnOk P w K mg base (L2.CX P w) 6 f fd ["_law_script"] (spLaw K) := by
  have T : Top K mg := ⟨He.free_ok X G (c.two.fact 0 (f := He.Fa.free "abs") rfl),
    He.free_ok X G (c.two.fact 1 (f := He.Fa.free "bool") rfl),
    He.free_ok X G (c.two.fact 2 (f := He.Fa.free "dict") rfl),
    He.free_ok X G (c.two.fact 3 (f := He.Fa.free "enumerate") rfl),
    He.free_ok X G (c.two.fact 4 (f := He.Fa.free "int") rfl),
    He.free_ok X G (c.two.fact 5 (f := He.Fa.free "isinstance") rfl),
    He.free_ok X G (c.two.fact 6 (f := He.Fa.free "len") rfl),
    He.free_ok X G (c.two.fact 7 (f := He.Fa.free "list") rfl),
    He.free_ok X G (c.two.fact 8 (f := He.Fa.free "min") rfl),
    He.free_ok X G (c.two.fact 9 (f := He.Fa.free "range") rfl),
    He.free_ok X G (c.two.fact 10 (f := He.Fa.free "reversed") rfl),
    He.free_ok X G (c.two.fact 11 (f := He.Fa.free "sorted") rfl),
    He.free_ok X G (c.two.fact 12 (f := He.Fa.free "str") rfl),
    He.free_ok X G (c.two.fact 13 (f := He.Fa.free "tuple") rfl),
    He.str_ok X G (c.two.fact 14 (f := He.Fa.str "LETTERS" "abcdefghijklmnopqrstuvwxyz") rfl),
    He.int_ok X G (c.two.fact 15 (f := He.Fa.int "MOST_PEOPLE" 16) rfl),
    He.glo_ok X G (c.two.fact 16 (f := He.Fa.glo "BadPeople") rfl),
    He.glo_ok X G (c.two.fact 17 (f := He.Fa.glo "BadWishes") rfl),
    He.glo_ok X G (c.two.fact 18 (f := He.Fa.glo "Group") rfl),
    He.glo_ok X G (c.two.fact 19 (f := He.Fa.glo "QuietError") rfl),
    He.glo_ok X G (c.two.fact 20 (f := He.Fa.glo "_law_cell") rfl),
    He.glo_ok X G (c.two.fact 21 (f := He.Fa.glo "_law_copy") rfl),
    He.glo_ok X G (c.two.fact 22 (f := He.Fa.glo "_law_take") rfl),
    He.glo_ok X G (c.two.fact 23 (f := He.Fa.glo "_law_name") rfl),
    He.glo_ok X G (c.two.fact 24 (f := He.Fa.glo "_law_names") rfl),
    He.glo_ok X G (c.two.fact 25 (f := He.Fa.glo "_law_mixed") rfl),
    He.glo_ok X G (c.two.fact 26 (f := He.Fa.glo "_law_others") rfl),
    He.glo_ok X G (c.two.fact 27 (f := He.Fa.glo "_law_block_wishes") rfl),
    He.glo_ok X G (c.two.fact 28 (f := He.Fa.glo "_law_plain_wishes") rfl),
    He.glo_ok X G (c.two.fact 29 (f := He.Fa.glo "_law_side_wishes") rfl),
    He.glo_ok X G (c.two.fact 30 (f := He.Fa.glo "_law_wishes") rfl),
    He.glo_ok X G (c.two.fact 31 (f := He.Fa.glo "_law_group") rfl),
    He.glo_ok X G (c.two.fact 32 (f := He.Fa.glo "_law_truth") rfl),
    He.glo_ok X G (c.two.fact 33 (f := He.Fa.glo "_law_turned") rfl),
    He.glo_ok X G (c.two.fact 34 (f := He.Fa.glo "is_name") rfl),
    He.glo_ok X G (c.two.fact 35 (f := He.Fa.glo "check_people") rfl),
    He.glo_ok X G (c.two.fact 36 (f := He.Fa.glo "fits_wishes") rfl),
    He.glo_ok X G (c.two.fact 37 (f := He.Fa.glo "same_keys") rfl),
    He.glo_ok X G (c.two.fact 38 (f := He.Fa.glo "check_wishes") rfl),
    He.glo_ok X G (c.two.fact 39 (f := He.Fa.glo "law") rfl),
    c.ex 0 (b := (fun K => qInitB K "QuietError")) rfl,
    He.noat_ok (c.two.fact 40 (f := He.Fa.noat "BadPeople" "index") rfl),
    He.noat_ok (c.two.fact 41 (f := He.Fa.noat "BadWishes" "person") rfl),
    oexB_ok (c.ex 1 (b := (fun K => oexB K (He.ga K "BadPeople"))) rfl),
    He.meth_ok (c.two.fact 42 (f := He.Fa.meth "BadPeople" "__init__") rfl),
    of_decide_eq_true (c.ex 2 (b := (fun K => decide (PySem.W.typeIn K (.ref (He.ma K (He.ga K "BadPeople") "__init__")) = some (.type "function")))) rfl),
    oexB_ok (c.ex 3 (b := (fun K => oexB K (He.ga K "BadWishes"))) rfl),
    He.meth_ok (c.two.fact 43 (f := He.Fa.meth "BadWishes" "__init__") rfl),
    of_decide_eq_true (c.ex 4 (b := (fun K => decide (PySem.W.typeIn K (.ref (He.ma K (He.ga K "BadWishes") "__init__")) = some (.type "function")))) rfl),
    He.meth_ok (c.two.fact 44 (f := He.Fa.meth "Group" "__eq__") rfl),
    He.mkr_ok (c.two.fact 45 (f := He.Fa.mkr "Group") rfl),
    ⟨He.cls_ok (c.two.fact 46 (f := He.Fa.cls "Group") rfl), He.noat_ok (c.two.fact 47 (f := He.Fa.noat "Group" "names") rfl), He.noat_ok (c.two.fact 48 (f := He.Fa.noat "Group" "lists") rfl), He.noat_ok (c.two.fact 49 (f := He.Fa.noat "Group" "mutual") rfl), He.noat_ok (c.two.fact 50 (f := He.Fa.noat "Group" "places") rfl), insB_ok (He.cls_ok (c.two.fact 46 (f := He.Fa.cls "Group") rfl)) (c.ex 5 (b := (fun K => insB K (He.ga K "Group"))) rfl)⟩,
    of_decide_eq_true (c.ex 6 (b := (fun K => decide (PySem.W.findIn K (.ref (He.ga K "Group")) "__ne__" = some (some (.builtin "object.__ne__"))))) rfl),
    gisB_ok (c.ex 7 (b := gisB) rfl)⟩
  obtain ⟨fd__law_cell, D__law_cell⟩ := c.two.def_ 0 (d := d__law_cell) rfl
  obtain ⟨fd__law_copy, D__law_copy⟩ := c.two.def_ 1 (d := d__law_copy) rfl
  obtain ⟨fd__law_take, D__law_take⟩ := c.two.def_ 2 (d := d__law_take) rfl
  obtain ⟨fd__law_name, D__law_name⟩ := c.two.def_ 3 (d := d__law_name) rfl
  obtain ⟨fd__law_names, D__law_names⟩ := c.two.def_ 4 (d := d__law_names) rfl
  obtain ⟨fd__law_mixed, D__law_mixed⟩ := c.two.def_ 5 (d := d__law_mixed) rfl
  obtain ⟨fd__law_others, D__law_others⟩ := c.two.def_ 6 (d := d__law_others) rfl
  obtain ⟨fd__law_block_wishes, D__law_block_wishes⟩ := c.two.def_ 7 (d := d__law_block_wishes) rfl
  obtain ⟨fd__law_plain_wishes, D__law_plain_wishes⟩ := c.two.def_ 8 (d := d__law_plain_wishes) rfl
  obtain ⟨fd__law_side_wishes, D__law_side_wishes⟩ := c.two.def_ 9 (d := d__law_side_wishes) rfl
  obtain ⟨fd__law_wishes, D__law_wishes⟩ := c.two.def_ 10 (d := d__law_wishes) rfl
  obtain ⟨fd__law_group, D__law_group⟩ := c.two.def_ 11 (d := d__law_group) rfl
  obtain ⟨fd__law_truth, D__law_truth⟩ := c.two.def_ 12 (d := d__law_truth) rfl
  obtain ⟨fd__law_turned, D__law_turned⟩ := c.two.def_ 13 (d := d__law_turned) rfl
  obtain ⟨fd_Group___eq__, D_Group___eq__⟩ := c.two.def_ 14 (d := d_Group___eq__) rfl
  obtain ⟨fd_is_name, D_is_name⟩ := c.two.def_ 15 (d := d_is_name) rfl
  obtain ⟨fd_BadPeople___init__, D_BadPeople___init__⟩ := c.two.def_ 16 (d := d_BadPeople___init__) rfl
  obtain ⟨fd_check_people, D_check_people⟩ := c.two.def_ 17 (d := d_check_people) rfl
  obtain ⟨fd_fits_wishes, D_fits_wishes⟩ := c.two.def_ 18 (d := d_fits_wishes) rfl
  obtain ⟨fd_same_keys, D_same_keys⟩ := c.two.def_ 19 (d := d_same_keys) rfl
  obtain ⟨fd_BadWishes___init__, D_BadWishes___init__⟩ := c.two.def_ 20 (d := d_BadWishes___init__) rfl
  obtain ⟨fd_check_wishes, D_check_wishes⟩ := c.two.def_ 21 (d := d_check_wishes) rfl
  obtain ⟨fd_Group___init__, D_Group___init__⟩ := c.two.def_ 22 (d := d_Group___init__) rfl
  obtain ⟨fd_law, D_law⟩ := c.two.def_ 23 (d := d_law) rfl
  have e := hfa.symm.trans T.g_law
  cases e
  have b := FunD.bindsA (ps := ["_law_script"]) D_law fun _ _ _ _ _ _ us hl => match us, hl with | [_], _ => rfl
  refine ⟨fd_law, fun s v => b s [v] rfl, fun base _ _ => ?_⟩
  have F__law_cell : Fn P w K mg base 1 "_law_cell" ["_law_script", "_law_k"] (sp__law_cell K) := ⟨_, _, T.g__law_cell, D__law_cell.kp, (FunD.bindsN (ps := ["_law_script", "_law_k"]) D__law_cell fun _ _ _ _ _ _ us hl => match us, hl with | [_, _], _ => rfl), (ok__law_cell T  D__law_cell)⟩
  have F__law_copy : Fn P w K mg base 1 "_law_copy" ["_law_wishes_here"] (sp__law_copy K) := ⟨_, _, T.g__law_copy, D__law_copy.kp, (FunD.bindsN (ps := ["_law_wishes_here"]) D__law_copy fun _ _ _ _ _ _ us hl => match us, hl with | [_], _ => rfl), (ok__law_copy T  D__law_copy)⟩
  have F__law_take : Fn P w K mg base 1 "_law_take" ["_law_state", "_law_many"] (sp__law_take K) := ⟨_, _, T.g__law_take, D__law_take.kp, (FunD.bindsN (ps := ["_law_state", "_law_many"]) D__law_take fun _ _ _ _ _ _ us hl => match us, hl with | [_, _], _ => rfl), (ok__law_take T  D__law_take)⟩
  have F__law_name : Fn P w K mg base 2 "_law_name" ["_law_state", "_law_taken"] (sp__law_name K) := ⟨_, _, T.g__law_name, D__law_name.kp, (FunD.bindsN (ps := ["_law_state", "_law_taken"]) D__law_name fun _ _ _ _ _ _ us hl => match us, hl with | [_, _], _ => rfl), (ok__law_name T F__law_take D__law_name)⟩
  have F__law_names : Fn P w K mg base 3 "_law_names" ["_law_state", "_law_many"] (sp__law_names K) := ⟨_, _, T.g__law_names, D__law_names.kp, (FunD.bindsN (ps := ["_law_state", "_law_many"]) D__law_names fun _ _ _ _ _ _ us hl => match us, hl with | [_, _], _ => rfl), (ok__law_names T F__law_name D__law_names)⟩
  have F__law_mixed : Fn P w K mg base 2 "_law_mixed" ["_law_state", "_law_items"] (sp__law_mixed K) := ⟨_, _, T.g__law_mixed, D__law_mixed.kp, (FunD.bindsN (ps := ["_law_state", "_law_items"]) D__law_mixed fun _ _ _ _ _ _ us hl => match us, hl with | [_, _], _ => rfl), (ok__law_mixed T F__law_take D__law_mixed)⟩
  have F__law_others : Fn P w K mg base 1 "_law_others" ["_law_names_here", "_law_a"] (sp__law_others K) := ⟨_, _, T.g__law_others, D__law_others.kp, (FunD.bindsN (ps := ["_law_names_here", "_law_a"]) D__law_others fun _ _ _ _ _ _ us hl => match us, hl with | [_, _], _ => rfl), (ok__law_others T  D__law_others)⟩
  have F__law_block_wishes : Fn P w K mg base 3 "_law_block_wishes" ["_law_state", "_law_names_here"] (sp__law_block_wishes K) := ⟨_, _, T.g__law_block_wishes, D__law_block_wishes.kp, (FunD.bindsN (ps := ["_law_state", "_law_names_here"]) D__law_block_wishes fun _ _ _ _ _ _ us hl => match us, hl with | [_, _], _ => rfl), (ok__law_block_wishes T F__law_mixed F__law_others F__law_take D__law_block_wishes)⟩
  have F__law_plain_wishes : Fn P w K mg base 3 "_law_plain_wishes" ["_law_state", "_law_names_here", "_law_mode"] (sp__law_plain_wishes K) := ⟨_, _, T.g__law_plain_wishes, D__law_plain_wishes.kp, (FunD.bindsN (ps := ["_law_state", "_law_names_here", "_law_mode"]) D__law_plain_wishes fun _ _ _ _ _ _ us hl => match us, hl with | [_, _, _], _ => rfl), (ok__law_plain_wishes T F__law_mixed F__law_take D__law_plain_wishes)⟩
  have F__law_side_wishes : Fn P w K mg base 3 "_law_side_wishes" ["_law_state", "_law_names_here"] (sp__law_side_wishes K) := ⟨_, _, T.g__law_side_wishes, D__law_side_wishes.kp, (FunD.bindsN (ps := ["_law_state", "_law_names_here"]) D__law_side_wishes fun _ _ _ _ _ _ us hl => match us, hl with | [_, _], _ => rfl), (ok__law_side_wishes T F__law_mixed F__law_take D__law_side_wishes)⟩
  have F__law_wishes : Fn P w K mg base 4 "_law_wishes" ["_law_state", "_law_names_here"] (sp__law_wishes K) := ⟨_, _, T.g__law_wishes, D__law_wishes.kp, (FunD.bindsN (ps := ["_law_state", "_law_names_here"]) D__law_wishes fun _ _ _ _ _ _ us hl => match us, hl with | [_, _], _ => rfl), (ok__law_wishes T F__law_block_wishes F__law_plain_wishes F__law_side_wishes F__law_take D__law_wishes)⟩
  have F__law_group : Fn P w K mg base 5 "_law_group" ["_law_state", "_law_top"] (sp__law_group K) := ⟨_, _, T.g__law_group, D__law_group.kp, (FunD.bindsN (ps := ["_law_state", "_law_top"]) D__law_group fun _ _ _ _ _ _ us hl => match us, hl with | [_, _], _ => rfl), (ok__law_group T F__law_names F__law_take F__law_wishes D__law_group)⟩
  have F__law_truth : Fn P w K mg base 1 "_law_truth" ["_law_actual", "_law_due"] (sp__law_truth K) := ⟨_, _, T.g__law_truth, D__law_truth.kp, (FunD.bindsN (ps := ["_law_actual", "_law_due"]) D__law_truth fun _ _ _ _ _ _ us hl => match us, hl with | [_, _], _ => rfl), (ok__law_truth T  D__law_truth)⟩
  have F__law_turned : Fn P w K mg base 1 "_law_turned" ["_law_x"] (sp__law_turned K) := ⟨_, _, T.g__law_turned, D__law_turned.kp, (FunD.bindsN (ps := ["_law_x"]) D__law_turned fun _ _ _ _ _ _ us hl => match us, hl with | [_], _ => rfl), (ok__law_turned T  D__law_turned)⟩
  have M_Group___eq__ : Mt P w K mg base 1 "Group" "__eq__" ["self", "other"] (sp_Group___eq__ K) := ⟨_, _, T.gk.cl, T.me_Group___eq__, (FunD.bindsN (ps := ["self", "other"]) D_Group___eq__ fun _ _ _ _ _ _ us hl => match us, hl with | [_, _], _ => rfl), (ok_Group___eq__ T  D_Group___eq__)⟩
  have F_is_name : Fn P w K mg base 1 "is_name" ["value"] (sp_is_name K) := ⟨_, _, T.g_is_name, D_is_name.kp, (FunD.bindsN (ps := ["value"]) D_is_name fun _ _ _ _ _ _ us hl => match us, hl with | [_], _ => rfl), (ok_is_name T  D_is_name)⟩
  have Z_BadPeople : ErC P w K mg base "BadPeople" ["self", "index"] (spI1 K (He.ga K "BadPeople") "index") := ⟨_, _, T.g_BadPeople, T.ox_BadPeople, T.mi_BadPeople.at_, T.ti_BadPeople, (FunD.bindsN (ps := ["self", "index"]) D_BadPeople___init__ fun _ _ _ _ _ _ us hl => match us, hl with | [_, _], _ => rfl), (ok_BadPeople___init__ T  D_BadPeople___init__)⟩
  have F_check_people : Fn P w K mg base 3 "check_people" ["people"] (sp_check_people K) := ⟨_, _, T.g_check_people, D_check_people.kp, (FunD.bindsN (ps := ["people"]) D_check_people fun _ _ _ _ _ _ us hl => match us, hl with | [_], _ => rfl), (ok_check_people T F_is_name Z_BadPeople D_check_people)⟩
  have F_fits_wishes : Fn P w K mg base 1 "fits_wishes" ["value", "people", "person"] (sp_fits_wishes K) := ⟨_, _, T.g_fits_wishes, D_fits_wishes.kp, (FunD.bindsN (ps := ["value", "people", "person"]) D_fits_wishes fun _ _ _ _ _ _ us hl => match us, hl with | [_, _, _], _ => rfl), (ok_fits_wishes T  D_fits_wishes)⟩
  have F_same_keys : Fn P w K mg base 1 "same_keys" ["value", "people"] (sp_same_keys K) := ⟨_, _, T.g_same_keys, D_same_keys.kp, (FunD.bindsN (ps := ["value", "people"]) D_same_keys fun _ _ _ _ _ _ us hl => match us, hl with | [_, _], _ => rfl), (ok_same_keys T  D_same_keys)⟩
  have Z_BadWishes : ErC P w K mg base "BadWishes" ["self", "person"] (spI1 K (He.ga K "BadWishes") "person") := ⟨_, _, T.g_BadWishes, T.ox_BadWishes, T.mi_BadWishes.at_, T.ti_BadWishes, (FunD.bindsN (ps := ["self", "person"]) D_BadWishes___init__ fun _ _ _ _ _ _ us hl => match us, hl with | [_, _], _ => rfl), (ok_BadWishes___init__ T  D_BadWishes___init__)⟩
  have F_check_wishes : Fn P w K mg base 3 "check_wishes" ["people", "wishes"] (sp_check_wishes K) := ⟨_, _, T.g_check_wishes, D_check_wishes.kp, (FunD.bindsN (ps := ["people", "wishes"]) D_check_wishes fun _ _ _ _ _ _ us hl => match us, hl with | [_, _], _ => rfl), (ok_check_wishes T F_fits_wishes F_same_keys Z_BadWishes D_check_wishes)⟩
  have X_Group : Mkr P w K mg base 4 "Group" ["self", "people", "wishes"] (sp_Group___init__ K) := ⟨_, _, T.g_Group, T.mk_Group, (FunD.bindsN (ps := ["self", "people", "wishes"]) D_Group___init__ fun _ _ _ _ _ _ us hl => match us, hl with | [_, _, _], _ => rfl), (ok_Group___init__ T F_check_people F_check_wishes D_Group___init__)⟩
  exact (ok_law T F__law_cell F__law_copy F__law_group F__law_name F__law_take F__law_truth F__law_turned M_Group___eq__ X_Group D_law)
end Hd
open PySem PySem.W PySem.Calls PyProof.Rows
theorem PySem.Challenge.cw_quietpairs_k06_equal_groups_holds : PySem.Challenge.rw_quietpairs_k06_equal_groups.Holds := by
  w_on; o_law
  refine HandSHeadRun.head_any (r := OpenLaw.row PySem.Challenge.rw_quietpairs_k06_equal_groups) (q := view (OpenLaw.row PySem.Challenge.rw_quietpairs_k06_equal_groups).prog [30]) (H := Hd.hk) (ob := Hd.ob) (M := 20000) (loose := Hd.loose) (d := HandSHeadRun.topDef (OpenLaw.row PySem.Challenge.rw_quietpairs_k06_equal_groups).prog 30) (kwd := []) Hd.ob_eq
    (by kernel_rfl) (fun s => by kernel_rfl) Hd.run (by kernel_rfl) (by kernel_rfl) (by kernel_rfl) (by rfl) (by first | assumption | decide +kernel) (by decide +kernel) ⟨rfl, rfl, rfl, rfl, rfl, by decide +kernel⟩ ?hw ?hc
  case hw => w_witness2
  case hc =>
    refine L2.walk_ofE (l := PySem.Challenge.rw_quietpairs_k06_equal_groups) (n := 63) (k := 6) (x := "_law_script") (CX := Q.CXE (PySem.Challenge.rw_quietpairs_k06_equal_groups).prog) rfl (by decide) (by kernel_rfl) ⟨rfl, by decide, by decide⟩ ?F Q.cxe_no
    intro w mg fa h Y G hmg0
    obtain ⟨K, KX, c⟩ := Y
    have hmg : mg ("law" : PySem.Str) = some (.ref fa) := by
      have e : (HandSHeadRun.topDef (OpenLaw.row PySem.Challenge.rw_quietpairs_k06_equal_groups).prog 30).name = ("law" : PySem.Str) := by kernel_rfl
      rw [← e]
      exact hmg0
    obtain ⟨fd, hb, hF⟩ := Hd.facts (P := (PySem.Challenge.rw_quietpairs_k06_equal_groups).prog) (w := w) KX G hmg c
    exact ⟨K, fd, Q.spLaw K, KX, hb, fun H a ns hl _ hS => ⟨a, ns, rfl, hl, hS, fun _ => rfl⟩, fun base h1 h2 => Q.fnok_cxe (hF base h1 h2)⟩
