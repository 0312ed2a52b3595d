import PyProof.Rows.All
import Wide.All
import OpenK.AllK
import Wide.FinOn
import KE.KStateDown
import HandS.ForMost
import HandS.Exc
import HandS.TryOnly
import HandS.ExcOwn
import HandS.ExcInit
import HandS.ExcField
import HandS.More
import HandS.WordsExc
import HandS.IsInst
import HandS.Defaults
import HandS.DictComp
import HandS.Flow
import HandS.Head0
import HandS.Head1
import HandS.Head2
import HandS.HeadEnd
import HandS.HeadHook1
import HandS.HeadHook2
import HandS.Steps
import HandS.Walk
import HandS.Wide
import KE.GoesMore
import KE.GoesEnum
import HandS.HeadNt
import HandS.Property
import PySem.Challenge.RW_quietpairs_k03_a_group_keeps_copies
import HandS.SortRule
import OpenK.KMeth
import OpenK.KOps
import HandS.OwnEq
import HandS.DeepEq
import HandS.TryMany
import KE.KEqDict
import PyProof.InstNe
import HandS.Conv
import HandS.Iter
import PyProof.EqKinds
import PyProof.FactsAll.subtypes_3
import PyProof.FactsAll.subtypes_4
import HandS.MakeKwOnly
import PyProof.NeKinds
import PyProof.FactsAll.dict_2
import PyProof.FactsAll.str_2
import PyProof.ExcBaseAll.ValueError
import HandS.TupLe
import HandS.Text
import HandS.DictEq
import KE.KExcIs
import HandS.CallSlots
import HandS.Finally
import KE.DataFind
import PyProof.Rows.StrSplitJoin
import HandS.Style
import HandS.IterNext
import KE.KOwnIter
set_option Elab.async false
set_option linter.all false
set_option maxRecDepth 100000
set_option maxHeartbeats 4000000
namespace Q
open PySem PySem.Spec PyProof.Rows L2

/-! ### data as trees, and how a heap shows them -/
inductive D where
  | non | bl (b : Bool) | int (i : Int) | str (x : Str)
  | lst (xs : List D) | tup (xs : List D) | dct (kvs : List (Key × D)) | obj (a C : Addr)
/-- what the written part says of a class whose instances are asked by isinstance -/
structure InsK (K : PySem.W.Frag) (C : Addr) : Prop where
  cl : Cls K C
  ha : PySem.W.findIn K (.ref C) "__class__" = some (some (.builtin "object.__class__"))
  hn : PySem.W.specialIn K (.builtin "object.__class__") "__get__" = some (some (.builtin "getset_descriptor.__get__"))
  tk : PySem.W.takesIn K (.builtin "object.__class__") = some true
  mo : PySem.W.mroIn K C (.type "object") = some true
  no : ∀ T ∈ (["str", "int", "bool", "list", "tuple", "dict"] : List String), PySem.W.kitOne K (.ref C) (.type T) = some false
def insB (K : PySem.W.Frag) (C : Addr) : Bool := decide (PySem.W.findIn K (.ref C) "__class__" = some (some (.builtin "object.__class__"))) && (decide (PySem.W.specialIn K (.builtin "object.__class__") "__get__" = some (some (.builtin "getset_descriptor.__get__"))) &&
  (decide (PySem.W.takesIn K (.builtin "object.__class__") = some true) && (decide (PySem.W.mroIn K C (.type "object") = some true) && (["str", "int", "bool", "list", "tuple", "dict"] : List String).all fun T => decide (PySem.W.kitOne K (.ref C) (.type T) = some false))))
theorem insB_ok {K : PySem.W.Frag} {C : Addr} (c : Cls K C) (h : insB K C = true) : InsK K C := by
  obtain ⟨h1, h⟩ := Bool.and_eq_true_iff.mp h
  obtain ⟨h2, h⟩ := Bool.and_eq_true_iff.mp h
  obtain ⟨h3, h⟩ := Bool.and_eq_true_iff.mp h
  obtain ⟨h4, h5⟩ := Bool.and_eq_true_iff.mp h
  exact ⟨c, of_decide_eq_true h1, of_decide_eq_true h2, of_decide_eq_true h3, of_decide_eq_true h4, fun T m => of_decide_eq_true (List.all_eq_true.mp h5 T m)⟩
mutual
inductive Rep (K : PySem.W.Frag) (B : Hp) : V → D → Prop
  | non : Rep K B .non .non
  | bl (b : Bool) : Rep K B (.bl b) (.bl b)
  | int (i : Int) : Rep K B (.int i) (.int i)
  | str {x : Str} : x.length ≤ 1000000 → Rep K B (.str x) (.str x)
  | lst {a : Addr} {xs : List V} {ds : List D} : B a = some (.lst xs) → xs.length ≤ 100000 → Reps K B xs ds → Rep K B (.ref a) (.lst ds)
  | tup {a : Addr} {xs : List V} {ds : List D} : B a = some (.tup xs) → Reps K B xs ds → Rep K B (.ref a) (.tup ds)
  | dct {a : Addr} {xs : List (Key × V)} {ds : List (Key × D)} : B a = some (.dK xs) → RepK K B xs ds → Rep K B (.ref a) (.dct ds)
  | obj {a C dx : Addr} {fs : List (Str × V)} : B a = some (.ins C dx fs) → InsK K C → Rep K B (.ref a) (.obj a C)
inductive Reps (K : PySem.W.Frag) (B : Hp) : List V → List D → Prop
  | nil : Reps K B [] []
  | cons {v : V} {vs : List V} {d : D} {ds : List D} : Rep K B v d → Reps K B vs ds → Reps K B (v :: vs) (d :: ds)
inductive RepK (K : PySem.W.Frag) (B : Hp) : List (Key × V) → List (Key × D) → Prop
  | nil : RepK K B [] []
  | cons {k : Key} {v : V} {vs : List (Key × V)} {d : D} {ds : List (Key × D)} : Rep K B v d → RepK K B vs ds → RepK K B ((k, v) :: vs) ((k, d) :: ds)
end
section
variable {K : PySem.W.Frag}
mutual
theorem Rep.mono {B B' : Hp} (s : Same B B') : ∀ {v : V} {d : D}, Rep K B v d → Rep K B' v d
  | _, _, .non => .non
  | _, _, .bl b => .bl b
  | _, _, .int i => .int i
  | _, _, .str h => .str h
  | _, _, .lst h z r => .lst (s _ _ h) z (Reps.mono s r)
  | _, _, .tup h r => .tup (s _ _ h) (Reps.mono s r)
  | _, _, .dct h r => .dct (s _ _ h) (RepK.mono s r)
  | _, _, .obj h i => .obj (s _ _ h) i
theorem Reps.mono {B B' : Hp} (s : Same B B') : ∀ {v : List V} {d : List D}, Reps K B v d → Reps K B' v d
  | _, _, .nil => .nil
  | _, _, .cons h r => .cons (Rep.mono s h) (Reps.mono s r)
theorem RepK.mono {B B' : Hp} (s : Same B B') : ∀ {v : List (Key × V)} {d : List (Key × D)}, RepK K B v d → RepK K B' v d
  | _, _, .nil => .nil
  | _, _, .cons h r => .cons (Rep.mono s h) (RepK.mono s r)
end
theorem Reps.length {B : Hp} : ∀ {v : List V} {d : List D}, Reps K B v d → v.length = d.length
  | _, _, .nil => rfl
  | _, _, .cons _ r => by simp [Reps.length r]
theorem RepK.length {B : Hp} : ∀ {v : List (Key × V)} {d : List (Key × D)}, RepK K B v d → v.length = d.length
  | _, _, .nil => rfl
  | _, _, .cons _ r => by simp [RepK.length r]
theorem Reps.get {B : Hp} : ∀ {vs : List V} {ds : List D} {i : Nat} {v : V}, Reps K B vs ds → vs[i]? = some v → ∃ d, ds[i]? = some d ∧ Rep K B v d
  | _, _, _, _, .nil, e => by simp at e
  | _, _, 0, _, .cons h _, e => by simp at e; subst e; exact ⟨_, rfl, h⟩
  | _, _, i + 1, v, .cons _ r, e => by
    obtain ⟨d, h1, h2⟩ := Reps.get (i := i) (v := v) r (by simpa using e)
    exact ⟨d, by simpa using h1, h2⟩
theorem Reps.append {B : Hp} : ∀ {vs ws : List V} {ds es : List D}, Reps K B vs ds → Reps K B ws es → Reps K B (vs ++ ws) (ds ++ es)
  | _, _, _, _, .nil, s => s
  | _, _, _, _, .cons h r, s => .cons h (Reps.append r s)
theorem Reps.set {B : Hp} {v : V} {d : D} (h : Rep K B v d) : ∀ {vs : List V} {ds : List D} (i : Nat), Reps K B vs ds → Reps K B (vs.set i v) (ds.set i d)
  | _, _, _, .nil => .nil
  | _, _, 0, .cons _ r => .cons h r
  | _, _, i + 1, .cons q r => .cons q (Reps.set h i r)
theorem reps_str {B : Hp} : ∀ {xs : List Str}, (∀ x ∈ xs, x.length ≤ 1000000) → Reps K B (xs.map V.str) (xs.map D.str)
  | [], _ => .nil
  | x :: r, h => .cons (.str (h x List.mem_cons_self)) (reps_str fun y m => h y (List.mem_cons_of_mem _ m))
def D.strs (xs : List Str) : D := .lst (xs.map .str)
theorem rep_strs {B : Hp} {a : Addr} {xs : List Str} (hx : ∀ x ∈ xs, x.length ≤ 1000000) (hz : xs.length ≤ 100000) (h : B a = some (.lst (xs.map V.str))) : Rep K B (.ref a) (D.strs xs) := .lst h (by rw [List.length_map]; exact hz) (reps_str hx)
end

/-! ### the frame: B what stands still, H what stands, M what may still change (its own things; S: handed in) -/
structure HS (S : List Addr) (B0 H0 B H : Hp) (M : List (Addr × HO)) : Prop where
  bb : Same B0 B
  bh : Same B H
  fr : ∀ b o, b ∉ S → B0 b = none → H0 b = some o → B b = none ∧ H b = some o
  mu : ∀ p ∈ M, B p.1 = none ∧ H p.1 = some p.2 ∧ (H0 p.1 = none ∨ p.1 ∈ S)
  nd : (M.map (·.1)).Nodup
section
variable {S : List Addr} {B0 H0 B H B' H' : Hp} {M M' : List (Addr × HO)} {p : Addr} {o o' : HO}
theorem HS.start (h : Same B H) : HS [] B H B H [] := ⟨Same.refl _, h, fun _ _ _ a b => ⟨a, b⟩, fun _ z => (nomatch z), List.nodup_nil⟩
theorem HS.startS (h : Same B H) (hb : B p = none) (hp : H p = some o) : HS [p] B H B H [(p, o)] :=
  ⟨Same.refl _, h, fun _ _ _ a b => ⟨a, b⟩, fun q z => by
    have e : q = (p, o) := by simpa using z
    subst e
    exact ⟨hb, hp, .inr (by simp)⟩, by simp⟩
theorem HS.get (h : HS S B0 H0 B H M) (m : (p, o) ∈ M) : H p = some o := (h.mu _ m).2.1
theorem HS.up (h : HS S B0 H0 B H M) {a : Addr} {u : HO} (e : B a = some u) : H a = some u := h.bh _ _ e
theorem HS.len {B0' : Hp} (h : HS S B0 H0 B H M) (s : Same B0' B0) : Same B0' B := s.trans h.bb
theorem same_none {A B : Hp} (s : Same A B) {a : Addr} (h : B a = none) : A a = none := Same.free s h
/-- a new thing that may change -/
theorem HS.new (h : HS S B0 H0 B H M) (hp : H p = none) : HS S B0 H0 B (upd H p o) ((p, o) :: M) := by
  have hB : B p = none := same_none h.bh hp
  refine ⟨h.bb, fun b u e => ?_, fun b u n1 n2 e => ?_, fun q m => ?_, ?_⟩
  · rw [upd_ne (ne_of_none (h.bh _ _ e) hp)]; exact h.bh _ _ e
  · obtain ⟨x, y⟩ := h.fr b u n1 n2 e
    exact ⟨x, by rw [upd_ne (ne_of_none y hp)]; exact y⟩
  · rcases List.mem_cons.mp m with rfl | m
    · refine ⟨hB, upd_same, ?_⟩
      by_cases hs : p ∈ S
      · exact .inr hs
      · left
        cases q : H0 p with
        | none => rfl
        | some u =>
          cases qb : B0 p with
          | some w => rw [h.bh _ _ (h.bb _ _ qb)] at hp; cases hp
          | none => rw [(h.fr p u hs qb q).2] at hp; cases hp
    · obtain ⟨x, y, z⟩ := h.mu q m
      exact ⟨x, by rw [upd_ne (ne_of_none y hp)]; exact y, z⟩
  · rw [List.map_cons, List.nodup_cons]
    refine ⟨fun z => ?_, h.nd⟩
    obtain ⟨q, m, e⟩ := List.mem_map.mp z
    obtain ⟨_, y, _⟩ := h.mu q m
    rw [e, hp] at y; cases y
/-- it is changed -/
def setM (p : Addr) (o : HO) : List (Addr × HO) → List (Addr × HO)
  | [] => []
  | (q, u) :: r => if q = p then (q, o) :: r else (q, u) :: setM p o r
theorem setM_map (p : Addr) (o : HO) : ∀ M : List (Addr × HO), (setM p o M).map (·.1) = M.map (·.1)
  | [] => rfl
  | (q, u) :: r => by
    unfold setM
    by_cases e : q = p
    · rw [if_pos e]; rfl
    · rw [if_neg e, List.map_cons, List.map_cons, setM_map p o r]
theorem mem_setM {p : Addr} {o : HO} {x : Addr × HO} : ∀ {M : List (Addr × HO)}, (M.map (·.1)).Nodup → x ∈ setM p o M → (x = (p, o) ∧ ∃ u, (p, u) ∈ M) ∨ (x.1 ≠ p ∧ x ∈ M)
  | [], _, h => nomatch h
  | (q, u) :: r, nd, h => by
    unfold setM at h
    rw [List.map_cons, List.nodup_cons] at nd
    by_cases e : q = p
    · rw [if_pos e] at h
      rcases List.mem_cons.mp h with rfl | h
      · exact .inl ⟨by rw [e], u, by rw [e]; exact List.mem_cons_self⟩
      · refine .inr ⟨fun z => nd.1 (List.mem_map.mpr ⟨x, h, z.trans e.symm⟩), List.mem_cons_of_mem _ h⟩
    · rw [if_neg e] at h
      rcases List.mem_cons.mp h with rfl | h
      · exact .inr ⟨e, List.mem_cons_self⟩
      · rcases mem_setM nd.2 h with ⟨a, u', b⟩ | ⟨a, b⟩
        · exact .inl ⟨a, u', List.mem_cons_of_mem _ b⟩
        · exact .inr ⟨a, List.mem_cons_of_mem _ b⟩
theorem HS.set (h : HS S B0 H0 B H M) (m : (p, o) ∈ M) : HS S B0 H0 B (upd H p o') (setM p o' M) := by
  obtain ⟨hB, hH, hs⟩ := h.mu _ m
  dsimp only at hB hH hs
  refine ⟨h.bb, fun b u e => ?_, fun b u n1 n2 e => ?_, fun q mq => ?_, by rw [setM_map]; exact h.nd⟩
  · rw [upd_ne (ne_of_none e hB)]; exact h.bh _ _ e
  · obtain ⟨x, y⟩ := h.fr b u n1 n2 e
    refine ⟨x, ?_⟩
    have : b ≠ p := fun z => by
      subst z
      rcases hs with k | k
      · rw [k] at e; cases e
      · exact n1 k
    rw [upd_ne this]; exact y
  · rcases mem_setM h.nd mq with ⟨rfl, _⟩ | ⟨a, b⟩
    · exact ⟨hB, upd_same, hs⟩
    · obtain ⟨x, y, z⟩ := h.mu q b
      exact ⟨x, by rw [upd_ne a]; exact y, z⟩
theorem HS.set0 (h : HS S B0 H0 B H ((p, o) :: M)) : HS S B0 H0 B (upd H p o') ((p, o') :: M) := by
  have q := h.set (o' := o') (p := p) (o := o) List.mem_cons_self
  unfold setM at q
  rw [if_pos rfl] at q
  exact q
/-- it stands still from now on -/
theorem HS.freeze (h : HS S B0 H0 B H ((p, o) :: M)) (h0 : H0 p = none) : HS S B0 H0 (upd B p o) H M ∧ Same B (upd B p o) := by
  obtain ⟨hB, hH, hs⟩ := h.mu (p, o) List.mem_cons_self
  dsimp only at hB hH hs
  have nd := h.nd
  rw [List.map_cons, List.nodup_cons] at nd
  have sB : Same B (upd B p o) := fun b u e => by rw [upd_ne (ne_of_none e hB)]; exact e
  refine ⟨⟨h.bb.trans sB, fun b u e => ?_, fun b u n1 n2 e => ?_, fun q m => ?_, nd.2⟩, sB⟩
  · by_cases z : b = p
    · subst z; rw [upd_same] at e; cases e; exact hH
    · rw [upd_ne z] at e; exact h.bh _ _ e
  · obtain ⟨x, y⟩ := h.fr b u n1 n2 e
    refine ⟨?_, y⟩
    have : b ≠ p := fun z => by subst z; rw [h0] at e; cases e
    rw [upd_ne this]; exact x
  · obtain ⟨x, y, z⟩ := h.mu q (List.mem_cons_of_mem _ m)
    have : q.1 ≠ p := fun e => nd.1 (List.mem_map.mpr ⟨q, m, e⟩)
    exact ⟨by rw [upd_ne this]; exact x, y, z⟩
theorem HS.drop (h : HS S B0 H0 B H ((p, o) :: M)) : HS S B0 H0 B H M :=
  ⟨h.bb, h.bh, h.fr, fun q m => h.mu q (List.mem_cons_of_mem _ m), by have nd := h.nd; rw [List.map_cons, List.nodup_cons] at nd; exact nd.2⟩
theorem HS.swap {q : Addr} {u : HO} (h : HS S B0 H0 B H ((p, o) :: (q, u) :: M)) : HS S B0 H0 B H ((q, u) :: (p, o) :: M) :=
  ⟨h.bb, h.bh, h.fr, fun x m => h.mu x (by
    rcases List.mem_cons.mp m with rfl | m
    · exact List.mem_cons_of_mem _ List.mem_cons_self
    · rcases List.mem_cons.mp m with rfl | m
      · exact List.mem_cons_self
      · exact List.mem_cons_of_mem _ (List.mem_cons_of_mem _ m)), by
    have nd := h.nd
    simp only [List.map_cons, List.nodup_cons, List.mem_cons, not_or] at nd ⊢
    exact ⟨⟨fun e => nd.1.1 e.symm, nd.2.1⟩, nd.1.2, nd.2.2⟩⟩
theorem HS.all (h : HS S B0 H0 B H M) : HS S B0 H0 B H [] := ⟨h.bb, h.bh, h.fr, fun _ z => (nomatch z), List.nodup_nil⟩
/-- a call that changes nothing that stood -/
theorem HS.call (h : HS S B0 H0 B H M) (c : HS [] B H B' H' []) : HS S B0 H0 B' H' M := by
  refine ⟨h.bb.trans c.bb, c.bh, fun b u n1 n2 e => ?_, fun q m => ?_, h.nd⟩
  · obtain ⟨x, y⟩ := h.fr b u n1 n2 e
    exact c.fr b u (by simp) x y
  · obtain ⟨x, y, z⟩ := h.mu q m
    obtain ⟨x', y'⟩ := c.fr q.1 q.2 (by simp) x y
    exact ⟨x', y', z⟩
/-- a call that changes the first of what may change -/
theorem HS.call1 (h : HS S B0 H0 B H ((p, o) :: M)) (c : HS [p] B H B' H' [(p, o')]) : HS S B0 H0 B' H' ((p, o') :: M) := by
  have nd := h.nd
  rw [List.map_cons, List.nodup_cons] at nd
  obtain ⟨hB, hH, hs⟩ := h.mu (p, o) List.mem_cons_self
  dsimp only at hB hH hs
  obtain ⟨c1, c2, _⟩ := c.mu (p, o') List.mem_cons_self
  dsimp only at c1 c2
  refine ⟨h.bb.trans c.bb, c.bh, fun b u n1 n2 e => ?_, fun q m => ?_, by rw [List.map_cons, List.nodup_cons]; exact nd⟩
  · obtain ⟨x, y⟩ := h.fr b u n1 n2 e
    have : b ≠ p := fun z => by
      subst z
      rcases hs with k | k
      · rw [k] at e; cases e
      · exact n1 k
    exact c.fr b u (by simpa using this) x y
  · rcases List.mem_cons.mp m with rfl | m
    · exact ⟨c1, c2, hs⟩
    · obtain ⟨x, y, z⟩ := h.mu q (List.mem_cons_of_mem _ m)
      have : q.1 ≠ p := fun e => nd.1 (List.mem_map.mpr ⟨q, m, e⟩)
      obtain ⟨x', y'⟩ := c.fr q.1 q.2 (by simpa using this) x y
      exact ⟨x', y', z⟩
end
/-- what a def promises where it comes back: R of the value in what stands still; where it raises: the class's name and the error's fields -/
def Ret (B H : Hp) (Qv : VK) (R : Hp → V → Prop) : Prop := ∀ B' H' v, HS [] B H B' H' [] → R B' v → Qv v H'
def Thr (K : PySem.W.Frag) (B H : Hp) (E : XK) (c : Str) (fs : List (Str × V)) : Prop := ∀ B' H' d, HS [] B H B' H' [] → B' d = none → H' d = some (.xd fs) → E (.ref (He.ga K c)) (some d) H'
def Thr0 (K : PySem.W.Frag) (B H : Hp) (E : XK) (c : Str) : Prop := ∀ B' H', HS [] B H B' H' [] → E (.ref (He.ga K c)) none H'
end Q

set_option Elab.async false
set_option linter.all false
set_option maxRecDepth 100000
set_option maxHeartbeats 4000000
namespace Q
open PySem PySem.Spec PyProof.Rows L2
/-! ### calls whose errors are wished for at the caller's slots -/
def tCl (sp : Sp) (W : WX) (t : TA) : TE := fun σ H Q => t σ H fun vs H1 => sp vs H1 Q fun c d H' => W c d σ H'
def tMt (C : Addr) (m : Str) (sp : Sp) (W : WX) (ta : TE) (t : TA) : TE := fun σ H Q => ta σ H fun x H1 => ∃ a dx fs, x = .ref a ∧ H1 a = some (.ins C dx fs) ∧ fs.lookup m = none ∧
  t σ H1 fun vs H2 => sp (x :: vs) H2 Q fun c d H' => W c d σ H'
def tMk (C : Addr) (sp : Sp) (W : WX) (t : TA) : TE := fun σ H Q => t σ H fun vs H1 => ∀ x dx, H1 x = none → H1 dx = none → dx ≠ x →
  sp (.ref x :: vs) (upd (upd H1 dx (.own x)) x (.ins C dx [])) (fun v H2 => v = .non ∧ Q (.ref x) H2) fun c d H' => W c d σ H'
/-- a def of the module by its name -/
def Fn (P : Program) (w : World) (K : PySem.W.Frag) (mg : Str → Option Value) (base : Heap) (k : Nat) (x : Str) (ps : List Str) (sp : Sp) : Prop :=
  ∃ f fd, mg x = some (.ref f) ∧ PySem.W.keepIn K (.ref f) = true ∧ Binds K fd ps [] ∧ FnOk P w K mg base (L2.CX P w) k f fd ps sp
/-- a method of a class of the module -/
def Mt (P : Program) (w : World) (K : PySem.W.Frag) (mg : Str → Option Value) (base : Heap) (k : Nat) (c m : Str) (ps : List Str) (sp : Sp) : Prop :=
  ∃ f fd, Cls K (He.ga K c) ∧ Meth K (He.ga K c) m f ∧ Binds K fd ps [] ∧ FnOk P w K mg base (L2.CX P w) k f fd ps sp
/-- a class that is made by its __init__ -/
def Mkr (P : Program) (w : World) (K : PySem.W.Frag) (mg : Str → Option Value) (base : Heap) (k : Nat) (c : Str) (ps : List Str) (sp : Sp) : Prop :=
  ∃ f fd, mg c = some (.ref (He.ga K c)) ∧ Mk K (He.ga K c) f ∧ Binds K fd ps [] ∧ FnOk P w K mg base (L2.CX P w) k f fd ps sp
section
variable {X : Cx} {k j : Nat} {c x m : Str} {ps : List Str} {sp : Sp} {W : WX} {p pos apos : Pos} {e o : Expr} {es : List Expr} {ta : TE} {t : TA}
theorem pe_cl (F : Fn X.prog X.w X.K X.mg X.base k x ps sp) (hr : Room j X.A) (hj : k ≤ j) (tk : Takes X W) (ha : PA X (e :: es) t) (hg : Gl X x := by rfl)
    (hdb : (x == ("__debug__" : Str)) = false := by decide) (he : starEach (e :: es) X.env = (false, eval e X.env) :: starEach es X.env := by rfl) (hpl : (backTo pos (starEach es X.env)).any (·.1) = false := by rfl) :
    PE X (.Call (.Name x p) (e :: es) [] pos) (tCl sp W t) := by
  obtain ⟨f, fd, hm, hk, hb, F⟩ := F
  exact pe_callS (E := WE W) F (hr.mono hj) hg hm hk hb (passAt tk) ha hdb he hpl
theorem pe_mt {pl : Sem Bool} (F : Mt X.prog X.w X.K X.mg X.base k c m ps sp) (hr : Room j X.A) (hj : k ≤ j) (tk : Takes X W) (he : PE X o ta) (ha : PA X (e :: es) t)
    (hst : starEach (e :: es) X.env = (false, eval e X.env) :: starEach es X.env := by rfl) (hpl : (backTo pos (starEach es X.env)).any (·.1) = false := by rfl)
    (ht : eval (.Call (.Attribute o m apos) (e :: es) [] pos) X.env = (do
      let ov ← eval o X.env
      standAt apos.atName
      let (f, first) ← holding [ov] (getMethod ov m pl)
      callWith pos f first (backTo pos (starEach (e :: es) X.env)) (backToKw pos (keywordEach [] X.env))) := by rfl) :
    PE X (.Call (.Attribute o m apos) (e :: es) [] pos) (tMt (He.ga X.K c) m sp W ta t) := by
  obtain ⟨f, fd, c, hm, hb, F⟩ := F
  refine ⟨fun pins s σ H Q I h => ?_⟩
  refine PySem.W.methodCall_KW (pl := pl) (thn (he.run pins s σ H _ I h) fun u s1 ⟨x, H1, I1, rx, a, dx, fs, ex, ea, l, q⟩ => ?_) ht
  subst ex
  obtain rfl : u = Value.ref a := rx
  refine getmeth_ok I1 ea c hm l ?_
  refine PySem.W.callWith_K (first := [.ref a]) (h₀ := X.base) I.ok.mod.kin hm.kp (thn (ha.run pos pins s1 σ H1 _ I1 q) fun us s2 ⟨vs, H2, I2, r, q2⟩ => ⟨I2.kIn, ?_⟩) hst hpl
  exact run_fnS (E := WE W) (us := .ref a :: us) (vs := .ref a :: vs) F (hr.mono hj) hb (passAt tk σ) I2 (.cons rfl r) q2
theorem pe_mt0 {pl : Sem Bool} (F : Mt X.prog X.w X.K X.mg X.base k c m ps sp) (hr : Room j X.A) (hj : k ≤ j) (tk : Takes X W) (he : PE X o ta)
    (ht : eval (.Call (.Attribute o m apos) [] [] pos) X.env = (do
      let ov ← eval o X.env
      standAt apos.atName
      let (f, first) ← holding [ov] (getMethod ov m pl)
      callWith pos f first (backTo pos (starEach [] X.env)) (backToKw pos (keywordEach [] X.env))) := by rfl) :
    PE X (.Call (.Attribute o m apos) [] [] pos) (tMt (He.ga X.K c) m sp W ta tNil) := by
  obtain ⟨f, fd, c, hm, hb, F⟩ := F
  refine ⟨fun pins s σ H Q I h => ?_⟩
  refine PySem.W.methodCall_KW (pl := pl) (thn (he.run pins s σ H _ I h) fun u s1 ⟨x, H1, I1, rx, a, dx, fs, ex, ea, l, q⟩ => ?_) ht
  subst ex
  obtain rfl : u = Value.ref a := rx
  refine getmeth_ok I1 ea c hm l ?_
  exact PySem.W.callWith_K0 (first := [.ref a]) I1.kIn hm.kp (run_fnS (E := WE W) (us := [.ref a]) (vs := [.ref a]) F (hr.mono hj) hb (passAt tk σ) I1 (.cons rfl .nil) q)
theorem run_mk {f C : Addr} {fd : FuncData} {E : XK} {pins : List (Addr × Obj)} {σ : L2.St} {H : Hp} {s : Shared} {Q : VK} {us : List Value} {vs : List V} (M : Mk X.K C f) (F : FnOk X.prog X.w X.K X.mg X.base (L2.CX X.prog X.w) k f fd ps sp) (hr : Room (k + 1) X.A) (hb : Binds X.K fd ps [])
    (hx : PassesAt (L2.CX X.prog X.w) X σ E) (I : Inv X pins σ H s) (r : Vals vs us)
    (h : ∀ x dx, H x = none → H dx = none → dx ≠ x → sp (.ref x :: vs) (upd (upd H dx (.own x)) x (.ins C dx [])) (fun v H2 => v = .non ∧ Q (.ref x) H2) E) :
    wpAny (model X.prog X.w) X.A (call (.ref C) us) (EP X pins σ Q) X.xe s := by
  have hq := h (s.heap.objs.size + 1) s.heap.objs.size (I.hok.fresh (Nat.le_succ _)) (I.hok.fresh (Nat.le_refl _)) (Nat.ne_of_lt (Nat.lt_succ_self _))
  have I2 := Inv.made (C := C) I
  have r2 : Vals (V.ref (s.heap.objs.size + 1) :: vs) (Value.ref (s.heap.objs.size + 1) :: us) := .cons rfl r
  have hl : (Value.ref (s.heap.objs.size + 1) :: us ++ []).length = ps.length := by
    have e := r2.length
    rw [F.len _ _ _ _ hq] at e
    rw [List.append_nil]
    exact e.symm
  have bb := hb _ (Value.ref (s.heap.objs.size + 1) :: us) I2.kIn hl
  rw [List.append_nil] at bb
  refine wpAny_call (make_map (f := f) I.kIn M.makes M.init (beq_iff_eq.mp M.fn) (codeAny_mono (F.run _ X.stack _ _ ⟨Value.ref (s.heap.objs.size + 1) :: us, []⟩ (Value.ref (s.heap.objs.size + 1) :: us) _ _ E (hr.make C us [])
    (I2.env0.make C us []) bb r2 hq) fun r s' hq' => ?_))
  cases r with
  | error e => exact hx pins _ _ e s' I2 hq'
  | ok fl =>
    cases fl with
    | ret u =>
      obtain ⟨v, H', I3, rv, ev, q3⟩ := I2.after hq'
      subst ev
      exact ⟨rv, ⟨V.ref (s.heap.objs.size + 1), H', I3, rfl, q3⟩⟩
    | next => exact False.elim hq'
    | brk => exact False.elim hq'
    | cont => exact False.elim hq'
theorem pe_mk (F : Mkr X.prog X.w X.K X.mg X.base k x ps sp) (hr : Room j X.A) (hj : k + 1 ≤ j) (tk : Takes X W) (ha : PA X (e :: es) t) (hg : Gl X x := by rfl)
    (hdb : (x == ("__debug__" : Str)) = false := by decide) (he : starEach (e :: es) X.env = (false, eval e X.env) :: starEach es X.env := by rfl) (hpl : (backTo pos (starEach es X.env)).any (·.1) = false := by rfl) :
    PE X (.Call (.Name x p) (e :: es) [] pos) (tMk (He.ga X.K x) sp W t) := by
  obtain ⟨f, fd, hm, M, hb, F⟩ := F
  refine ⟨fun pins s σ H Q I h => ?_⟩
  refine wpAny_Call_Name_kw (ld_glob I hg hm ?_ hdb)
  refine PySem.W.callWith_K (h₀ := X.base) I.ok.mod.kin M.kp (thn (ha.run pos pins s σ H _ I h) fun us s1 ⟨vs, H1, I1, r, q⟩ => ⟨I1.kIn, ?_⟩) he hpl
  exact run_mk M F (hr.mono hj) hb (passAt tk σ) I1 r q
end
/-! ### errors of the package -/
def qInitB (K : PySem.W.Frag) (c : Str) : Bool := PySem.W.readsIn K (He.ga K c) (.type "type") && (decide (PySem.W.specialIn K (.ref (He.ga K c)) "__getattribute__" = some (some (.builtin "type.__getattribute__"))) &&
  (match PySem.W.findCls K (.ref (He.ga K c)) (.type "type") "__init__" with
    | some (.val (.builtin "ValueError.__init__")) => true
    | _ => false))
theorem qInitB_ok {K : PySem.W.Frag} {c : Str} (h : qInitB K c = true) : PySem.W.readsIn K (He.ga K c) (.type "type") = true ∧ PySem.W.specialIn K (.ref (He.ga K c)) "__getattribute__" = some (some (.builtin "type.__getattribute__")) ∧
    PySem.W.findCls K (.ref (He.ga K c)) (.type "type") "__init__" = some (.val (.builtin "ValueError.__init__")) := by
  obtain ⟨h1, h⟩ := Bool.and_eq_true_iff.mp h
  obtain ⟨h2, h3⟩ := Bool.and_eq_true_iff.mp h
  refine ⟨h1, of_decide_eq_true h2, ?_⟩
  split at h3
  · assumption
  · cases h3
section
variable {X : Cx} {e : Expr} {es : List Expr} {ta : TA} {p1 p2 pos : Pos} {c : Str}
theorem pe_qinit {pl : Sem Bool} (hm : X.mg c = some (.ref (He.ga X.K c))) (q : qInitB X.K c = true) (ha : PA X (e :: es) ta) (hg : Gl X c := by rfl) (hdb : (c == ("__debug__" : Str)) = false := by decide)
    (hc : eval (.Call (.Attribute (.Name c p1) "__init__" p2) (e :: es) [] pos) X.env = (do
      let ov ← eval (.Name c p1) X.env
      standAt p2.atName
      let (f, first) ← holding [ov] (getMethod ov "__init__" pl)
      callWith pos f first (backTo pos (starEach (e :: es) X.env)) (backToKw pos (keywordEach [] X.env))) := by rfl)
    (he : starEach (e :: es) X.env = (false, eval e X.env) :: starEach es X.env := by rfl) (hpl : (backTo pos (starEach es X.env)).any (·.1) = false := by rfl) :
    PE X (.Call (.Attribute (.Name c p1) "__init__" p2) (e :: es) [] pos) (tVeI X.K ta) := by
  obtain ⟨q1, q2, q3⟩ := qInitB_ok q
  refine ⟨fun pins s σ H Q I h => ?_⟩
  refine PySem.W.methodCall_KW (ld_glob I hg hm ?_ hdb) hc
  refine PySem.W.method_cls I.kIn q2 (PySem.W.cls_value I.kIn q1 q3 (by decide +kernel) ?_)
  show wpAny _ _ (callWith pos (Value.builtin "ValueError.__init__") [] (backTo pos (starEach (e :: es) X.env)) []) _ _ _
  refine PyProof.Rows.callWith_method1 (thn (ha.run pos pins _ σ H _ (I.tok _) h) fun us s1 ⟨vs, H1, I1, r1, a, C, ws, ev, hl, T, ea, q⟩ => ?_) he hpl
  subst ev
  cases r1 with
  | @cons _ u0 _ ur ra rw' =>
    obtain rfl : u0 = Value.ref a := ra
    have hlen : ur.length ≤ sizeLine := by
      rw [← Paired.length rw', sizeLine_eq]
      omega
    exact oinit_ok T I1 ea hlen fun s' J => ⟨.non, H1, J, rfl, q⟩
end
def oexB (K : PySem.W.Frag) (C : Addr) : Bool := (match K.lookup C with
  | some ⟨.type "type", _, .cls cd, sl⟩ => (match cd.mro, sl.toList with
    | .ref C' :: bm, [_, _, _, _, some (.builtin n), _] => C' == C && n == "ValueError.__new__" && !cd.hasDel && cd.hasDict && PySem.HandSPX.refsVE bm
    | _, _ => false)
  | _ => false) && (decide (PySem.W.findIn K (.ref C) "__setattr__" = some (some (.builtin "object.__setattr__"))) && (decide (PySem.W.subIn K (.ref C) (.type "BaseException") = some true) &&
    (decide (PySem.W.typeIn K (.ref C) = some (.type "type")) && PySem.W.keepIn K (.ref C))))
theorem oexB_ok {K : PySem.W.Frag} {C : Addr} (h : oexB K C = true) : OexC K C := by
  obtain ⟨q, h⟩ := Bool.and_eq_true_iff.mp h
  obtain ⟨h2, h⟩ := Bool.and_eq_true_iff.mp h
  obtain ⟨h3, h⟩ := Bool.and_eq_true_iff.mp h
  obtain ⟨h4, h5⟩ := Bool.and_eq_true_iff.mp h
  refine ⟨?_, of_decide_eq_true h2, of_decide_eq_true h3, of_decide_eq_true h4, h5⟩
  split at q
  · rename_i dd cd sl ho
    split at q
    · rename_i C' bm k0 k1 k2 k3 n k5 hm hs
      simp only [Bool.and_eq_true, beq_iff_eq, Bool.not_eq_true'] at q
      obtain ⟨⟨⟨⟨rfl, rfl⟩, hdel⟩, hdi⟩, ht⟩ := q
      obtain ⟨nm, bs, mro, ns, qn, hd, sn, sub, ab, col, del⟩ := cd
      dsimp only at hm hdel hdi
      subst hm hdel hdi
      have hsl : sl = #[k0, k1, k2, k3, some (.builtin "ValueError.__new__"), k5] := by
        obtain ⟨l⟩ := sl
        simp only at hs
        rw [hs]
      subst hsl
      exact ⟨nm, qn, ns, bs, bm, sn, sub, ab, col, dd, k0, k1, k2, k3, k5, ho, ht⟩
    · cases q
  · cases q
/-- what an __init__ of one field does; of two -/
def spI1 (K : PySem.W.Frag) (C : Addr) (f : Str) : Sp := fun vs H Q _ => ∃ a v, vs = [.ref a, v] ∧ H a = some (exo a C none) ∧ ∀ dx, H dx = none → dx ≠ a → Q .non (upd (upd H dx (exd dx [(f, v)])) a (exo a C (some dx)))
/-- an error class of the package with an __init__ -/
def ErC (P : Program) (w : World) (K : PySem.W.Frag) (mg : Str → Option Value) (base : Heap) (c : Str) (ps : List Str) (sp : Sp) : Prop :=
  ∃ f fd, mg c = some (.ref (He.ga K c)) ∧ OexC K (He.ga K c) ∧ PySem.W.findIn K (.ref (He.ga K c)) "__init__" = some (some (.ref f)) ∧ PySem.W.typeIn K (.ref f) = some (.type "function") ∧ Binds K fd ps [] ∧ FnOk P w K mg base (L2.CX P w) 1 f fd ps sp
/-- raise X(e); raise X(e, f) -/
def tRz1 (C : Addr) (f : Str) (te : TE) (W : WX) : TS := fun _ σ H => te σ H fun v H1 => ∀ d, H1 d = none → W (.ref C) (some d) σ (upd H1 d (.xd [(f, v)]))
theorem passNo {X : Cx} : Passes (L2.CX X.prog X.w) X (fun _ _ _ => False) := fun _ _ _ _ _ _ _ h => by
  obtain ⟨_, _, _, _, _, _, _, _, _, _, _, _, z⟩ := h
  exact z.elim
def tMono (te : TE) : TE := fun σ H Q => ∃ R : VK, te σ H R ∧ ∀ v H1, R v H1 → Q v H1
theorem pe_mono {X : Cx} {e : Expr} {te : TE} (h : PE X e te) : PE X e (tMono te) := ⟨fun pins s σ H Q I ⟨R, h1, h2⟩ => thn (h.run pins s σ H R I h1) fun _ _ ⟨v, H', I', r, q⟩ => ⟨v, H', I', r, h2 _ _ q⟩⟩
section
variable {X : Cx} {j : Nat} {W : WX} {x f g : Str} {ps : List Str} {e1 e2 : Expr} {te tu : TE} {p pos pos' : Pos}
theorem heap_rz {H : Hp} {a d C : Addr} {fs gs : List (Str × V)} (ha : H a = none) (hd : d ≠ a) :
    upd (del (upd (upd (upd H a (exo a C none)) d (exd d gs)) a (exo a C (some d))) a) d (.xd fs) = upd H d (.xd fs) := by
  funext b
  by_cases h1 : b = d
  · rw [h1, upd_same, upd_same]
  · rw [upd_ne h1, upd_ne h1]
    by_cases h2 : b = a
    · rw [h2, del_same, ha]
    · rw [del_ne h2, upd_ne h2, upd_ne h1, upd_ne h2]
theorem ps_rz1 (F : ErC X.prog X.w X.K X.mg X.base x ps (spI1 X.K (He.ga X.K x) f)) (hr : Room j X.A) (hj : 2 ≤ j) (hc : X.calm = true) (tk : Takes X W) (ha : PE X e1 te) (hg : Gl X x := by rfl)
    (hdb : (x == ("__debug__" : Str)) = false := by decide) (he : starEach (e1 :: []) X.env = (false, eval e1 X.env) :: starEach [] X.env := by rfl) (hpl : (backTo pos (starEach [] X.env)).any (·.1) = false := by rfl) :
    PS X (.Raise (some (.Call (.Name x p) [e1] [] pos)) none pos') (tRz1 (He.ga X.K x) f te W) := by
  obtain ⟨fI, fd, hm, T, iC, tI, hb, F⟩ := F
  have R := ps_raise (pos := pos') hc tk (pmk_oex (p := p) (pos := pos) T iC tI F (hr.mono hj) hb (.nil (F := RelV)) passNo hg hm (pa_cons (pe_mono ha) pa_nil he) hdb he hpl)
  refine ⟨fun pins s σ H Q I h => R.run pins s σ H Q I ?_⟩
  refine ⟨_, h, fun v H1 q => ⟨by simp, fun a na => ⟨a, v, rfl, upd_same, fun d hd da => ?_⟩⟩⟩
  have hd1 : H1 d = none := by rw [upd_ne da] at hd; exact hd
  refine ⟨rfl, d, _, upd_same, by rw [upd_ne da, upd_same], hd1, ?_⟩
  rw [heap_rz na da]
  exact q d hd1
end
end Q

set_option Elab.async false
set_option linter.all false
set_option maxRecDepth 100000
set_option maxHeartbeats 4000000
namespace Q
open PySem PySem.Spec PyProof.Rows L2
/-! ### operators by name -/
def rAddI : R2 := rI0 fun i j => .int (i + j)
def rMulI : R2 := rI CMul fun i j => .int (i * j)
def rModI : R2 := rI (fun _ j => 0 < j) fun i j => .int (i % j)
/-- // by a positive divisor below 2 ^ 100 -/
def CDivB (_ j : Int) : Prop := 0 < j ∧ j < 1267650600228229401496703205376
def rDivI : R2 := rI CDivB fun i j => .int (i / j)
def rPowI : R2 := rI CPow fun i j => .int (i ^ j.toNat)
def rLtI : R2 := rI0 fun i j => .bl (decide (i < j))
def rGtI : R2 := rI0 fun i j => .bl (decide (j < i))
def rLtS : R2 := fun x y H Q => ∃ i j, x = .str i ∧ y = .str j ∧ Q (.bl (decide (i.cps.toList < j.cps.toList))) H
def rAddS : R2 := fun x y H Q => ∃ i j, x = .str i ∧ y = .str j ∧ i.length + j.length ≤ sizeLine ∧ Q (.str (i ++ j)) H
def rLenA (K : PySem.W.Frag) : List V → Hp → VK → Prop := fun xs H Q => ∃ x n, xs = [x] ∧ LenV K x H n ∧ Q (.int n) H
def rLenD : List V → Hp → VK → Prop := fun xs H Q => ∃ a kvs, xs = [V.ref a] ∧ H a = some (.dK kvs) ∧ Q (.int (kvs.length : Nat)) H
def rAbs : List V → Hp → VK → Prop := fun xs H Q => ∃ i, xs = [.int i] ∧ Q (.int (if i < 0 then -i else i)) H
def rMin2 : List V → Hp → VK → Prop := fun xs H Q => ∃ i j, xs = [.int i, .int j] ∧ Q (.int (if j < i then j else i)) H
def rInt1 : List V → Hp → VK → Prop := fun xs H Q => (∃ i, xs = [.int i] ∧ Q (.int i) H) ∨ ∃ k, xs = [.bl k] ∧ Q (.int (if k then 1 else 0)) H
def rListOf (K : PySem.W.Frag) : List V → Hp → VK → Prop := fun xs H Q => ∃ p ys, xs = [.ref p] ∧ (SqL K H p ys ∨ SqT K H p ys) ∧ ∀ l, H l = none → Q (.ref l) (upd H l (.lst ys))
def rTupOf (K : PySem.W.Frag) : List V → Hp → VK → Prop := fun xs H Q => ∃ p ys, xs = [.ref p] ∧ ((SqL K H p ys ∧ ∀ l, H l = none → Q (.ref l) (upd H l (.tup ys))) ∨ (SqT K H p ys ∧ Q (.ref p) H))
def tTr (K : PySem.W.Frag) (ta : TE) : TT := fun σ H Q => ta σ H fun x H' => ∃ k, TruV K x H' k ∧ Q k H'
def rJoin (K : PySem.W.Frag) : V → List V → Hp → VK → Prop := fun x xs H Q => ∃ a p, ∃ ys : List Str, x = .str a ∧ xs = [.ref p] ∧ (SqL K H p (ys.map V.str) ∨ SqT K H p (ys.map V.str)) ∧
      (ys.map (·.length)).sum + ys.length * a.length ≤ 16777216 ∧ Q (.str (Txt.join a ys)) H
section
variable {X : Cx}
theorem oAddI : OpR X (binaryOp .Add) rAddI := op_add
theorem oMulI : OpR X (binaryOp .Mult) rMulI := op_mul
theorem oModI : OpR X (binaryOp .Mod) rModI := op_mod
theorem oDivI : OpR X (binaryOp .FloorDiv) rDivI := fun pins s σ H x y v u Q I rx ry h => by
  obtain ⟨i, j, e1, e2, hc, q⟩ := h
  exact op_fdivW pins s σ H x y v u Q I rx ry ⟨i, j, e1, e2, wide_div (b := 100) hc.1 (by have := hc.1; have := hc.2; omega) (by decide) (by decide), q⟩
theorem oPowI : OpR X (binaryOp .Pow) rPowI := op_pow
theorem oLtI : OpR X (compareOp .Lt) rLtI := op_lt
theorem oGtI : OpR X (compareOp .Gt) rGtI := op_gt
theorem oLtS : OpR X (compareOp .Lt) rLtS := op_lt_str
theorem oAddS : OpR X (binaryOp .Add) rAddS := op_add_str
theorem cLenA : CallR X (.builtin "len") (rLenA X.K) := call_len
theorem cLenD : CallR X (.builtin "len") rLenD := call_lenD
theorem cAbs : CallR X (.builtin "abs") rAbs := call_abs
theorem cMin2 (hc : X.calm = true) : CallR X (.builtin "min") rMin2 := call_min2 hc
theorem cInt1 : CallR X (.type "int") rInt1 := call_int1
theorem cListOf : CallR X (.type "list") (rListOf X.K) := call_list_of
theorem cTupOf : CallR X (.type "tuple") (rTupOf X.K) := call_tuple_of
theorem pt_tr {a : Expr} {ta : TE} (ha : PE X a ta) (he : ∀ whole, isTrue a X.env whole = (do let v ← whole; standAt a.pos; holding [v] (truthy v)) := by intro _; rfl) : PT X a (tTr X.K ta) := pt_truth ha he
end
/-! ### one step of a reading -/
section
variable {K : PySem.W.Frag} {σ : L2.St} {H : Hp} {Q : VK} {Qb : Bool → Hp → Prop} {Qa : List V → Hp → Prop} {Qs : L2.St → Hp → Prop} {De : Ends} {t u : TS} {c c2 : TT} {te ta tb : TE} {tl tr : TA} {g : TG} {i : Nat} {v : V} {W : WX} {r : R2} {sp : Sp} {b : Bool} {m n : Int} {x y : Str} {p : Addr}
theorem x_seq (h : t { De with nx := u De } σ H) : tSeq t u De σ H := h
theorem x_next (h : De.nx σ H) : tNext De σ H := h
theorem x_asg (h : te σ H fun x H1 => g x σ H1 De.nx) : tAsg te g De σ H := h
theorem x_gname (h : Qs (σ.set i (some v)) H) : gName i v σ H Qs := h
theorem x_var (e : σ[i]? = some (some v)) (h : Q v H) : tVar i σ H Q := ⟨v, e, h⟩
theorem x_c (h : Q v H) : tC v σ H Q := h
theorem x_op (h : ta σ H fun x H1 => tb σ H1 fun y H2 => r x y H2 Q) : tOp r ta tb σ H Q := h
theorem x_ret (h : te σ H De.rt) : tRet te De σ H := h
theorem x_drop (h : te σ H fun _ H1 => De.nx σ H1) : tDrop te De σ H := h
theorem x_if (h : c σ H fun b H1 => if b = true then t De σ H1 else u De σ H1) : tIfS c t u De σ H := h
theorem x_and (h : c σ H fun b H1 => if b = true then c2 σ H1 Qb else Qb false H1) : tAnd c c2 σ H Qb := h
theorem x_or (h : c σ H fun b H1 => if b = true then Qb true H1 else c2 σ H1 Qb) : tOr c c2 σ H Qb := h
theorem x_not (h : c σ H fun b H1 => Qb (!b) H1) : tNot c σ H Qb := h
theorem x_andV (h : ta σ H fun x H1 => ∃ c, x = .bl c ∧ if c = true then tb σ H1 Q else Q (.bl false) H1) : tAndV ta tb σ H Q := h
theorem x_notV (h : ta σ H fun x H1 => ∃ c, x = .bl c ∧ Q (.bl (!c)) H1) : tNotV ta σ H Q := h
theorem x_test (h : te σ H fun x H1 => ∃ k, x = .bl k ∧ Qb k H1) : tTest te σ H Qb := h
theorem x_tB (h : te σ H fun x H1 => ∃ k, x = .bl k ∧ Qb k H1) : tB te σ H Qb := h
theorem x_tr (h : te σ H fun x H1 => ∃ k, TruV K x H1 k ∧ Qb k H1) : tTr K te σ H Qb := h
theorem x_exb {Qc : Bool → Prop} (h : Qc b) : ∃ k, V.bl b = .bl k ∧ Qc k := ⟨b, rfl, h⟩
theorem x_cb {rr : List V → Hp → VK → Prop} (h : tl σ H fun vs H1 => rr vs H1 Q) : tCB rr tl σ H Q := h
theorem x_cons (h : ta σ H fun x H1 => tr σ H1 fun xs H2 => Qa (x :: xs) H2) : tCons ta tr σ H Qa := h
theorem x_nil (h : Qa [] H) : tNil σ H Qa := h
theorem x_cl (h : tl σ H fun vs H1 => sp vs H1 Q fun c d H' => W c d σ H') : tCl sp W tl σ H Q := h
theorem x_addI (h : Q (.int (m + n)) H) : rAddI (.int m) (.int n) H Q := ⟨m, n, rfl, rfl, h⟩
theorem x_mulI (hc : CMul m n) (h : Q (.int (m * n)) H) : rMulI (.int m) (.int n) H Q := ⟨m, n, rfl, rfl, hc, h⟩
theorem x_modI (hc : 0 < n) (h : Q (.int (m % n)) H) : rModI (.int m) (.int n) H Q := ⟨m, n, rfl, rfl, hc, h⟩
theorem x_divI (hc : CDivB m n) (h : Q (.int (m / n)) H) : rDivI (.int m) (.int n) H Q := ⟨m, n, rfl, rfl, hc, h⟩
theorem x_powI (hc : CPow m n) (h : Q (.int (m ^ n.toNat)) H) : rPowI (.int m) (.int n) H Q := ⟨m, n, rfl, rfl, hc, h⟩
theorem x_ltI (h : Q (.bl (decide (m < n))) H) : rLtI (.int m) (.int n) H Q := ⟨m, n, rfl, rfl, h⟩
theorem x_gtI (h : Q (.bl (decide (n < m))) H) : rGtI (.int m) (.int n) H Q := ⟨m, n, rfl, rfl, h⟩
theorem x_ltS (h : Q (.bl (decide (x.cps.toList < y.cps.toList))) H) : rLtS (.str x) (.str y) H Q := ⟨x, y, rfl, rfl, h⟩
theorem x_addS (hl : x.length + y.length ≤ sizeLine) (h : Q (.str (x ++ y)) H) : rAddS (.str x) (.str y) H Q := ⟨x, y, rfl, rfl, hl, h⟩
theorem x_eq {a b : V} (hs : scal a b = true) (h : Q (.bl (decide (a = b))) H) : rEq a b H Q := ⟨hs, h⟩
theorem x_ne {a b : V} (hs : scal a b = true) (h : Q (.bl (!decide (a = b))) H) : rNe a b H Q := ⟨hs, h⟩
theorem x_lenS (hl : x.length ≤ sizeLine) (h : Q (.int (x.length : Nat)) H) : rLenA K [.str x] H Q := ⟨_, _, rfl, ⟨hl, rfl⟩, h⟩
theorem x_lenL {xs : List V} (hp : SqL K H p xs) (h : Q (.int (xs.length : Nat)) H) : rLenA K [.ref p] H Q := ⟨_, _, rfl, .inl ⟨_, hp, rfl⟩, h⟩
theorem x_lenT {xs : List V} (hp : SqT K H p xs) (h : Q (.int (xs.length : Nat)) H) : rLenA K [.ref p] H Q := ⟨_, _, rfl, .inr ⟨_, hp, rfl⟩, h⟩
theorem x_lenD {kvs : List (Key × V)} (hp : H p = some (.dK kvs)) (h : Q (.int (kvs.length : Nat)) H) : rLenD [.ref p] H Q := ⟨_, _, rfl, hp, h⟩
theorem x_abs (h : Q (.int (if m < 0 then -m else m)) H) : rAbs [.int m] H Q := ⟨m, rfl, h⟩
theorem x_min2 (h : Q (.int (if n < m then n else m)) H) : rMin2 [.int m, .int n] H Q := ⟨m, n, rfl, h⟩
theorem x_int1 (h : Q (.int m) H) : rInt1 [.int m] H Q := .inl ⟨m, rfl, h⟩
theorem x_isi {a : V} {T : String} {tv : Value} (ty : TyX K H a tv) (k : PySem.W.kitOne K tv (.type T) = some b) (h : Q (.bl b) H) : rIsi K [a, .ty T] H Q := ⟨a, .ty T, tv, .type T, b, rfl, .ty T, ty, k, h⟩
theorem x_tt (A B : Prop) (h : A) : if true = true then A else B := by rw [if_pos rfl]; exact h
theorem x_ff (A B : Prop) (h : B) : if false = true then A else B := by rw [if_neg (by decide)]; exact h
theorem x_ite {A B : Prop} (h1 : b = true → A) (h2 : b = false → B) : if b = true then A else B := by
  cases b with
  | true => rw [if_pos rfl]; exact h1 rfl
  | false => rw [if_neg (by decide)]; exact h2 rfl
theorem x_ixL {xs : List V} (hp : SqL K H p xs) (e : atI xs m = some v) (h : Q v H) : rIxL K (.ref p) (.int m) H Q := ⟨p, xs, m, v, rfl, rfl, hp, e, h⟩
theorem x_ixS {k : Nat} (hl : x.length ≤ sizeLine) (e : atI x.cps.toList m = some k) (h : Q (.str ⟨#[k]⟩) H) : rIxS (.str x) (.int m) H Q := ⟨x, m, k, rfl, rfl, hl, e, h⟩
theorem x_notInS {k : Nat} (h : Q (.bl (!decide (k ∈ y.cps.toList))) H) : rNotInS (.str ⟨#[k]⟩) (.str y) H Q := ⟨k, y, rfl, rfl, h⟩
theorem x_inL {a : V} {xs : List V} (hp : SqL K H p xs) (f1 : flatV a = true) (f2 : xs.all flatV = true) (h : Q (.bl (inV a xs)) H) : rIn K false a (.ref p) H Q := ⟨p, xs, rfl, .inl hp, f1, f2, h⟩
theorem x_ninL {a : V} {xs : List V} (hp : SqL K H p xs) (f1 : flatV a = true) (f2 : xs.all flatV = true) (h : Q (.bl (!inV a xs)) H) : rIn K true a (.ref p) H Q := ⟨p, xs, rfl, .inl hp, f1, f2, h⟩
theorem x_ninT {a : V} {xs : List V} (hp : SqT K H p xs) (f1 : flatV a = true) (f2 : xs.all flatV = true) (h : Q (.bl (!inV a xs)) H) : rIn K true a (.ref p) H Q := ⟨p, xs, rfl, .inr hp, f1, f2, h⟩
/-- a new thing at p -/
theorem x_new {S : List Addr} {B0 H0 B : Hp} {M : List (Addr × HO)} {Qp : Addr → Hp → Prop} {o : HO} (hs : HS S B0 H0 B H M) (h : ∀ p H', HS S B0 H0 B H' ((p, o) :: M) → H p = none → Qp p H') : ∀ p, H p = none → Qp p (upd H p o) :=
  fun p hp => h p _ (hs.new hp) hp
/-- a new thing that never changes (a tuple, or a list nobody changes) -/
theorem x_newF {S : List Addr} {B0 H0 B : Hp} {M : List (Addr × HO)} {Qp : Addr → Hp → Prop} {o : HO} (hs : HS S B0 H0 B H M) (h : ∀ p B' H', HS S B0 H0 B' H' M → Same B B' → B' p = some o → H p = none → Qp p H') : ∀ p, H p = none → Qp p (upd H p o) := fun p hp => by
  have h1 := hs.new (o := o) hp
  have h0 : H0 p = none ∨ p ∈ S := (h1.mu (p, o) List.mem_cons_self).2.2
  have nd := h1.nd
  have hB : B p = none := same_none hs.bh hp
  have sB : Same B (upd B p o) := fun b u e => by rw [upd_ne (ne_of_none e hB)]; exact e
  refine h p (upd B p o) _ ⟨hs.bb.trans sB, fun b u e => ?_, fun b u n1 n2 e => ?_, fun q m => ?_, hs.nd⟩ sB upd_same hp
  · by_cases z : b = p
    · subst z; rw [upd_same] at e; cases e; exact upd_same
    · rw [upd_ne z] at e ⊢; exact hs.bh _ _ e
  · obtain ⟨a1, a2⟩ := hs.fr b u n1 n2 e
    have nb : b ≠ p := ne_of_none a2 hp
    exact ⟨by rw [upd_ne nb]; exact a1, by rw [upd_ne nb]; exact a2⟩
  · obtain ⟨a1, a2, a3⟩ := hs.mu q m
    have nb : q.1 ≠ p := ne_of_none a2 hp
    exact ⟨by rw [upd_ne nb]; exact a1, by rw [upd_ne nb]; exact a2, a3⟩
end
/-! ### isinstance of any data -/
def D.isT : String → D → Bool
  | "str", .str _ => true
  | "int", .int _ => true
  | "int", .bl _ => true
  | "bool", .bl _ => true
  | "list", .lst _ => true
  | "tuple", .tup _ => true
  | "dict", .dct _ => true
  | _, _ => false
theorem x_isiD {K : PySem.W.Frag} {S : List Addr} {B0 H0 B H : Hp} {M : List (Addr × HO)} {Q : VK} {v : V} {d : D} {T : String} (hs : HS S B0 H0 B H M) (r : Rep K B v d) (hT : T ∈ (["str", "int", "bool", "list", "tuple", "dict"] : List String)) (h : Q (.bl (d.isT T)) H) :
    rIsi K [v, .ty T] H Q := by
  have go : ∀ {tv : String} {b : Bool}, TyX K H v (.type tv) → kitB tv T = some b → d.isT T = b → rIsi K [v, .ty T] H Q := fun {tv b} ty k e => ⟨v, .ty T, _, .type T, b, rfl, .ty T, ty, kit_ty k, by rw [← e]; exact h⟩
  simp only [List.mem_cons, List.not_mem_nil, or_false] at hT
  cases r with
  | non => rcases hT with rfl | rfl | rfl | rfl | rfl | rfl <;> first | exact go (b := false) (.base .non) (by decide +kernel) rfl | exact go (b := true) (.base .non) (by decide +kernel) rfl
  | bl b => rcases hT with rfl | rfl | rfl | rfl | rfl | rfl <;> first | exact go (b := false) (.base (.bl b)) (by decide +kernel) rfl | exact go (b := true) (.base (.bl b)) (by decide +kernel) rfl
  | int i => rcases hT with rfl | rfl | rfl | rfl | rfl | rfl <;> first | exact go (b := false) (.base (.int i)) (by decide +kernel) rfl | exact go (b := true) (.base (.int i)) (by decide +kernel) rfl
  | str _ => rcases hT with rfl | rfl | rfl | rfl | rfl | rfl <;> first | exact go (b := false) (.base (.str _)) (by decide +kernel) rfl | exact go (b := true) (.base (.str _)) (by decide +kernel) rfl
  | lst e _ _ => rcases hT with rfl | rfl | rfl | rfl | rfl | rfl <;> first | exact go (b := false) (.base (.lst (hs.up e))) (by decide +kernel) rfl | exact go (b := true) (.base (.lst (hs.up e))) (by decide +kernel) rfl
  | tup e _ => rcases hT with rfl | rfl | rfl | rfl | rfl | rfl <;> first | exact go (b := false) (.base (.tup (hs.up e))) (by decide +kernel) rfl | exact go (b := true) (.base (.tup (hs.up e))) (by decide +kernel) rfl
  | dct e _ => rcases hT with rfl | rfl | rfl | rfl | rfl | rfl <;> first | exact go (b := false) (.base (.dK (hs.up e))) (by decide +kernel) rfl | exact go (b := true) (.base (.dK (hs.up e))) (by decide +kernel) rfl
  | obj e i =>
    refine ⟨_, .ty T, _, .type T, false, rfl, .ty T, .base (.ins (hs.up e) i.cl i.ha i.hn i.tk i.mo), i.no T (by simp only [List.mem_cons, List.not_mem_nil, or_false]; exact hT), ?_⟩
    rcases hT with rfl | rfl | rfl | rfl | rfl | rfl <;> exact h
theorem bstep {B B' : Hp} {a : Addr} {o : HO} (s : Same B B') (e : B a = some o) : B' a = some o := s _ _ e
theorem small_le {n : Nat} (h : n ≤ 1000000) : n ≤ sizeLine := Nat.le_trans h (by rw [sizeLine_eq]; decide)
theorem small_lt {n : Nat} (h : n ≤ 1000000) : n < sizeLine := Nat.lt_of_le_of_lt h (by rw [sizeLine_eq]; decide)
end Q

set_option Elab.async false
set_option linter.all false
set_option maxRecDepth 100000
set_option maxHeartbeats 4000000
namespace Q
open PySem PySem.Spec PyProof.Rows L2
/-! ### loops: a state s of one's own, from which the slots and what may change follow -/
def LI {α : Type} (S : List Addr) (B0 H0 B : Hp) (σf : α → L2.St) (Mf : α → List (Addr × HO)) (P : Nat → α → Hp → Prop) (i : Nat) (σ : L2.St) (H : Hp) : Prop :=
  ∃ s B1, σ = σf s ∧ Same B B1 ∧ HS S B0 H0 B1 H (Mf s) ∧ P i s B1
abbrev LoopW (J : It) (g : TG) (tb : TS) (De : Ends) (σ : L2.St) (H : Hp) : Prop := ∃ W : Nat → Nat → L2.St → Hp → Prop, (∃ m, W 0 m σ H) ∧ ∀ i m σ H, W i m σ H →
  (J.stop i H ∧ De.nx σ H) ∨ (J.go i H ∧ ∃ N : L2.St → Hp → Prop, (∀ σ' H', N σ' H' → ∃ m', m' < m ∧ W (i + 1) m' σ' H') ∧ ∀ x H', J.yld i H x H' → g x σ H' fun σ2 H2 => tb { De with nx := N, ct := N, bk := De.nx } σ2 H2)
theorem x_for {wi : TI} {g : TG} {tb : TS} {De : Ends} {σ : L2.St} {H : Hp} (h : wi σ H fun J H1 => LoopW J g tb De σ H1) : tFor wi g tb De σ H := h
theorem x_iList {K : PySem.W.Frag} {te : TE} {σ : L2.St} {H : Hp} {R : It → Hp → Prop} (h : te σ H fun x H1 => ∃ a, x = .ref a ∧ (∃ xs, SqL K H1 a xs) ∧ R (Itl K a) H1) : iList K te σ H R := h
theorem x_iTup {K : PySem.W.Frag} {te : TE} {σ : L2.St} {H : Hp} {R : It → Hp → Prop} (h : te σ H fun x H1 => ∃ a, x = .ref a ∧ (∃ xs, SqT K H1 a xs) ∧ R (Itt K a) H1) : iTup K te σ H R := h
theorem x_iStr {te : TE} {σ : L2.St} {H : Hp} {R : It → Hp → Prop} (h : te σ H fun v H1 => ∃ x, v = .str x ∧ R (Its x) H1) : iStr te σ H R := h
theorem x_iRng1 {ta : TA} {σ : L2.St} {H : Hp} {R : It → Hp → Prop} (h : ta σ H fun vs H1 => ∃ j : Int, vs = [.int j] ∧ -(2 ^ 62) ≤ j ∧ j < 2 ^ 62 ∧ R (Itr 0 j.toNat) H1) : iRng1 ta σ H R := h
/-- a list or a tuple -/
def iSeq (K : PySem.W.Frag) (te : TE) : TI := fun σ H R => iList K te σ H R ∨ iTup K te σ H R
theorem pi_seq {X : Cx} {tg l : Expr} {tl : TE} (hl : PE X l tl) : PI X tg l (iSeq X.K tl) :=
  ⟨fun pins s σ H R I h => h.elim (fun h => (pi_list (tg := tg) hl).run pins s σ H R I h) fun h => (pi_tup (tg := tg) hl).run pins s σ H R I h⟩
section
variable {α : Type} {K : PySem.W.Frag} {S : List Addr} {B0 H0 B : Hp} {σf : α → L2.St} {Mf : α → List (Addr × HO)} {P : Nat → α → Hp → Prop} {a : Addr} {xs : List V} {g : TG} {tb : TS} {De : Ends} {H : Hp} {s0 : α}
theorem l_list (hs : HS S B0 H0 B H (Mf s0)) (ea : B a = some (.lst xs)) (h0 : P 0 s0 B)
    (hb : ∀ i x s B1 H1, xs[i]? = some x → Same B B1 → HS S B0 H0 B1 H1 (Mf s) → P i s B1 → g x (σf s) H1 fun σ2 H2 => tb { De with nx := LI S B0 H0 B σf Mf P (i + 1), ct := LI S B0 H0 B σf Mf P (i + 1), bk := De.nx } σ2 H2)
    (hd : ∀ s B1 H1, Same B B1 → HS S B0 H0 B1 H1 (Mf s) → P xs.length s B1 → De.nx (σf s) H1) : LoopW (Itl K a) g tb De (σf s0) H :=
  for_list (K := K) (a := a) (xs := xs) (LI S B0 H0 B σf Mf P) ⟨s0, B, rfl, Same.refl _, hs, h0⟩ (fun i σ H' _ ⟨s, B1, _, sb, hs', _⟩ => SqL.of (hs'.up (sb _ _ ea)))
    (fun i x σ H' hi ⟨s, B1, e, sb, hs', p⟩ => by rw [e]; exact hb i x s B1 H' hi sb hs' p) fun σ H' ⟨s, B1, e, sb, hs', p⟩ => by rw [e]; exact hd s B1 H' sb hs' p
theorem l_tup (hs : HS S B0 H0 B H (Mf s0)) (ea : B a = some (.tup xs)) (h0 : P 0 s0 B)
    (hb : ∀ i x s B1 H1, xs[i]? = some x → Same B B1 → HS S B0 H0 B1 H1 (Mf s) → P i s B1 → g x (σf s) H1 fun σ2 H2 => tb { De with nx := LI S B0 H0 B σf Mf P (i + 1), ct := LI S B0 H0 B σf Mf P (i + 1), bk := De.nx } σ2 H2)
    (hd : ∀ s B1 H1, Same B B1 → HS S B0 H0 B1 H1 (Mf s) → P xs.length s B1 → De.nx (σf s) H1) : LoopW (Itt K a) g tb De (σf s0) H :=
  for_tup (K := K) (a := a) (xs := xs) (LI S B0 H0 B σf Mf P) ⟨s0, B, rfl, Same.refl _, hs, h0⟩ (fun i σ H' _ ⟨s, B1, _, sb, hs', _⟩ => SqT.of (hs'.up (sb _ _ ea)))
    (fun i x σ H' hi ⟨s, B1, e, sb, hs', p⟩ => by rw [e]; exact hb i x s B1 H' hi sb hs' p) fun σ H' ⟨s, B1, e, sb, hs', p⟩ => by rw [e]; exact hd s B1 H' sb hs' p
theorem l_range {lo : Int} {n : Nat} (hs : HS S B0 H0 B H (Mf s0)) (h0 : P 0 s0 B)
    (hb : ∀ i s B1 H1, i < n → Same B B1 → HS S B0 H0 B1 H1 (Mf s) → P i s B1 → g (.int (lo + i)) (σf s) H1 fun σ2 H2 => tb { De with nx := LI S B0 H0 B σf Mf P (i + 1), ct := LI S B0 H0 B σf Mf P (i + 1), bk := De.nx } σ2 H2)
    (hd : ∀ s B1 H1, Same B B1 → HS S B0 H0 B1 H1 (Mf s) → P n s B1 → De.nx (σf s) H1) : LoopW (Itr lo n) g tb De (σf s0) H :=
  for_range (lo := lo) (n := n) (LI S B0 H0 B σf Mf P) ⟨s0, B, rfl, Same.refl _, hs, h0⟩
    (fun i σ H' hi ⟨s, B1, e, sb, hs', p⟩ => by rw [e]; exact hb i s B1 H' hi sb hs' p) fun σ H' ⟨s, B1, e, sb, hs', p⟩ => by rw [e]; exact hd s B1 H' sb hs' p
theorem l_str {z : Str} (hs : HS S B0 H0 B H (Mf s0)) (h0 : P 0 s0 B)
    (hb : ∀ i c s B1 H1, z.cps.toList[i]? = some c → Same B B1 → HS S B0 H0 B1 H1 (Mf s) → P i s B1 → g (.str ⟨#[c]⟩) (σf s) H1 fun σ2 H2 => tb { De with nx := LI S B0 H0 B σf Mf P (i + 1), ct := LI S B0 H0 B σf Mf P (i + 1), bk := De.nx } σ2 H2)
    (hd : ∀ s B1 H1, Same B B1 → HS S B0 H0 B1 H1 (Mf s) → P z.cps.toList.length s B1 → De.nx (σf s) H1) : LoopW (Its z) g tb De (σf s0) H := by
  refine for_it walk_str (LI S B0 H0 B σf Mf P) ⟨s0, B, rfl, Same.refl _, hs, h0⟩ (fun _ _ _ _ _ => trivial) (fun i x σ H' H2 hi ⟨s, B1, e, sb, hs', p⟩ y => ?_) fun σ H' ⟨s, B1, e, sb, hs', p⟩ => ?_
  · obtain ⟨rfl, c, hc, rfl⟩ := y
    rw [e]
    exact hb i c s B1 _ (by rw [Array.getElem?_toList]; exact hc) sb hs' p
  · rw [e]
    exact hd s B1 H' sb hs' (by rw [Array.length_toList]; exact p)
end
/-! ### comprehensions -/
abbrev CompW (J : It) (g : TG) (tt : TT) (te : TE) (vs : List Nat) (σ : L2.St) (D : Addr) (H1 : Hp) (Q : VK) : Prop := ∃ W : Nat → Nat → Hp → Prop, (∃ m, W 0 m (upd H1 D (.lst []))) ∧ ∀ i m H, W i m H →
  (J.stop i H ∧ Q (.ref D) H) ∨ (J.go i H ∧ ∃ Nx : Hp → Prop, (∀ H', Nx H' → ∃ m', m' < m ∧ W (i + 1) m' H') ∧ ∀ x H', J.yld i H x H' → g x (wipe σ vs) H' fun σ2 H2 => wipe σ2 vs = wipe σ vs ∧ tt σ2 H2 fun b H3 =>
    if b = true then te σ2 H3 fun y H4 => ∃ acc, H4 D = some (.lst acc) ∧ acc.length < sizeLine ∧ Nx (upd H4 D (.lst (acc ++ [y]))) else Nx H3)
theorem x_lc {wi : TI} {g : TG} {tt : TT} {te : TE} {vs : List Nat} {σ : L2.St} {H : Hp} {Q : VK} (h : wi σ H fun J H1 => ∀ D, H1 D = none → CompW J g tt te vs σ D H1 Q) : tLc wi g tt te vs σ H Q := h
/-- the list so far stands at D, ahead of what else may change (which follows from a state s of one's own) -/
def CI {α : Type} (S : List Addr) (B0 H0 B : Hp) (Mf : α → List (Addr × HO)) (D : Addr) (P : Nat → α → List V → Hp → Prop) (i : Nat) (H : Hp) : Prop :=
  ∃ s acc B1, Same B B1 ∧ HS S B0 H0 B1 H ((D, .lst acc) :: Mf s) ∧ acc.length ≤ i ∧ P i s acc B1
section
variable {α : Type} {K : PySem.W.Frag} {S : List Addr} {B0 H0 B : Hp} {Mf : α → List (Addr × HO)} {P : Nat → α → List V → Hp → Prop} {a D : Addr} {xs : List V} {g : TG} {tt : TT} {te : TE} {vs : List Nat} {σ : L2.St} {H1 : Hp} {Q : VK} {s0 : α}
theorem c_keep {B2 H4 : Hp} {i : Nat} {s : α} {acc : List V} {y : V} (sb : Same B B2) (hs : HS S B0 H0 B2 H4 ((D, .lst acc) :: Mf s)) (hi : acc.length ≤ i) (hz : i < 1000000) (p : P (i + 1) s (acc ++ [y]) B2) :
    ∃ acc', H4 D = some (.lst acc') ∧ acc'.length < sizeLine ∧ CI S B0 H0 B Mf D P (i + 1) (upd H4 D (.lst (acc' ++ [y]))) :=
  ⟨acc, hs.get List.mem_cons_self, small_lt (by omega), s, acc ++ [y], B2, sb, hs.set0, by simp; omega, p⟩
theorem c_left {B2 H4 : Hp} {i : Nat} {s : α} {acc : List V} (sb : Same B B2) (hs : HS S B0 H0 B2 H4 ((D, .lst acc) :: Mf s)) (hi : acc.length ≤ i) (p : P (i + 1) s acc B2) : CI S B0 H0 B Mf D P (i + 1) H4 := ⟨s, acc, B2, sb, hs, by omega, p⟩
theorem c_list (hs : HS S B0 H0 B H1 (Mf s0)) (hD : H1 D = none) (ea : B a = some (.lst xs)) (h0 : P 0 s0 [] B)
    (hb : ∀ i x s acc B1 H', xs[i]? = some x → acc.length ≤ i → Same B B1 → HS S B0 H0 B1 H' ((D, .lst acc) :: Mf s) → P i s acc B1 → g x (wipe σ vs) H' fun σ2 H2 => wipe σ2 vs = wipe σ vs ∧ tt σ2 H2 fun b H3 =>
      if b = true then te σ2 H3 fun y H4 => ∃ acc', H4 D = some (.lst acc') ∧ acc'.length < sizeLine ∧ CI S B0 H0 B Mf D P (i + 1) (upd H4 D (.lst (acc' ++ [y]))) else CI S B0 H0 B Mf D P (i + 1) H3)
    (hd : ∀ s acc B1 H', Same B B1 → HS S B0 H0 B1 H' ((D, .lst acc) :: Mf s) → acc.length ≤ xs.length → P xs.length s acc B1 → Q (.ref D) H') : CompW (Itl K a) g tt te vs σ D H1 Q :=
  lc_list (K := K) (a := a) (xs := xs) (CI S B0 H0 B Mf D P) ⟨s0, [], B, Same.refl _, hs.new hD, Nat.le_refl _, h0⟩ (fun i H' _ ⟨s, acc, B1, sb, hs', _⟩ => SqL.of (hs'.up (sb _ _ ea)))
    (fun i x H' hi ⟨s, acc, B1, sb, hs', hl, p⟩ => hb i x s acc B1 H' hi hl sb hs' p) fun H' ⟨s, acc, B1, sb, hs', hl, p⟩ => hd s acc B1 H' sb hs' hl p
theorem c_range {lo : Int} {n : Nat} (hs : HS S B0 H0 B H1 (Mf s0)) (hD : H1 D = none) (h0 : P 0 s0 [] B)
    (hb : ∀ i s acc B1 H', i < n → acc.length ≤ i → Same B B1 → HS S B0 H0 B1 H' ((D, .lst acc) :: Mf s) → P i s acc B1 → g (.int (lo + i)) (wipe σ vs) H' fun σ2 H2 => wipe σ2 vs = wipe σ vs ∧ tt σ2 H2 fun b H3 =>
      if b = true then te σ2 H3 fun y H4 => ∃ acc', H4 D = some (.lst acc') ∧ acc'.length < sizeLine ∧ CI S B0 H0 B Mf D P (i + 1) (upd H4 D (.lst (acc' ++ [y]))) else CI S B0 H0 B Mf D P (i + 1) H3)
    (hd : ∀ s acc B1 H', Same B B1 → HS S B0 H0 B1 H' ((D, .lst acc) :: Mf s) → acc.length ≤ n → P n s acc B1 → Q (.ref D) H') : CompW (Itr lo n) g tt te vs σ D H1 Q :=
  lc_range (lo := lo) (n := n) (CI S B0 H0 B Mf D P) ⟨s0, [], B, Same.refl _, hs.new hD, Nat.le_refl _, h0⟩
    (fun i H' hi ⟨s, acc, B1, sb, hs', hl, p⟩ => hb i s acc B1 H' hi hl sb hs' p) fun H' ⟨s, acc, B1, sb, hs', hl, p⟩ => hd s acc B1 H' sb hs' hl p
end
end Q

set_option Elab.async false
set_option linter.all false
set_option maxRecDepth 100000
set_option maxHeartbeats 4000000
namespace Q
open PySem PySem.Spec PyProof.Rows L2
abbrev WE0 (E : XK) : WX := fun c d _ H' => E c d H'
abbrev W0 : WX := fun _ _ _ _ => False
def rNegI : V → Hp → VK → Prop := rU fun i => .int (-i)
theorem x_un {r : V → Hp → VK → Prop} {ta : TE} {σ : L2.St} {H : Hp} {Q : VK} (h : ta σ H fun x H1 => r x H1 Q) : tUn r ta σ H Q := h
theorem x_neg {m : Int} {H : Hp} {Q : VK} (h : Q (.int (-m)) H) : rNegI (.int m) H Q := ⟨m, rfl, h⟩
/-! ### enumerate of a tuple -/
theorem meets_enumT (l : Addr) (items : Array Value) :
    Meets (Builtin.«enumerate.__new__» ⟨[.type "enumerate", .ref l], []⟩) (fun _ R s => s.heap.IsTuple l items ∧
      R (.ok (.ret (.ref (s.heap.push { cls := .type "tuple_iterator", data := .fields #[.ref l, .int 0 0] }).objs.size)))
        { s with heap := (s.heap.push { cls := .type "tuple_iterator", data := .fields #[.ref l, .int 0 0] }).push { cls := .type "enumerate", data := .fields #[.none, .bool false, .ref s.heap.objs.size, rawInt 0, .none, .none] } }) :=
  .of_wp fun prog w A R s h => by
    obtain ⟨hp, g, d, tk, os⟩ := s; obtain ⟨hl, h⟩ := h
    have hsub := sub_enumerate
    have hL : Heap.IsTuple (Shared.heap ⟨hp, g, d, tk, os⟩) l items := hl
    obtain ⟨ob, hob, hcl, n, hdt⟩ := id hl
    have q1 : ∀ {A' : Around} {E : Value → Shared → Prop} {Q : Value → Shared → Prop}, Q (.ref hp.objs.size) ⟨hp.push { cls := .type "tuple_iterator", data := .fields #[.ref l, .int 0 0] }, g, d, tk, os⟩ → wpAny (model prog w) A' (pyIter (.ref l)) Q E ⟨hp, g, d, tk, os⟩ :=
      fun q => (begins_tuple l items).iter prog w _ _ ⟨hp, g, d, tk, os⟩ _ hl q
    wp_walk using q1
    refine wpAny_stack_any fun st => wpAny_pure ?_
    split
    · rename_i c _ _ _ _ _
      cases (c == Value.type "enumerate")
      · wp_walk using q1
        exact ⟨_, rfl, h⟩
      · wp_walk using q1
        exact ⟨_, rfl, h⟩
    · wp_walk using q1
      exact ⟨_, rfl, h⟩
theorem call_enumT {prog : Program} {w : World} {A : Around} {E : Value → Shared → Prop} {s : Shared} {l : Addr} {items : Array Value} {Q : Value → Shared → Prop} (hL : s.heap.IsTuple l items)
    (h : ∀ h', IsEnum h' (s.heap.objs.size + 1) s.heap.objs.size 0 .none → h'.IsTupleIter s.heap.objs.size l 0 → h'.objs.size = s.heap.objs.size + 2 →
      (∀ b o, s.heap.get? b = some o → h'.get? b = some o) → Q (.ref (s.heap.objs.size + 1)) { s with heap := h' }) :
    wpAny (model prog w) A (call (.type "enumerate") [.ref l]) Q E s := by
  refine callType_new F.called_enumerate (by decide) (F.typeCall_enumerate_1 _) (F.newCall_enumerate_1 _) (fun obj => F.args_object_init_2 obj _) F.entry_enumerate_new
    (meets_enumT l items) ⟨hL, ?_⟩
  have hz : (s.heap.push { cls := .type "tuple_iterator", data := .fields #[.ref l, .int 0 0] }).objs.size = s.heap.objs.size + 1 := Heap.size_push ..
  show _ ∧ _
  rw [hz]
  have he : IsEnum ((s.heap.push { cls := .type "tuple_iterator", data := .fields #[.ref l, .int 0 0] }).push
      { cls := .type "enumerate", data := .fields #[.none, .bool false, .ref s.heap.objs.size, rawInt 0, .none, .none] }) (s.heap.objs.size + 1) s.heap.objs.size 0 .none := by
    have := Heap.get?_push_size (s.heap.push { cls := .type "tuple_iterator", data := .fields #[.ref l, .int 0 0] })
      (o := { cls := .type "enumerate", data := .fields #[.none, .bool false, .ref s.heap.objs.size, rawInt 0, .none, .none] }) rfl
    rw [hz] at this; exact this
  refine ⟨⟨_, he, rfl⟩, h _ he ⟨_, Heap.get?_push_of_some _ (Heap.get?_push_size _ rfl), rfl, rfl⟩ (by rw [Heap.size_push, hz]) fun b o x => Heap.get?_push_of_some _ (Heap.get?_push_of_some _ x)⟩
def IteT (K : PySem.W.Frag) (a : Addr) : It :=
  ⟨fun i H => ∃ (xs : List V) (x : V), SqT K H a xs ∧ xs[i]? = some x, fun i H v H' => ∃ T x, v = .ref T ∧ H T = none ∧ H' = upd H T (.tup [.int (i : Nat), x]) ∧ ∀ xs, SqT K H a xs → xs[i]? = some x, fun i H => ∃ xs : List V, SqT K H a xs ∧ xs.length ≤ i⟩
theorem turn_enumT {P : Program} {w : World} {K : PySem.W.Frag} {elts : List Expr} {kk : Nat} {tpos : Pos} (a e it : Addr) (hai : a ≠ it) (hea : e ≠ a) :
    Turn P w K (.Tuple elts kk tpos) (IteT K a) [e, it] e (fun i h => (∃ old, IsEnum h e it ((i : Nat) : Int) old) ∧ h.IsTupleIter it a i ∧ e ≠ it) where
  mem := by simp
  obj := fun i h st b hb => by
    obtain ⟨⟨old, he⟩, ⟨o, ho, hc, hd⟩, _⟩ := st
    have e' : b = e ∨ b = it := by simpa using hb
    rcases e' with z | z
    · rw [z]; exact ⟨_, he, fun v q => nomatch q⟩
    · rw [z]; exact ⟨o, ho, fun v q => by rw [hd] at q; cases q⟩
  keep := fun i h h' st k => let ⟨⟨old, he⟩, hi, hne⟩ := st; ⟨⟨old, k e (by simp) _ he⟩, hi.at fun o q => k it (by simp) o q, hne⟩
  item := by
    intro X hP hw hK hc i pins s σ H E I hf st hg
    subst hP hw hK
    obtain ⟨⟨old, he⟩, hit, hne⟩ := st
    obtain ⟨xs, x, hq, hx⟩ := hg
    obtain ⟨its, rv, p, hz⟩ := I.tuple hq
    obtain ⟨u, hu, ru⟩ := rv.get hx
    have hel : e < s.heap.objs.size := Heap.lt_size he
    have hil : it < s.heap.objs.size := by obtain ⟨_, q, _⟩ := hit; exact Heap.lt_size q
    have hlt : i < its.toArray.size := by
      have := (List.getElem?_eq_some_iff.mp hu).1
      simpa using this
    refine wpAny_pyNext_enum_itemD (Draws.tuple (A := X.A.in1) (I.ok.hd hc) it a hai its.toArray) he ⟨hit, p⟩ hlt hne (by simp [hne, hea]) fun y h' tk hy ho hst hT hsz hk => ?_
    have ey : y = u := by
      have h1 : its[i]? = some y := by simpa using hy
      rw [hu] at h1; exact (Option.some.inj h1).symm
    subst ey
    refine ⟨_, rfl, wpAny_letOwnedTupleGo_enum (s := { s with heap := h', toks := tk + 1 }) ho fun h'' he' sb => ?_⟩
    have hT2 : h''.get? s.heap.objs.size = some { cls := .type "tuple", data := .seq #[.int i tk, y] } := (sb.2 _ (Nat.ne_of_gt hel)).trans hT
    have new : ObjOk X.prog X.w (upd H s.heap.objs.size (.tup [.int (i : Nat), x])) h'' s.heap.objs.size (.tup [.int (i : Nat), x]) :=
      ⟨by show 2 ≤ sizeLine; decide, [.int i tk, y], .cons ⟨_, rfl⟩ (.cons ru .nil), ⟨_, hT2, rfl, _, rfl⟩⟩
    have I1 : Inv X pins σ (upd H s.heap.objs.size (.tup [.int (i : Nat), x])) { s with heap := h'', toks := tk + 1 } :=
      I.turnedNew (ch := [e, it]) (fun b ob hb q => (sb.2 b (fun z => hb (by simp [z]))).trans (hk b ob (fun z => hb (by simp [z])) (fun z => hb (by simp [z])) q)) hf (Nat.le_refl _) new
    refine ⟨.ref s.heap.objs.size, _, I1, rfl, ⟨_, x, rfl, I.hok.fresh (Nat.le_refl _), rfl, fun ys hy => by rw [I.tuple_inj hy hq]; exact hx⟩, ⟨⟨y, ?_⟩, hst.1.at fun o q => (sb.2 it (Ne.symm hne)).trans q, hne⟩, fun b hb => ?_⟩
    · have e1 : ((i + 1 : Nat) : Int) = (i : Int) + 1 := by omega
      rw [e1]; exact he'
    · have hb' : b < s.heap.objs.size := by
        have e' : b = e ∨ b = it := by simpa using hb
        rcases e' with z | z
        · rw [z]; exact hel
        · rw [z]; exact hil
      rw [upd_ne (Nat.ne_of_lt hb')]
      exact (hf b hb).1
  done := by
    intro X hP hw hK hc i pins s σ H E I hf st hg
    subst hP hw hK
    obtain ⟨⟨old, he⟩, hit, hne⟩ := st
    obtain ⟨xs, hq, hx⟩ := hg
    obtain ⟨its, rv, p, hz⟩ := I.tuple hq
    obtain ⟨f0, f1, f2, f3, f4, f5⟩ := hf it (by simp)
    have hl := rv.length
    have hTy : s.TypeIs (.ref e) "enumerate" := ⟨_, he, rfl⟩
    unfold pyNext
    refine wpAny_bind (wpAny_attempt (wpAny_callSpecial?_slot (name := Str.ofString "__next__") hTy F.slot_enumerate_next
      (wpAny_call_entry F.slot_enumerate_next hTy F.entry_enumerate_next ?_ (F.args_enumerate_next_1 _))))
    show wpAny _ _ (field (.ref e) 2 >>= _) _ _ _
    refine wpAny_bind (wpAny_field he rfl (x := .ref it) rfl ?_)
    refine wpAny_bind (wpAny_nextOf_tuple_end (A := X.A.in1) (I.ok.hd hc) hit (show s.heap.IsTuple a its.toArray from p) (by simp; omega) fun h' x he' hx' => ?_)
    obtain ⟨o, ho, hcx⟩ := hx'
    refine wpAny_bind (wpAny_isInstance (T := "StopIteration") (b := true) ⟨o, ho, hcx⟩ isSubtype_stop ?_)
    exact wpAny_pure ⟨rfl, I.turned (t' := s.toks) (fun b o hb q => he' b o hb q) f0 f1 f3 f4 f5⟩
  self := fun A i s Q E st h => let ⟨⟨_, he⟩, _⟩ := st; wpAny_pyIter_enum he h
def iEnumT (K : PySem.W.Frag) (ta : TA) : TI := fun σ H R => ta σ H fun vs H1 => ∃ a xs, vs = [.ref a] ∧ SqT K H1 a xs ∧ R (IteT K a) H1
theorem pi_enumT {X : Cx} {e : Expr} {ta : TA} {p pos tpos : Pos} {elts : List Expr} {kk : Nat} (hg : Gl X "enumerate") (hm : X.mg "enumerate" = none) (ha : PA X [e] ta) (hs : starEach [e] X.env = [(false, eval e X.env)] := by rfl) :
    PI X (.Tuple elts kk tpos) (.Call (.Name "enumerate" p) [e] [] pos) (iEnumT X.K ta) := by
  refine ⟨fun pins s σ H R I h => ?_⟩
  refine Call_ (ld_blt I hg hm boot_enumerate (PyProof.Rows.callWith_type1 (thn (ha.run pos pins s σ H _ I h) fun us s1 ⟨vs, H1, I1, r1, q1⟩ => ?_) hs rfl))
  obtain ⟨a, xs, ex, hq, q⟩ := q1
  subst ex
  cases r1 with
  | cons r rr =>
    cases rr
    cases r
    obtain ⟨its, rv, p', hz⟩ := I1.tuple hq
    have ha : a < s1.heap.objs.size := by obtain ⟨o, e1, _⟩ := p'; exact Heap.lt_size e1
    refine call_enumT (show s1.heap.IsTuple a its.toArray from p') fun h' he hit hsz hk => wpAny_pyIter_enum he ?_
    have I2 : Inv X pins σ H1 { s1 with heap := h' } := I1.kept (t' := s1.toks) hk
    refine ⟨s1.heap.objs.size + 1, [s1.heap.objs.size + 1, s1.heap.objs.size], _, _, H1, rfl, I2, turn_enumT a (s1.heap.objs.size + 1) s1.heap.objs.size (Nat.ne_of_lt ha) (Nat.ne_of_gt (Nat.lt_succ_of_lt ha)), ⟨⟨.none, he⟩, hit, Nat.succ_ne_self _⟩, fun b hb => ?_, q⟩
    have e' : b = s1.heap.objs.size + 1 ∨ b = s1.heap.objs.size := by simpa using hb
    have hle : s1.heap.objs.size ≤ b := by
      rcases e' with z | z
      · rw [z]; exact Nat.le_add_right _ _
      · rw [z]; exact Nat.le_refl _
    exact I1.fpOk hle (I1.hok.fresh hle)
theorem walk_enumT {K : PySem.W.Frag} {a : Addr} {xs : List V} : Walk (IteT K a) xs.length (fun H => SqT K H a xs) (YPair (fun i => some (.int (i : Nat))) (fun i => xs[i]?)) := by
  refine ⟨fun i _ hi q => ⟨xs, xs[i], q, by simp [hi]⟩, fun _ q => ⟨xs, q, Nat.le_refl _⟩, fun i H v H' _ q y => ?_⟩
  obtain ⟨T, x, h1, h2, h3, h4⟩ := y
  exact ⟨T, .int (i : Nat), x, h1, h2, h3, rfl, h4 xs q⟩
theorem x_iEnumT {K : PySem.W.Frag} {ta : TA} {σ : L2.St} {H : Hp} {R : It → Hp → Prop} (h : ta σ H fun vs H1 => ∃ a xs, vs = [.ref a] ∧ SqT K H1 a xs ∧ R (IteT K a) H1) : iEnumT K ta σ H R := h
theorem x_iEnum {K : PySem.W.Frag} {ta : TA} {σ : L2.St} {H : Hp} {R : It → Hp → Prop} (h : ta σ H fun vs H1 => ∃ a xs, vs = [.ref a] ∧ SqL K H1 a xs ∧ R (Ite K a) H1) : iEnum K ta σ H R := h
section
variable {α : Type} {K : PySem.W.Frag} {S : List Addr} {B0 H0 B : Hp} {σf : α → L2.St} {Mf : α → List (Addr × HO)} {P : Nat → α → Hp → Prop} {a : Addr} {xs : List V} {g : TG} {tb : TS} {De : Ends} {H : Hp} {s0 : α}
theorem l_enumT (hs : HS S B0 H0 B H (Mf s0)) (ea : B a = some (.tup xs)) (h0 : P 0 s0 B)
    (hb : ∀ i x s T B1 H1, xs[i]? = some x → Same B B1 → HS S B0 H0 B1 H1 (Mf s) → P i s B1 → B1 T = some (.tup [.int (i : Nat), x]) → g (.ref T) (σf s) H1 fun σ2 H2 => tb { De with nx := LI S B0 H0 B σf Mf P (i + 1), ct := LI S B0 H0 B σf Mf P (i + 1), bk := De.nx } σ2 H2)
    (hd : ∀ s B1 H1, Same B B1 → HS S B0 H0 B1 H1 (Mf s) → P xs.length s B1 → De.nx (σf s) H1)
    (hm : ∀ i s B1 B2, P i s B1 → Same B1 B2 → P i s B2) : LoopW (IteT K a) g tb De (σf s0) H := by
  refine for_it (walk_enumT (xs := xs)) (LI S B0 H0 B σf Mf P) ⟨s0, B, rfl, Same.refl _, hs, h0⟩ (fun i σ H' _ ⟨s, B1, _, sb, hs', _⟩ => SqT.of (hs'.up (sb _ _ ea))) (fun i x σ H' H2 hi ⟨s, B1, e, sb, hs', p⟩ y => ?_) fun σ H' ⟨s, B1, e, sb, hs', p⟩ => ?_
  · obtain ⟨T, v, u, rfl, hT, rfl, e1, e2⟩ := y
    cases e1
    rw [e]
    exact x_newF (Qp := fun T H2 => g (.ref T) (σf s) H2 fun σ2 H2 => tb { De with nx := LI S B0 H0 B σf Mf P (i + 1), ct := LI S B0 H0 B σf Mf P (i + 1), bk := De.nx } σ2 H2) hs' (fun p B' H' h1 h2 h3 _ => hb i u s p B' H' e2 (sb.trans h2) h1 (hm i s B1 B' ‹_› h2) h3) T hT
  · rw [e]
    exact hd s B1 H' sb hs' p
end
/-! ### sorted of texts: a list, a tuple, a dict's keys -/
def rSortL (K : PySem.W.Frag) : List V → Hp → VK → Prop := rSortedS K
theorem cSortL {X : Cx} : CallR X (.builtin "sorted") (rSortL X.K) := cr_sortedS
def rSortT (K : PySem.W.Frag) : List V → Hp → VK → Prop := fun vs H Q => ∃ (a : Addr) (xs : List Str), vs = [V.ref a] ∧ SqT K H a (xs.map V.str) ∧ xs.length < 64 ∧
  ∀ (ys : List Str) (p : Addr), ys.Perm xs → sortedS ys = true → H p = none → Q (.ref p) (upd H p (.lst (ys.map V.str)))
theorem cSortT {X : Cx} (hc : X.calm = true) : CallR X (.builtin "sorted") (rSortT X.K) := by
  intro pins s σ H xs us Q I r q
  obtain ⟨a, ks, ex, hd, h64, q⟩ := q
  subst ex
  obtain ⟨u, eu, rx⟩ := vals1 r
  subst eu
  cases rx
  obtain ⟨its, rv, ⟨o, ho, hcl, n, hdt⟩, hz⟩ := I.tuple hd
  have hal : its.length = ks.length := by rw [← rv.length, List.length_map]
  have hS : StrsAre its ks := rv.strs
  refine Calls.call_function_entry PyProof.Rows.kind_sorted PyProof.Rows.plain_sorted PyProof.Rows.entry_sorted (PyProof.Rows.args_sorted1 _) ?_
  unfold Builtin.«sorted»
  refine wpAny_bind (m := checkCount "sorted" 1 1 _) (wpAny_pure ?_)
  refine wpAny_bind (wpAny_collect_seq (A := X.A.in1) a (.inr rfl) ho hcl hdt (fun h' hk => ?_) (by simp; rw [hal]; rw [sizeLine_eq]; omega))
  have I1 : Inv X pins σ H { s with heap := h', toks := s.toks } := I.kept hk
  show wpAny _ _ _ _ _ { s with heap := h' }
  refine wpAny_bind (wpAny_newList ?_ (by simp; rw [hal, sizeLine_eq]; omega))
  have el : its.toArray.toList = its := by simp
  rw [el]
  have hoL : (h'.push (seqObj "list" its.toArray 0)).get? h'.objs.size = some (seqObj "list" its.toArray 0) := Heap.get?_push_size _ rfl
  show wpAny _ _ _ _ _ { s with heap := h'.push (seqObj "list" its.toArray 0) }
  refine wpAny_bind (wpAny_holding (wpAny_call_entry PyProof.Rows.slot_list_sort ⟨_, hoL, rfl⟩ PyProof.Rows.entry_list_sort
    (list_sort_treeK strKind_oneLt (s := { s with heap := h'.push (seqObj "list" its.toArray 0) }) hoL hS.keysOf (fun v₁ v₂ rest e => keyKind_strs (by rw [← e]; exact hS)) (by rw [hal]; exact h64) fun st' hp hs => ⟨_, rfl, ?_⟩)
    (PyProof.Rows.args_list_sort _)))
  obtain ⟨ys, g1, g2, g3⟩ := sorted_out_str hS hp hs
  obtain ⟨e', he'⟩ := PyProof.Rows.sortedHeap_at (vs := its) (out := (arrOf st').map (·.2)) hoL
  have hlen : (ys.map V.str).length ≤ sizeLine := by
    rw [List.length_map, g2.length_eq]
    exact Nat.le_trans (Nat.le_of_lt h64) (by decide)
  refine wpAny_pure ⟨_, rfl, .ref h'.objs.size, upd H h'.objs.size (.lst (ys.map V.str)), I1.laid (t' := s.toks) (fun b u e => ?_) (Nat.le_refl _)
    (show ObjOk X.prog X.w _ _ _ (.lst (ys.map V.str)) from ⟨hlen, ((arrOf st').map (·.2)).toList, e', vals_of_strs g1, by rw [Array.toArray_toList]; exact he'⟩), rfl, q ys _ g2 g3 (I1.hok.fresh (Nat.le_refl _))⟩
  have hb : b < h'.objs.size := Heap.lt_size e
  rw [PyProof.Rows.sortedHeap_old (Nat.ne_of_lt hb) (by rw [size_push']; exact Nat.lt_succ_of_lt hb)]
  exact Heap.get?_push_of_some _ e
end Q

set_option Elab.async false
set_option linter.all false
set_option maxRecDepth 100000
set_option maxHeartbeats 4000000
namespace Q
open PySem PySem.Spec PyProof.Rows L2
section
variable {K : PySem.W.Frag} {σ : L2.St} {H : Hp} {Q : VK} {Qs : L2.St → Hp → Prop} {De : Ends} {te tu td ty tv to ta : TE} {tl : TA} {v y : V} {W : WX} {x : Str} {p C dx l : Addr} {fs : List (Str × V)} {f : Str} {S : List Addr} {B0 H0 B : Hp} {M : List (Addr × HO)} {kvs : List (Key × V)} {xs : List V}
/-! ### more steps: dicts, lists, fields, targets, errors -/
/-- a new thing o, and what is wanted of it -/
def New (o : HO) (Q : VK) (H : Hp) : Prop := ∀ p, H p = none → Q (.ref p) (upd H p o)
def NewL (Q : VK) (xs : List V) (H : Hp) : Prop := xs.length ≤ sizeLine ∧ New (.lst xs) Q H
def NewT (Q : VK) (xs : List V) (H : Hp) : Prop := xs.length ≤ sizeLine ∧ New (.tup xs) Q H
def Rz (W : WX) (C : Addr) (fs : List (Str × V)) (σ : L2.St) (H : Hp) : Prop := ∀ d, H d = none → W (.ref C) (some d) σ (upd H d (.xd fs))
def SetF (K : PySem.W.Frag) (f : Str) (R : Hp → Prop) (x y : V) (H : Hp) : Prop := ∃ a C dx fs, x = .ref a ∧ H a = some (.ins C dx fs) ∧ Cls K C ∧ NoAttr K C f ∧ fs.length < 1000 ∧ R (upd H a (.ins C dx (putF f y fs)))
def Mkd (C : Addr) (sp : Sp) (W : WX) (σ : L2.St) (Q : VK) (vs : List V) (H : Hp) : Prop := ∀ x dx, H x = none → H dx = none → dx ≠ x → sp (.ref x :: vs) (upd (upd H dx (.own x)) x (.ins C dx [])) (fun v H2 => v = .non ∧ Q (.ref x) H2) fun c d H' => W c d σ H'
theorem new_M {o : HO} (hs : HS S B0 H0 B H M) (k : ∀ p H', HS S B0 H0 B H' ((p, o) :: M) → H p = none → Q (.ref p) H') : New o Q H := x_new (Qp := fun p H' => Q (.ref p) H') hs k
theorem new_F {o : HO} (hs : HS S B0 H0 B H M) (k : ∀ p B' H', HS S B0 H0 B' H' M → Same B B' → B' p = some o → H p = none → Q (.ref p) H') : New o Q H := x_newF (Qp := fun p H' => Q (.ref p) H') hs k
theorem x_newL (hz : xs.length ≤ 1000000) (h : New (.lst xs) Q H) : NewL Q xs H := ⟨small_le hz, h⟩
theorem x_newT (hz : xs.length ≤ 1000000) (h : New (.tup xs) Q H) : NewT Q xs H := ⟨small_le hz, h⟩
theorem x_lst (h : tl σ H (NewL Q)) : tLst tl σ H Q := h
theorem x_tup (h : tl σ H (NewT Q)) : tTup tl σ H Q := h
theorem x_dget (h : td σ H fun x H1 => ty σ H1 fun y H2 => ∃ a v, x = .ref a ∧ DGet H2 a y (some v) ∧ Q v H2) : tDGet td ty σ H Q := h
theorem x_dgS {R : V → Prop} (hd : H p = some (.dK kvs)) (e : valV kvs (.inr x) = some v) (h : R v) : ∃ a v, V.ref p = .ref a ∧ DGet H a (.str x) (some v) ∧ R v := ⟨p, v, rfl, by rw [← e]; exact DGet.k (k := .inr x) hd, h⟩
theorem x_dnin (h : ty σ H fun y H1 => td σ H1 fun x H2 => ∃ a o, x = .ref a ∧ DGet H2 a y o ∧ Q (.bl (!o.isSome)) H2) : tDNotIn ty td σ H Q := h
theorem x_dinO {R : Option V → Prop} (hd : H p = some (.dK kvs)) (h : R (valV kvs (.inr x))) : ∃ a o, V.ref p = .ref a ∧ DGet H a (.str x) o ∧ R o := ⟨p, _, rfl, DGet.k (k := .inr x) hd, h⟩
theorem x_dputU (h : tv σ H fun v H1 => td σ H1 fun x H2 => ty σ H2 fun y H3 => ∃ a H4, x = .ref a ∧ DPut H3 a y v H4 ∧ De.nx σ H4) : sDPut td ty tv De σ H := h
theorem x_dput {R : Hp → Prop} (hs : HS S B0 H0 B H ((p, .dK kvs) :: M)) (hz : kvs.length ≤ 1000000) (h : ∀ H', HS S B0 H0 B H' ((p, .dK (putK kvs (.inr x) v)) :: M) → R H') : ∃ a H4, V.ref p = .ref a ∧ DPut H a (.str x) v H4 ∧ R H4 :=
  ⟨p, _, rfl, DPut.k (k := .inr x) (hs.get List.mem_cons_self) (small_lt hz), h _ hs.set0⟩
theorem x_dnew (h : New (.dK []) Q H) : tDNewK σ H Q := h
theorem x_bm {T : String} {r : V → List V → Hp → VK → Prop} (h : to σ H fun x H1 => tyV K T x H1 ∧ tl σ H1 fun xs H2 => r x xs H2 Q) : tBM K T r to tl σ H Q := h
theorem x_bm0 {T : String} {r : V → List V → Hp → VK → Prop} (h : to σ H fun x H1 => tyV K T x H1 ∧ r x [] H1 Q) : tBM0 K T r to σ H Q := h
theorem x_tyL {R : Prop} (hl : SqL K H l xs) (h : R) : tyV K "list" (.ref l) H ∧ R := ⟨Or.inl ⟨rfl, _, hl⟩, h⟩
theorem x_append (hs : HS S B0 H0 B H ((l, .lst xs) :: M)) (hz : xs.length ≤ 1000000) (h : ∀ H', HS S B0 H0 B H' ((l, .lst (xs ++ [y])) :: M) → Q .non H') : rAppend (.ref l) [y] H Q :=
  ⟨l, xs, y, rfl, rfl, hs.get List.mem_cons_self, small_lt hz, h _ hs.set0⟩
theorem x_popAt {i : Int} {k : Nat} (hs : HS S B0 H0 B H ((l, .lst xs) :: M)) (h1 : -(2 ^ 63) ≤ i) (h2 : i < 2 ^ 63) (e1 : seqIndex? i xs.length = some k) (e : xs[k]? = some y) (h : ∀ H', HS S B0 H0 B H' ((l, .lst (xs.eraseIdx k)) :: M) → Q y H') : rPopAt (.ref l) [.int i] H Q :=
  ⟨l, xs, i, k, y, rfl, rfl, hs.get List.mem_cons_self, h1, h2, e1, e, h _ hs.set0⟩
theorem x_setL {m : Int} {j : Nat} {Qh : Hp → Prop} (hs : HS S B0 H0 B H ((l, .lst xs) :: M)) (e : ixN xs.length m = some j) (h : ∀ H', HS S B0 H0 B H' ((l, .lst (xs.set j v)) :: M) → Qh H') : rSetL (.ref l) (.int m) v H Qh :=
  ⟨l, xs, m, j, rfl, rfl, hs.get List.mem_cons_self, e, h _ hs.set0⟩
theorem x_gsub {ti : TE} {t : TSet} (h : to σ H fun o H1 => ti σ H1 fun i H2 => t o i v H2 fun H3 => Qs σ H3) : gSub to ti t v σ H Qs := h
theorem x_fldU (h : ta σ H fun x H1 => ∃ a C dx fs v, x = .ref a ∧ H1 a = some (.ins C dx fs) ∧ Cls K C ∧ NoAttr K C f ∧ fs.lookup f = some v ∧ Q v H1) : tFld K ta f σ H Q := h
theorem x_fld {R : V → Prop} (hp : H p = some (.ins C dx fs)) (cl : Cls K C) (na : NoAttr K C f) (e : fs.lookup f = some v) (h : R v) : ∃ a C dx fs v, V.ref p = .ref a ∧ H a = some (.ins C dx fs) ∧ Cls K C ∧ NoAttr K C f ∧ fs.lookup f = some v ∧ R v :=
  ⟨p, C, dx, fs, v, rfl, hp, cl, na, e, h⟩
theorem x_sfldU (h : tv σ H fun y H1 => ta σ H1 fun x H2 => SetF K f (De.nx σ) x y H2) : sFld K ta tv f De σ H := h
theorem x_sfld {R : Hp → Prop} (hs : HS S B0 H0 B H ((p, .ins C dx fs) :: M)) (cl : Cls K C) (na : NoAttr K C f) (hl : fs.length < 1000) (h : ∀ H', HS S B0 H0 B H' ((p, .ins C dx (putF f y fs)) :: M) → R H') :
    SetF K f R (.ref p) y H := ⟨p, C, dx, fs, rfl, hs.get List.mem_cons_self, cl, na, hl, h _ hs.set0⟩
theorem x_gtup {n : Nat} {t : TGs} (hp : SqT K H p xs) (hn : xs.length = n) (h : t xs σ H Qs) : gTup K n t (.ref p) σ H Qs := ⟨p, xs, rfl, hp, hn, h⟩
theorem x_gcons {t : TG} {u : TGs} {r : List V} (h : t v σ H fun σ' H' => u r σ' H' Qs) : gCons t u (v :: r) σ H Qs := ⟨v, r, rfl, h⟩
theorem x_gnil (h : Qs σ H) : gNil [] σ H Qs := ⟨rfl, h⟩
theorem x_rz1 (h : te σ H fun v H1 => Rz W C [(f, v)] σ H1) : tRz1 C f te W De σ H := h
theorem x_thr {E : XK} {c : Str} {gs : List (Str × V)} (hs : HS [] B0 H0 B H M) (k : Thr K B0 H0 E c gs) : Rz (WE0 E) (He.ga K c) gs σ H := fun d hd =>
  k B _ d (hs.new hd).all (same_none hs.bh hd) upd_same
theorem x_mtU {m : Str} {sp : Sp} (h : ta σ H fun x H1 => ∃ a dx fs, x = .ref a ∧ H1 a = some (.ins C dx fs) ∧ fs.lookup m = none ∧ tl σ H1 fun vs H2 => sp (x :: vs) H2 Q fun c d H' => W c d σ H') : tMt C m sp W ta tl σ H Q := h
theorem x_mt {m : Str} {R : Prop} (hp : H p = some (.ins C dx fs)) (e : fs.lookup m = none) (h : R) : ∃ a dx fs, V.ref p = .ref a ∧ H a = some (.ins C dx fs) ∧ fs.lookup m = none ∧ R := ⟨p, dx, fs, rfl, hp, e, h⟩
theorem x_mk {sp : Sp} (h : tl σ H (Mkd C sp W σ Q)) : tMk C sp W tl σ H Q := h
theorem x_str1 {R : Prop} {z : Str} (h : R) : (∃ a, V.str z = .str a) ∧ R := ⟨⟨z, rfl⟩, h⟩
theorem x_yes {Qb : Bool → Hp → Prop} (h : Qb true H) : tYes σ H Qb := h
theorem x_listL (hp : SqL K H p xs) (h : New (.lst xs) Q H) : rListOf K [.ref p] H Q := ⟨p, xs, rfl, .inl hp, h⟩
theorem x_listT (hp : SqT K H p xs) (h : New (.lst xs) Q H) : rListOf K [.ref p] H Q := ⟨p, xs, rfl, .inr hp, h⟩
theorem x_tupL (hp : SqL K H p xs) (h : New (.tup xs) Q H) : rTupOf K [.ref p] H Q := ⟨p, xs, rfl, .inl ⟨hp, h⟩⟩
theorem x_sortT {ss : List Str} (hp : SqT K H p (ss.map V.str)) (hz : ss.length < 64) (h : ∀ ys : List Str, ys.Perm ss → sortedS ys = true → New (.lst (ys.map V.str)) Q H) : rSortT K [.ref p] H Q := ⟨p, ss, rfl, hp, hz, fun ys q pe so hn => h ys pe so q hn⟩
theorem x_sortL {ss : List Str} (hp : SqL K H p (ss.map V.str)) (hz : ss.length < 64) (h : ∀ ys : List Str, ys.Perm ss → sortedS ys = true → New (.lst (ys.map V.str)) Q H) : rSortL K [.ref p] H Q := ⟨p, ss, rfl, hp, hz, fun ys q pe so hn => h ys pe so q hn⟩
end
/-! ### more of the frame -/
theorem HS.perm {S : List Addr} {B0 H0 B H : Hp} {M M' : List (Addr × HO)} (h : HS S B0 H0 B H M) (p : M.Perm M') : HS S B0 H0 B H M' :=
  ⟨h.bb, h.bh, h.fr, fun q m => h.mu q (p.mem_iff.mpr m), (p.map (·.1)).nodup_iff.mp h.nd⟩
/-- what is new stands still from now on, with what it names -/
theorem HS.still {S : List Addr} {B0 H0 B H : Hp} {p : Addr} {o : HO} {M : List (Addr × HO)} (h : HS S B0 H0 B H ((p, o) :: M)) (hp : p ∉ S) : HS S B0 H0 (upd B p o) H M ∧ Same B (upd B p o) :=
  h.freeze ((h.mu (p, o) List.mem_cons_self).2.2.resolve_right hp)
/-! ### dict comprehensions -/
abbrev CompD (J : It) (g : TG) (tt : TT) (tk tv : TE) (vs : List Nat) (σ : L2.St) (D : Addr) (H1 : Hp) (Q : VK) : Prop := ∃ W : Nat → Nat → Hp → Prop, (∃ m, W 0 m (upd H1 D (.dK []))) ∧ ∀ i m H, W i m H →
  (J.stop i H ∧ Q (.ref D) H) ∨ (J.go i H ∧ ∃ Nx : Hp → Prop, (∀ H', Nx H' → ∃ m', m' < m ∧ W (i + 1) m' H') ∧ ∀ x H', J.yld i H x H' → g x (wipe σ vs) H' fun σ2 H2 => wipe σ2 vs = wipe σ vs ∧ tt σ2 H2 fun b H3 =>
    if b = true then tk σ2 H3 fun y H4 => tv σ2 H4 fun z H5 => ∃ kvs k, y = kV k ∧ H5 D = some (.dK kvs) ∧ kvs.length < sizeLine ∧ Nx (upd H5 D (.dK (putK kvs k z))) else Nx H3)
theorem x_dc {wi : TI} {g : TG} {tt : TT} {tk tv : TE} {vs : List Nat} {σ : L2.St} {H : Hp} {Q : VK} (h : wi σ H fun J H1 => ∀ D, H1 D = none → CompD J g tt tk tv vs σ D H1 Q) : tDc wi g tt tk tv vs σ H Q := h
def DI {α : Type} (S : List Addr) (B0 H0 B : Hp) (Mf : α → List (Addr × HO)) (D : Addr) (P : Nat → α → List (Key × V) → Hp → Prop) (i : Nat) (H : Hp) : Prop :=
  ∃ s acc B1, Same B B1 ∧ HS S B0 H0 B1 H ((D, .dK acc) :: Mf s) ∧ acc.length ≤ i ∧ P i s acc B1
theorem putK_len {κ : Type} [DecidableEq κ] (kvs : List (κ × V)) (k : κ) (v : V) : (putK kvs k v).length ≤ kvs.length + 1 := by
  unfold putK
  split
  · rw [List.length_map]; omega
  · simp
section
variable {α : Type} {K : PySem.W.Frag} {S : List Addr} {B0 H0 B : Hp} {Mf : α → List (Addr × HO)} {P : Nat → α → List (Key × V) → Hp → Prop} {a D : Addr} {xs : List V} {g : TG} {tt : TT} {tk tv : TE} {vs : List Nat} {σ : L2.St} {H1 : Hp} {Q : VK} {s0 : α}
theorem d_keep {B2 H4 : Hp} {i : Nat} {s : α} {acc : List (Key × V)} {x : Str} {y : V} (sb : Same B B2) (hs : HS S B0 H0 B2 H4 ((D, .dK acc) :: Mf s)) (hi : acc.length ≤ i) (hz : i < 1000000) (p : P (i + 1) s (putK acc (.inr x) y) B2) :
    ∃ kvs k, V.str x = kV k ∧ H4 D = some (.dK kvs) ∧ kvs.length < sizeLine ∧ DI S B0 H0 B Mf D P (i + 1) (upd H4 D (.dK (putK kvs k y))) :=
  ⟨acc, .inr x, rfl, hs.get List.mem_cons_self, small_lt (by omega), s, putK acc (.inr x) y, B2, sb, hs.set0, Nat.le_trans (putK_len _ _ _) (by omega), p⟩
theorem d_it {J : It} {n : Nat} {G : Hp → Prop} {Y : Nat → Hp → V → Hp → Prop} (w : Walk J n G Y) (hs : HS S B0 H0 B H1 (Mf s0)) (hD : H1 D = none) (h0 : P 0 s0 [] B) (hG : ∀ B1 H' M, Same B B1 → HS S B0 H0 B1 H' M → G H')
    (hb : ∀ i x s acc B1 H' H2, i < n → acc.length ≤ i → Same B B1 → HS S B0 H0 B1 H' ((D, .dK acc) :: Mf s) → P i s acc B1 → Y i H' x H2 → g x (wipe σ vs) H2 fun σ2 H2 => wipe σ2 vs = wipe σ vs ∧ tt σ2 H2 fun b H3 =>
      if b = true then tk σ2 H3 fun y H4 => tv σ2 H4 fun z H5 => ∃ kvs k, y = kV k ∧ H5 D = some (.dK kvs) ∧ kvs.length < sizeLine ∧ DI S B0 H0 B Mf D P (i + 1) (upd H5 D (.dK (putK kvs k z))) else DI S B0 H0 B Mf D P (i + 1) H3)
    (hd : ∀ s acc B1 H', Same B B1 → HS S B0 H0 B1 H' ((D, .dK acc) :: Mf s) → acc.length ≤ n → P n s acc B1 → Q (.ref D) H') : CompD J g tt tk tv vs σ D H1 Q := by
  refine ⟨fun i m H => m = n - i ∧ i ≤ n ∧ DI S B0 H0 B Mf D P i H, ⟨n, by simp, Nat.zero_le _, s0, [], B, Same.refl _, hs.new hD, Nat.le_refl _, h0⟩, ?_⟩
  rintro i m H ⟨rfl, hi, s, acc, B1, sb, hs', hl, p⟩
  by_cases hlt : i < n
  · refine .inr ⟨w.goes i H hlt (hG B1 H _ sb hs'), DI S B0 H0 B Mf D P (i + 1), fun H' p' => ⟨n - (i + 1), by omega, rfl, hlt, p'⟩, fun x H' y => ?_⟩
    exact hb i x s acc B1 H H' hlt hl sb hs' p (w.yields i H x H' hlt (hG B1 H _ sb hs') y)
  · have e : i = n := by omega
    subst e
    exact .inl ⟨w.stops H (hG B1 H _ sb hs'), hd s acc B1 H sb hs' hl p⟩
theorem d_tup (hs : HS S B0 H0 B H1 (Mf s0)) (hD : H1 D = none) (ea : B a = some (.tup xs)) (h0 : P 0 s0 [] B)
    (hb : ∀ i x s acc B1 H', xs[i]? = some x → i < xs.length → acc.length ≤ i → Same B B1 → HS S B0 H0 B1 H' ((D, .dK acc) :: Mf s) → P i s acc B1 → g x (wipe σ vs) H' fun σ2 H2 => wipe σ2 vs = wipe σ vs ∧ tt σ2 H2 fun b H3 =>
      if b = true then tk σ2 H3 fun y H4 => tv σ2 H4 fun z H5 => ∃ kvs k, y = kV k ∧ H5 D = some (.dK kvs) ∧ kvs.length < sizeLine ∧ DI S B0 H0 B Mf D P (i + 1) (upd H5 D (.dK (putK kvs k z))) else DI S B0 H0 B Mf D P (i + 1) H3)
    (hd : ∀ s acc B1 H', Same B B1 → HS S B0 H0 B1 H' ((D, .dK acc) :: Mf s) → acc.length ≤ xs.length → P xs.length s acc B1 → Q (.ref D) H') : CompD (Itt K a) g tt tk tv vs σ D H1 Q :=
  d_it (walk_tup (xs := xs)) hs hD h0 (fun B1 H' M sb h => SqT.of (h.up (sb _ _ ea))) (fun i x s acc B1 H' H2 hi hl sb h p ⟨e1, e2⟩ => by rw [e1]; exact hb i x s acc B1 H' e2 hi hl sb h p) hd
/-- over enumerate(list): a new pair each turn -/
theorem d_enum (hs : HS S B0 H0 B H1 (Mf s0)) (hD : H1 D = none) (ea : B a = some (.lst xs)) (h0 : P 0 s0 [] B) (hm : ∀ i s acc B1 B2, P i s acc B1 → Same B1 B2 → P i s acc B2)
    (hb : ∀ i x s acc T B1 H', xs[i]? = some x → i < xs.length → acc.length ≤ i → Same B B1 → HS S B0 H0 B1 H' ((D, .dK acc) :: Mf s) → P i s acc B1 → B1 T = some (.tup [.int (i : Nat), x]) → g (.ref T) (wipe σ vs) H' fun σ2 H2 => wipe σ2 vs = wipe σ vs ∧ tt σ2 H2 fun b H3 =>
      if b = true then tk σ2 H3 fun y H4 => tv σ2 H4 fun z H5 => ∃ kvs k, y = kV k ∧ H5 D = some (.dK kvs) ∧ kvs.length < sizeLine ∧ DI S B0 H0 B Mf D P (i + 1) (upd H5 D (.dK (putK kvs k z))) else DI S B0 H0 B Mf D P (i + 1) H3)
    (hd : ∀ s acc B1 H', Same B B1 → HS S B0 H0 B1 H' ((D, .dK acc) :: Mf s) → acc.length ≤ xs.length → P xs.length s acc B1 → Q (.ref D) H') : CompD (Ite K a) g tt tk tv vs σ D H1 Q :=
  d_it (walk_enum (xs := xs)) hs hD h0 (fun B1 H' M sb h => SqL.of (h.up (sb _ _ ea))) (fun i v s acc B1 H' H2 hi hl sb h p y => by
    obtain ⟨T, v1, u, rfl, hT, rfl, e1, e2⟩ := y
    cases e1
    exact x_newF (Qp := fun T H2 => g (.ref T) (wipe σ vs) H2 fun σ2 H2 => wipe σ2 vs = wipe σ vs ∧ tt σ2 H2 fun b H3 =>
      if b = true then tk σ2 H3 fun y H4 => tv σ2 H4 fun z H5 => ∃ kvs k, y = kV k ∧ H5 D = some (.dK kvs) ∧ kvs.length < sizeLine ∧ DI S B0 H0 B Mf D P (i + 1) (upd H5 D (.dK (putK kvs k z))) else DI S B0 H0 B Mf D P (i + 1) H3) h
      (fun p' B' H' h1 h2 h3 _ => hb i u s acc p' B' H' e2 hi hl (sb.trans h2) h1 (hm i s acc B1 B' p h2) h3) T hT) hd
end
end Q
namespace Q
open PySem PySem.Spec PyProof.Rows L2
/-! ### rows of texts -/
theorem flat_strs (xs : List Str) : (xs.map V.str).all flatV = true := by
  rw [List.all_eq_true]
  intro v m
  obtain ⟨x, _, rfl⟩ := List.mem_map.mp m
  rfl
theorem inV_strs (x : Str) (xs : List Str) : inV (.str x) (xs.map V.str) = decide (x ∈ xs) := by
  unfold inV
  rw [Bool.eq_iff_iff, List.any_eq_true, decide_eq_true_iff]
  constructor
  · rintro ⟨v, m, e⟩
    obtain ⟨y, my, rfl⟩ := List.mem_map.mp m
    have : y = x := by simpa [eqV] using e
    rw [← this]; exact my
  · intro m
    exact ⟨.str x, List.mem_map.mpr ⟨x, m, rfl⟩, by simp [eqV]⟩
/-- a list or a tuple of texts -/
def Sq (B : Hp) (v : V) (xs : List Str) : Prop := ∃ a, v = .ref a ∧ (B a = some (.lst (xs.map V.str)) ∨ B a = some (.tup (xs.map V.str)))
theorem Sq.mono {B B' : Hp} {v : V} {xs : List Str} (s : Same B B') (h : Sq B v xs) : Sq B' v xs := by
  obtain ⟨a, e, h⟩ := h
  exact ⟨a, e, h.imp (s _ _) (s _ _)⟩
section
variable {K : PySem.W.Frag} {S : List Addr} {B0 H0 B H : Hp} {M : List (Addr × HO)} {Q : VK} {x : Str} {xs : List Str} {p : Addr} {vs : List V} {v : V}
theorem x_inLS (hp : SqL K H p (xs.map V.str)) (h : Q (.bl (decide (x ∈ xs))) H) : rIn K false (.str x) (.ref p) H Q := x_inL hp rfl (flat_strs xs) (by rw [inV_strs]; exact h)
theorem x_ninLS (hp : SqL K H p (xs.map V.str)) (h : Q (.bl (!decide (x ∈ xs))) H) : rIn K true (.str x) (.ref p) H Q := x_ninL hp rfl (flat_strs xs) (by rw [inV_strs]; exact h)
theorem x_ninTS (hp : SqT K H p (xs.map V.str)) (h : Q (.bl (!decide (x ∈ xs))) H) : rIn K true (.str x) (.ref p) H Q := x_ninT hp rfl (flat_strs xs) (by rw [inV_strs]; exact h)
theorem x_ninSq (hs : HS S B0 H0 B H M) (q : Sq B v xs) (h : Q (.bl (!decide (x ∈ xs))) H) : rIn K true (.str x) v H Q := by
  obtain ⟨a, rfl, e | e⟩ := q
  · exact x_ninLS (SqL.of (hs.up e)) h
  · exact x_ninTS (SqT.of (hs.up e)) h
theorem x_lenSq (hs : HS S B0 H0 B H M) (q : Sq B v xs) (h : Q (.int (xs.length : Nat)) H) : rLenA K [v] H Q := by
  obtain ⟨a, rfl, e | e⟩ := q
  · exact x_lenL (SqL.of (hs.up e)) (by rw [List.length_map]; exact h)
  · exact x_lenT (SqT.of (hs.up e)) (by rw [List.length_map]; exact h)
end
theorem strs_get {xs : List Str} {i : Nat} {v : V} (h : (xs.map V.str)[i]? = some v) : ∃ x, xs[i]? = some x ∧ v = .str x := by
  rw [List.getElem?_map] at h
  cases e : xs[i]? with
  | none => rw [e] at h; cases h
  | some x => rw [e] at h; exact ⟨x, rfl, (Option.some.inj h).symm⟩
section
variable {α : Type} {K : PySem.W.Frag} {S : List Addr} {B0 H0 B : Hp} {σf : α → L2.St} {Mf : α → List (Addr × HO)} {P : Nat → α → Hp → Prop} {v : V} {xs : List Str} {g : TG} {tb : TS} {De : Ends} {H : Hp} {s0 : α} {te : TE}
/-- for x in a list or a tuple of texts -/
theorem l_sq {σ : L2.St} {tl : TE} (hs : HS S B0 H0 B H (Mf s0)) (q : Sq B v xs) (ev : ∀ Qv : VK, Qv v H → tl (σf s0) H Qv) (h0 : P 0 s0 B)
    (hb : ∀ i x s B1 H1, xs[i]? = some x → Same B B1 → HS S B0 H0 B1 H1 (Mf s) → P i s B1 → g (.str x) (σf s) H1 fun σ2 H2 => tb { De with nx := LI S B0 H0 B σf Mf P (i + 1), ct := LI S B0 H0 B σf Mf P (i + 1), bk := De.nx } σ2 H2)
    (hd : ∀ s B1 H1, Same B B1 → HS S B0 H0 B1 H1 (Mf s) → P xs.length s B1 → De.nx (σf s) H1) : tFor (iSeq K tl) g tb De (σf s0) H := by
  obtain ⟨a, rfl, e | e⟩ := q
  · refine x_for (.inl (x_iList (ev _ ⟨a, rfl, ⟨_, SqL.of (hs.up e)⟩, ?_⟩)))
    refine l_list hs e h0 (fun i y s B1 H1 hi => ?_) fun s B1 H1 sb h p => hd s B1 H1 sb h (by rw [List.length_map] at p; exact p)
    obtain ⟨x, hx, rfl⟩ := strs_get hi
    exact hb i x s B1 H1 hx
  · refine x_for (.inr (x_iTup (ev _ ⟨a, rfl, ⟨_, SqT.of (hs.up e)⟩, ?_⟩)))
    refine l_tup hs e h0 (fun i y s B1 H1 hi => ?_) fun s B1 H1 sb h p => hd s B1 H1 sb h (by rw [List.length_map] at p; exact p)
    obtain ⟨x, hx, rfl⟩ := strs_get hi
    exact hb i x s B1 H1 hx
end
/-! ### dicts by data -/
def dval {α : Type} (ds : List (Key × α)) (k : Key) : Option α := (ds.find? fun kv => decide (kv.1 = k)).map (·.2)
theorem repK_val {K : PySem.W.Frag} {B : Hp} : ∀ {kvs : List (Key × V)} {ds : List (Key × D)}, RepK K B kvs ds → ∀ k, (∃ v d, valV kvs k = some v ∧ dval ds k = some d ∧ Rep K B v d) ∨ (valV kvs k = none ∧ dval ds k = none)
  | _, _, .nil, k => .inr ⟨rfl, rfl⟩
  | _, _, @RepK.cons _ _ k' v vs d ds h r, k => by
    by_cases e : k' = k
    · exact .inl ⟨v, d, valV_pos (p := (k', v)) e, by simp [dval, e], h⟩
    · rcases repK_val r k with ⟨v', d', h1, h2, h3⟩ | ⟨h1, h2⟩
      · exact .inl ⟨v', d', by rw [valV_neg (p := (k', v)) e]; exact h1, by simp only [dval, List.find?_cons, decide_eq_false e]; exact h2, h3⟩
      · exact .inr ⟨by rw [valV_neg (p := (k', v)) e]; exact h1, by simp only [dval, List.find?_cons, decide_eq_false e]; exact h2⟩
theorem repK_some {K : PySem.W.Frag} {B : Hp} {kvs : List (Key × V)} {ds : List (Key × D)} (r : RepK K B kvs ds) (k : Key) : (valV kvs k).isSome = (dval ds k).isSome := by
  rcases repK_val r k with ⟨v, d, h1, h2, _⟩ | ⟨h1, h2⟩ <;> rw [h1, h2] <;> rfl
end Q

set_option Elab.async false
set_option linter.all false
set_option maxRecDepth 100000
set_option maxHeartbeats 4000000
namespace Q
open PySem PySem.Spec PyProof.Rows L2
/-! ### the head's Hook with facts of one's own -/
def obsX (ex : List (PySem.W.Frag → Bool)) (fa : List He.Fa) (fn : List He.DefD) (K : PySem.W.Frag) : Bool × He.AlD := (ex.all fun b => b K, He.obsD fa fn K)
structure SaysX (ex : List (PySem.W.Frag → Bool)) (fa : List He.Fa) (fn : List He.DefD) (K : PySem.W.Frag) : Prop where
  one : (ex.all fun b => b K) = true
  two : He.SaysD fa fn K
theorem SaysX.ex {ex : List (PySem.W.Frag → Bool)} {fa : List He.Fa} {fn : List He.DefD} {K : PySem.W.Frag} (c : SaysX ex fa fn K) (i : Nat) {b : PySem.W.Frag → Bool} (h : ex[i]? = some b) : b K = true := List.all_eq_true.mp c.one b (List.mem_of_getElem? h)
/-! ### what a def may let out, whatever the world -/
def CXE (P : Program) : CXT := fun outer H s E u s' => ∃ w, L2.CX P w outer H s E u s'
theorem cxe_no {P : Program} (H : Hp) (s : Shared) (e : Value) (s' : Shared) (h : CXE P [] H s (fun _ _ _ => False) e s') : False := by
  obtain ⟨w, a, B, H', cls, d, _, _, _, _, _, _, _, z⟩ := h
  exact z
theorem fnok_cxe {P : Program} {w : World} {K : PySem.W.Frag} {mg : Str → Option Value} {base : Heap} {k : Nat} {f : Addr} {fd : FuncData} {ps : List Str} {sp : Sp} (F : FnOk P w K mg base (L2.CX P w) k f fd ps sp) : FnOk P w K mg base (CXE P) k f fd ps sp :=
  ⟨F.len, fun A outer s H args us vs Q E hr he hb hv hs => codeAny_mono (F.run A outer s H args us vs Q E hr he hb hv hs) fun r s' hq => by
    cases r with
    | ok fl => cases fl <;> exact hq
    | error e => exact ⟨w, hq⟩⟩
/-! ### try, by its reading -/
section
variable {X : Cx} {x n : Str} {c : Value} {i : Nat} {body suite : List Stmt} {b₀ : Stmt} {np pos pos' : Pos} {tb : WX → TS} {ts : Addr → Value → Option Addr → TS} {Wout : WX}
end
/-! ### the errors' __init__ -/
section
variable {K : PySem.W.Frag} {C a : Addr} {v u : V} {f g msg : Str} {H : Hp} {Q : VK}
theorem xi1 (ox : OexC K C) (na : PySem.W.findIn K (.ref C) f = some none) (ha : H a = some (exo a C none)) (k : ∀ dx, H dx = none → dx ≠ a → Q .non (upd (upd H dx (exd dx [(f, v)])) a (exo a C (some dx)))) :
    (tSeq (tDrop (tVeI K (tCons (tVar 0) (tCons (tC (.str msg)) tNil)))) (tOst K f (tVar 0) (tVar 1))) { nx := fun _ H' => Q .non H', rt := Q } [some (.ref a), some v] H :=
  ⟨.ref a, rfl, a, C, [.str msg], rfl, by simp, ox, ha, v, rfl, .ref a, rfl, a, C, rfl, ox, na, .inl ⟨ha, k⟩⟩
end
end Q

set_option Elab.async false
set_option linter.all false
set_option maxRecDepth 100000
set_option maxHeartbeats 4000000
namespace Q
open PySem PySem.Spec PyProof.Rows L2
/-! ### the head's Hook over a part of the heap that is found without dropping doubles (the run's memory: 8.5 for 12 GB) -/
def frontQ (g : Addr → Option Obj) (l : List Addr) : List Addr := l.flatMap fun a => match g a with
  | some o => (He.refsD o).filter fun b => !(b == a)
  | none => []
/-- what the module's names reach in n steps, level by level -/
def asQ (g : Addr → Option Obj) : Nat → List Addr → List Addr
  | 0, l => l
  | n + 1, l => l ++ asQ g n (frontQ g l)
def kQ (g : Addr → Option Obj) (n : Nat) : PySem.W.Frag := He.frG g (cStatics :: asQ g n [mainGlobals])
def obsYG (n : Nat) (ex : List (PySem.W.Frag → Bool)) (fa : List He.Fa) (fn : List He.DefD) (g : Addr → Option Obj) : Bool × He.AlD := obsX ex fa fn (kQ g n)
def hookY (n : Nat) (ex : List (PySem.W.Frag → Bool)) (fa : List He.Fa) (fn : List He.DefD) : PySem.W.Hook where
  α := Bool × He.AlD
  obs := fun s => obsYG n ex fa fn s.heap.get?
  val := fun _ => (true, He.valD fn)
  says := fun _ h => ∃ K : PySem.W.Frag, K.In h ∧ SaysX ex fa fn K
  of := fun _ _ e => ⟨_, He.frG_in, congrArg (fun z : Bool × He.AlD => z.1) e, congrArg (fun z : Bool × He.AlD => z.2) e⟩
  keeps := fun _ _ _ ⟨K, hK, c⟩ k => ⟨K, PySem.W.Frag.In.keeps hK k, c⟩
theorem obsYG_eq {n : Nat} {ex : List (PySem.W.Frag → Bool)} {fa : List He.Fa} {fn : List He.DefD} {g : Addr → Option Obj} {s : Shared} (h : ∀ a, g a = s.heap.get? a) : obsYG n ex fa fn g = (hookY n ex fa fn).obs s := by
  have e : g = s.heap.get? := funext h
  rw [e] <;> rfl

end Q
set_option Elab.async false
set_option linter.all false
set_option maxRecDepth 100000
set_option maxHeartbeats 4000000
namespace Q
open PySem PySem.Spec PyProof.Rows L2
/-! ### a property, read -/
section
variable {X : Cx} {k j : Nat} {c f : Str} {ps : List Str} {sp : Sp} {pos : Pos} {e : Expr} {ta : TE}
end
/-! ### a Hook that looks at getters too -/
end Q
set_option Elab.async false
set_option linter.all false
set_option maxRecDepth 100000
set_option maxHeartbeats 4000000
namespace Q
open PySem PySem.Spec PyProof.Rows L2
end Q

set_option Elab.async false
set_option linter.all false
set_option maxRecDepth 100000
set_option maxHeartbeats 0
/-! ### the head -/
namespace Hd
open PySem PySem.Spec PyProof.Rows L2 Q
def top (i : Nat) : Stmt := PySem.Challenge.pw_quietpairs_k03_a_group_keeps_copies.main.body.getD i (.Pass ⟨0, 0, 0, 0⟩)
abbrev s__law_cell : Stmt := top 17
abbrev s__law_copy : Stmt := top 28
abbrev s__law_take : Stmt := top 18
abbrev s__law_name : Stmt := top 19
abbrev s__law_names : Stmt := top 20
abbrev s__law_mixed : Stmt := top 21
abbrev s__law_others : Stmt := top 22
abbrev s__law_block_wishes : Stmt := top 23
abbrev s__law_plain_wishes : Stmt := top 25
abbrev s__law_side_wishes : Stmt := top 24
abbrev s__law_wishes : Stmt := top 26
abbrev s__law_group : Stmt := top 27
abbrev s__law_is_integer : Stmt := top 16
abbrev s__law_model : Stmt := top 33
abbrev s__law_mutual : Stmt := top 29
abbrev s__law_pairs : Stmt := top 30
abbrev s__law_row : Stmt := top 31
abbrev s_Group_people : Stmt := inClass (top 14) 7
abbrev s_NoPerson___init__ : Stmt := inClass (top 5) 0
abbrev s_Group_check : Stmt := inClass (top 14) 6
abbrev s_Group_wishes : Stmt := inClass (top 14) 8
abbrev s__law_shows : Stmt := top 34
abbrev s__law_turned : Stmt := top 32
abbrev s_Group___getitem__ : Stmt := inClass (top 14) 5
abbrev s_Group___iter__ : Stmt := inClass (top 14) 3
abbrev s_Group___len__ : Stmt := inClass (top 14) 1
abbrev s_Group_open_to : Stmt := inClass (top 14) 9
abbrev s_Group_pairs : Stmt := inClass (top 14) 11
abbrev s_is_name : Stmt := top 9
abbrev s_BadPeople___init__ : Stmt := inClass (top 3) 0
abbrev s_check_people : Stmt := top 12
abbrev s_fits_wishes : Stmt := top 11
abbrev s_same_keys : Stmt := top 10
abbrev s_BadWishes___init__ : Stmt := inClass (top 4) 0
abbrev s_check_wishes : Stmt := top 13
abbrev s_Group___init__03 : Stmt := inClass (top 14) 0
abbrev s_law : Stmt := top 35
def d__law_cell : He.DefD := ⟨("_law_cell", none), "_law_cell", "_law_cell", defArgs s__law_cell, defBody s__law_cell, defScope s__law_cell, [], []⟩
def d__law_copy : He.DefD := ⟨("_law_copy", none), "_law_copy", "_law_copy", defArgs s__law_copy, defBody s__law_copy, defScope s__law_copy, [], []⟩
def d__law_take : He.DefD := ⟨("_law_take", none), "_law_take", "_law_take", defArgs s__law_take, defBody s__law_take, defScope s__law_take, [], []⟩
def d__law_name : He.DefD := ⟨("_law_name", none), "_law_name", "_law_name", defArgs s__law_name, defBody s__law_name, defScope s__law_name, [], []⟩
def d__law_names : He.DefD := ⟨("_law_names", none), "_law_names", "_law_names", defArgs s__law_names, defBody s__law_names, defScope s__law_names, [], []⟩
def d__law_mixed : He.DefD := ⟨("_law_mixed", none), "_law_mixed", "_law_mixed", defArgs s__law_mixed, defBody s__law_mixed, defScope s__law_mixed, [], []⟩
def d__law_others : He.DefD := ⟨("_law_others", none), "_law_others", "_law_others", defArgs s__law_others, defBody s__law_others, defScope s__law_others, [], []⟩
def d__law_block_wishes : He.DefD := ⟨("_law_block_wishes", none), "_law_block_wishes", "_law_block_wishes", defArgs s__law_block_wishes, defBody s__law_block_wishes, defScope s__law_block_wishes, [], []⟩
def d__law_plain_wishes : He.DefD := ⟨("_law_plain_wishes", none), "_law_plain_wishes", "_law_plain_wishes", defArgs s__law_plain_wishes, defBody s__law_plain_wishes, defScope s__law_plain_wishes, [], []⟩
def d__law_side_wishes : He.DefD := ⟨("_law_side_wishes", none), "_law_side_wishes", "_law_side_wishes", defArgs s__law_side_wishes, defBody s__law_side_wishes, defScope s__law_side_wishes, [], []⟩
def d__law_wishes : He.DefD := ⟨("_law_wishes", none), "_law_wishes", "_law_wishes", defArgs s__law_wishes, defBody s__law_wishes, defScope s__law_wishes, [], []⟩
def d__law_group : He.DefD := ⟨("_law_group", none), "_law_group", "_law_group", defArgs s__law_group, defBody s__law_group, defScope s__law_group, [], []⟩
def d__law_is_integer : He.DefD := ⟨("_law_is_integer", none), "_law_is_integer", "_law_is_integer", defArgs s__law_is_integer, defBody s__law_is_integer, defScope s__law_is_integer, [], []⟩
def d__law_model : He.DefD := ⟨("_law_model", none), "_law_model", "_law_model", defArgs s__law_model, defBody s__law_model, defScope s__law_model, [], []⟩
def d__law_mutual : He.DefD := ⟨("_law_mutual", none), "_law_mutual", "_law_mutual", defArgs s__law_mutual, defBody s__law_mutual, defScope s__law_mutual, [], []⟩
def d__law_pairs : He.DefD := ⟨("_law_pairs", none), "_law_pairs", "_law_pairs", defArgs s__law_pairs, defBody s__law_pairs, defScope s__law_pairs, [], []⟩
def d__law_row : He.DefD := ⟨("_law_row", none), "_law_row", "_law_row", defArgs s__law_row, defBody s__law_row, defScope s__law_row, [], []⟩
def d_Group_people : He.DefD := ⟨("Group", some "people"), "people", "Group.people", defArgs s_Group_people, defBody s_Group_people, defScope s_Group_people, [], []⟩
def d_NoPerson___init__ : He.DefD := ⟨("NoPerson", some "__init__"), "__init__", "NoPerson.__init__", defArgs s_NoPerson___init__, defBody s_NoPerson___init__, defScope s_NoPerson___init__, [], []⟩
def d_Group_check : He.DefD := ⟨("Group", some "check"), "check", "Group.check", defArgs s_Group_check, defBody s_Group_check, defScope s_Group_check, [], []⟩
def d_Group_wishes : He.DefD := ⟨("Group", some "wishes"), "wishes", "Group.wishes", defArgs s_Group_wishes, defBody s_Group_wishes, defScope s_Group_wishes, [], []⟩
def d__law_shows : He.DefD := ⟨("_law_shows", none), "_law_shows", "_law_shows", defArgs s__law_shows, defBody s__law_shows, defScope s__law_shows, [], []⟩
def d__law_turned : He.DefD := ⟨("_law_turned", none), "_law_turned", "_law_turned", defArgs s__law_turned, defBody s__law_turned, defScope s__law_turned, [], []⟩
def d_Group___getitem__ : He.DefD := ⟨("Group", some "__getitem__"), "__getitem__", "Group.__getitem__", defArgs s_Group___getitem__, defBody s_Group___getitem__, defScope s_Group___getitem__, [], []⟩
def d_Group___iter__ : He.DefD := ⟨("Group", some "__iter__"), "__iter__", "Group.__iter__", defArgs s_Group___iter__, defBody s_Group___iter__, defScope s_Group___iter__, [], []⟩
def d_Group___len__ : He.DefD := ⟨("Group", some "__len__"), "__len__", "Group.__len__", defArgs s_Group___len__, defBody s_Group___len__, defScope s_Group___len__, [], []⟩
def d_Group_open_to : He.DefD := ⟨("Group", some "open_to"), "open_to", "Group.open_to", defArgs s_Group_open_to, defBody s_Group_open_to, defScope s_Group_open_to, [], []⟩
def d_Group_pairs : He.DefD := ⟨("Group", some "pairs"), "pairs", "Group.pairs", defArgs s_Group_pairs, defBody s_Group_pairs, defScope s_Group_pairs, [], []⟩
def d_is_name : He.DefD := ⟨("is_name", none), "is_name", "is_name", defArgs s_is_name, defBody s_is_name, defScope s_is_name, [], []⟩
def d_BadPeople___init__ : He.DefD := ⟨("BadPeople", some "__init__"), "__init__", "BadPeople.__init__", defArgs s_BadPeople___init__, defBody s_BadPeople___init__, defScope s_BadPeople___init__, [], []⟩
def d_check_people : He.DefD := ⟨("check_people", none), "check_people", "check_people", defArgs s_check_people, defBody s_check_people, defScope s_check_people, [], []⟩
def d_fits_wishes : He.DefD := ⟨("fits_wishes", none), "fits_wishes", "fits_wishes", defArgs s_fits_wishes, defBody s_fits_wishes, defScope s_fits_wishes, [], []⟩
def d_same_keys : He.DefD := ⟨("same_keys", none), "same_keys", "same_keys", defArgs s_same_keys, defBody s_same_keys, defScope s_same_keys, [], []⟩
def d_BadWishes___init__ : He.DefD := ⟨("BadWishes", some "__init__"), "__init__", "BadWishes.__init__", defArgs s_BadWishes___init__, defBody s_BadWishes___init__, defScope s_BadWishes___init__, [], []⟩
def d_check_wishes : He.DefD := ⟨("check_wishes", none), "check_wishes", "check_wishes", defArgs s_check_wishes, defBody s_check_wishes, defScope s_check_wishes, [], []⟩
def d_Group___init__03 : He.DefD := ⟨("Group", some "__init__"), "__init__", "Group.__init__", defArgs s_Group___init__03, defBody s_Group___init__03, defScope s_Group___init__03, [], []⟩
def d_law : He.DefD := ⟨("law", none), "law", "law", defArgs s_law, defBody s_law, defScope s_law, [], []⟩
def fn : List He.DefD := [d__law_cell, d__law_copy, d__law_take, d__law_name, d__law_names, d__law_mixed, d__law_others, d__law_block_wishes, d__law_plain_wishes, d__law_side_wishes, d__law_wishes, d__law_group, d__law_is_integer, d__law_model, d__law_mutual, d__law_pairs, d__law_row, d_Group_people, d_NoPerson___init__, d_Group_check, d_Group_wishes, d__law_shows, d__law_turned, d_Group___getitem__, d_Group___iter__, d_Group___len__, d_Group_open_to, d_Group_pairs, d_is_name, d_BadPeople___init__, d_check_people, d_fits_wishes, d_same_keys, d_BadWishes___init__, d_check_wishes, d_Group___init__03, d_law]
def fa : List He.Fa := [He.Fa.free "abs", He.Fa.free "bool", He.Fa.free "dict", He.Fa.free "enumerate", He.Fa.free "int", He.Fa.free "isinstance", He.Fa.free "iter", He.Fa.free "len", He.Fa.free "list", He.Fa.free "min", He.Fa.free "range", He.Fa.free "reversed", He.Fa.free "sorted", He.Fa.free "str", He.Fa.free "tuple", He.Fa.str "LETTERS" "abcdefghijklmnopqrstuvwxyz", He.Fa.int "MOST_PEOPLE" 16, He.Fa.glo "BadPeople", He.Fa.glo "BadWishes", He.Fa.glo "Group", He.Fa.glo "NoPerson", He.Fa.glo "QuietError", He.Fa.glo "_law_cell", He.Fa.glo "_law_copy", He.Fa.glo "_law_take", He.Fa.glo "_law_name", He.Fa.glo "_law_names", He.Fa.glo "_law_mixed", He.Fa.glo "_law_others", He.Fa.glo "_law_block_wishes", He.Fa.glo "_law_plain_wishes", He.Fa.glo "_law_side_wishes", He.Fa.glo "_law_wishes", He.Fa.glo "_law_group", He.Fa.glo "_law_is_integer", He.Fa.glo "_law_model", He.Fa.glo "_law_mutual", He.Fa.glo "_law_pairs", He.Fa.glo "_law_row", He.Fa.glo "_law_shows", He.Fa.glo "_law_turned", He.Fa.glo "is_name", He.Fa.glo "check_people", He.Fa.glo "fits_wishes", He.Fa.glo "same_keys", He.Fa.glo "check_wishes", He.Fa.glo "law", He.Fa.noat "BadPeople" "index", He.Fa.noat "BadWishes" "person", He.Fa.noat "NoPerson" "value", He.Fa.meth "BadPeople" "__init__", He.Fa.meth "BadWishes" "__init__", He.Fa.meth "NoPerson" "__init__", He.Fa.meth "Group" "people", He.Fa.meth "Group" "check", He.Fa.meth "Group" "wishes", He.Fa.meth "Group" "__getitem__", He.Fa.meth "Group" "__iter__", He.Fa.meth "Group" "__len__", He.Fa.meth "Group" "open_to", He.Fa.meth "Group" "pairs", He.Fa.mkr "Group", He.Fa.cls "Group", He.Fa.noat "Group" "names", He.Fa.noat "Group" "lists", He.Fa.noat "Group" "mutual", He.Fa.noat "Group" "places"]
def ex : List (PySem.W.Frag → Bool) := [(fun K => qInitB K "QuietError"), (fun K => oexB K (He.ga K "BadPeople")), (fun K => decide (PySem.W.typeIn K (.ref (He.ma K (He.ga K "BadPeople") "__init__")) = some (.type "function"))), (fun K => oexB K (He.ga K "BadWishes")), (fun K => decide (PySem.W.typeIn K (.ref (He.ma K (He.ga K "BadWishes") "__init__")) = some (.type "function"))), (fun K => oexB K (He.ga K "NoPerson")), (fun K => decide (PySem.W.typeIn K (.ref (He.ma K (He.ga K "NoPerson") "__init__")) = some (.type "function"))), (fun K => insB K (He.ga K "Group"))]
abbrev R : PySem.W.OpenRow := PySem.W.OpenLaw.row PySem.Challenge.rw_quietpairs_k03_a_group_keeps_copies
abbrev hk : PySem.W.Hook := hookY 5 ex fa fn
def ob (s : PySem.W.SharedT) : Bool × He.AlD := obsYG 5 ex fa fn (HandSHeadRun.getT s)
theorem ob_eq (s : PySem.W.SharedT) : ob s = hk.obs s.abs := obsYG_eq (HandSHeadRun.getT_eq s)
def loose : List Str := "_wall" :: "QuietError" :: "BadPeople" :: "BadWishes" :: "NoPerson" :: "LETTERS" :: "MOST_PEOPLE" :: "is_name" :: "same_keys" :: "fits_wishes" :: "check_people" :: "check_wishes" :: "Group" :: "_law_is_integer" :: "_law_cell" :: "_law_take" :: "_law_name" :: "_law_names" :: "_law_mixed" :: "_law_others" :: "_law_block_wishes" :: "_law_side_wishes" :: "_law_plain_wishes" :: "_law_wishes" :: "_law_group" :: "_law_copy" :: "_law_mutual" :: "_law_pairs" :: "_law_row" :: "_law_turned" :: "_law_model" :: "_law_shows" :: []
theorem run (w : World) : HandSHeadRun.RunEq R (PySem.W.view R.prog [35]) hk ob 20000 loose w := by
  intro os
  kernel_rfl
end Hd

set_option Elab.async false
set_option linter.all false
set_option maxRecDepth 100000
set_option maxHeartbeats 4000000
namespace Q
open PySem PySem.Spec PyProof.Rows L2
/-! ### the order of texts -/
def leS (a b : Str) : Bool := !ltCps b.cps.toList a.cps.toList
theorem leS_iff {a b : Str} : leS a b = true ↔ a.cps.toList ≤ b.cps.toList := by
  unfold leS
  rw [ltCps_eq, Bool.not_eq_true', decide_eq_false_iff_not]
  exact Iff.rfl
theorem leS_trans (a b c : Str) (h1 : leS a b = true) (h2 : leS b c = true) : leS a c = true := leS_iff.mpr (List.le_trans (leS_iff.mp h1) (leS_iff.mp h2))
theorem leS_total (a b : Str) : (leS a b || leS b a) = true := by
  rw [Bool.or_eq_true]
  rcases List.le_total a.cps.toList b.cps.toList with h | h
  · exact .inl (leS_iff.mpr h)
  · exact .inr (leS_iff.mpr h)
theorem str_ext {a b : Str} (h : a.cps.toList = b.cps.toList) : a = b := by
  obtain ⟨x⟩ := a
  obtain ⟨y⟩ := b
  have : x = y := by
    have h : x.toList = y.toList := h
    exact Array.toList_inj.mp h
  rw [this]
theorem leS_anti {a b : Str} (h1 : leS a b = true) (h2 : leS b a = true) : a = b := str_ext (List.le_antisymm (leS_iff.mp h1) (leS_iff.mp h2))
theorem leS_refl (a : Str) : leS a a = true := by
  have := leS_total a a
  simpa using this
def ltS (a b : Str) : Prop := a.cps.toList < b.cps.toList
instance (a b : Str) : Decidable (ltS a b) := inferInstanceAs (Decidable (a.cps.toList < b.cps.toList))
theorem not_ltS {a b : Str} : ¬ ltS a b ↔ leS b a = true := by rw [leS_iff]; exact Iff.rfl
theorem ltS_iff {a b : Str} : ltS a b ↔ leS a b = true ∧ a ≠ b := by
  constructor
  · intro h
    refine ⟨?_, fun e => ?_⟩
    · rcases Bool.or_eq_true _ _ ▸ leS_total a b with k | k
      · exact k
      · exact absurd h (not_ltS.mpr k)
    · subst e
      exact not_ltS.mpr (leS_refl a) h
  · rintro ⟨h1, h2⟩
    by_cases h : ltS a b
    · exact h
    · exact absurd (leS_anti h1 (not_ltS.mp h)) h2
theorem rising_pw : ∀ (p : Str) (l : List Str), risingS p l = true → (p :: l).Pairwise (fun a b => leS a b = true)
  | p, [], _ => List.pairwise_singleton _ _
  | p, x :: r, h => by
    have h : (leS p x && risingS x r) = true := h
    obtain ⟨h1, h2⟩ := Bool.and_eq_true_iff.mp h
    have ih := rising_pw x r h2
    rw [List.pairwise_cons] at ih ⊢
    refine ⟨fun y m => ?_, List.pairwise_cons.mpr ih⟩
    rcases List.mem_cons.mp m with rfl | m
    · exact h1
    · exact leS_trans _ _ _ h1 (ih.1 y m)
theorem sorted_pw {l : List Str} (h : sortedS l = true) : l.Pairwise (fun a b => leS a b = true) := by
  cases l with
  | nil => exact List.Pairwise.nil
  | cons x r => exact rising_pw x r h
def sortS (xs : List Str) : List Str := xs.mergeSort leS
theorem sortS_perm (xs : List Str) : (sortS xs).Perm xs := List.mergeSort_perm xs leS
theorem sortS_pw (xs : List Str) : (sortS xs).Pairwise (fun a b => leS a b = true) := List.pairwise_mergeSort leS_trans leS_total xs
theorem sorted_eq {xs ys : List Str} (p : ys.Perm xs) (s : sortedS ys = true) : ys = sortS xs :=
  List.Perm.eq_of_pairwise (fun _ _ _ _ h1 h2 => leS_anti h1 h2) (sorted_pw s) (sortS_pw xs) (p.trans (sortS_perm xs).symm)
theorem mem_sortS {xs : List Str} {x : Str} : x ∈ sortS xs ↔ x ∈ xs := (sortS_perm xs).mem_iff
theorem sortS_len (xs : List Str) : (sortS xs).length = xs.length := (sortS_perm xs).length_eq
section
variable {K : PySem.W.Frag} {H : Hp} {Q : VK} {p : Addr} {ss : List Str} {kvs : List (Key × V)}
theorem x_srtT (hp : SqT K H p (ss.map V.str)) (hz : ss.length < 64) (h : New (.lst ((sortS ss).map V.str)) Q H) : rSortT K [.ref p] H Q := x_sortT hp hz fun ys pe so => by rw [sorted_eq pe so]; exact h
theorem x_srtL (hp : SqL K H p (ss.map V.str)) (hz : ss.length < 64) (h : New (.lst ((sortS ss).map V.str)) Q H) : rSortL K [.ref p] H Q := x_sortL hp hz fun ys pe so => by rw [sorted_eq pe so]; exact h
end
end Q

set_option Elab.async false
set_option linter.all false
set_option maxRecDepth 100000
set_option maxHeartbeats 4000000
namespace Q
open PySem PySem.Spec PyProof.Rows L2
local macro_rules | `(tactic| walk_at "bf") => `(tactic| first | assumption | (refine' bstep (by assumption) ?r; case r => walk_at "bf") | fail)
local macro_rules | `(tactic| walk_at "rp") => `(tactic| first | assumption | exact Rep.int _ | exact Rep.bl _ | exact Rep.non | (refine' Rep.mono (by assumption) ?r; case r => walk_at "rp") | fail)
local macro_rules | `(tactic| walk_at "hf") => `(tactic| first | assumption | exact HS.up (by assumption) (by walk_at "bf") | exact HS.get (by assumption) List.mem_cons_self | exact HS.get (by assumption) (List.mem_cons_of_mem _ List.mem_cons_self) | exact HS.get (by assumption) (List.mem_cons_of_mem _ (List.mem_cons_of_mem _ List.mem_cons_self)) | exact HS.get (by assumption) (List.mem_cons_of_mem _ (List.mem_cons_of_mem _ (List.mem_cons_of_mem _ List.mem_cons_self))) | fail)
local macro_rules | `(tactic| walk_at "sl") => `(tactic| first | assumption | exact SqL.of (by walk_at "hf") | fail)
local macro_rules | `(tactic| walk_at "st") => `(tactic| first | assumption | exact SqT.of (by walk_at "hf") | fail)
local macro_rules | `(tactic| walk_at "sz") => `(tactic| first | assumption | (refine small_le ?_; first | assumption | omega | (simp; done) | (simp; omega)) | fail)
/-! ### names -/
abbrev letters : Str := "abcdefghijklmnopqrstuvwxyz"
def okName (x : Str) : Bool := decide (1 ≤ x.length) && (decide (x.length ≤ 8) && x.cps.toList.all fun c => decide (c ∈ letters.cps.toList))
def isName : D → Bool
  | .str x => okName x
  | _ => false
abbrev N_is_name : List Str := ["value", "letter"]
def t_is_name (K : PySem.W.Frag) (E : XK) : TS := (tSeq (tIfS (tOr (tNot (tB (tCB (rIsi K) (tCons (tVar 0) (tCons (tC (.ty "str")) tNil))))) (tOr (tTest (tOp rLtI (tCB (rLenA K) (tCons (tVar 0) tNil)) (tC (.int 1)))) (tTest (tOp rGtI (tCB (rLenA K) (tCons (tVar 0) tNil)) (tC (.int 8)))))) (tRet (tC (.bl false))) tNext)
  (tSeq (tFor (iStr (tVar 0)) (gName 1) (tIfS (tTest (tOp rNotInS (tVar 1) (tC (.str "abcdefghijklmnopqrstuvwxyz")))) (tRet (tC (.bl false))) tNext))
  (tRet (tC (.bl true)))))
def sp_is_name (K : PySem.W.Frag) : Sp := fun vs H Q E => ∃ v B d, vs = [v] ∧ Same B H ∧ Rep K B v d ∧ Ret B H Q fun _ r => r = .bl (isName d)
theorem pure_is_name {K : PySem.W.Frag} {vs : List V} {H : Hp} {Q : VK} {E : XK} (h : sp_is_name K vs H Q E) : t_is_name K E { nx := fun _ H' => Q .non H', rt := Q } (start N_is_name vs) H := by
  obtain ⟨v, B, d, rfl, sB, r, k⟩ := h
  have hs := HS.start sB
  show t_is_name K E _ [some v, none] H
  unfold t_is_name
  ((with_reducible refine x_seq ?_); (with_reducible refine x_if ?_); (with_reducible refine x_or ?_); (with_reducible refine x_not ?_); (with_reducible refine x_tB ?_); (with_reducible refine x_cb ?_); (with_reducible refine x_cons ?_); ((with_reducible refine' x_var ?z8h ?_); case z8h => rfl); (with_reducible refine x_cons ?_); (with_reducible refine x_c ?_); (with_reducible refine x_nil ?_); ((with_reducible refine' x_isiD ?z12h1 ?z12h2 ?z12h3 ?_); (case z12h1 => assumption); (case z12h2 => walk_at "rp"); (case z12h3 => decide)); (with_reducible refine x_exb ?_))
  cases r with
  | str hx =>
    rename_i x
    refine x_ite (fun h => by simp [D.isT] at h) (fun _ => ?_)
    ((with_reducible refine x_or ?_); (with_reducible refine x_test ?_); (with_reducible refine x_op ?_); (with_reducible refine x_cb ?_); (with_reducible refine x_cons ?_); ((with_reducible refine' x_var ?z19h ?_); case z19h => rfl); (with_reducible refine x_nil ?_); ((with_reducible refine' x_lenS ?z21h ?_); case z21h => walk_at "sz"); (with_reducible refine x_c ?_); (with_reducible refine x_ltI ?_); (with_reducible refine x_exb ?_))
    refine x_ite (fun h => ?_) (fun h1 => ?_)
    · ((with_reducible refine x_tt _ _ ?_); (with_reducible refine x_ret ?_); (with_reducible refine x_c ?_))
      refine k B H _ hs (congrArg V.bl ?_)
      have h := of_decide_eq_true h
      have : ¬ 1 ≤ x.length := by omega
      simp only [isName, okName, decide_eq_false this, Bool.false_and]
    ((with_reducible refine x_test ?_); (with_reducible refine x_op ?_); (with_reducible refine x_cb ?_); (with_reducible refine x_cons ?_); ((with_reducible refine' x_var ?z32h ?_); case z32h => rfl); (with_reducible refine x_nil ?_); ((with_reducible refine' x_lenS ?z34h ?_); case z34h => walk_at "sz"); (with_reducible refine x_c ?_); (with_reducible refine x_gtI ?_); (with_reducible refine x_exb ?_))
    refine x_ite (fun h => ?_) (fun h2 => ?_)
    · ((with_reducible refine x_ret ?_); (with_reducible refine x_c ?_))
      refine k B H _ hs (congrArg V.bl ?_)
      have h := of_decide_eq_true h
      have : ¬ x.length ≤ 8 := by omega
      simp only [isName, okName, decide_eq_false this, Bool.false_and, Bool.and_false]
    have h1 : 1 ≤ x.length := by have := of_decide_eq_false h1; omega
    have h2 : x.length ≤ 8 := by have := of_decide_eq_false h2; omega
    ((with_reducible refine x_next ?_); (with_reducible refine x_seq ?_); (with_reducible refine x_for ?_); (with_reducible refine x_iStr ?_); ((with_reducible refine' x_var ?z44h ?_); case z44h => rfl))
    refine ⟨x, rfl, ?_⟩
    refine l_str (α := Option V) (σf := fun u => [some (.str x), u]) (Mf := fun _ => []) (P := fun i _ _ => ∀ c ∈ x.cps.toList.take i, c ∈ letters.cps.toList) (s0 := none) hs (by simp) (fun i c s B1 H1 hi sb hs1 p => ?_) (fun s B1 H1 sb hs1 p => ?_)
    · (((with_reducible refine x_gname ?_); try simp only [List.set_cons_zero, List.set_cons_succ]); (with_reducible refine x_if ?_); (with_reducible refine x_test ?_); (with_reducible refine x_op ?_); ((with_reducible refine' x_var ?z49h ?_); case z49h => rfl); (with_reducible refine x_c ?_); (with_reducible refine x_notInS ?_); (with_reducible refine x_exb ?_))
      refine x_ite (fun h => ?_) (fun h => ?_)
      · ((with_reducible refine x_ret ?_); (with_reducible refine x_c ?_))
        refine k B1 H1 _ (hs.call hs1) (congrArg V.bl ?_)
        have hc : ¬ c ∈ letters.cps.toList := by simpa using h
        have hall : (x.cps.toList.all fun c => decide (c ∈ letters.cps.toList)) = false := by
          rw [List.all_eq_false]
          exact ⟨c, List.mem_of_getElem? hi, by simpa using hc⟩
        simp only [isName, okName, hall, Bool.and_false]
      · (with_reducible refine x_next ?_)
        refine ⟨some _, B1, rfl, sb, hs1, fun c' m => ?_⟩
        have hc : c ∈ letters.cps.toList := by simpa using h
        rw [List.take_succ, hi] at m
        rcases List.mem_append.mp m with m | m
        · exact p c' m
        · have : c' = c := by simpa using m
          rw [this]; exact hc
    · ((with_reducible refine x_ret ?_); (with_reducible refine x_c ?_))
      refine k B1 H1 _ (hs.call hs1) (congrArg V.bl ?_)
      rw [List.take_length] at p
      have hall : (x.cps.toList.all fun c => decide (c ∈ letters.cps.toList)) = true := List.all_eq_true.mpr fun c m => decide_eq_true (p c m)
      simp only [isName, okName, decide_eq_true h1, decide_eq_true h2, hall, Bool.and_self]
  | _ =>
    refine x_ite (fun h => ?_) (fun h => by simp [D.isT] at h)
    ((with_reducible refine x_tt _ _ ?_); (with_reducible refine x_ret ?_); (with_reducible refine x_c ?_))
    exact k B H _ hs rfl
end Q

set_option Elab.async false
set_option linter.all false
set_option maxRecDepth 100000
set_option maxHeartbeats 4000000
namespace Q
open PySem PySem.Spec PyProof.Rows L2
local macro_rules | `(tactic| walk_at "bf") => `(tactic| first | assumption | (refine' bstep (by assumption) ?r; case r => walk_at "bf") | fail)
local macro_rules | `(tactic| walk_at "rp") => `(tactic| first | assumption | exact Rep.int _ | exact Rep.bl _ | exact Rep.non | (refine' Rep.mono (by assumption) ?r; case r => walk_at "rp") | fail)
local macro_rules | `(tactic| walk_at "hf") => `(tactic| first | assumption | exact HS.up (by assumption) (by walk_at "bf") | exact HS.get (by assumption) List.mem_cons_self | exact HS.get (by assumption) (List.mem_cons_of_mem _ List.mem_cons_self) | exact HS.get (by assumption) (List.mem_cons_of_mem _ (List.mem_cons_of_mem _ List.mem_cons_self)) | exact HS.get (by assumption) (List.mem_cons_of_mem _ (List.mem_cons_of_mem _ (List.mem_cons_of_mem _ List.mem_cons_self))) | fail)
local macro_rules | `(tactic| walk_at "sl") => `(tactic| first | assumption | exact SqL.of (by walk_at "hf") | fail)
local macro_rules | `(tactic| walk_at "st") => `(tactic| first | assumption | exact SqT.of (by walk_at "hf") | fail)
local macro_rules | `(tactic| walk_at "sz") => `(tactic| first | assumption | (refine small_le ?_; first | assumption | omega | (simp; done) | (simp; omega)) | fail)
/-! ### same_keys, fits_wishes -/
def sameKeys (d : D) (xs : List Str) : Bool := match d with
  | .dct ds => decide (ds.length = xs.length) && xs.all fun x => (dval ds (.inr x)).isSome
  | _ => false
abbrev N_same_keys : List Str := ["value", "people", "person"]
def t_same_keys (K : PySem.W.Frag) (E : XK) : TS := (tSeq (tIfS (tOr (tNot (tB (tCB (rIsi K) (tCons (tVar 0) (tCons (tC (.ty "dict")) tNil))))) (tTest (tOp rNe (tCB rLenD (tCons (tVar 0) tNil)) (tCB (rLenA K) (tCons (tVar 1) tNil))))) (tRet (tC (.bl false))) tNext)
  (tSeq (tFor (iSeq K (tVar 1)) (gName 2) (tIfS (tB (tDNotIn (tVar 2) (tVar 0))) (tRet (tC (.bl false))) tNext))
  (tRet (tC (.bl true)))))
def sp_same_keys (K : PySem.W.Frag) : Sp := fun vs H Q E => ∃ v u B d xs, vs = [v, u] ∧ Same B H ∧ Rep K B v d ∧ Sq B u xs ∧ Ret B H Q fun _ r => r = .bl (sameKeys d xs)
theorem pure_same_keys {K : PySem.W.Frag} {vs : List V} {H : Hp} {Q : VK} {E : XK} (h : sp_same_keys K vs H Q E) : t_same_keys K E { nx := fun _ H' => Q .non H', rt := Q } (start N_same_keys vs) H := by
  obtain ⟨v, u, B, d, xs, rfl, sB, r, q, k⟩ := h
  have hs := HS.start sB
  show t_same_keys K E _ [some v, some u, none] H
  unfold t_same_keys
  ((with_reducible refine x_seq ?_); (with_reducible refine x_if ?_); (with_reducible refine x_or ?_); (with_reducible refine x_not ?_); (with_reducible refine x_tB ?_); (with_reducible refine x_cb ?_); (with_reducible refine x_cons ?_); ((with_reducible refine' x_var ?z8h ?_); case z8h => rfl); (with_reducible refine x_cons ?_); (with_reducible refine x_c ?_); (with_reducible refine x_nil ?_); ((with_reducible refine' x_isiD ?z12h1 ?z12h2 ?z12h3 ?_); (case z12h1 => assumption); (case z12h2 => walk_at "rp"); (case z12h3 => decide)); (with_reducible refine x_exb ?_))
  cases r with
  | @dct a kvs ds e r =>
    refine x_ite (fun h => by simp [D.isT] at h) (fun _ => ?_)
    ((with_reducible refine x_test ?_); (with_reducible refine x_op ?_); (with_reducible refine x_cb ?_); (with_reducible refine x_cons ?_); ((with_reducible refine' x_var ?z18h ?_); case z18h => rfl); (with_reducible refine x_nil ?_); ((with_reducible refine' x_lenD ?z20h ?_); case z20h => walk_at "hf"); (with_reducible refine x_cb ?_); (with_reducible refine x_cons ?_); ((with_reducible refine' x_var ?z23h ?_); case z23h => rfl); (with_reducible refine x_nil ?_))
    refine x_lenSq hs q ?_
    (((with_reducible refine' x_ne ?z25h ?_); case z25h => rfl); (with_reducible refine x_exb ?_))
    have hl := r.length
    refine x_ite (fun h => ?_) (fun h1 => ?_)
    · ((with_reducible refine x_ret ?_); (with_reducible refine x_c ?_))
      refine k B H _ hs (congrArg V.bl ?_)
      have : ¬ ds.length = xs.length := by
        intro z
        rw [hl, z] at h
        simp at h
      simp only [sameKeys, decide_eq_false this, Bool.false_and]
    have h1 : ds.length = xs.length := by
      have h2 := of_decide_eq_true (Bool.not_eq_false' .. ▸ h1)
      injection h2 with h2
      omega
    ((with_reducible refine x_next ?_); (with_reducible refine x_seq ?_); (with_reducible refine x_for ?_))
    refine l_sq (σ := []) (α := Option V) (σf := fun u' => [some (.ref a), some u, u']) (Mf := fun _ => []) (P := fun i _ _ => ∀ x ∈ xs.take i, (dval ds (.inr x)).isSome = true) (s0 := none) hs q (fun Qv z => ⟨u, rfl, z⟩) (by simp) (fun i x s B1 H1 hi sb hs1 p => ?_) (fun s B1 H1 sb hs1 p => ?_)
    · (((with_reducible refine x_gname ?_); try simp only [List.set_cons_zero, List.set_cons_succ]); (with_reducible refine x_if ?_); (with_reducible refine x_tB ?_); (with_reducible refine x_dnin ?_); ((with_reducible refine' x_var ?z36h ?_); case z36h => rfl); ((with_reducible refine' x_var ?z37h ?_); case z37h => rfl); ((with_reducible refine' x_dinO ?z38h ?_); case z38h => walk_at "hf"); (with_reducible refine x_exb ?_))
      rw [repK_some r]
      refine x_ite (fun h => ?_) (fun h => ?_)
      · ((with_reducible refine x_ret ?_); (with_reducible refine x_c ?_))
        refine k B1 H1 _ (hs.call hs1) (congrArg V.bl ?_)
        have hall : (xs.all fun x => (dval ds (.inr x)).isSome) = false := by
          rw [List.all_eq_false]
          exact ⟨x, List.mem_of_getElem? hi, by simpa using h⟩
        simp only [sameKeys, hall, Bool.and_false]
      · (with_reducible refine x_next ?_)
        refine ⟨some _, B1, rfl, sb, hs1, fun y m => ?_⟩
        rw [List.take_succ, hi] at m
        rcases List.mem_append.mp m with m | m
        · exact p y m
        · have : y = x := by simpa using m
          rw [this]; simpa using h
    · ((with_reducible refine x_ret ?_); (with_reducible refine x_c ?_))
      refine k B1 H1 _ (hs.call hs1) (congrArg V.bl ?_)
      rw [List.take_length] at p
      have hall : (xs.all fun x => (dval ds (.inr x)).isSome) = true := List.all_eq_true.mpr p
      simp only [sameKeys, h1, hall, decide_true, Bool.and_self]
  | _ =>
    refine x_ite (fun h => ?_) (fun h => by simp [D.isT] at h)
    ((with_reducible refine x_tt _ _ ?_); (with_reducible refine x_ret ?_); (with_reducible refine x_c ?_))
    exact k B H _ hs rfl
/-- a row of different people without the person -/
def fitsGo (xs : List Str) (p : Str) : List Str → List D → Bool
  | _, [] => true
  | seen, .str x :: r => !decide (x = p) && (decide (x ∈ xs) && (!decide (x ∈ seen) && fitsGo xs p (seen ++ [x]) r))
  | _, _ => false
def fitsW (d : D) (xs : List Str) (p : Str) : Bool := match d with
  | .lst ds => fitsGo xs p [] ds
  | _ => false
abbrev N_fits_wishes : List Str := ["value", "people", "person", "seen", "item"]
def t_fits_wishes (K : PySem.W.Frag) (E : XK) : TS := (tSeq (tIfS (tNot (tB (tCB (rIsi K) (tCons (tVar 0) (tCons (tC (.ty "list")) tNil))))) (tRet (tC (.bl false))) tNext)
  (tSeq (tAsg (tLst tNil) (gName 3))
  (tSeq (tFor (iList K (tVar 0)) (gName 4) (tSeq (tIfS (tOr (tNot (tB (tCB (rIsi K) (tCons (tVar 4) (tCons (tC (.ty "str")) tNil))))) (tOr (tTest (tOp rEq (tVar 4) (tVar 2))) (tOr (tTest (tOp (rIn K true) (tVar 4) (tVar 1))) (tTest (tOp (rIn K false) (tVar 4) (tVar 3)))))) (tRet (tC (.bl false))) tNext)
  (tDrop (tBM K "list" rAppend (tVar 3) (tCons (tVar 4) tNil)))))
  (tRet (tC (.bl true))))))
def sp_fits_wishes (K : PySem.W.Frag) : Sp := fun vs H Q E => ∃ v u B d xs p, vs = [v, u, .str p] ∧ Same B H ∧ Rep K B v d ∧ Sq B u xs ∧ Ret B H Q fun _ r => r = .bl (fitsW d xs p)
theorem pure_fits_wishes {K : PySem.W.Frag} {vs : List V} {H : Hp} {Q : VK} {E : XK} (h : sp_fits_wishes K vs H Q E) : t_fits_wishes K E { nx := fun _ H' => Q .non H', rt := Q } (start N_fits_wishes vs) H := by
  obtain ⟨v, u, B, d, xs, p, rfl, sB, r, q, k⟩ := h
  have hs := HS.start sB
  show t_fits_wishes K E _ [some v, some u, some (.str p), none, none] H
  unfold t_fits_wishes
  ((with_reducible refine x_seq ?_); (with_reducible refine x_if ?_); (with_reducible refine x_not ?_); (with_reducible refine x_tB ?_); (with_reducible refine x_cb ?_); (with_reducible refine x_cons ?_); ((with_reducible refine' x_var ?z54h ?_); case z54h => rfl); (with_reducible refine x_cons ?_); (with_reducible refine x_c ?_); (with_reducible refine x_nil ?_); ((with_reducible refine' x_isiD ?z58h1 ?z58h2 ?z58h3 ?_); (case z58h1 => assumption); (case z58h2 => walk_at "rp"); (case z58h3 => decide)); (with_reducible refine x_exb ?_))
  cases r with
  | @lst a vs ds e hz r =>
    have hlr := r.length
    refine x_ite (fun h => by simp [D.isT] at h) (fun _ => ?_)
    ((with_reducible refine x_next ?_); (with_reducible refine x_seq ?_); (with_reducible refine x_asg ?_); (with_reducible refine x_lst ?_); (with_reducible refine x_nil ?_); ((with_reducible refine' x_newL ?z65h ?_); case z65h => first | exact Nat.zero_le _ | (simp; done) | (simp; omega)))
    refine new_M hs (fun l H1 hs1 _ => ?_)
    (((with_reducible refine x_gname ?_); try simp only [List.set_cons_zero, List.set_cons_succ]); (with_reducible refine x_seq ?_); (with_reducible refine x_for ?_); (with_reducible refine x_iList ?_); ((with_reducible refine' x_var ?z70h ?_); case z70h => rfl))
    refine ⟨a, rfl, ⟨_, by walk_at "sl"⟩, ?_⟩
    refine l_list (α := List Str × Option V) (σf := fun s => [some (.ref a), some u, some (.str p), some (.ref l), s.2]) (Mf := fun s => [(l, .lst (s.1.map V.str))])
      (P := fun i s _ => s.1.length = i ∧ fitsGo xs p [] ds = fitsGo xs p s.1 (ds.drop i)) (s0 := ([], none)) hs1 e ⟨rfl, rfl⟩ (fun i x s B1 H1 hi sb hs2 pp => ?_) (fun s B1 H1 sb hs2 pp => ?_)
    · obtain ⟨seen, s2⟩ := s
      obtain ⟨hlen, hgo⟩ := pp
      dsimp only at hlen hgo hs2 ⊢
      obtain ⟨d, hd, rd⟩ := r.get hi
      have hdrop : ds.drop i = d :: ds.drop (i + 1) := by
        rw [List.drop_eq_getElem_cons (List.getElem?_eq_some_iff.mp hd).1]
        rw [(List.getElem?_eq_some_iff.mp hd).2]
      have hil : i < ds.length := (List.getElem?_eq_some_iff.mp hd).1
      rw [hdrop] at hgo
      have rd1 := rd.mono sb
      (((with_reducible refine x_gname ?_); try simp only [List.set_cons_zero, List.set_cons_succ]); (with_reducible refine x_seq ?_); (with_reducible refine x_if ?_); (with_reducible refine x_or ?_); (with_reducible refine x_not ?_); (with_reducible refine x_tB ?_); (with_reducible refine x_cb ?_); (with_reducible refine x_cons ?_); ((with_reducible refine' x_var ?z79h ?_); case z79h => rfl); (with_reducible refine x_cons ?_); (with_reducible refine x_c ?_); (with_reducible refine x_nil ?_); ((with_reducible refine' x_isiD ?z83h1 ?z83h2 ?z83h3 ?_); (case z83h1 => assumption); (case z83h2 => walk_at "rp"); (case z83h3 => decide)); (with_reducible refine x_exb ?_))
      have fin : ∀ b, fitsGo xs p seen (d :: ds.drop (i + 1)) = false → b = false → Q (.bl b) H1 := fun b e1 e2 => by
        refine k B1 H1 _ (hs.call hs2.all) (congrArg V.bl ?_)
        simp only [fitsW, hgo, e1, e2]
      cases rd with
      | @str x hx =>
        refine x_ite (fun h => by simp [D.isT] at h) (fun _ => ?_)
        ((with_reducible refine x_or ?_); (with_reducible refine x_test ?_); (with_reducible refine x_op ?_); ((with_reducible refine' x_var ?z88h ?_); case z88h => rfl); ((with_reducible refine' x_var ?z89h ?_); case z89h => rfl); ((with_reducible refine' x_eq ?z90h ?_); case z90h => rfl); (with_reducible refine x_exb ?_))
        refine x_ite (fun h => ?_) (fun h1 => ?_)
        · ((with_reducible refine x_tt _ _ ?_); (with_reducible refine x_ret ?_); (with_reducible refine x_c ?_))
          refine fin _ ?_ rfl
          have := of_decide_eq_true h
          injection this with this
          simp [fitsGo, this]
        have h1 : ¬ x = p := fun z => of_decide_eq_false h1 (by rw [z])
        ((with_reducible refine x_or ?_); (with_reducible refine x_test ?_); (with_reducible refine x_op ?_); ((with_reducible refine' x_var ?z98h ?_); case z98h => rfl); ((with_reducible refine' x_var ?z99h ?_); case z99h => rfl))
        refine x_ninSq hs2 (q.mono sb) ?_
        (with_reducible refine x_exb ?_)
        refine x_ite (fun h => ?_) (fun h2 => ?_)
        · ((with_reducible refine x_tt _ _ ?_); (with_reducible refine x_ret ?_); (with_reducible refine x_c ?_))
          refine fin _ ?_ rfl
          have : ¬ x ∈ xs := by simpa using h
          simp [fitsGo, this]
        have h2 : x ∈ xs := by simpa using h2
        ((with_reducible refine x_test ?_); (with_reducible refine x_op ?_); ((with_reducible refine' x_var ?z106h ?_); case z106h => rfl); ((with_reducible refine' x_var ?z107h ?_); case z107h => rfl); ((with_reducible refine' x_inLS ?z108h ?_); case z108h => walk_at "sl"); (with_reducible refine x_exb ?_))
        refine x_ite (fun h => ?_) (fun h3 => ?_)
        · ((with_reducible refine x_ret ?_); (with_reducible refine x_c ?_))
          refine fin _ ?_ rfl
          have : x ∈ seen := by simpa using h
          simp [fitsGo, this]
        have h3 : ¬ x ∈ seen := by simpa using h3
        ((with_reducible refine x_next ?_); (with_reducible refine x_drop ?_); (with_reducible refine x_bm ?_); ((with_reducible refine' x_var ?z115h ?_); case z115h => rfl); ((with_reducible refine' x_tyL ?z116h ?_); case z116h => walk_at "sl"); (with_reducible refine x_cons ?_); ((with_reducible refine' x_var ?z118h ?_); case z118h => rfl); (with_reducible refine x_nil ?_))
        refine x_append hs2 (by rw [List.length_map]; omega) (fun H2 hs3 => ?_)
        refine ⟨(seen ++ [x], some _), B1, rfl, sb, by simpa using hs3, by simp [hlen], ?_⟩
        rw [hgo]
        simp [fitsGo, h1, h2, h3]
      | _ =>
        refine x_ite (fun h => ?_) (fun h => by simp [D.isT] at h)
        ((with_reducible refine x_tt _ _ ?_); (with_reducible refine x_ret ?_); (with_reducible refine x_c ?_))
        exact fin _ rfl rfl
    · ((with_reducible refine x_ret ?_); (with_reducible refine x_c ?_))
      refine k B1 H1 _ (hs.call hs2.all) (congrArg V.bl ?_)
      obtain ⟨hlen, hgo⟩ := pp
      have : ds.drop vs.length = [] := by rw [r.length]; simp
      rw [this] at hgo
      simp only [fitsW, hgo, fitsGo]
  | _ =>
    refine x_ite (fun h => ?_) (fun h => by simp [D.isT] at h)
    ((with_reducible refine x_ret ?_); (with_reducible refine x_c ?_))
    exact k B H _ hs rfl
end Q

set_option Elab.async false
set_option linter.all false
set_option maxRecDepth 100000
set_option maxHeartbeats 4000000
namespace Q
open PySem PySem.Spec PyProof.Rows L2
local macro_rules | `(tactic| walk_at "bf") => `(tactic| first | assumption | (refine' bstep (by assumption) ?r; case r => walk_at "bf") | fail)
local macro_rules | `(tactic| walk_at "rp") => `(tactic| first | assumption | exact Rep.int _ | exact Rep.bl _ | exact Rep.non | (refine' Rep.mono (by assumption) ?r; case r => walk_at "rp") | fail)
local macro_rules | `(tactic| walk_at "hf") => `(tactic| first | assumption | exact HS.up (by assumption) (by walk_at "bf") | exact HS.get (by assumption) List.mem_cons_self | exact HS.get (by assumption) (List.mem_cons_of_mem _ List.mem_cons_self) | exact HS.get (by assumption) (List.mem_cons_of_mem _ (List.mem_cons_of_mem _ List.mem_cons_self)) | exact HS.get (by assumption) (List.mem_cons_of_mem _ (List.mem_cons_of_mem _ (List.mem_cons_of_mem _ List.mem_cons_self))) | fail)
local macro_rules | `(tactic| walk_at "sl") => `(tactic| first | assumption | exact SqL.of (by walk_at "hf") | fail)
local macro_rules | `(tactic| walk_at "st") => `(tactic| first | assumption | exact SqT.of (by walk_at "hf") | fail)
local macro_rules | `(tactic| walk_at "sz") => `(tactic| first | assumption | (refine small_le ?_; first | assumption | omega | (simp; done) | (simp; omega)) | fail)
/-! ### check_people, check_wishes -/
/-- the first place of an item that is no name or stood before -/
def badAt : Nat → List Str → List D → Option Nat
  | _, _, [] => none
  | i, seen, .str x :: r => if okName x && !decide (x ∈ seen) then badAt (i + 1) (seen ++ [x]) r else some i
  | i, _, _ :: _ => some i
def badPeople : D → Option Int
  | .tup ds => if ds.length ≤ 16 then (badAt 0 [] ds).map fun (n : Nat) => (n : Int) else some (-1)
  | _ => some (-1)
theorem use_is_name {K : PySem.W.Frag} {S : List Addr} {B0 H0 B H : Hp} {M : List (Addr × HO)} {Q : VK} {E : XK} {v : V} {d : D} (hs : HS S B0 H0 B H M) (r : Rep K B v d)
    (k : ∀ B' H', Same B B' → HS S B0 H0 B' H' M → Q (.bl (isName d)) H') : sp_is_name K [v] H Q E := ⟨v, B, d, rfl, hs.bh, r, fun B' H' v' c e => by rw [e]; exact k B' H' c.bb (hs.call c)⟩
theorem use_same_keys {K : PySem.W.Frag} {S : List Addr} {B0 H0 B H : Hp} {M : List (Addr × HO)} {Q : VK} {E : XK} {v u : V} {d : D} {xs : List Str} (hs : HS S B0 H0 B H M) (r : Rep K B v d) (q : Sq B u xs)
    (k : ∀ B' H', Same B B' → HS S B0 H0 B' H' M → Q (.bl (sameKeys d xs)) H') : sp_same_keys K [v, u] H Q E := ⟨v, u, B, d, xs, rfl, hs.bh, r, q, fun B' H' v' c e => by rw [e]; exact k B' H' c.bb (hs.call c)⟩
theorem use_fits_wishes {K : PySem.W.Frag} {S : List Addr} {B0 H0 B H : Hp} {M : List (Addr × HO)} {Q : VK} {E : XK} {v u : V} {d : D} {xs : List Str} {p : Str} (hs : HS S B0 H0 B H M) (r : Rep K B v d) (q : Sq B u xs)
    (k : ∀ B' H', Same B B' → HS S B0 H0 B' H' M → Q (.bl (fitsW d xs p)) H') : sp_fits_wishes K [v, u, .str p] H Q E := ⟨v, u, B, d, xs, p, rfl, hs.bh, r, q, fun B' H' v' c e => by rw [e]; exact k B' H' c.bb (hs.call c)⟩
abbrev N_check_people : List Str := ["people", "seen", "index", "item"]
def t_check_people (K : PySem.W.Frag) (E : XK) : TS := (tSeq (tIfS (tOr (tNot (tB (tCB (rIsi K) (tCons (tVar 0) (tCons (tC (.ty "tuple")) tNil))))) (tTest (tOp rGtI (tCB (rLenA K) (tCons (tVar 0) tNil)) (tC (.int 16))))) (tRz1 (He.ga K "BadPeople") "index" (tUn rNegI (tC (.int 1))) (WE0 E)) tNext)
  (tSeq (tAsg (tLst tNil) (gName 1))
  (tFor (iEnumT K (tCons (tVar 0) tNil)) (gTup K 2 (gCons (gName 2) (gCons (gName 3) gNil))) (tSeq (tIfS (tOr (tNot (tB (tCl (sp_is_name K) (WE0 E) (tCons (tVar 3) tNil)))) (tTest (tOp (rIn K false) (tVar 3) (tVar 1)))) (tRz1 (He.ga K "BadPeople") "index" (tVar 2) (WE0 E)) tNext)
  (tDrop (tBM K "list" rAppend (tVar 1) (tCons (tVar 3) tNil)))))))
def sp_check_people (K : PySem.W.Frag) : Sp := fun vs H Q E => ∃ v B d, vs = [v] ∧ Same B H ∧ Rep K B v d ∧ match badPeople d with
  | none => Ret B H Q fun _ r => r = .non
  | some i => Thr K B H E "BadPeople" [("index", .int i)]
theorem pure_check_people {K : PySem.W.Frag} {vs : List V} {H : Hp} {Q : VK} {E : XK} (h : sp_check_people K vs H Q E) : t_check_people K E { nx := fun _ H' => Q .non H', rt := Q } (start N_check_people vs) H := by
  obtain ⟨v, B, d, rfl, sB, r, k⟩ := h
  have hs := HS.start sB
  show t_check_people K E _ [some v, none, none, none] H
  unfold t_check_people
  ((with_reducible refine x_seq ?_); (with_reducible refine x_if ?_); (with_reducible refine x_or ?_); (with_reducible refine x_not ?_); (with_reducible refine x_tB ?_); (with_reducible refine x_cb ?_); (with_reducible refine x_cons ?_); ((with_reducible refine' x_var ?z8h ?_); case z8h => rfl); (with_reducible refine x_cons ?_); (with_reducible refine x_c ?_); (with_reducible refine x_nil ?_); ((with_reducible refine' x_isiD ?z12h1 ?z12h2 ?z12h3 ?_); (case z12h1 => assumption); (case z12h2 => walk_at "rp"); (case z12h3 => decide)); (with_reducible refine x_exb ?_))
  cases r with
  | @tup a vs ds e r =>
    have hl := r.length
    refine x_ite (fun h => by simp [D.isT] at h) (fun _ => ?_)
    ((with_reducible refine x_test ?_); (with_reducible refine x_op ?_); (with_reducible refine x_cb ?_); (with_reducible refine x_cons ?_); ((with_reducible refine' x_var ?z18h ?_); case z18h => rfl); (with_reducible refine x_nil ?_); ((with_reducible refine' x_lenT ?z20h ?_); case z20h => walk_at "st"); (with_reducible refine x_c ?_); (with_reducible refine x_gtI ?_); (with_reducible refine x_exb ?_))
    refine x_ite (fun h => ?_) (fun h1 => ?_)
    · ((with_reducible refine x_rz1 ?_); (with_reducible refine x_un ?_); (with_reducible refine x_c ?_); (with_reducible refine x_neg ?_))
      have : ¬ ds.length ≤ 16 := by have := of_decide_eq_true h; omega
      simp only [badPeople, if_neg this] at k
      exact x_thr hs k
    have h1 : ds.length ≤ 16 := by have := of_decide_eq_false h1; omega
    simp only [badPeople, if_pos h1] at k
    ((with_reducible refine x_next ?_); (with_reducible refine x_seq ?_); (with_reducible refine x_asg ?_); (with_reducible refine x_lst ?_); (with_reducible refine x_nil ?_); ((with_reducible refine' x_newL ?z33h ?_); case z33h => first | exact Nat.zero_le _ | (simp; done) | (simp; omega)))
    refine new_M hs (fun l H1 hs1 _ => ?_)
    (((with_reducible refine x_gname ?_); try simp only [List.set_cons_zero, List.set_cons_succ]); (with_reducible refine x_for ?_); (with_reducible refine x_iEnumT ?_); (with_reducible refine x_cons ?_); ((with_reducible refine' x_var ?z38h ?_); case z38h => rfl); (with_reducible refine x_nil ?_))
    refine ⟨a, vs, rfl, by walk_at "st", ?_⟩
    refine l_enumT (α := List Str × Option V × Option V) (σf := fun s => [some (.ref a), some (.ref l), s.2.1, s.2.2]) (Mf := fun s => [(l, .lst (s.1.map V.str))])
      (P := fun i s _ => s.1.length = i ∧ badAt 0 [] ds = badAt i s.1 (ds.drop i)) (s0 := ([], none, none)) hs1 e ⟨rfl, rfl⟩ (fun i x s T B1 H1 hi sb hs2 pp hT => ?_) (fun s B1 H1 sb hs2 pp => ?_) (fun _ _ _ _ p _ => p)
    · obtain ⟨seen, s2, s3⟩ := s
      obtain ⟨hlen, hgo⟩ := pp
      dsimp only at hlen hgo hs2 ⊢
      obtain ⟨d, hd, rd⟩ := r.get hi
      have hil : i < ds.length := (List.getElem?_eq_some_iff.mp hd).1
      have hdrop : ds.drop i = d :: ds.drop (i + 1) := by
        rw [List.drop_eq_getElem_cons hil, (List.getElem?_eq_some_iff.mp hd).2]
      rw [hdrop] at hgo
      have rd1 := rd.mono sb
      have fin : ∀ B2 H2, Same B1 B2 → HS [] B H B2 H2 [(l, .lst (seen.map V.str))] → badAt i seen (d :: ds.drop (i + 1)) = some i → Rz (WE0 E) (He.ga K "BadPeople") [("index", .int (i : Nat))] [some (.ref a), some (.ref l), some (.int (i : Nat)), some x] H2 := fun B2 H2 _ h2 e1 => by
        rw [hgo, e1] at k
        exact x_thr h2 k
      (((with_reducible refine' x_gtup ?z40h ?z40h2 ?_); (case z40h => walk_at "st"); (case z40h2 => rfl)); (with_reducible refine x_gcons ?_); ((with_reducible refine x_gname ?_); try simp only [List.set_cons_zero, List.set_cons_succ]); (with_reducible refine x_gcons ?_); ((with_reducible refine x_gname ?_); try simp only [List.set_cons_zero, List.set_cons_succ]); (with_reducible refine x_gnil ?_); (with_reducible refine x_seq ?_); (with_reducible refine x_if ?_); (with_reducible refine x_or ?_); (with_reducible refine x_not ?_); (with_reducible refine x_tB ?_); (with_reducible refine x_cl ?_); (with_reducible refine x_cons ?_); ((with_reducible refine' x_var ?z53h ?_); case z53h => rfl); (with_reducible refine x_nil ?_))
      refine use_is_name hs2 rd1 (fun B2 H2 sb2 hs3 => ?_)
      (with_reducible refine x_exb ?_)
      refine x_ite (fun h => ?_) (fun h => ?_)
      · ((with_reducible refine x_tt _ _ ?_); (with_reducible refine x_rz1 ?_); ((with_reducible refine' x_var ?z58h ?_); case z58h => rfl))
        refine fin _ _ sb2 hs3 ?_
        have hn : isName d = false := by simpa using h
        cases d with
        | str y =>
          have hn : okName y = false := hn
          simp [badAt, hn]
        | _ => rfl
      have hn : isName d = true := by simpa using h
      cases rd with
      | @str y hy =>
        have hn : okName y = true := hn
        ((with_reducible refine x_test ?_); (with_reducible refine x_op ?_); ((with_reducible refine' x_var ?z61h ?_); case z61h => rfl); ((with_reducible refine' x_var ?z62h ?_); case z62h => rfl); ((with_reducible refine' x_inLS ?z63h ?_); case z63h => walk_at "sl"); (with_reducible refine x_exb ?_))
        refine x_ite (fun h => ?_) (fun h => ?_)
        · ((with_reducible refine x_rz1 ?_); ((with_reducible refine' x_var ?z66h ?_); case z66h => rfl))
          refine fin _ _ sb2 hs3 ?_
          have : y ∈ seen := by simpa using h
          simp [badAt, this]
        have h3 : ¬ y ∈ seen := by simpa using h
        ((with_reducible refine x_next ?_); (with_reducible refine x_drop ?_); (with_reducible refine x_bm ?_); ((with_reducible refine' x_var ?z70h ?_); case z70h => rfl); ((with_reducible refine' x_tyL ?z71h ?_); case z71h => walk_at "sl"); (with_reducible refine x_cons ?_); ((with_reducible refine' x_var ?z73h ?_); case z73h => rfl); (with_reducible refine x_nil ?_))
        refine x_append hs3 (by rw [List.length_map]; omega) (fun H3 hs4 => ?_)
        refine ⟨(seen ++ [y], some _, some _), B2, rfl, sb.trans sb2, by simpa using hs4, by simp [hlen], ?_⟩
        rw [hgo]
        simp [badAt, hn, h3]
      | _ => cases hn
    · obtain ⟨hlen, hgo⟩ := pp
      have : ds.drop vs.length = [] := by rw [hl]; simp
      rw [hgo, this] at k
      exact k B1 H1 _ (hs.call hs2.all) rfl
  | _ =>
    refine x_ite (fun h => ?_) (fun h => by simp [D.isT] at h)
    ((with_reducible refine x_tt _ _ ?_); (with_reducible refine x_rz1 ?_); (with_reducible refine x_un ?_); (with_reducible refine x_c ?_); (with_reducible refine x_neg ?_))
    exact x_thr hs k
end Q

set_option Elab.async false
set_option linter.all false
set_option maxRecDepth 100000
set_option maxHeartbeats 4000000
namespace Q
open PySem PySem.Spec PyProof.Rows L2
local macro_rules | `(tactic| walk_at "bf") => `(tactic| first | assumption | (refine' bstep (by assumption) ?r; case r => walk_at "bf") | fail)
local macro_rules | `(tactic| walk_at "rp") => `(tactic| first | assumption | exact Rep.int _ | exact Rep.bl _ | exact Rep.non | (refine' Rep.mono (by assumption) ?r; case r => walk_at "rp") | fail)
local macro_rules | `(tactic| walk_at "hf") => `(tactic| first | assumption | exact HS.up (by assumption) (by walk_at "bf") | exact HS.get (by assumption) List.mem_cons_self | exact HS.get (by assumption) (List.mem_cons_of_mem _ List.mem_cons_self) | exact HS.get (by assumption) (List.mem_cons_of_mem _ (List.mem_cons_of_mem _ List.mem_cons_self)) | exact HS.get (by assumption) (List.mem_cons_of_mem _ (List.mem_cons_of_mem _ (List.mem_cons_of_mem _ List.mem_cons_self))) | fail)
local macro_rules | `(tactic| walk_at "sl") => `(tactic| first | assumption | exact SqL.of (by walk_at "hf") | fail)
local macro_rules | `(tactic| walk_at "st") => `(tactic| first | assumption | exact SqT.of (by walk_at "hf") | fail)
local macro_rules | `(tactic| walk_at "sz") => `(tactic| first | assumption | (refine small_le ?_; first | assumption | omega | (simp; done) | (simp; omega)) | fail)
/-! ### check_wishes -/
def vald (d : D) (p : Str) : D := match d with
  | .dct ds => (dval ds (.inr p)).getD .non
  | _ => .non
def badWishes (d : D) (xs : List Str) : Option Str := if sameKeys d xs then (sortS xs).find? (fun p => !fitsW (vald d p) xs p) else some ""
theorem sameKeys_dct {d : D} {xs : List Str} (h : sameKeys d xs = true) : ∃ ds, d = .dct ds ∧ ds.length = xs.length ∧ ∀ x ∈ xs, (dval ds (.inr x)).isSome = true := by
  cases d with
  | dct ds =>
    obtain ⟨h1, h2⟩ := Bool.and_eq_true_iff.mp h
    exact ⟨ds, rfl, of_decide_eq_true h1, List.all_eq_true.mp h2⟩
  | _ => cases h
abbrev N_check_wishes : List Str := ["people", "wishes", "person"]
def t_check_wishes (K : PySem.W.Frag) (E : XK) : TS := (tSeq (tIfS (tNot (tB (tCl (sp_same_keys K) (WE0 E) (tCons (tVar 1) (tCons (tVar 0) tNil))))) (tRz1 (He.ga K "BadWishes") "person" (tC (.str "")) (WE0 E)) tNext)
  (tFor (iList K (tCB (rSortT K) (tCons (tVar 0) tNil))) (gName 2) (tIfS (tNot (tB (tCl (sp_fits_wishes K) (WE0 E) (tCons (tDGet (tVar 1) (tVar 2)) (tCons (tVar 0) (tCons (tVar 2) tNil)))))) (tRz1 (He.ga K "BadWishes") "person" (tVar 2) (WE0 E)) tNext)))
def sp_check_wishes (K : PySem.W.Frag) : Sp := fun vs H Q E => ∃ a u B d xs, vs = [.ref a, u] ∧ Same B H ∧ B a = some (.tup (xs.map V.str)) ∧ xs.length ≤ 16 ∧ Rep K B u d ∧ match badWishes d xs with
  | none => Ret B H Q fun _ r => r = .non
  | some p => Thr K B H E "BadWishes" [("person", .str p)]
theorem pure_check_wishes {K : PySem.W.Frag} {vs : List V} {H : Hp} {Q : VK} {E : XK} (h : sp_check_wishes K vs H Q E) : t_check_wishes K E { nx := fun _ H' => Q .non H', rt := Q } (start N_check_wishes vs) H := by
  obtain ⟨a, u, B, d, xs, rfl, sB, ea, hz, r, k⟩ := h
  have hs := HS.start sB
  show t_check_wishes K E _ [some (.ref a), some u, none] H
  unfold t_check_wishes
  ((with_reducible refine x_seq ?_); (with_reducible refine x_if ?_); (with_reducible refine x_not ?_); (with_reducible refine x_tB ?_); (with_reducible refine x_cl ?_); (with_reducible refine x_cons ?_); ((with_reducible refine' x_var ?z7h ?_); case z7h => rfl); (with_reducible refine x_cons ?_); ((with_reducible refine' x_var ?z9h ?_); case z9h => rfl); (with_reducible refine x_nil ?_))
  refine use_same_keys hs r ⟨a, rfl, .inr ea⟩ (fun B1 H1 sb1 hs1 => ?_)
  (with_reducible refine x_exb ?_)
  refine x_ite (fun h => ?_) (fun h => ?_)
  · ((with_reducible refine x_rz1 ?_); (with_reducible refine x_c ?_))
    have h : sameKeys d xs = false := by simpa using h
    simp only [badWishes, h, Bool.false_eq_true, if_false] at k
    exact x_thr hs1 k
  have h : sameKeys d xs = true := by simpa using h
  obtain ⟨ds, rfl, _, hsome⟩ := sameKeys_dct h
  simp only [badWishes, h, if_true] at k
  ((with_reducible refine x_next ?_); (with_reducible refine x_for ?_); (with_reducible refine x_iList ?_); (with_reducible refine x_cb ?_); (with_reducible refine x_cons ?_); ((with_reducible refine' x_var ?z19h ?_); case z19h => rfl); (with_reducible refine x_nil ?_); ((with_reducible refine' x_srtT ?z21h ?z21h2 ?_); (case z21h => walk_at "st"); (case z21h2 => omega)))
  refine new_F hs1 (fun l B2 H2 hs2 sb2 el _ => ?_)
  refine ⟨l, rfl, ⟨_, by walk_at "sl"⟩, ?_⟩
  refine l_list (α := Option V) (σf := fun s => [some (.ref a), some u, s]) (Mf := fun _ => [])
      (P := fun i s _ => (sortS xs).find? (fun p => !fitsW (vald (.dct ds) p) xs p) = ((sortS xs).drop i).find? (fun p => !fitsW (vald (.dct ds) p) xs p)) (s0 := none) hs2 el rfl (fun i x s B3 H3 hi sb3 hs3 pp => ?_) (fun s B3 H3 sb3 hs3 pp => ?_)
  · obtain ⟨x, hx, rfl⟩ := strs_get hi
    have hmem : x ∈ xs := mem_sortS.mp (List.mem_of_getElem? hx)
    have hdrop : (sortS xs).drop i = x :: (sortS xs).drop (i + 1) := by
      rw [List.drop_eq_getElem_cons (List.getElem?_eq_some_iff.mp hx).1, (List.getElem?_eq_some_iff.mp hx).2]
    rw [hdrop, List.find?_cons] at pp
    cases r with
    | @dct aw kvs _ ew rk =>
      obtain ⟨v, dv, hv, hdv, rv⟩ : ∃ v dv, valV kvs (.inr x) = some v ∧ dval ds (.inr x) = some dv ∧ Rep K B v dv := by
        rcases repK_val rk (.inr x) with z | ⟨_, z⟩
        · exact z
        · have := hsome x hmem
          rw [z] at this; cases this
      have hval : vald (.dct ds) x = dv := by simp only [vald, hdv, Option.getD_some]
      (((with_reducible refine x_gname ?_); try simp only [List.set_cons_zero, List.set_cons_succ]); (with_reducible refine x_if ?_); (with_reducible refine x_not ?_); (with_reducible refine x_tB ?_); (with_reducible refine x_cl ?_); (with_reducible refine x_cons ?_); (with_reducible refine x_dget ?_); ((with_reducible refine' x_var ?z29h ?_); case z29h => rfl); ((with_reducible refine' x_var ?z30h ?_); case z30h => rfl); ((with_reducible refine' x_dgS ?z31h ?z31h2 ?_); (case z31h => walk_at "hf"); (case z31h2 => assumption)); (with_reducible refine x_cons ?_); ((with_reducible refine' x_var ?z33h ?_); case z33h => rfl); (with_reducible refine x_cons ?_); ((with_reducible refine' x_var ?z35h ?_); case z35h => rfl); (with_reducible refine x_nil ?_))
      refine use_fits_wishes hs3 (by walk_at "rp") ⟨a, rfl, .inr (by walk_at "bf")⟩ (fun B4 H4 sb4 hs4 => ?_)
      (with_reducible refine x_exb ?_)
      refine x_ite (fun h => ?_) (fun h => ?_)
      · ((with_reducible refine x_rz1 ?_); ((with_reducible refine' x_var ?z39h ?_); case z39h => rfl))
        rw [hval, h] at pp
        rw [pp] at k
        exact x_thr hs4 k
      · (with_reducible refine x_next ?_)
        rw [hval, h] at pp
        exact ⟨some _, B4, rfl, sb3.trans sb4, hs4, pp⟩
  · rw [List.length_map, List.drop_length] at pp
    rw [pp] at k
    exact k B3 H3 _ (hs.call hs3) rfl
theorem use_check_people {K : PySem.W.Frag} {S : List Addr} {B0 H0 B H : Hp} {M : List (Addr × HO)} {Q : VK} {E : XK} {v : V} {d : D} (hs : HS S B0 H0 B H M) (r : Rep K B v d)
    (k : badPeople d = none → ∀ B' H', Same B B' → HS S B0 H0 B' H' M → Q .non H')
    (ke : ∀ i, badPeople d = some i → Thr K B H E "BadPeople" [("index", .int i)]) : sp_check_people K [v] H Q E := ⟨v, B, d, rfl, hs.bh, r, by
  cases e : badPeople d with
  | none => exact fun B' H' v' c e' => by rw [e']; exact k e B' H' c.bb (hs.call c)
  | some i => exact ke i e⟩
theorem use_check_wishes {K : PySem.W.Frag} {S : List Addr} {B0 H0 B H : Hp} {M : List (Addr × HO)} {Q : VK} {E : XK} {a : Addr} {u : V} {d : D} {xs : List Str} (hs : HS S B0 H0 B H M) (ea : B a = some (.tup (xs.map V.str))) (hz : xs.length ≤ 16) (r : Rep K B u d)
    (k : badWishes d xs = none → ∀ B' H', Same B B' → HS S B0 H0 B' H' M → Q .non H')
    (ke : ∀ p, badWishes d xs = some p → Thr K B H E "BadWishes" [("person", .str p)]) : sp_check_wishes K [.ref a, u] H Q E := ⟨a, u, B, d, xs, rfl, hs.bh, ea, hz, r, by
  cases e : badWishes d xs with
  | none => exact fun B' H' v' c e' => by rw [e']; exact k e B' H' c.bb (hs.call c)
  | some i => exact ke i e⟩
end Q

set_option Elab.async false
set_option linter.all false
set_option maxRecDepth 100000
set_option maxHeartbeats 4000000
namespace Q
open PySem PySem.Spec PyProof.Rows L2
/-! ### groups -/
structure Grp where
  names : List Str
  wish : Str → List Str
def Grp.open (G : Grp) (p : Str) : List Str := (G.wish p).filter fun b => decide (p ∈ G.wish b)
structure Grp.Ok (G : Grp) : Prop where
  nd : G.names.Nodup
  few : G.names.length ≤ 16
  nm : ∀ x ∈ G.names, okName x = true
  wn : ∀ p ∈ G.names, (G.wish p).Nodup
  ws : ∀ p ∈ G.names, p ∉ G.wish p
  wi : ∀ p ∈ G.names, ∀ q ∈ G.wish p, q ∈ G.names
inductive GRes where
  | ok (G : Grp) | bp (i : Int) | bw (p : Str)
def D.strL : List D → List Str
  | [] => []
  | .str x :: r => x :: D.strL r
  | _ :: r => D.strL r
def D.asStrs : D → List Str
  | .lst ds => D.strL ds
  | .tup ds => D.strL ds
  | _ => []
def mkGroup (dp dw : D) : GRes := match badPeople dp with
  | some i => .bp i
  | none => match badWishes dw dp.asStrs with
    | some p => .bw p
    | none => .ok ⟨dp.asStrs, fun p => (vald dw p).asStrs⟩
theorem strL_map (xs : List Str) : D.strL (xs.map D.str) = xs := by
  induction xs with
  | nil => rfl
  | cons x r ih => simp [D.strL, ih]
theorem badAt_none : ∀ {ds : List D} {i : Nat} {seen : List Str}, badAt i seen ds = none → ∃ xs : List Str, ds = xs.map D.str ∧ (∀ x ∈ xs, okName x = true ∧ x ∉ seen) ∧ xs.Nodup
  | [], _, _, _ => ⟨[], rfl, by simp, List.nodup_nil⟩
  | d :: r, i, seen, h => by
    cases d with
    | str x =>
      unfold badAt at h
      by_cases hc : (okName x && !decide (x ∈ seen)) = true
      · rw [if_pos hc] at h
        obtain ⟨h1, h2⟩ := Bool.and_eq_true_iff.mp hc
        obtain ⟨xs, e, hx, hn⟩ := badAt_none h
        refine ⟨x :: xs, by rw [e]; rfl, fun y m => ?_, ?_⟩
        · rcases List.mem_cons.mp m with rfl | m
          · exact ⟨h1, by simpa using h2⟩
          · exact ⟨(hx y m).1, fun z => (hx y m).2 (List.mem_append_left _ z)⟩
        · rw [List.nodup_cons]
          exact ⟨fun z => (hx x z).2 (by simp), hn⟩
      · rw [if_neg hc] at h
        cases h
    | _ => cases h
theorem badPeople_none {d : D} (h : badPeople d = none) : ∃ xs : List Str, d = .tup (xs.map D.str) ∧ xs.length ≤ 16 ∧ (∀ x ∈ xs, okName x = true) ∧ xs.Nodup := by
  cases d with
  | tup ds =>
    unfold badPeople at h
    by_cases hl : ds.length ≤ 16
    · simp only [if_pos hl, Option.map_eq_none_iff] at h
      obtain ⟨xs, e, hx, hn⟩ := badAt_none h
      exact ⟨xs, by rw [e], by rw [e, List.length_map] at hl; exact hl, fun x m => (hx x m).1, hn⟩
    · simp only [if_neg hl] at h
      cases h
  | _ => cases h
theorem fitsGo_true {xs : List Str} {p : Str} : ∀ {ds : List D} {seen : List Str}, fitsGo xs p seen ds = true → ∃ ws : List Str, ds = ws.map D.str ∧ (∀ x ∈ ws, x ≠ p ∧ x ∈ xs ∧ x ∉ seen) ∧ ws.Nodup
  | [], _, _ => ⟨[], rfl, by simp, List.nodup_nil⟩
  | d :: r, seen, h => by
    cases d with
    | str x =>
      unfold fitsGo at h
      simp only [Bool.and_eq_true, Bool.not_eq_true', decide_eq_false_iff_not, decide_eq_true_eq] at h
      obtain ⟨h1, h2, h3, h4⟩ := h
      obtain ⟨ws, e, hx, hn⟩ := fitsGo_true h4
      refine ⟨x :: ws, by rw [e]; rfl, fun y m => ?_, ?_⟩
      · rcases List.mem_cons.mp m with rfl | m
        · exact ⟨h1, h2, h3⟩
        · exact ⟨(hx y m).1, (hx y m).2.1, fun z => (hx y m).2.2 (List.mem_append_left _ z)⟩
      · rw [List.nodup_cons]
        exact ⟨fun z => (hx x z).2.2 (by simp), hn⟩
    | _ => cases h
theorem fitsW_true {d : D} {xs : List Str} {p : Str} (h : fitsW d xs p = true) : ∃ ws : List Str, d = D.strs ws ∧ (∀ x ∈ ws, x ≠ p ∧ x ∈ xs) ∧ ws.Nodup := by
  cases d with
  | lst ds =>
    obtain ⟨ws, e, hx, hn⟩ := fitsGo_true h
    exact ⟨ws, by rw [e]; rfl, fun x m => ⟨(hx x m).1, (hx x m).2.1⟩, hn⟩
  | _ => cases h
theorem badWishes_none {d : D} {xs : List Str} (h : badWishes d xs = none) : ∃ ds, d = .dct ds ∧ ∀ p ∈ xs, (dval ds (.inr p)).isSome = true ∧ ∃ ws : List Str, vald d p = D.strs ws ∧ (∀ x ∈ ws, x ≠ p ∧ x ∈ xs) ∧ ws.Nodup := by
  unfold badWishes at h
  by_cases hk : sameKeys d xs = true
  · rw [if_pos hk] at h
    obtain ⟨ds, rfl, _, hsome⟩ := sameKeys_dct hk
    refine ⟨ds, rfl, fun p m => ⟨hsome p m, fitsW_true ?_⟩⟩
    have := List.find?_eq_none.mp h p (mem_sortS.mpr m)
    simpa using this
  · rw [if_neg hk] at h
    cases h
theorem asStrs_strs (ws : List Str) : (D.strs ws).asStrs = ws := strL_map ws
theorem mkGroup_ok {dp dw : D} {G : Grp} (h : mkGroup dp dw = .ok G) : G.Ok := by
  unfold mkGroup at h
  cases e : badPeople dp with
  | some i => rw [e] at h; cases h
  | none =>
    rw [e] at h
    obtain ⟨xs, rfl, hl, hn, hd⟩ := badPeople_none e
    have ex : (D.tup (xs.map D.str)).asStrs = xs := strL_map xs
    dsimp only at h
    rw [ex] at h
    cases e2 : badWishes dw xs with
    | some p => rw [e2] at h; cases h
    | none =>
      rw [e2] at h
      cases h
      obtain ⟨ds, rfl, hw⟩ := badWishes_none e2
      refine ⟨hd, hl, hn, fun p m => ?_, fun p m => ?_, fun p m q => ?_⟩
      all_goals
        obtain ⟨_, ws, e3, h1, h2⟩ := hw p m
        dsimp only
        rw [e3, asStrs_strs]
      · exact h2
      · exact fun z => (h1 p z).1 rfl
      · exact fun z => (h1 q z).2
/-! ### how a heap shows them -/
def zipK (xs : List Str) (al : List Addr) : List (Key × V) := (xs.zip al).map fun q => (.inr q.1, .ref q.2)
theorem zipK_keys {xs : List Str} {al : List Addr} (h : al.length = xs.length) : (zipK xs al).map (·.1) = xs.map Sum.inr := by
  unfold zipK
  rw [List.map_map]
  have : (xs.zip al).map Prod.fst = xs := List.map_fst_zip (by omega)
  rw [← this, List.map_map, List.map_fst_zip (by omega)]
  congr 1
theorem zipK_snoc {xs : List Str} {al : List Addr} {x : Str} {a : Addr} (h : al.length = xs.length) : zipK (xs ++ [x]) (al ++ [a]) = zipK xs al ++ [(.inr x, .ref a)] := by
  unfold zipK
  rw [List.zip_append (by omega), List.map_append]
  rfl
theorem zipK_val {p : Str} : ∀ {xs : List Str} {al : List Addr}, al.length = xs.length → xs.Nodup → p ∈ xs → ∃ (j : Nat) (a : Addr), xs[j]? = some p ∧ al[j]? = some a ∧ valV (zipK xs al) (.inr p) = some (.ref a)
  | [], _, _, _, m => nomatch m
  | x :: r, [], h, _, _ => by simp at h
  | x :: r, a :: al, h, nd, m => by
    by_cases e : x = p
    · subst e
      exact ⟨0, a, rfl, rfl, valV_pos (p := ((Sum.inr x : Key), V.ref a)) rfl⟩
    · have m' : p ∈ r := by
        rcases List.mem_cons.mp m with z | z
        · exact absurd z.symm e
        · exact z
      obtain ⟨j, b, h1, h2, h3⟩ := zipK_val (xs := r) (al := al) (by simpa using h) (List.nodup_cons.mp nd).2 m'
      refine ⟨j + 1, b, by simpa using h1, by simpa using h2, ?_⟩
      show valV (((Sum.inr x : Key), V.ref a) :: zipK r al) (.inr p) = _
      rw [valV_neg (p := ((Sum.inr x : Key), V.ref a)) (fun z => e (Sum.inr.inj z))]
      exact h3
theorem zipK_none {p : Str} : ∀ {xs : List Str} {al : List Addr}, p ∉ xs → valV (zipK xs al) (.inr p) = none
  | [], _, _ => rfl
  | x :: r, [], _ => rfl
  | x :: r, a :: al, m => by
    show valV (((Sum.inr x : Key), V.ref a) :: zipK r al) (.inr p) = _
    rw [valV_neg (p := ((Sum.inr x : Key), V.ref a)) (fun z => m (by rw [← Sum.inr.inj z]; exact List.mem_cons_self))]
    exact zipK_none fun z => m (List.mem_cons_of_mem _ z)
/-- a dict from the names xs to objects of which R holds -/
def DAt (B : Hp) (d : Addr) (xs : List Str) (R : Str → Addr → Prop) : Prop := ∃ al : List Addr, al.length = xs.length ∧ B d = some (.dK (zipK xs al)) ∧ ∀ (j : Nat) p a, xs[j]? = some p → al[j]? = some a → R p a
theorem DAt.get {B : Hp} {d : Addr} {xs : List Str} {R : Str → Addr → Prop} (h : DAt B d xs R) (nd : xs.Nodup) {p : Str} (m : p ∈ xs) : ∃ kvs a, B d = some (.dK kvs) ∧ valV kvs (.inr p) = some (.ref a) ∧ R p a := by
  obtain ⟨al, hl, e, hR⟩ := h
  obtain ⟨j, a, h1, h2, h3⟩ := zipK_val hl nd m
  exact ⟨_, a, e, h3, hR j p a h1 h2⟩
theorem DAt.has {B : Hp} {d : Addr} {xs : List Str} {R : Str → Addr → Prop} (h : DAt B d xs R) (nd : xs.Nodup) (p : Str) : ∃ kvs, B d = some (.dK kvs) ∧ (valV kvs (.inr p)).isSome = decide (p ∈ xs) := by
  obtain ⟨al, hl, e, hR⟩ := h
  refine ⟨_, e, ?_⟩
  by_cases m : p ∈ xs
  · obtain ⟨j, a, _, _, h3⟩ := zipK_val hl nd m
    rw [h3, decide_eq_true m]; rfl
  · rw [zipK_none m, decide_eq_false m]; rfl
theorem DAt.mono {B B' : Hp} {d : Addr} {xs : List Str} {R R' : Str → Addr → Prop} (s : Same B B') (hR : ∀ p a, R p a → R' p a) (h : DAt B d xs R) : DAt B' d xs R' := by
  obtain ⟨al, hl, e, h⟩ := h
  exact ⟨al, hl, s _ _ e, fun j p a h1 h2 => hR _ _ (h j p a h1 h2)⟩
def enumK (row : List Str) : List (Key × V) := row.zipIdx.map fun q => (.inr q.1, .int (q.2 : Nat))
def gf (n l m q : Addr) : List (Str × V) := [("names", .ref n), ("lists", .ref l), ("mutual", .ref m), ("places", .ref q)]
def LAt (B : Hp) (f : Str → List Str) : Str → Addr → Prop := fun p a => B a = some (.lst ((f p).map V.str))
def PAt (B : Hp) (f : Str → List Str) : Str → Addr → Prop := fun p a => B a = some (.dK (enumK (f p)))
structure GAt (K : PySem.W.Frag) (B : Hp) (p : Addr) (G : Grp) : Prop where
  ex : ∃ dx n l m q, B p = some (.ins (He.ga K "Group") dx (gf n l m q)) ∧ B n = some (.lst (G.names.map V.str)) ∧ DAt B l G.names (LAt B G.wish) ∧ DAt B m G.names (LAt B G.open) ∧ DAt B q G.names (PAt B G.open)
  ok : G.Ok
theorem GAt.mono {K : PySem.W.Frag} {B B' : Hp} {p : Addr} {G : Grp} (s : Same B B') (h : GAt K B p G) : GAt K B' p G := by
  obtain ⟨⟨dx, n, l, m, q, h1, h2, h3, h4, h5⟩, ok⟩ := h
  exact ⟨⟨dx, n, l, m, q, s _ _ h1, s _ _ h2, h3.mono s fun _ _ z => s _ _ z, h4.mono s fun _ _ z => s _ _ z, h5.mono s fun _ _ z => s _ _ z⟩, ok⟩
/-- what the written part says of the class Group -/
structure GK (K : PySem.W.Frag) : Prop where
  cl : Cls K (He.ga K "Group")
  nn : NoAttr K (He.ga K "Group") "names"
  nl : NoAttr K (He.ga K "Group") "lists"
  nm : NoAttr K (He.ga K "Group") "mutual"
  np : NoAttr K (He.ga K "Group") "places"
  ik : InsK K (He.ga K "Group")
theorem GAt.rep {K : PySem.W.Frag} {B : Hp} {p : Addr} {G : Grp} (gk : GK K) (h : GAt K B p G) : Rep K B (.ref p) (.obj p (He.ga K "Group")) := by
  obtain ⟨⟨dx, n, l, m, q, h1, _⟩, _⟩ := h
  exact .obj h1 gk.ik
theorem putK_new {kvs : List (Key × V)} {k : Key} {v : V} (h : valV kvs k = none) : putK kvs k v = kvs ++ [(k, v)] := by
  unfold putK
  rw [valV_any, h]
  rfl
theorem HS.rot3 {S : List Addr} {B0 H0 B H : Hp} {a b c : Addr × HO} {M : List (Addr × HO)} (h : HS S B0 H0 B H (a :: b :: c :: M)) : HS S B0 H0 B H (c :: a :: b :: M) :=
  h.perm ((List.Perm.cons a (List.Perm.swap c b M)).trans (List.Perm.swap c a (b :: M)))
theorem HS.unrot3 {S : List Addr} {B0 H0 B H : Hp} {a b c : Addr × HO} {M : List (Addr × HO)} (h : HS S B0 H0 B H (c :: a :: b :: M)) : HS S B0 H0 B H (a :: b :: c :: M) :=
  h.perm ((List.Perm.cons a (List.Perm.swap c b M)).trans (List.Perm.swap c a (b :: M))).symm
/-- an object that is made by a call of its class -/
theorem HS.made {S : List Addr} {B0 H0 B H B' H' : Hp} {M : List (Addr × HO)} {x dx C : Addr} (hs : HS S B0 H0 B H M) (hx : H x = none) (hd : H dx = none)
    (c : HS [x] B (upd (upd H dx (.own x)) x (.ins C dx [])) B' H' []) : HS S B0 H0 B' H' M := by
  have up : ∀ b o, H b = some o → upd (upd H dx (.own x)) x (.ins C dx []) b = some o := fun b o e => by rw [upd_ne (ne_of_none e hx), upd_ne (ne_of_none e hd)]; exact e
  refine ⟨hs.bb.trans c.bb, c.bh, fun b u n1 n2 e => ?_, fun q m => ?_, hs.nd⟩
  · obtain ⟨h1, h2⟩ := hs.fr b u n1 n2 e
    exact c.fr b u (by simpa using ne_of_none h2 hx) h1 (up _ _ h2)
  · obtain ⟨h1, h2, h3⟩ := hs.mu q m
    obtain ⟨k1, k2⟩ := c.fr q.1 q.2 (by simpa using ne_of_none h2 hx) h1 (up _ _ h2)
    exact ⟨k1, k2, h3⟩
end Q

set_option Elab.async false
set_option linter.all false
set_option maxRecDepth 100000
set_option maxHeartbeats 4000000
namespace Q
open PySem PySem.Spec PyProof.Rows L2
local macro_rules | `(tactic| walk_at "bf") => `(tactic| first | assumption | (refine' bstep (by assumption) ?r; case r => walk_at "bf") | fail)
local macro_rules | `(tactic| walk_at "rp") => `(tactic| first | assumption | exact Rep.int _ | exact Rep.bl _ | exact Rep.non | (refine' Rep.mono (by assumption) ?r; case r => walk_at "rp") | fail)
local macro_rules | `(tactic| walk_at "hf") => `(tactic| first | assumption | exact HS.up (by assumption) (by walk_at "bf") | exact HS.get (by assumption) List.mem_cons_self | exact HS.get (by assumption) (List.mem_cons_of_mem _ List.mem_cons_self) | exact HS.get (by assumption) (List.mem_cons_of_mem _ (List.mem_cons_of_mem _ List.mem_cons_self)) | exact HS.get (by assumption) (List.mem_cons_of_mem _ (List.mem_cons_of_mem _ (List.mem_cons_of_mem _ List.mem_cons_self))) | fail)
local macro_rules | `(tactic| walk_at "sl") => `(tactic| first | assumption | exact SqL.of (by walk_at "hf") | fail)
local macro_rules | `(tactic| walk_at "st") => `(tactic| first | assumption | exact SqT.of (by walk_at "hf") | fail)
local macro_rules | `(tactic| walk_at "sz") => `(tactic| first | assumption | (refine small_le ?_; first | assumption | omega | (simp; done) | (simp; omega)) | fail)
/-! ### Group.__init__ -/
theorem HS.ne01 {S : List Addr} {B0 H0 B H : Hp} {p q : Addr} {o u : HO} {M : List (Addr × HO)} (h : HS S B0 H0 B H ((p, o) :: (q, u) :: M)) : p ≠ q := by
  have := h.nd
  simp only [List.map_cons, List.nodup_cons, List.mem_cons, not_or] at this
  exact this.1.1
theorem pf1 (a : V) : putF "names" a [] = ([("names", a)] : List (Str × V)) := rfl
theorem pf2 (a b : V) : putF "lists" b ([("names", a)] : List (Str × V)) = ([("names", a), ("lists", b)] : List (Str × V)) := by
  unfold putF
  rw [if_neg (show ¬ (("names" : Str) = "lists") by decide +kernel)]
  rfl
theorem pf3 (a b c : V) : putF "mutual" c ([("names", a), ("lists", b)] : List (Str × V)) = ([("names", a), ("lists", b), ("mutual", c)] : List (Str × V)) := by
  unfold putF
  rw [if_neg (show ¬ (("names" : Str) = "mutual") by decide +kernel)]
  unfold putF
  rw [if_neg (show ¬ (("lists" : Str) = "mutual") by decide +kernel)]
  rfl
theorem pf4 (a b c d : V) : putF "places" d ([("names", a), ("lists", b), ("mutual", c)] : List (Str × V)) = ([("names", a), ("lists", b), ("mutual", c), ("places", d)] : List (Str × V)) := by
  unfold putF
  rw [if_neg (show ¬ (("names" : Str) = "places") by decide +kernel)]
  unfold putF
  rw [if_neg (show ¬ (("lists" : Str) = "places") by decide +kernel)]
  unfold putF
  rw [if_neg (show ¬ (("mutual" : Str) = "places") by decide +kernel)]
  rfl
theorem gf_names (n l m q : Addr) : (gf n l m q).lookup ("names" : Str) = some (V.ref n) := by simp [gf, List.lookup]
theorem gf_lists (n l m q : Addr) : (gf n l m q).lookup ("lists" : Str) = some (V.ref l) := by
  have h1 : (("lists" : Str) == "names") = false := by decide +kernel
  simp [gf, List.lookup, h1]
theorem gf_mutual (n l m q : Addr) : (gf n l m q).lookup ("mutual" : Str) = some (V.ref m) := by
  have h1 : (("mutual" : Str) == "names") = false := by decide +kernel
  have h2 : (("mutual" : Str) == "lists") = false := by decide +kernel
  simp [gf, List.lookup, h1, h2]
theorem gf_places (n l m q : Addr) : (gf n l m q).lookup ("places" : Str) = some (V.ref q) := by
  have h1 : (("places" : Str) == "names") = false := by decide +kernel
  have h2 : (("places" : Str) == "lists") = false := by decide +kernel
  have h3 : (("places" : Str) == "mutual") = false := by decide +kernel
  simp [gf, List.lookup, h1, h2, h3]
theorem gf_no {n l m q : Addr} {f : Str} (h : f ∉ (["names", "lists", "mutual", "places"] : List Str)) : (gf n l m q).lookup f = none := by
  simp only [List.mem_cons, List.not_mem_nil, or_false, not_or] at h
  obtain ⟨h1, h2, h3, h4⟩ := h
  have e1 : (f == ("names" : Str)) = false := beq_eq_false_iff_ne.mpr h1
  have e2 : (f == ("lists" : Str)) = false := beq_eq_false_iff_ne.mpr h2
  have e3 : (f == ("mutual" : Str)) = false := beq_eq_false_iff_ne.mpr h3
  have e4 : (f == ("places" : Str)) = false := beq_eq_false_iff_ne.mpr h4
  simp [gf, List.lookup, e1, e2, e3, e4]
theorem take_none {xs : List Str} {al : List Addr} {i : Nat} {q : Str} (hd : xs.Nodup) (hq : xs[i]? = some q) : valV (zipK (xs.take i) al) (.inr q) = none := by
  refine zipK_none fun z => ?_
  obtain ⟨j, hj, e⟩ := List.mem_take_iff_getElem.mp z
  have h1 : xs[j]? = some q := by rw [← e]; simp
  have := nodup_ix hd h1 hq
  omega
theorem zipK_put {xs : List Str} {al : List Addr} {i : Nat} {q : Str} {c : Addr} (hd : xs.Nodup) (hq : xs[i]? = some q) (hal : al.length = i) : putK (zipK (xs.take i) al) (.inr q) (.ref c) = zipK (xs.take (i + 1)) (al ++ [c]) := by
  have hil : i < xs.length := (List.getElem?_eq_some_iff.mp hq).1
  rw [putK_new (take_none hd hq), List.take_succ, hq]
  exact (zipK_snoc (by rw [hal, List.length_take]; omega)).symm
theorem all_put {R R' : Str → Addr → Prop} {xs : List Str} {al : List Addr} {i : Nat} {q : Str} {c : Addr} (hq : xs[i]? = some q) (hal : al.length = i) (hR : ∀ (j : Nat) q' b, xs[j]? = some q' → al[j]? = some b → R q' b) (hc : R' q c) (hm : ∀ q' b, R q' b → R' q' b) :
    ∀ (j : Nat) q' b, xs[j]? = some q' → (al ++ [c])[j]? = some b → R' q' b := fun j q' b' h1 h2 => by
  by_cases hj : j < al.length
  · rw [List.getElem?_append_left hj] at h2
    exact hm _ _ (hR j q' b' h1 h2)
  · rw [List.getElem?_append_right (by omega)] at h2
    have hj0 : j - al.length = 0 := by
      by_cases z : j - al.length = 0
      · exact z
      · rw [List.getElem?_eq_none (by simp; omega)] at h2; cases h2
    rw [hj0] at h2
    cases h2
    have : j = i := by omega
    rw [this, hq] at h1
    cases h1
    exact hc
theorem zipK_len (xs : List Str) (al : List Addr) : (zipK xs al).length ≤ xs.length := by
  unfold zipK
  rw [List.length_map, List.length_zip]
  omega
theorem filter_take {α : Type} {l : List α} {i : Nat} {x : α} (f : α → Bool) (h : l[i]? = some x) : (l.take (i + 1)).filter f = if f x then (l.take i).filter f ++ [x] else (l.take i).filter f := by
  rw [List.take_succ, h]
  simp only [Option.toList_some, List.filter_append, List.filter_cons, List.filter_nil]
  split <;> simp
theorem enumK_take {row : List Str} {i : Nat} {x : Str} (h : row[i]? = some x) : enumK (row.take (i + 1)) = enumK (row.take i) ++ [(.inr x, .int (i : Nat))] := by
  have hi : i < row.length := (List.getElem?_eq_some_iff.mp h).1
  unfold enumK
  rw [List.take_succ, h]
  simp only [Option.toList_some, List.zipIdx_append, List.map_append, List.length_take, Nat.min_eq_left (Nat.le_of_lt hi)]
  simp
theorem enumK_keys (row : List Str) : (enumK row).map (·.1) = row.map Sum.inr := by
  unfold enumK
  rw [List.map_map]
  show row.zipIdx.map (fun q => (Sum.inr q.1 : Key)) = _
  have e : (fun q : Str × Nat => (Sum.inr q.1 : Key)) = Sum.inr ∘ Prod.fst := rfl
  rw [e, ← List.map_map]
  congr 1
  simp
theorem nodup_len {α : Type} [DecidableEq α] : ∀ {xs ys : List α}, xs.Nodup → (∀ x ∈ xs, x ∈ ys) → xs.length ≤ ys.length
  | [], _, _, _ => Nat.zero_le _
  | x :: r, ys, nd, h => by
    rw [List.nodup_cons] at nd
    have hx : x ∈ ys := h x List.mem_cons_self
    have ih := nodup_len (xs := r) (ys := ys.erase x) nd.2 fun y m => (List.mem_erase_of_ne (fun e => nd.1 (by rw [← e]; exact m))).mpr (h y (List.mem_cons_of_mem _ m))
    rw [List.length_erase_of_mem hx] at ih
    have : 0 < ys.length := List.length_pos_of_mem hx
    simp only [List.length_cons]
    omega
theorem valV_none_keys {kvs : List (Key × V)} {k : Key} (h : k ∉ kvs.map (·.1)) : valV kvs k = none := by
  cases e : valV kvs k with
  | none => rfl
  | some v =>
    have := valV_any k kvs
    rw [e] at this
    obtain ⟨p, m, hp⟩ := List.any_eq_true.mp this
    exact absurd (List.mem_map.mpr ⟨p, m, of_decide_eq_true hp⟩) h
end Q

set_option Elab.async false
set_option linter.all false
set_option maxRecDepth 100000
set_option maxHeartbeats 4000000
namespace Q
open PySem PySem.Spec PyProof.Rows L2
local macro_rules | `(tactic| walk_at "bf") => `(tactic| first | assumption | (refine' bstep (by assumption) ?r; case r => walk_at "bf") | fail)
local macro_rules | `(tactic| walk_at "rp") => `(tactic| first | assumption | exact Rep.int _ | exact Rep.bl _ | exact Rep.non | (refine' Rep.mono (by assumption) ?r; case r => walk_at "rp") | fail)
local macro_rules | `(tactic| walk_at "hf") => `(tactic| first | assumption | exact HS.up (by assumption) (by walk_at "bf") | exact HS.get (by assumption) List.mem_cons_self | exact HS.get (by assumption) (List.mem_cons_of_mem _ List.mem_cons_self) | exact HS.get (by assumption) (List.mem_cons_of_mem _ (List.mem_cons_of_mem _ List.mem_cons_self)) | exact HS.get (by assumption) (List.mem_cons_of_mem _ (List.mem_cons_of_mem _ (List.mem_cons_of_mem _ List.mem_cons_self))) | fail)
local macro_rules | `(tactic| walk_at "sl") => `(tactic| first | assumption | exact SqL.of (by walk_at "hf") | fail)
local macro_rules | `(tactic| walk_at "st") => `(tactic| first | assumption | exact SqT.of (by walk_at "hf") | fail)
local macro_rules | `(tactic| walk_at "sz") => `(tactic| first | assumption | (refine small_le ?_; first | assumption | omega | (simp; done) | (simp; omega)) | fail)
/-! ### calls that hand back new things that may change -/
theorem HS.none0 {S : List Addr} {B0 H0 B H : Hp} {M : List (Addr × HO)} (h : HS S B0 H0 B H M) {p : Addr} (hp : H p = none) : H0 p = none ∨ p ∈ S := by
  by_cases hs : p ∈ S
  · exact .inr hs
  · left
    cases q : H0 p with
    | none => rfl
    | some u =>
      cases qb : B0 p with
      | some w => rw [h.bh _ _ (h.bb _ _ qb)] at hp; cases hp
      | none => rw [(h.fr p u hs qb q).2] at hp; cases hp
theorem HS.callN {S : List Addr} {B0 H0 B H B' H' : Hp} {M N : List (Addr × HO)} (h : HS S B0 H0 B H M) (c : HS [] B H B' H' N) : HS S B0 H0 B' H' (N ++ M) := by
  refine ⟨h.bb.trans c.bb, c.bh, fun b u n1 n2 e => ?_, fun q m => ?_, ?_⟩
  · obtain ⟨x, y⟩ := h.fr b u n1 n2 e
    exact c.fr b u (by simp) x y
  · rcases List.mem_append.mp m with m | m
    · obtain ⟨x, y, z⟩ := c.mu q m
      exact ⟨x, y, h.none0 (z.resolve_right (by simp))⟩
    · obtain ⟨x, y, z⟩ := h.mu q m
      obtain ⟨x', y'⟩ := c.fr q.1 q.2 (by simp) x y
      exact ⟨x', y', z⟩
  · rw [List.map_append, List.nodup_append]
    refine ⟨c.nd, h.nd, fun a ha b hb e => ?_⟩
    obtain ⟨q, mq, rfl⟩ := List.mem_map.mp ha
    obtain ⟨r, mr, rfl⟩ := List.mem_map.mp hb
    have h1 := (c.mu q mq).2.2.resolve_right (by simp)
    have h2 := (h.mu r mr).2.1
    rw [e, h2] at h1
    cases h1
theorem HS.call1N {S : List Addr} {B0 H0 B H B' H' : Hp} {M N : List (Addr × HO)} {p : Addr} {o o' : HO} (h : HS S B0 H0 B H ((p, o) :: M)) (c : HS [p] B H B' H' ((p, o') :: N)) : HS S B0 H0 B' H' ((p, o') :: (N ++ M)) := by
  have nd := h.nd
  rw [List.map_cons, List.nodup_cons] at nd
  have cnd := c.nd
  rw [List.map_cons, List.nodup_cons] at cnd
  obtain ⟨hB, hH, hs⟩ := h.mu (p, o) List.mem_cons_self
  dsimp only at hB hH hs
  obtain ⟨c1, c2, _⟩ := c.mu (p, o') List.mem_cons_self
  dsimp only at c1 c2
  have hN : ∀ q ∈ N, H q.1 = none := fun q m => by
    rcases (c.mu q (List.mem_cons_of_mem _ m)).2.2 with z | z
    · exact z
    · exact absurd (List.mem_map.mpr ⟨q, m, by simpa using z⟩) cnd.1
  refine ⟨h.bb.trans c.bb, c.bh, fun b u n1 n2 e => ?_, fun q m => ?_, ?_⟩
  · obtain ⟨x, y⟩ := h.fr b u n1 n2 e
    have : b ≠ p := fun z => by
      subst z
      rcases hs with k | k
      · rw [k] at e; cases e
      · exact n1 k
    exact c.fr b u (by simpa using this) x y
  · rcases List.mem_cons.mp m with rfl | m
    · exact ⟨c1, c2, hs⟩
    · rcases List.mem_append.mp m with m | m
      · obtain ⟨x, y, z⟩ := c.mu q (List.mem_cons_of_mem _ m)
        exact ⟨x, y, h.none0 (hN q m)⟩
      · obtain ⟨x, y, z⟩ := h.mu q (List.mem_cons_of_mem _ m)
        have : q.1 ≠ p := fun e => nd.1 (List.mem_map.mpr ⟨q, m, e⟩)
        obtain ⟨x', y'⟩ := c.fr q.1 q.2 (by simpa using this) x y
        exact ⟨x', y', z⟩
  · rw [List.map_cons, List.nodup_cons, List.map_append, List.nodup_append]
    refine ⟨fun z => ?_, cnd.2, nd.2, fun a ha b hb e => ?_⟩
    · rcases List.mem_append.mp z with z | z
      · exact cnd.1 z
      · exact nd.1 z
    obtain ⟨q, mq, rfl⟩ := List.mem_map.mp ha
    obtain ⟨r, mr, rfl⟩ := List.mem_map.mp hb
    have h1 := hN q mq
    have h2 := (h.mu r (List.mem_cons_of_mem _ mr)).2.1
    rw [e, h2] at h1
    cases h1
/-! ### Group.people -/
abbrev N_Group_people : List Str := ["self"]
def t_Group_people (K : PySem.W.Frag) (E : XK) : TS := (tRet (tCB (rListOf K) (tCons (tFld K (tVar 0) "names") tNil)))
def sp_Group_people (K : PySem.W.Frag) : Sp := fun vs H Q E => ∃ p B G, vs = [.ref p] ∧ Same B H ∧ GAt K B p G ∧ ∀ B' H' l, HS [] B H B' H' [(l, .lst (G.names.map V.str))] → Q (.ref l) H'
theorem pure_Group_people {K : PySem.W.Frag} (gk : GK K) {vs : List V} {H : Hp} {Q : VK} {E : XK} (h : sp_Group_people K vs H Q E) : t_Group_people K E { nx := fun _ H' => Q .non H', rt := Q } (start N_Group_people vs) H := by
  obtain ⟨p, B, G, rfl, sB, g, k⟩ := h
  have hs := HS.start sB
  show t_Group_people K E _ [some (.ref p)] H
  unfold t_Group_people
  obtain ⟨⟨dx, n, l, m, q, h1, h2, h3, h4, h5⟩, ok⟩ := g
  ((with_reducible refine x_ret ?_); (with_reducible refine x_cb ?_); (with_reducible refine x_cons ?_); (with_reducible refine x_fldU ?_); ((with_reducible refine' x_var ?z5h ?_); case z5h => rfl))
  refine x_fld (hs.up h1) gk.cl gk.nn (gf_names n l m q) ?_
  ((with_reducible refine x_nil ?_); ((with_reducible refine' x_listL ?z7h ?_); case z7h => walk_at "sl"))
  exact new_M hs (fun r H1 hs1 _ => k B H1 r hs1)
/-! ### drawing -/
def VSt (a b : Int) : Prop := 0 ≤ a ∧ 0 ≤ b ∧ b < 2147483629
def stO (a b : Int) : HO := .lst [.int a, .int b]
abbrev N__law_cell : List Str := ["_law_script", "_law_k", "_law_number", "_law_seed"]
def t__law_cell (K : PySem.W.Frag) (E : XK) : TS := (tSeq (tAsg (tC (.int 0)) (gName 2))
  (tSeq (tIfS (tTest (tOp rLtI (tVar 1) (tCB (rLenA K) (tCons (tVar 0) tNil)))) (tAsg (tCB rAbs (tCons (tOp (rIxL K) (tVar 0) (tVar 1)) tNil)) (gName 2)) tNext)
  (tSeq (tAsg (tOp rModI (tCB rInt1 (tCons (tOp rAddI (tOp rAddI (tOp rAddI (tVar 2) (tOp rMulI (tC (.int 7919)) (tVar 1))) (tOp rMulI (tC (.int 104729)) (tCB rMin2 (tCons (tCB (rLenA K) (tCons (tVar 0) tNil)) (tCons (tC (.int 63)) tNil))))) (tC (.int 17))) tNil)) (tC (.int 2147483629))) (gName 3))
  (tSeq (tAsg (tOp rModI (tCB rInt1 (tCons (tOp rAddI (tOp rAddI (tOp rMulI (tOp rMulI (tVar 3) (tVar 3)) (tVar 3)) (tOp rMulI (tC (.int 69621)) (tVar 3))) (tC (.int 11))) tNil)) (tC (.int 2147483629))) (gName 3))
  (tSeq (tIfS (tTest (tOp rLtI (tVar 2) (tOp rPowI (tC (.int 10)) (tC (.int 18))))) (tRet (tLst (tCons (tC (.int 0)) (tCons (tVar 3) tNil)))) tNext)
  (tRet (tLst (tCons (tVar 2) (tCons (tVar 3) tNil)))))))))
def sp__law_cell (K : PySem.W.Frag) : Sp := fun vs H Q E => ∃ (p : Addr) (xs : List Int) (k : Nat) (B : Hp), vs = [.ref p, .int (k : Nat)] ∧ Same B H ∧ SqL K H p (xs.map V.int) ∧ ∀ B' H' l a b, HS [] B H B' H' [(l, stO a b)] → VSt a b → Q (.ref l) H'
theorem atI_nat {α : Type} {xs : List α} {n : Nat} (h : n < xs.length) : atI xs (n : Int) = some xs[n] := by
  unfold atI ixN
  rw [if_pos (Int.natCast_nonneg _), if_pos (by omega)]
  simp [h]
theorem x_join {σ : L2.St} {H : Hp} {De : Ends} {t u : TS} {I : L2.St → Hp → Prop} (h2 : ∀ σ H, I σ H → u De σ H) (h1 : ∀ R : L2.St → Hp → Prop, (∀ σ H, I σ H → R σ H) → t { De with nx := R } σ H) : tSeq t u De σ H := h1 (u De) h2
theorem pure__law_cell {K : PySem.W.Frag} {vs : List V} {H : Hp} {Q : VK} {E : XK} (h : sp__law_cell K vs H Q E) : t__law_cell K E { nx := fun _ H' => Q .non H', rt := Q } (start N__law_cell vs) H := by
  obtain ⟨p, xs, j, B, rfl, sB, hp, k⟩ := h
  have hs := HS.start sB
  show t__law_cell K E _ [some (.ref p), some (.int (j : Nat)), none, none] H
  unfold t__law_cell
  refine x_seq ?_
  (with_reducible refine x_asg ?_)
  (with_reducible refine x_c ?_)
  ((with_reducible refine x_gname ?_); try simp only [List.set_cons_zero, List.set_cons_succ])
  refine x_join (I := fun σ H' => H' = H ∧ ∃ n : Int, 0 ≤ n ∧ σ = [some (.ref p), some (.int (j : Nat)), some (.int n), none]) ?_ (fun R hR => ?_)
  · rintro σ H' ⟨rfl, n, hn, rfl⟩
    ((with_reducible refine x_seq ?_); (with_reducible refine x_asg ?_); (with_reducible refine x_op ?_); (with_reducible refine x_cb ?_); (with_reducible refine x_cons ?_); (with_reducible refine x_op ?_); (with_reducible refine x_op ?_); (with_reducible refine x_op ?_); ((with_reducible refine' x_var ?z19h ?_); case z19h => rfl); (with_reducible refine x_op ?_); (with_reducible refine x_c ?_); ((with_reducible refine' x_var ?z22h ?_); case z22h => rfl); ((with_reducible refine' x_mulI ?z23h ?_); case z23h => first | exact .inl ⟨by decide, by decide⟩ | exact .inr ⟨by decide, by decide⟩ | exact .inl ⟨by omega, by omega⟩ | exact .inr ⟨by omega, by omega⟩); (with_reducible refine x_addI ?_); (with_reducible refine x_op ?_); (with_reducible refine x_c ?_); (with_reducible refine x_cb ?_); (with_reducible refine x_cons ?_); (with_reducible refine x_cb ?_); (with_reducible refine x_cons ?_); ((with_reducible refine' x_var ?z31h ?_); case z31h => rfl); (with_reducible refine x_nil ?_); ((with_reducible refine' x_lenL ?z33h ?_); case z33h => walk_at "sl"); (with_reducible refine x_cons ?_); (with_reducible refine x_c ?_); (with_reducible refine x_nil ?_); (with_reducible refine x_min2 ?_); ((with_reducible refine' x_mulI ?z38h ?_); case z38h => first | exact .inl ⟨by decide, by decide⟩ | exact .inr ⟨by decide, by decide⟩ | exact .inl ⟨by omega, by omega⟩ | exact .inr ⟨by omega, by omega⟩); (with_reducible refine x_addI ?_); (with_reducible refine x_c ?_); (with_reducible refine x_addI ?_); (with_reducible refine x_nil ?_); (with_reducible refine x_int1 ?_); (with_reducible refine x_c ?_); ((with_reducible refine' x_modI ?z45h ?_); case z45h => first | decide | omega); ((with_reducible refine x_gname ?_); try simp only [List.set_cons_zero, List.set_cons_succ]); (with_reducible refine x_seq ?_); (with_reducible refine x_asg ?_); (with_reducible refine x_op ?_); (with_reducible refine x_cb ?_); (with_reducible refine x_cons ?_); (with_reducible refine x_op ?_); (with_reducible refine x_op ?_); (with_reducible refine x_op ?_); (with_reducible refine x_op ?_); ((with_reducible refine' x_var ?z56h ?_); case z56h => rfl); ((with_reducible refine' x_var ?z57h ?_); case z57h => rfl); ((with_reducible refine' x_mulI ?z58h ?_); case z58h => first | exact .inl ⟨by decide, by decide⟩ | exact .inr ⟨by decide, by decide⟩ | exact .inl ⟨by omega, by omega⟩ | exact .inr ⟨by omega, by omega⟩); ((with_reducible refine' x_var ?z59h ?_); case z59h => rfl); ((with_reducible refine' x_mulI ?z60h ?_); case z60h => first | exact .inl ⟨by decide, by decide⟩ | exact .inr ⟨by decide, by decide⟩ | exact .inl ⟨by omega, by omega⟩ | exact .inr ⟨by omega, by omega⟩); (with_reducible refine x_op ?_); (with_reducible refine x_c ?_); ((with_reducible refine' x_var ?z63h ?_); case z63h => rfl); ((with_reducible refine' x_mulI ?z64h ?_); case z64h => first | exact .inl ⟨by decide, by decide⟩ | exact .inr ⟨by decide, by decide⟩ | exact .inl ⟨by omega, by omega⟩ | exact .inr ⟨by omega, by omega⟩); (with_reducible refine x_addI ?_); (with_reducible refine x_c ?_); (with_reducible refine x_addI ?_); (with_reducible refine x_nil ?_); (with_reducible refine x_int1 ?_); (with_reducible refine x_c ?_); ((with_reducible refine' x_modI ?z71h ?_); case z71h => first | decide | omega); ((with_reducible refine x_gname ?_); try simp only [List.set_cons_zero, List.set_cons_succ]); (with_reducible refine x_seq ?_); (with_reducible refine x_if ?_); (with_reducible refine x_test ?_); (with_reducible refine x_op ?_); ((with_reducible refine' x_var ?z77h ?_); case z77h => rfl); (with_reducible refine x_op ?_); (with_reducible refine x_c ?_); (with_reducible refine x_c ?_); ((with_reducible refine' x_powI ?z81h ?_); case z81h => exact ⟨by decide, by decide, by decide⟩); (with_reducible refine x_ltI ?_); (with_reducible refine x_exb ?_))
    generalize hz : (n + 7919 * (j : Int) + 104729 * _ + 17) % 2147483629 = z
    have hz1 : 0 ≤ z ∧ z < 2147483629 := by omega
    skip
    generalize hy : (z * z * z + 69621 * z + 11) % 2147483629 = y
    have hy1 : 0 ≤ y ∧ y < 2147483629 := by omega
    skip
    refine x_ite (fun h => ?_) (fun h => ?_)
    · ((with_reducible refine x_ret ?_); (with_reducible refine x_lst ?_); (with_reducible refine x_cons ?_); (with_reducible refine x_c ?_); (with_reducible refine x_cons ?_); ((with_reducible refine' x_var ?z89h ?_); case z89h => rfl); (with_reducible refine x_nil ?_); ((with_reducible refine' x_newL ?z91h ?_); case z91h => first | exact Nat.zero_le _ | (simp; done) | (simp; omega)))
      exact new_M hs fun l H1 hs1 _ => k _ _ l 0 y hs1 ⟨by decide, hy1.1, hy1.2⟩
    · ((with_reducible refine x_next ?_); (with_reducible refine x_ret ?_); (with_reducible refine x_lst ?_); (with_reducible refine x_cons ?_); ((with_reducible refine' x_var ?z96h ?_); case z96h => rfl); (with_reducible refine x_cons ?_); ((with_reducible refine' x_var ?z98h ?_); case z98h => rfl); (with_reducible refine x_nil ?_); ((with_reducible refine' x_newL ?z100h ?_); case z100h => first | exact Nat.zero_le _ | (simp; done) | (simp; omega)))
      exact new_M hs fun l H1 hs1 _ => k _ _ l n y hs1 ⟨hn, hy1.1, hy1.2⟩
  · ((with_reducible refine x_if ?_); (with_reducible refine x_test ?_); (with_reducible refine x_op ?_); ((with_reducible refine' x_var ?z104h ?_); case z104h => rfl); (with_reducible refine x_cb ?_); (with_reducible refine x_cons ?_); ((with_reducible refine' x_var ?z107h ?_); case z107h => rfl); (with_reducible refine x_nil ?_); ((with_reducible refine' x_lenL ?z109h ?_); case z109h => walk_at "sl"); (with_reducible refine x_ltI ?_); (with_reducible refine x_exb ?_))
    refine x_ite (fun h => ?_) (fun h => ?_)
    · have h := of_decide_eq_true h
      have hj : j < (xs.map V.int).length := by omega
      have e := atI_nat hj
      rw [List.getElem_map] at e
      ((with_reducible refine x_asg ?_); (with_reducible refine x_cb ?_); (with_reducible refine x_cons ?_); (with_reducible refine x_op ?_); ((with_reducible refine' x_var ?z116h ?_); case z116h => rfl); ((with_reducible refine' x_var ?z117h ?_); case z117h => rfl); ((with_reducible refine' x_ixL ?z118h ?z118h2 ?_); (case z118h => walk_at "sl"); (case z118h2 => first | rfl | assumption)); (with_reducible refine x_nil ?_); (with_reducible refine x_abs ?_); ((with_reducible refine x_gname ?_); try simp only [List.set_cons_zero, List.set_cons_succ]))
      exact hR _ _ ⟨rfl, _, by split <;> omega, rfl⟩
    · (with_reducible refine x_next ?_)
      exact hR _ _ ⟨rfl, 0, by decide, rfl⟩
abbrev N__law_take : List Str := ["_law_state", "_law_many", "_law_mixed", "_law_digit"]
def t__law_take (K : PySem.W.Frag) (E : XK) : TS := (tSeq (tIfS (tTest (tOp rGtI (tOp (rIxL K) (tVar 0) (tC (.int 0))) (tC (.int 0)))) (tSeq (tAsg (tOp rModI (tCB rInt1 (tCons (tOp (rIxL K) (tVar 0) (tC (.int 0))) tNil)) (tVar 1)) (gName 3))
  (tSeq (tAsg (tOp rDivI (tCB rInt1 (tCons (tOp (rIxL K) (tVar 0) (tC (.int 0))) tNil)) (tVar 1)) (gSub (tVar 0) (tC (.int 0)) rSetL))
  (tRet (tVar 3)))) tNext)
  (tSeq (tAsg (tOp rModI (tCB rInt1 (tCons (tOp rAddI (tOp rMulI (tOp (rIxL K) (tVar 0) (tC (.int 1))) (tC (.int 48271))) (tC (.int 30103))) tNil)) (tC (.int 2147483629))) (gSub (tVar 0) (tC (.int 1)) rSetL))
  (tSeq (tAsg (tOp rModI (tCB rInt1 (tCons (tOp rMulI (tOp (rIxL K) (tVar 0) (tC (.int 1))) (tOp rAddI (tOp rDivI (tOp (rIxL K) (tVar 0) (tC (.int 1))) (tC (.int 1009))) (tC (.int 69621)))) tNil)) (tC (.int 2147483647))) (gName 2))
  (tRet (tOp rModI (tCB rInt1 (tCons (tOp rDivI (tVar 2) (tC (.int 7))) tNil)) (tVar 1))))))
def sp__law_take (K : PySem.W.Frag) : Sp := fun vs H Q E => ∃ p a b m B, vs = [.ref p, .int m] ∧ Same B H ∧ B p = none ∧ H p = some (stO a b) ∧ VSt a b ∧ 0 < m ∧ m < 1267650600228229401496703205376 ∧
  ∀ B' H' a' b' (n : Nat), HS [p] B H B' H' [(p, stO a' b')] → VSt a' b' → (n : Int) < m → Q (.int (n : Nat)) H'
theorem pure__law_take {K : PySem.W.Frag} {vs : List V} {H : Hp} {Q : VK} {E : XK} (h : sp__law_take K vs H Q E) : t__law_take K E { nx := fun _ H' => Q .non H', rt := Q } (start N__law_take vs) H := by
  obtain ⟨p, a, b, m, B, rfl, sB, bp, hp, ⟨h1, h2, h3⟩, m1, m2, k⟩ := h
  have hs := HS.startS sB bp hp
  show t__law_take K E _ [some (.ref p), some (.int m), none, none] H
  unfold t__law_take
  unfold stO at hs hp
  ((with_reducible refine x_seq ?_); (with_reducible refine x_if ?_); (with_reducible refine x_test ?_); (with_reducible refine x_op ?_); (with_reducible refine x_op ?_); ((with_reducible refine' x_var ?z128h ?_); case z128h => rfl); (with_reducible refine x_c ?_); ((with_reducible refine' x_ixL ?z130h ?z130h2 ?_); (case z130h => walk_at "sl"); (case z130h2 => first | rfl | assumption)); (with_reducible refine x_c ?_); (with_reducible refine x_gtI ?_); (with_reducible refine x_exb ?_))
  refine x_ite (fun h => ?_) (fun h => ?_)
  · have h := of_decide_eq_true h
    ((with_reducible refine x_seq ?_); (with_reducible refine x_asg ?_); (with_reducible refine x_op ?_); (with_reducible refine x_cb ?_); (with_reducible refine x_cons ?_); (with_reducible refine x_op ?_); ((with_reducible refine' x_var ?z140h ?_); case z140h => rfl); (with_reducible refine x_c ?_); ((with_reducible refine' x_ixL ?z142h ?z142h2 ?_); (case z142h => walk_at "sl"); (case z142h2 => first | rfl | assumption)); (with_reducible refine x_nil ?_); (with_reducible refine x_int1 ?_); ((with_reducible refine' x_var ?z145h ?_); case z145h => rfl); ((with_reducible refine' x_modI ?z146h ?_); case z146h => first | decide | omega); ((with_reducible refine x_gname ?_); try simp only [List.set_cons_zero, List.set_cons_succ]); (with_reducible refine x_seq ?_); (with_reducible refine x_asg ?_); (with_reducible refine x_op ?_); (with_reducible refine x_cb ?_); (with_reducible refine x_cons ?_); (with_reducible refine x_op ?_); ((with_reducible refine' x_var ?z154h ?_); case z154h => rfl); (with_reducible refine x_c ?_); ((with_reducible refine' x_ixL ?z156h ?z156h2 ?_); (case z156h => walk_at "sl"); (case z156h2 => first | rfl | assumption)); (with_reducible refine x_nil ?_); (with_reducible refine x_int1 ?_); ((with_reducible refine' x_var ?z159h ?_); case z159h => rfl); ((with_reducible refine' x_divI ?z160h ?_); case z160h => first | exact ⟨by decide, by decide⟩ | exact ⟨by omega, by omega⟩); (with_reducible refine x_gsub ?_); ((with_reducible refine' x_var ?z162h ?_); case z162h => rfl); (with_reducible refine x_c ?_))
    refine x_setL (j := 0) hs rfl (fun H1 hs1 => ?_)
    ((with_reducible refine x_ret ?_); ((with_reducible refine' x_var ?z165h ?_); case z165h => rfl))
    have e1 : 0 ≤ a % m := Int.emod_nonneg _ (by omega)
    have e2 : a % m < m := Int.emod_lt_of_pos _ m1
    obtain ⟨n, hn⟩ := Int.eq_ofNat_of_zero_le e1
    rw [hn]
    exact k B H1 (a / m) b n hs1 ⟨Int.ediv_nonneg h1 (by omega), h2, h3⟩ (by omega)
  · ((with_reducible refine x_next ?_); (with_reducible refine x_seq ?_); (with_reducible refine x_asg ?_); (with_reducible refine x_op ?_); (with_reducible refine x_cb ?_); (with_reducible refine x_cons ?_); (with_reducible refine x_op ?_); (with_reducible refine x_op ?_); (with_reducible refine x_op ?_); ((with_reducible refine' x_var ?z175h ?_); case z175h => rfl); (with_reducible refine x_c ?_); ((with_reducible refine' x_ixL ?z177h ?z177h2 ?_); (case z177h => walk_at "sl"); (case z177h2 => first | rfl | assumption)); (with_reducible refine x_c ?_); ((with_reducible refine' x_mulI ?z179h ?_); case z179h => first | exact .inl ⟨by decide, by decide⟩ | exact .inr ⟨by decide, by decide⟩ | exact .inl ⟨by omega, by omega⟩ | exact .inr ⟨by omega, by omega⟩); (with_reducible refine x_c ?_); (with_reducible refine x_addI ?_); (with_reducible refine x_nil ?_); (with_reducible refine x_int1 ?_); (with_reducible refine x_c ?_); ((with_reducible refine' x_modI ?z185h ?_); case z185h => first | decide | omega); (with_reducible refine x_gsub ?_); ((with_reducible refine' x_var ?z187h ?_); case z187h => rfl); (with_reducible refine x_c ?_))
    generalize hy : (b * 48271 + 30103) % 2147483629 = y
    have hy1 : 0 ≤ y ∧ y < 2147483629 := by omega
    refine x_setL (j := 1) hs rfl (fun H1 hs1 => ?_)
    ((with_reducible refine x_seq ?_); (with_reducible refine x_asg ?_); (with_reducible refine x_op ?_); (with_reducible refine x_cb ?_); (with_reducible refine x_cons ?_); (with_reducible refine x_op ?_); (with_reducible refine x_op ?_); ((with_reducible refine' x_var ?z196h ?_); case z196h => rfl); (with_reducible refine x_c ?_); ((with_reducible refine' x_ixL ?z198h ?z198h2 ?_); (case z198h => walk_at "sl"); (case z198h2 => first | rfl | assumption)); (with_reducible refine x_op ?_); (with_reducible refine x_op ?_); (with_reducible refine x_op ?_); ((with_reducible refine' x_var ?z202h ?_); case z202h => rfl); (with_reducible refine x_c ?_); ((with_reducible refine' x_ixL ?z204h ?z204h2 ?_); (case z204h => walk_at "sl"); (case z204h2 => first | rfl | assumption)); (with_reducible refine x_c ?_); ((with_reducible refine' x_divI ?z206h ?_); case z206h => first | exact ⟨by decide, by decide⟩ | exact ⟨by omega, by omega⟩); (with_reducible refine x_c ?_); (with_reducible refine x_addI ?_); ((with_reducible refine' x_mulI ?z209h ?_); case z209h => first | exact .inl ⟨by decide, by decide⟩ | exact .inr ⟨by decide, by decide⟩ | exact .inl ⟨by omega, by omega⟩ | exact .inr ⟨by omega, by omega⟩); (with_reducible refine x_nil ?_); (with_reducible refine x_int1 ?_); (with_reducible refine x_c ?_); ((with_reducible refine' x_modI ?z213h ?_); case z213h => first | decide | omega); ((with_reducible refine x_gname ?_); try simp only [List.set_cons_zero, List.set_cons_succ]); (with_reducible refine x_ret ?_); (with_reducible refine x_op ?_); (with_reducible refine x_cb ?_); (with_reducible refine x_cons ?_); (with_reducible refine x_op ?_); ((with_reducible refine' x_var ?z220h ?_); case z220h => rfl); (with_reducible refine x_c ?_); ((with_reducible refine' x_divI ?z222h ?_); case z222h => first | exact ⟨by decide, by decide⟩ | exact ⟨by omega, by omega⟩); (with_reducible refine x_nil ?_); (with_reducible refine x_int1 ?_); ((with_reducible refine' x_var ?z225h ?_); case z225h => rfl); ((with_reducible refine' x_modI ?z226h ?_); case z226h => first | decide | omega))
    generalize (y * (y / 1009 + 69621)) % 2147483647 / 7 = z
    have e1 : 0 ≤ z % m := Int.emod_nonneg _ (by omega)
    have e2 : z % m < m := Int.emod_lt_of_pos _ m1
    obtain ⟨n, hn⟩ := Int.eq_ofNat_of_zero_le e1
    rw [hn]
    exact k B H1 a y n hs1 ⟨h1, hy1.1, hy1.2⟩ (by omega)
theorem use_take {K : PySem.W.Frag} {S : List Addr} {B0 H0 B H : Hp} {M : List (Addr × HO)} {Q : VK} {E : XK} {p : Addr} {a b m : Int} (hs : HS S B0 H0 B H ((p, stO a b) :: M)) (v : VSt a b) (m1 : 0 < m) (m2 : m < 1267650600228229401496703205376)
    (k : ∀ B' H' a' b' (n : Nat), Same B B' → HS S B0 H0 B' H' ((p, stO a' b') :: M) → VSt a' b' → (n : Int) < m → Q (.int (n : Nat)) H') : sp__law_take K [.ref p, .int m] H Q E :=
  ⟨p, a, b, m, B, rfl, hs.bh, (hs.mu _ List.mem_cons_self).1, hs.get List.mem_cons_self, v, m1, m2, fun B' H' a' b' n c v' hn => k B' H' a' b' n c.bb (hs.call1 c) v' hn⟩
theorem use_cell {K : PySem.W.Frag} {S : List Addr} {B0 H0 B H : Hp} {M : List (Addr × HO)} {Q : VK} {E : XK} {p : Addr} {xs : List Int} {j : Nat} (hs : HS S B0 H0 B H M) (hp : SqL K H p (xs.map V.int))
    (k : ∀ B' H' l a b, Same B B' → HS S B0 H0 B' H' ((l, stO a b) :: M) → VSt a b → Q (.ref l) H') : sp__law_cell K [.ref p, .int (j : Nat)] H Q E :=
  ⟨p, xs, j, B, rfl, hs.bh, hp, fun B' H' l a b c v => k B' H' l a b c.bb (hs.callN c) v⟩
/-! ### plain answers -/
abbrev N__law_is_integer : List Str := ["_law_actual"]
def t__law_is_integer (K : PySem.W.Frag) (E : XK) : TS := (tRet (tAndV (tCB (rIsi K) (tCons (tVar 0) (tCons (tC (.ty "int")) tNil))) (tNotV (tCB (rIsi K) (tCons (tVar 0) (tCons (tC (.ty "bool")) tNil))))))
def isInt : D → Bool
  | .int _ => true
  | _ => false
def sp__law_is_integer (K : PySem.W.Frag) : Sp := fun vs H Q E => ∃ v B d, vs = [v] ∧ Same B H ∧ Rep K B v d ∧ Ret B H Q fun _ r => r = .bl (isInt d)
theorem pure__law_is_integer {K : PySem.W.Frag} {vs : List V} {H : Hp} {Q : VK} {E : XK} (h : sp__law_is_integer K vs H Q E) : t__law_is_integer K E { nx := fun _ H' => Q .non H', rt := Q } (start N__law_is_integer vs) H := by
  obtain ⟨v, B, d, rfl, sB, r, k⟩ := h
  have hs := HS.start sB
  show t__law_is_integer K E _ [some v] H
  unfold t__law_is_integer
  ((with_reducible refine x_ret ?_); (with_reducible refine x_andV ?_); (with_reducible refine x_cb ?_); (with_reducible refine x_cons ?_); ((with_reducible refine' x_var ?z231h ?_); case z231h => rfl); (with_reducible refine x_cons ?_); (with_reducible refine x_c ?_); (with_reducible refine x_nil ?_); ((with_reducible refine' x_isiD ?z235h1 ?z235h2 ?z235h3 ?_); (case z235h1 => assumption); (case z235h2 => walk_at "rp"); (case z235h3 => decide)); (with_reducible refine x_exb ?_))
  cases d <;> (refine x_ite (fun h => ?_) (fun h => ?_) <;> first | (exfalso; simp [D.isT] at h; done) | ((first | ((with_reducible refine x_notV ?_); (with_reducible refine x_cb ?_); (with_reducible refine x_cons ?_); ((with_reducible refine' x_var ?z240h ?_); case z240h => rfl); (with_reducible refine x_cons ?_); (with_reducible refine x_c ?_); (with_reducible refine x_nil ?_); ((with_reducible refine' x_isiD ?z244h1 ?z244h2 ?z244h3 ?_); (case z244h1 => assumption); (case z244h2 => walk_at "rp"); (case z244h3 => decide)); (with_reducible refine x_exb ?_)) | skip); exact k B H _ hs rfl))
end Q

set_option Elab.async false
set_option linter.all false
set_option maxRecDepth 100000
set_option maxHeartbeats 4000000
namespace Q
open PySem PySem.Spec PyProof.Rows L2
/-! ### more steps: text methods, slices, displays -/
section
variable {K : PySem.W.Frag} {σ : L2.St} {H : Hp} {Q : VK} {to te tk tv : TE} {tl th : TO} {z x : Str} {p l b : Addr} {xs zs : List V} {m : Int} {S : List Addr} {B0 H0 B : Hp} {M : List (Addr × HO)} {lo hi : Option Int}
theorem x_m1s {r : V → List V → Hp → VK → Prop} (h : to σ H fun x H1 => (∃ a, x = .str a) ∧ te σ H1 fun y H2 => r x [y] H2 Q) : tM1 r to te σ H Q := h
theorem x_joinL {ys : List Str} (hp : SqL K H p (ys.map V.str)) (hz : (ys.map (·.length)).sum + ys.length * z.length ≤ 16777216) (h : Q (.str (Txt.join z ys)) H) : rJoin K (.str z) [.ref p] H Q := ⟨z, p, ys, rfl, rfl, .inl hp, hz, h⟩
theorem x_sl {r : V → Option Int → Option Int → Hp → VK → Prop} (h : te σ H fun x H1 => tl σ H1 fun l H2 => th σ H2 fun u H3 => r x l u H3 Q) : tSl r te tl th σ H Q := h
theorem x_noPart {Qo : Option Int → Hp → Prop} (h : Qo none H) : tNoPart σ H Qo := h
theorem x_part {Qo : Option Int → Hp → Prop} (h : te σ H fun x H1 => ∃ i, x = .int i ∧ Qo (some i) H1) : tPart te σ H Qo := h
theorem x_exi {R : Int → Prop} (h : R m) : ∃ i, V.int m = .int i ∧ R i := ⟨m, rfl, h⟩
theorem x_slS (hz : z.length ≤ sizeLine) (h : Q (.str (cutS z lo hi)) H) : rSlS (.str z) lo hi H Q := ⟨z, rfl, hz, h⟩
theorem x_slL (hp : SqL K H p xs) (h : New (.lst (cutV xs lo hi)) Q H) : rSlL K (.ref p) lo hi H Q := ⟨p, xs, rfl, hp, h⟩
theorem x_cat (h1 : H l = some (.lst xs)) (h2 : H b = some (.lst zs)) (hz : xs.length + zs.length ≤ 1000000) (h : New (.lst (xs ++ zs)) Q H) : rCat (.ref l) (.ref b) H Q := ⟨l, b, xs, zs, rfl, rfl, h1, h2, small_le hz, h⟩
theorem SqL.same {H H' : Hp} (h : SqL K H p xs) (s : Same H H') : SqL K H' p xs := h.elim (fun h => .inl (h.elim (fun h => .inl (s _ _ h)) fun ⟨o, h⟩ => .inr ⟨o, s _ _ h⟩)) fun h => .inr h
end
theorem HS.keep {S : List Addr} {B0 H0 B H : Hp} {M : List (Addr × HO)} (hs : HS S B0 H0 B H M) (sb : Same B0 H0) {t : Addr} {o : HO} (ht : H0 t = some o) (hne : t ∉ S) : H t = some o := by
  cases e : B0 t with
  | some u => 
    have := sb _ _ e
    rw [ht] at this
    cases this
    exact hs.bh _ _ (hs.bb _ _ e)
  | none => exact (hs.fr t o hne e ht).2
end Q

set_option Elab.async false
set_option linter.all false
set_option maxRecDepth 100000
set_option maxHeartbeats 4000000
namespace Q
open PySem PySem.Spec PyProof.Rows L2
local macro_rules | `(tactic| walk_at "bf") => `(tactic| first | assumption | (refine' bstep (by assumption) ?r; case r => walk_at "bf") | fail)
local macro_rules | `(tactic| walk_at "rp") => `(tactic| first | assumption | exact Rep.int _ | exact Rep.bl _ | exact Rep.non | (refine' Rep.mono (by assumption) ?r; case r => walk_at "rp") | fail)
local macro_rules | `(tactic| walk_at "hf") => `(tactic| first | assumption | exact HS.up (by assumption) (by walk_at "bf") | exact HS.get (by assumption) List.mem_cons_self | exact HS.get (by assumption) (List.mem_cons_of_mem _ List.mem_cons_self) | exact HS.get (by assumption) (List.mem_cons_of_mem _ (List.mem_cons_of_mem _ List.mem_cons_self)) | exact HS.get (by assumption) (List.mem_cons_of_mem _ (List.mem_cons_of_mem _ (List.mem_cons_of_mem _ List.mem_cons_self))) | fail)
local macro_rules | `(tactic| walk_at "sl") => `(tactic| first | assumption | exact SqL.of (by walk_at "hf") | fail)
local macro_rules | `(tactic| walk_at "st") => `(tactic| first | assumption | exact SqT.of (by walk_at "hf") | fail)
local macro_rules | `(tactic| walk_at "sz") => `(tactic| first | assumption | (refine small_le ?_; first | assumption | omega | (simp; done) | (simp; omega)) | fail)
/-! ### names that are drawn -/
abbrev N__law_name : List Str := ["_law_state", "_law_taken", "_law_letters", "_law_size", "_law_name_here", "_law_last", "_law_k", "_law_other"]
def t__law_name (K : PySem.W.Frag) (E : XK) : TS := (tSeq (tAsg (tC (.str "abcdefghijklmnopqrstuvwxyz")) (gName 2))
  (tSeq (tAsg (tOp rAddI (tC (.int 1)) (tCl (sp__law_take K) (WE0 E) (tCons (tVar 0) (tCons (tC (.int 8)) tNil)))) (gName 3))
  (tSeq (tAsg (tM1 (rJoin K) (tC (.str "")) (tLc (iRng1 (tCons (tVar 3) tNil)) (gName 6) tYes (tOp rIxS (tVar 2) (tCl (sp__law_take K) W0 (tCons (tVar 0) (tCons (tC (.int 26)) tNil)))) [6])) (gName 4))
  (tSeq (tIfS (tTest (tOp (rIn K true) (tVar 4) (tVar 1))) (tRet (tVar 4)) tNext)
  (tSeq (tAsg (tCl (sp__law_take K) (WE0 E) (tCons (tVar 0) (tCons (tC (.int 26)) tNil))) (gName 5))
  (tSeq (tFor (iRng1 (tCons (tC (.int 26)) tNil)) (gName 6) (tSeq (tAsg (tOp rAddS (tSl rSlS (tVar 4) tNoPart (tPart (tC (.int 7)))) (tOp rIxS (tVar 2) (tOp rModI (tCB rInt1 (tCons (tOp rAddI (tVar 5) (tVar 6)) tNil)) (tC (.int 26))))) (gName 7))
  (tIfS (tTest (tOp (rIn K true) (tVar 7) (tVar 1))) (tRet (tVar 7)) tNext)))
  (tRet (tC (.str "")))))))))
def sp__law_name (K : PySem.W.Frag) : Sp := fun vs H Q E => ∃ (p t : Addr) (a b : Int) (taken : List Str) (B : Hp), vs = [.ref p, .ref t] ∧ Same B H ∧ B p = none ∧ H p = some (stO a b) ∧ VSt a b ∧ H t = some (.lst (taken.map V.str)) ∧ t ≠ p ∧ taken.length ≤ 25 ∧
  ∀ B' H' a' b' x, HS [p] B H B' H' [(p, stO a' b')] → VSt a' b' → okName x = true → x ∉ taken → Q (.str x) H'
theorem join_one (cs : List Nat) : (Txt.join "" (cs.map fun c => (⟨#[c]⟩ : Str))).cps.toList = cs := by
  rw [TL.join_eq]
  have : ∀ cs : List Nat, (Str.join "" (cs.map fun c => (⟨#[c]⟩ : Str))).cps.toList = cs := by
    intro cs
    induction cs with
    | nil => rfl
    | cons c r ih =>
      cases r with
      | nil => rfl
      | cons d r =>
        show (((⟨#[c]⟩ : Str) ++ "" ++ Str.join "" ((d :: r).map fun c => (⟨#[c]⟩ : Str)) : Str)).cps.toList = _
        show ((#[c] ++ #[] ++ (Str.join "" ((d :: r).map fun c => (⟨#[c]⟩ : Str))).cps : Array Nat)).toList = _
        rw [Array.toList_append, ih]
        rfl
  exact this cs
theorem okName_of {x : Str} {cs : List Nat} (e : x.cps.toList = cs) (h1 : 1 ≤ cs.length) (h2 : cs.length ≤ 8) (h3 : ∀ c ∈ cs, c ∈ letters.cps.toList) : okName x = true := by
  have hl : x.length = cs.length := by rw [← e, Array.length_toList]; rfl
  unfold okName
  rw [hl, e, decide_eq_true h1, decide_eq_true h2, Bool.true_and, Bool.true_and, List.all_eq_true]
  exact fun c m => decide_eq_true (h3 c m)
theorem letters_len : letters.cps.toList.length = 26 := by decide +kernel
theorem letters_nd : letters.cps.toList.Nodup := by decide +kernel
theorem pure__law_name {K : PySem.W.Frag} {vs : List V} {H : Hp} {Q : VK} {E : XK} (h : sp__law_name K vs H Q E) : t__law_name K E { nx := fun _ H' => Q .non H', rt := Q } (start N__law_name vs) H := by
  obtain ⟨p, t, a, b, taken, B, rfl, sB, bp, hp, hv, ht, htp, hl, k⟩ := h
  have hs := HS.startS sB bp hp
  have htS : t ∉ [p] := by simpa using htp
  show t__law_name K E _ [some (.ref p), some (.ref t), none, none, none, none, none, none] H
  unfold t__law_name
  ((with_reducible refine x_seq ?_); (with_reducible refine x_asg ?_); (with_reducible refine x_c ?_); ((with_reducible refine x_gname ?_); try simp only [List.set_cons_zero, List.set_cons_succ]); (with_reducible refine x_seq ?_); (with_reducible refine x_asg ?_); (with_reducible refine x_op ?_); (with_reducible refine x_c ?_); (with_reducible refine x_cl ?_); (with_reducible refine x_cons ?_); ((with_reducible refine' x_var ?z11h ?_); case z11h => rfl); (with_reducible refine x_cons ?_); (with_reducible refine x_c ?_); (with_reducible refine x_nil ?_))
  refine use_take hs hv (by decide) (by decide) (fun B1 H1 a1 b1 n sb1 hs1 hv1 hn => ?_)
  ((with_reducible refine x_addI ?_); ((with_reducible refine x_gname ?_); try simp only [List.set_cons_zero, List.set_cons_succ]); (with_reducible refine x_seq ?_); (with_reducible refine x_asg ?_); (with_reducible refine x_m1s ?_); (with_reducible refine x_c ?_); (with_reducible refine x_str1 ?_); (with_reducible refine x_lc ?_); (with_reducible refine x_iRng1 ?_); (with_reducible refine x_cons ?_); ((with_reducible refine' x_var ?z25h ?_); case z25h => rfl); (with_reducible refine x_nil ?_))
  refine ⟨_, rfl, by omega, by omega, fun D hD => ?_⟩
  have en : (1 + (n : Int)).toNat = n + 1 := by omega
  rw [en]
  refine c_range (α := Int × Int) (Mf := fun s => [(p, stO s.1 s.2)]) (P := fun i s acc _ => VSt s.1 s.2 ∧ ∃ cs : List Nat, cs.length = i ∧ acc = (cs.map fun c => (⟨#[c]⟩ : Str)).map V.str ∧ ∀ c ∈ cs, c ∈ letters.cps.toList)
    (s0 := (a1, b1)) hs1 hD ⟨hv1, [], rfl, rfl, by simp⟩ (fun i s acc B2 H2 hi hacc sb2 hs2 pp => ?_) (fun s acc B2 H2 sb2 hs2 hacc pp => ?_)
  · obtain ⟨hv2, cs, hcl, rfl, hcs⟩ := pp
    ((with_reducible refine x_gname ?_); try simp only [List.set_cons_zero, List.set_cons_succ])
    refine ⟨rfl, ?_⟩
    ((with_reducible refine x_yes ?_); (with_reducible refine x_tt _ _ ?_); (with_reducible refine x_op ?_); ((with_reducible refine' x_var ?z31h ?_); case z31h => rfl); (with_reducible refine x_cl ?_); (with_reducible refine x_cons ?_); ((with_reducible refine' x_var ?z34h ?_); case z34h => rfl); (with_reducible refine x_cons ?_); (with_reducible refine x_c ?_); (with_reducible refine x_nil ?_))
    refine use_take hs2.swap hv2 (by decide) (by decide) (fun B3 H3 a3 b3 m sb3 hs3 hv3 hm => ?_)
    have hm' : m < letters.cps.toList.length := by rw [letters_len]; omega
    refine x_ixS (by rw [sizeLine_eq]; decide +kernel) (atI_nat hm') ?_
    refine c_keep (s := (a3, b3)) (sb2.trans sb3) hs3.swap (by simp [hcl]) (by omega) ⟨hv3, cs ++ [letters.cps.toList[m]], by simp [hcl], by simp, fun c mc => ?_⟩
    rcases List.mem_append.mp mc with z | z
    · exact hcs c z
    · have : c = letters.cps.toList[m] := by simpa using z
      rw [this]; exact List.getElem_mem _
  · obtain ⟨hv2, cs, hcl, rfl, hcs⟩ := pp
    skip
    refine x_joinL (SqL.of (hs2.get List.mem_cons_self)) ?_ ?_
    · rw [List.map_map]
      have : (fun x : Str => x.length) ∘ (fun c => (⟨#[c]⟩ : Str)) = fun _ => 1 := rfl
      rw [this]
      simp only [List.map_const', List.sum_replicate_nat, List.length_map]
      have : (("" : Str)).length = 0 := rfl
      rw [this]
      omega
    have hy := join_one cs
    generalize Txt.join "" (cs.map fun c => (⟨#[c]⟩ : Str)) = y at hy
    have oky : okName y = true := okName_of hy (by omega) (by omega) hcs
    have hs3 := hs2.drop
    have ht3 := hs3.keep sB ht htS
    have hyl : y.length = n + 1 := by rw [← hcl, ← hy, Array.length_toList]; rfl
    (((with_reducible refine x_gname ?_); try simp only [List.set_cons_zero, List.set_cons_succ]); (with_reducible refine x_seq ?_); (with_reducible refine x_if ?_); (with_reducible refine x_test ?_); (with_reducible refine x_op ?_); ((with_reducible refine' x_var ?z43h ?_); case z43h => rfl); ((with_reducible refine' x_var ?z44h ?_); case z44h => rfl); ((with_reducible refine' x_ninLS ?z45h ?_); case z45h => walk_at "sl"); (with_reducible refine x_exb ?_))
    refine x_ite (fun h => ?_) (fun h => ?_)
    · ((with_reducible refine x_ret ?_); ((with_reducible refine' x_var ?z48h ?_); case z48h => rfl))
      exact k B2 H2 _ _ y hs3 hv2 oky (by simpa using h)
    ((with_reducible refine x_next ?_); (with_reducible refine x_seq ?_); (with_reducible refine x_asg ?_); (with_reducible refine x_cl ?_); (with_reducible refine x_cons ?_); ((with_reducible refine' x_var ?z54h ?_); case z54h => rfl); (with_reducible refine x_cons ?_); (with_reducible refine x_c ?_); (with_reducible refine x_nil ?_))
    refine use_take hs3 hv2 (by decide) (by decide) (fun B4 H4 a4 b4 m sb4 hs4 hv4 hm => ?_)
    (((with_reducible refine x_gname ?_); try simp only [List.set_cons_zero, List.set_cons_succ]); (with_reducible refine x_seq ?_); (with_reducible refine x_for ?_); (with_reducible refine x_iRng1 ?_); (with_reducible refine x_cons ?_); (with_reducible refine x_c ?_); (with_reducible refine x_nil ?_))
    refine ⟨_, rfl, by omega, by omega, ?_⟩
    have e26 : (26 : Int).toNat = 26 := rfl
    rw [e26]
    have hcut : (cutS y none (some 7)).cps.toList = cs.take 7 := by
      unfold cutS
      have h1 : HT.sIx y.length 0 none = 0 := rfl
      have h2 : HT.sIx y.length y.length (some 7) = min 7 y.length := HT.sIx_nat _ _ 7
      rw [h1, h2, hy]
      simp only [List.drop_zero, Nat.sub_zero]
      rw [hyl, ← hcl]
      simp
    let o : Nat → Str := fun j => cutS y none (some 7) ++ (⟨#[letters.cps.toList.getD ((m + j) % 26) 0]⟩ : Str)
    have ho : ∀ j, (o j).cps.toList = cs.take 7 ++ [letters.cps.toList.getD ((m + j) % 26) 0] := fun j => by
      show (((cutS y none (some 7)).cps ++ #[letters.cps.toList.getD ((m + j) % 26) 0] : Array Nat)).toList = _
      rw [Array.toList_append, hcut]
    have hcutl : (cutS y none (some 7)).length ≤ 7 := by
      have : (cutS y none (some 7)).length = (cs.take 7).length := by rw [← hcut, Array.length_toList]; rfl
      rw [this, List.length_take]; omega
    refine l_range (α := Option V × Option V) (σf := fun s => [some (.ref p), some (.ref t), some (.str "abcdefghijklmnopqrstuvwxyz"), some (.int (1 + (n : Nat))), some (.str y), some (.int (m : Nat)), s.1, s.2]) (Mf := fun _ => [(p, stO a4 b4)])
      (P := fun i _ _ => ∀ j, j < i → o j ∈ taken) (s0 := (none, none)) hs4 (by omega) (fun i s B5 H5 hi sb5 hs5 pp => ?_) (fun s B5 H5 sb5 hs5 pp => ?_)
    · have ht5 := hs5.keep sB ht htS
      (((with_reducible refine x_gname ?_); try simp only [List.set_cons_zero, List.set_cons_succ]); (with_reducible refine x_seq ?_); (with_reducible refine x_asg ?_); (with_reducible refine x_op ?_); (with_reducible refine x_sl ?_); ((with_reducible refine' x_var ?z70h ?_); case z70h => rfl); (with_reducible refine x_noPart ?_); (with_reducible refine x_part ?_); (with_reducible refine x_c ?_); (with_reducible refine x_exi ?_); ((with_reducible refine' x_slS ?z75h ?_); case z75h => walk_at "sz"); (with_reducible refine x_op ?_); ((with_reducible refine' x_var ?z77h ?_); case z77h => rfl); (with_reducible refine x_op ?_); (with_reducible refine x_cb ?_); (with_reducible refine x_cons ?_); (with_reducible refine x_op ?_); ((with_reducible refine' x_var ?z82h ?_); case z82h => rfl); ((with_reducible refine' x_var ?z83h ?_); case z83h => rfl); (with_reducible refine x_addI ?_); (with_reducible refine x_nil ?_); (with_reducible refine x_int1 ?_); (with_reducible refine x_c ?_); ((with_reducible refine' x_modI ?z88h ?_); case z88h => first | decide | omega))
      have em : ((m : Int) + (0 + (i : Int))) % 26 = ((m + i) % 26 : Nat) := by omega
      rw [em]
      have hm' : (m + i) % 26 < letters.cps.toList.length := by rw [letters_len]; omega
      refine x_ixS (by rw [sizeLine_eq]; decide +kernel) (atI_nat hm') ?_
      refine x_addS (small_le ?_) ?_
      · show (cutS y none (some 7)).length + 1 ≤ _
        omega
      have eo : cutS y none (some 7) ++ (⟨#[letters.cps.toList[(m + i) % 26]]⟩ : Str) = o i := by
        show _ = cutS y none (some 7) ++ (⟨#[letters.cps.toList.getD ((m + i) % 26) 0]⟩ : Str)
        rw [List.getD_eq_getElem?_getD, List.getElem?_eq_getElem hm', Option.getD_some]
      rw [eo]
      (((with_reducible refine x_gname ?_); try simp only [List.set_cons_zero, List.set_cons_succ]); (with_reducible refine x_if ?_); (with_reducible refine x_test ?_); (with_reducible refine x_op ?_); ((with_reducible refine' x_var ?z93h ?_); case z93h => rfl); ((with_reducible refine' x_var ?z94h ?_); case z94h => rfl); ((with_reducible refine' x_ninLS ?z95h ?_); case z95h => walk_at "sl"); (with_reducible refine x_exb ?_))
      refine x_ite (fun h => ?_) (fun h => ?_)
      · ((with_reducible refine x_ret ?_); ((with_reducible refine' x_var ?z98h ?_); case z98h => rfl))
        refine k B5 H5 _ _ (o i) hs5 hv4 (okName_of (ho i) (by simp) (by simp; omega) fun c mc => ?_) (by simpa using h)
        rcases List.mem_append.mp mc with z | z
        · exact hcs c (List.mem_of_mem_take z)
        · have : c = letters.cps.toList.getD ((m + i) % 26) 0 := by simpa using z
          rw [this, List.getD_eq_getElem?_getD, List.getElem?_eq_getElem hm', Option.getD_some]
          exact List.getElem_mem _
      · (with_reducible refine x_next ?_)
        refine ⟨(some _, some _), B5, rfl, sb5, hs5, fun j hj => ?_⟩
        by_cases e : j = i
        · rw [e]; simpa using h
        · exact pp j (by omega)
    · exfalso
      have h1 : ((List.range 26).map o).Nodup := by
        rw [List.nodup_iff_pairwise_ne, List.pairwise_map]
        refine List.Pairwise.imp_of_mem ?_ List.nodup_range
        intro i j hi hj hne e
        have e1 : (o i).cps.toList = (o j).cps.toList := by rw [e]
        rw [ho, ho] at e1
        have e2 := List.append_cancel_left e1
        have e3 : letters.cps.toList.getD ((m + i) % 26) 0 = letters.cps.toList.getD ((m + j) % 26) 0 := by simpa using e2
        have hi' : (m + i) % 26 < letters.cps.toList.length := by rw [letters_len]; omega
        have hj' : (m + j) % 26 < letters.cps.toList.length := by rw [letters_len]; omega
        rw [List.getD_eq_getElem?_getD, List.getD_eq_getElem?_getD, List.getElem?_eq_getElem hi', List.getElem?_eq_getElem hj', Option.getD_some, Option.getD_some] at e3
        have e4 := (List.getElem_inj letters_nd).mp e3
        have := List.mem_range.mp hi
        have := List.mem_range.mp hj
        omega
      have h2 := nodup_len h1 (ys := taken) fun x mx => by
        obtain ⟨j, hj, rfl⟩ := List.mem_map.mp mx
        exact pp j (List.mem_range.mp hj)
      rw [List.length_map, List.length_range] at h2
      omega
theorem use_name {K : PySem.W.Frag} {S : List Addr} {B0 H0 B H : Hp} {M : List (Addr × HO)} {Q : VK} {E : XK} {p t : Addr} {a b : Int} {taken : List Str} (hs : HS S B0 H0 B H ((p, stO a b) :: M)) (v : VSt a b) (ht : H t = some (.lst (taken.map V.str))) (hl : taken.length ≤ 25)
    (k : ∀ B' H' a' b' x, Same B B' → HS S B0 H0 B' H' ((p, stO a' b') :: M) → VSt a' b' → okName x = true → x ∉ taken → Q (.str x) H') (hne : t ≠ p) : sp__law_name K [.ref p, .ref t] H Q E :=
  ⟨p, t, a, b, taken, B, rfl, hs.bh, (hs.mu _ List.mem_cons_self).1, hs.get List.mem_cons_self, v, ht, hne, hl, fun B' H' a' b' x c v' h1 h2 => k B' H' a' b' x c.bb (hs.call1 c) v' h1 h2⟩
abbrev N__law_names : List Str := ["_law_state", "_law_many", "_law_names_here", "_law_k"]
def t__law_names (K : PySem.W.Frag) (E : XK) : TS := (tSeq (tAsg (tLst tNil) (gName 2))
  (tSeq (tFor (iRng1 (tCons (tVar 1) tNil)) (gName 3) (tDrop (tBM K "list" rAppend (tVar 2) (tCons (tCl (sp__law_name K) (WE0 E) (tCons (tVar 0) (tCons (tVar 2) tNil))) tNil))))
  (tRet (tVar 2))))
def sp__law_names (K : PySem.W.Frag) : Sp := fun vs H Q E => ∃ (p : Addr) (a b : Int) (m : Nat) (B : Hp), vs = [.ref p, .int (m : Nat)] ∧ Same B H ∧ B p = none ∧ H p = some (stO a b) ∧ VSt a b ∧ m ≤ 25 ∧
  ∀ B' H' a' b' l (xs : List Str), HS [p] B H B' H' [(p, stO a' b'), (l, .lst (xs.map V.str))] → VSt a' b' → xs.length = m → xs.Nodup → (∀ x ∈ xs, okName x = true) → Q (.ref l) H'
theorem pure__law_names {K : PySem.W.Frag} {vs : List V} {H : Hp} {Q : VK} {E : XK} (h : sp__law_names K vs H Q E) : t__law_names K E { nx := fun _ H' => Q .non H', rt := Q } (start N__law_names vs) H := by
  obtain ⟨p, a, b, m, B, rfl, sB, bp, hp, hv, hm, k⟩ := h
  have hs := HS.startS sB bp hp
  show t__law_names K E _ [some (.ref p), some (.int (m : Nat)), none, none] H
  unfold t__law_names
  ((with_reducible refine x_seq ?_); (with_reducible refine x_asg ?_); (with_reducible refine x_lst ?_); (with_reducible refine x_nil ?_); ((with_reducible refine' x_newL ?z104h ?_); case z104h => first | exact Nat.zero_le _ | (simp; done) | (simp; omega)))
  refine new_M hs (fun l H1 hs1 _ => ?_)
  (((with_reducible refine x_gname ?_); try simp only [List.set_cons_zero, List.set_cons_succ]); (with_reducible refine x_seq ?_); (with_reducible refine x_for ?_); (with_reducible refine x_iRng1 ?_); (with_reducible refine x_cons ?_); ((with_reducible refine' x_var ?z110h ?_); case z110h => rfl); (with_reducible refine x_nil ?_))
  refine ⟨_, rfl, by omega, by omega, ?_⟩
  have em : (m : Int).toNat = m := by omega
  rw [em]
  refine l_range (α := (Int × Int) × List Str × Option V) (σf := fun s => [some (.ref p), some (.int (m : Nat)), some (.ref l), s.2.2]) (Mf := fun s => [(p, stO s.1.1 s.1.2), (l, .lst (s.2.1.map V.str))])
    (P := fun i s _ => VSt s.1.1 s.1.2 ∧ s.2.1.length = i ∧ s.2.1.Nodup ∧ ∀ x ∈ s.2.1, okName x = true) (s0 := ((a, b), [], none)) hs1.swap ⟨hv, rfl, List.nodup_nil, by simp⟩ (fun i s B2 H2 hi sb2 hs2 pp => ?_) (fun s B2 H2 sb2 hs2 pp => ?_)
  · obtain ⟨⟨a2, b2⟩, xs, s3⟩ := s
    obtain ⟨hv2, hl2, nd2, ok2⟩ := pp
    dsimp only at hs2 hv2 hl2 nd2 ok2 ⊢
    (((with_reducible refine x_gname ?_); try simp only [List.set_cons_zero, List.set_cons_succ]); (with_reducible refine x_drop ?_); (with_reducible refine x_bm ?_); ((with_reducible refine' x_var ?z115h ?_); case z115h => rfl); ((with_reducible refine' x_tyL ?z116h ?_); case z116h => walk_at "sl"); (with_reducible refine x_cons ?_); (with_reducible refine x_cl ?_); (with_reducible refine x_cons ?_); ((with_reducible refine' x_var ?z120h ?_); case z120h => rfl); (with_reducible refine x_cons ?_); ((with_reducible refine' x_var ?z122h ?_); case z122h => rfl); (with_reducible refine x_nil ?_))
    refine use_name hs2 hv2 (hs2.get (List.mem_cons_of_mem _ List.mem_cons_self)) (by omega) (fun B3 H3 a3 b3 x sb3 hs3 hv3 okx nx => ?_) (Ne.symm hs2.ne01)
    (with_reducible refine x_nil ?_)
    refine x_append hs3.swap (by rw [List.length_map]; omega) (fun H4 hs4 => ?_)
    refine ⟨((a3, b3), xs ++ [x], some _), B3, rfl, sb2.trans sb3, by simpa using hs4.swap, hv3, by simp [hl2], ?_, fun y my => ?_⟩
    · rw [List.nodup_append]
      exact ⟨nd2, by simp, fun y my z mz e => nx (by have : z = x := by simpa using mz
                                                     rw [← this, ← e]; exact my)⟩
    · rcases List.mem_append.mp my with z | z
      · exact ok2 y z
      · have : y = x := by simpa using z
        rw [this]; exact okx
  · obtain ⟨⟨a2, b2⟩, xs, s3⟩ := s
    obtain ⟨hv2, hl2, nd2, ok2⟩ := pp
    ((with_reducible refine x_ret ?_); ((with_reducible refine' x_var ?z126h ?_); case z126h => rfl))
    exact k B2 H2 a2 b2 l xs hs2 hv2 hl2 nd2 ok2
theorem use_names {K : PySem.W.Frag} {S : List Addr} {B0 H0 B H : Hp} {M : List (Addr × HO)} {Q : VK} {E : XK} {p : Addr} {a b : Int} {m : Nat} (hs : HS S B0 H0 B H ((p, stO a b) :: M)) (v : VSt a b) (hm : m ≤ 25)
    (k : ∀ B' H' a' b' l (xs : List Str), Same B B' → HS S B0 H0 B' H' ((p, stO a' b') :: (l, .lst (xs.map V.str)) :: M) → VSt a' b' → xs.length = m → xs.Nodup → (∀ x ∈ xs, okName x = true) → Q (.ref l) H') : sp__law_names K [.ref p, .int (m : Nat)] H Q E :=
  ⟨p, a, b, m, B, rfl, hs.bh, (hs.mu _ List.mem_cons_self).1, hs.get List.mem_cons_self, v, hm, fun B' H' a' b' l xs c v' h1 h2 h3 => k B' H' a' b' l xs c.bb (hs.call1N c) v' h1 h2 h3⟩
end Q

set_option Elab.async false
set_option linter.all false
set_option maxRecDepth 100000
set_option maxHeartbeats 4000000
namespace Q
open PySem PySem.Spec PyProof.Rows L2
local macro_rules | `(tactic| walk_at "bf") => `(tactic| first | assumption | (refine' bstep (by assumption) ?r; case r => walk_at "bf") | fail)
local macro_rules | `(tactic| walk_at "rp") => `(tactic| first | assumption | exact Rep.int _ | exact Rep.bl _ | exact Rep.non | (refine' Rep.mono (by assumption) ?r; case r => walk_at "rp") | fail)
local macro_rules | `(tactic| walk_at "hf") => `(tactic| first | assumption | exact HS.up (by assumption) (by walk_at "bf") | exact HS.get (by assumption) List.mem_cons_self | exact HS.get (by assumption) (List.mem_cons_of_mem _ List.mem_cons_self) | exact HS.get (by assumption) (List.mem_cons_of_mem _ (List.mem_cons_of_mem _ List.mem_cons_self)) | exact HS.get (by assumption) (List.mem_cons_of_mem _ (List.mem_cons_of_mem _ (List.mem_cons_of_mem _ List.mem_cons_self))) | fail)
local macro_rules | `(tactic| walk_at "sl") => `(tactic| first | assumption | exact SqL.of (by walk_at "hf") | fail)
local macro_rules | `(tactic| walk_at "st") => `(tactic| first | assumption | exact SqT.of (by walk_at "hf") | fail)
local macro_rules | `(tactic| walk_at "sz") => `(tactic| first | assumption | (refine small_le ?_; first | assumption | omega | (simp; done) | (simp; omega)) | fail)
/-! ### law helpers: is_name, due, value, row -/
/-! ### rows of texts are equal -/
theorem dp_strs {K : PySem.W.Frag} {H : Hp} : ∀ xs : List Str, DpAll K H (xs.map V.str) (xs.map PyData.str)
  | [] => .nil
  | x :: r => .cons (.str x) (dp_strs r)
theorem okName_strOk {x : Str} (h : okName x = true) : PyData.strOk x = true := by
  unfold okName at h
  obtain ⟨_, h⟩ := Bool.and_eq_true_iff.mp h
  obtain ⟨_, h⟩ := Bool.and_eq_true_iff.mp h
  unfold PyData.strOk
  rw [Array.all_eq_true_iff_forall_mem]
  intro c m
  have h1 : c ∈ letters.cps.toList := of_decide_eq_true (List.all_eq_true.mp h c (Array.mem_toList_iff.mpr m))
  have h2 : ∀ c ∈ letters.cps.toList, (decide (c < 0x110000)) = true := by decide +kernel
  exact h2 c h1
theorem canLay_strs : ∀ {xs : List Str}, (∀ x ∈ xs, PyData.strOk x = true) → PyData.canLayAll0 (xs.map PyData.str) = true
  | [], _ => rfl
  | x :: r, h => by
    show (PyData.canLay0 (.str x) && PyData.canLayAll0 (r.map PyData.str)) = true
    rw [canLay_strs fun y m => h y (List.mem_cons_of_mem _ m), Bool.and_true]
    simp only [PyData.canLay0]
    exact h x List.mem_cons_self
theorem depth_strs (xs : List Str) : PyData.depthAll (xs.map PyData.str) = 0 := by
  induction xs with
  | nil => simp only [List.map_nil, PyData.depthAll]
  | cons x r ih => simp only [List.map_cons, PyData.depthAll, PyData.depth, ih, Nat.max_self]
theorem shaped_strs {xs : List Str} (h : ∀ x ∈ xs, PyData.strOk x = true) : SeqAt.shaped (.list (xs.map PyData.str)) = true := by
  unfold SeqAt.shaped
  simp only [PyData.canLay0, canLay_strs h, PyData.depth, depth_strs]
  decide
theorem eqv_strs : ∀ xs ys : List Str, PyData.eqvAll (xs.map PyData.str) (ys.map PyData.str) = decide (xs = ys)
  | [], [] => by simp [PyData.eqvAll]
  | [], _ :: _ => by simp [PyData.eqvAll]
  | _ :: _, [] => by simp [PyData.eqvAll]
  | x :: xs, y :: ys => by
    simp only [List.map_cons, PyData.eqvAll, PyData.eqv, eqv_strs xs ys]
    by_cases e : x = y <;> simp [e]
abbrev N__law_row : List Str := ["_law_actual", "_law_due_here"]
def t__law_row (K : PySem.W.Frag) (E : XK) : TS := (tRet (tAndV (tCB (rIsi K) (tCons (tVar 0) (tCons (tC (.ty "list")) tNil))) (tOp (rEqD K) (tVar 0) (tVar 1))))
def sp__law_row (K : PySem.W.Frag) : Sp := fun vs H Q E => ∃ (p q : Addr) (xs : List V) (d e : PyData) (B : Hp), vs = [.ref p, .ref q] ∧ Same B H ∧ H p = some (.lst xs) ∧ Dp K H (.ref p) d ∧ Dp K H (.ref q) e ∧ SeqAt.shaped d = true ∧ SeqAt.shaped e = true ∧ Q (.bl (PyData.eqv d e)) H
theorem pure__law_row {K : PySem.W.Frag} {vs : List V} {H : Hp} {Q : VK} {E : XK} (h : sp__law_row K vs H Q E) : t__law_row K E { nx := fun _ H' => Q .non H', rt := Q } (start N__law_row vs) H := by
  obtain ⟨p, q, xs, d, e, B, rfl, sB, hp, h1, h2, h3, h4, k⟩ := h
  show t__law_row K E _ [some (.ref p), some (.ref q)] H
  unfold t__law_row
  ((with_reducible refine x_ret ?_); (with_reducible refine x_andV ?_); (with_reducible refine x_cb ?_); (with_reducible refine x_cons ?_); ((with_reducible refine' x_var ?z148h ?_); case z148h => rfl); (with_reducible refine x_cons ?_); (with_reducible refine x_c ?_); (with_reducible refine x_nil ?_))
  refine x_isi (.base (.lst hp)) (kit_ty (show kitB "list" "list" = some true by decide +kernel)) ?_
  ((with_reducible refine x_exb ?_); (with_reducible refine x_tt _ _ ?_); (with_reducible refine x_op ?_); ((with_reducible refine' x_var ?z155h ?_); case z155h => rfl); ((with_reducible refine' x_var ?z156h ?_); case z156h => rfl))
  exact ⟨_, _, h1, h2, h3, h4, k⟩
theorem row_strs {K : PySem.W.Frag} {H B : Hp} {Q : VK} {E : XK} {p q : Addr} {xs ys : List Str} (sB : Same B H) (hp : H p = some (.lst (xs.map V.str))) (hq : H q = some (.lst (ys.map V.str))) (h1 : ∀ x ∈ xs, PyData.strOk x = true) (h2 : ∀ x ∈ ys, PyData.strOk x = true)
    (k : Q (.bl (decide (xs = ys))) H) : sp__law_row K [.ref p, .ref q] H Q E := ⟨p, q, _, _, _, B, rfl, sB, hp, .lst (SqL.of hp) (dp_strs xs), .lst (SqL.of hq) (dp_strs ys), shaped_strs h1, shaped_strs h2, by simp only [PyData.eqv, eqv_strs]; exact k⟩
end Q

set_option Elab.async false
set_option linter.all false
set_option maxRecDepth 100000
set_option maxHeartbeats 4000000
namespace Q
open PySem PySem.Spec PyProof.Rows L2
/-! ### making a group -/
theorem use_people {K : PySem.W.Frag} {S : List Addr} {B0 H0 B H : Hp} {M : List (Addr × HO)} {Q : VK} {E : XK} {p : Addr} {G : Grp} (hs : HS S B0 H0 B H M) (g : GAt K B p G)
    (k : ∀ B' H' l, Same B B' → HS S B0 H0 B' H' ((l, .lst (G.names.map V.str)) :: M) → Q (.ref l) H') : sp_Group_people K [.ref p] H Q E := ⟨p, B, G, rfl, hs.bh, g, fun B' H' l c => k B' H' l c.bb (hs.callN c)⟩
theorem GAt.ins {K : PySem.W.Frag} {B : Hp} {p : Addr} {G : Grp} (h : GAt K B p G) : ∃ dx n l m q, B p = some (.ins (He.ga K "Group") dx (gf n l m q)) := by
  obtain ⟨⟨dx, n, l, m, q, h1, _⟩, _⟩ := h
  exact ⟨dx, n, l, m, q, h1⟩
theorem HS.still0 {B0 H0 B H : Hp} {p : Addr} {o : HO} {M : List (Addr × HO)} (h : HS [] B0 H0 B H ((p, o) :: M)) : ∃ B', HS [] B0 H0 B' H M ∧ Same B B' ∧ B' p = some o :=
  ⟨_, (h.still (by simp)).1, (h.still (by simp)).2, upd_same⟩
theorem okName_len {x : Str} (h : okName x = true) : x.length ≤ 1000000 := by
  unfold okName at h
  obtain ⟨_, h⟩ := Bool.and_eq_true_iff.mp h
  obtain ⟨h, _⟩ := Bool.and_eq_true_iff.mp h
  have := of_decide_eq_true h
  omega
def spLaw (K : PySem.W.Frag) : Sp := fun vs H Q _ => ∃ (a : Addr) (ns : List Int), vs = [.ref a] ∧ ns.length ≤ 63 ∧ SqL K H a (ns.map V.int) ∧ ∀ H', Q (.bl true) H'
theorem x_trL {K : PySem.W.Frag} {H : Hp} {p : Addr} {xs : List V} {R : Bool → Prop} (hp : H p = some (.lst xs)) (h : R (!xs.isEmpty)) : ∃ k, TruV K (.ref p) H k ∧ R k := ⟨_, Or.inl ⟨xs, SqL.of hp, rfl⟩, h⟩
end Q

set_option Elab.async false
set_option linter.all false
set_option maxRecDepth 100000
set_option maxHeartbeats 4000000
namespace Q
open PySem PySem.Spec PyProof.Rows L2
/-! ### sorted of tuples of texts, any number of them -/
def IsTx (h : Heap) (v : Value) (ks : List Str) : Prop := ∃ a o n us, v = .ref a ∧ h.get? a = some o ∧ o.cls = .type "tuple" ∧ o.data = .seq (List.toArray us) n ∧ Vals (ks.map V.str) us
theorem IsTx.keeps {h h' : Heap} {v : Value} {ks : List Str} (p : IsTx h v ks) (k : ∀ b o, h.get? b = some o → o.cls = .type "tuple" → h'.get? b = some o) : IsTx h' v ks := by
  obtain ⟨a, o, n, us, e, ho, hc, hd, r⟩ := p
  exact ⟨a, o, n, us, e, k _ _ ho hc, hc, hd, r⟩
section
variable {prog : Program} {w : World} {A : Around} {E : Value → Shared → Prop} {s : Shared}
end
end Q

set_option Elab.async false
set_option linter.all false
set_option maxRecDepth 100000
set_option maxHeartbeats 4000000
namespace Q
open PySem PySem.Spec PyProof.Rows L2
/-! ### the operators of one's own class: in, not in, [], len -/
def tGetG (C : Addr) (sp : Sp) (W : WX) (ta ti : TE) : TE := fun σ H Q => ta σ H fun x H1 => ti σ H1 fun y H2 => ∃ a dx fs, x = .ref a ∧ H2 a = some (.ins C dx fs) ∧ sp [x, y] H2 Q fun c d H' => W c d σ H'
def rLenO (C : Addr) (sp : Sp) : List V → Hp → VK → Prop := fun xs H Q => ∃ a dx fs, xs = [V.ref a] ∧ H a = some (.ins C dx fs) ∧ sp [.ref a] H (fun v H' => ∃ n : Nat, v = .int (n : Nat) ∧ n ≤ 1000000 ∧ Q (.int (n : Nat)) H') fun _ _ _ => False
/-- a method whose function is a def of the text -/
def MtI (P : Program) (w : World) (K : PySem.W.Frag) (mg : Str → Option Value) (base : Heap) (k : Nat) (c m : Str) (ps : List Str) (sp : Sp) : Prop :=
  ∃ f fd, Cls K (He.ga K c) ∧ Meth K (He.ga K c) m f ∧ Binds K fd ps [] ∧ FnOk P w K mg base (L2.CX P w) k f fd ps sp ∧ PySem.W.fnIn K f = true
theorem FunD.fnIn {K : PySem.W.Frag} {x qual : Str} {params : Arguments} {body : List Stmt} {scope : Scope} {dvs : List V} {kws : List (Str × V)} {f : Addr} {fd : FuncData} (F : FunD K x qual params body scope dvs kws f fd) : PySem.W.fnIn K f = true := by
  obtain ⟨oc, od, dV, kV, doc, pm, an, cdv, ct, osl, e, lk, _⟩ := F.ex
  unfold PySem.W.fnIn
  rw [lk]
section
variable {X : Cx} {k j : Nat} {c : Str} {ps : List Str} {sp : Sp} {W : WX} {o i : Expr} {ta ti : TE} {pos : Pos}
theorem run_in1 {f : Addr} {fd : FuncData} {pins : List (Addr × Obj)} {σ : L2.St} {H : Hp} {s : Shared} {Q : VK} {us : List Value} {vs : List V} (F : FnOk X.prog X.w X.K X.mg X.base (L2.CX X.prog X.w) k f fd ps sp) (hr : Room (k + 1) X.A) (hb : Binds X.K fd ps [])
    (tk : Takes X W) (I : Inv X pins σ H s) (r : Vals vs us) (h : sp vs H Q fun c d H' => W c d σ H') : wpAny (model X.prog X.w) X.A.in1 (call (.ref f) us) (EP X pins σ Q) X.xe s := by
  have hl : us.length = ps.length := by rw [← r.length]; exact F.len _ _ _ _ h
  have b := hb s us I.kIn (by rw [List.append_nil]; exact hl)
  rw [List.append_nil] at b
  have e0 : Env0 X.prog X.w X.K X.mg X.base X.A.in1 X.stack s H := by
    have e := I.env0
    exact ⟨e.frames, e.mod, e.bs, e.bsz, e.funs, e.frf, e.hok, e.bare⟩
  refine wpAny_call (codeAny_mono (F.run X.A.in1 X.stack s H ⟨us, []⟩ us vs Q _ hr.in1 e0 b r h) fun r s' hq => ?_)
  cases r with
  | error e => exact passAt tk σ pins H s e s' I hq
  | ok fl =>
    cases fl with
    | ret u => exact I.after hq
    | next => exact False.elim hq
    | brk => exact False.elim hq
    | cont => exact False.elim hq
theorem pe_getG (F : MtI X.prog X.w X.K X.mg X.base k c "__getitem__" ps sp) (hr : Room j X.A) (hj : k + 1 ≤ j) (tk : Takes X W) (he : PE X o ta) (hi : PE X i ti)
    (hsl : ∀ (a : Addr) (u : Value), subscripted i true (.ref a) u = runValue (.builtin "lifetime.subscript" ⟨[.ref a, u], []⟩) := by intro _ _; with_unfolding_all rfl) : PE X (.Subscript o i pos) (tGetG (He.ga X.K c) sp W ta ti) := by
  obtain ⟨f, fd, c, hm, hb, F, hfi⟩ := F
  refine ⟨fun pins s σ H Q I h => ?_⟩
  refine Subscript_ (thn (he.run pins s σ H _ I h) fun v s1 hh => ?_)
  obtain ⟨x, H1, I1, rx, h1⟩ := hh
  refine thn (hi.run pins s1 σ H1 _ I1 h1) fun u s2 hh => ?_
  obtain ⟨y, H2, I2, ry, a, dx, fs, ex, ea, q⟩ := hh
  subst ex
  cases rx
  obtain ⟨mA, J, _⟩ := ins_get I2.hok ea
  obtain ⟨od, J, _⟩ := J.look
  obtain ⟨m, hF⟩ := I2.fr
  exact PySem.W.sub_K hF I.ok.mod.kin J hm.at_ hfi hm.fn (run_in1 (vs := [.ref a, y]) F (hr.mono hj) hb tk I2 (.cons rfl (.cons ry .nil)) q) (hsl a u)
theorem cLenO (F : Mt X.prog X.w X.K X.mg X.base k c "__len__" ps sp) (hr : Room j X.A) (hj : k + 1 ≤ j) : CallR X (.builtin "len") (rLenO (He.ga X.K c) sp) := by
  intro pins s σ H xs us Q I r h
  obtain ⟨a, dx, fs, rfl, ea, q⟩ := h
  obtain ⟨u, rfl, ru⟩ := vals1 r
  cases ru
  obtain ⟨f, fd, c, hm, hb, F⟩ := F
  obtain ⟨mA, J, _⟩ := ins_get I.hok ea
  obtain ⟨od, J, _⟩ := J.look
  obtain ⟨m, hF⟩ := I.fr
  refine PySem.W.len_K hF I.ok.mod.kin J hm.at_ hm.fn ?_
  refine wpAny_mono (run_in1 (W := W0) (vs := [.ref a]) F (hr.mono hj) hb takes0 I (.cons rfl .nil) q) (fun r s' hh => ?_) fun _ _ z => z
  obtain ⟨z, H', I', rz, n, ez, hn, qq⟩ := hh
  subst ez
  obtain ⟨t, rfl⟩ := rz
  exact ⟨⟨by omega, by omega⟩, .int (n : Nat), H', I'.tok _, ⟨_, rfl⟩, qq⟩
end
end Q

set_option Elab.async false
set_option linter.all false
set_option maxRecDepth 100000
set_option maxHeartbeats 4000000
namespace Q
open PySem PySem.Spec PyProof.Rows L2
local macro_rules | `(tactic| walk_at "bf") => `(tactic| first | assumption | (refine' bstep (by assumption) ?r; case r => walk_at "bf") | fail)
local macro_rules | `(tactic| walk_at "rp") => `(tactic| first | assumption | exact Rep.int _ | exact Rep.bl _ | exact Rep.non | (refine' Rep.mono (by assumption) ?r; case r => walk_at "rp") | fail)
local macro_rules | `(tactic| walk_at "hf") => `(tactic| first | assumption | exact HS.up (by assumption) (by walk_at "bf") | exact HS.get (by assumption) List.mem_cons_self | exact HS.get (by assumption) (List.mem_cons_of_mem _ List.mem_cons_self) | exact HS.get (by assumption) (List.mem_cons_of_mem _ (List.mem_cons_of_mem _ List.mem_cons_self)) | exact HS.get (by assumption) (List.mem_cons_of_mem _ (List.mem_cons_of_mem _ (List.mem_cons_of_mem _ List.mem_cons_self))) | fail)
local macro_rules | `(tactic| walk_at "sl") => `(tactic| first | assumption | exact SqL.of (by walk_at "hf") | fail)
local macro_rules | `(tactic| walk_at "st") => `(tactic| first | assumption | exact SqT.of (by walk_at "hf") | fail)
local macro_rules | `(tactic| walk_at "sz") => `(tactic| first | assumption | (refine small_le ?_; first | assumption | omega | (simp; done) | (simp; omega)) | fail)
/-! ### slices of texts' rows -/
theorem cutV_fromS {xs : List Str} {m : Int} {i : Nat} (e : m = i) : cutV (xs.map V.str) (some m) none = (xs.drop i).map V.str := by
  subst e
  unfold cutV
  rw [HT.sIx_nat, HT.sIx_none, List.length_map, ← List.map_drop, ← List.map_take]
  congr 1
  rw [List.take_of_length_le (by rw [List.length_drop]; omega)]
  by_cases h : i ≤ xs.length
  · rw [Nat.min_eq_left h]
  · rw [Nat.min_eq_right (by omega), List.drop_length, List.drop_of_length_le (by omega)]
theorem cutV_toS {xs : List Str} {m : Int} {i : Nat} (e : m = i) : cutV (xs.map V.str) none (some m) = (xs.take i).map V.str := by
  subst e
  unfold cutV
  rw [HT.sIx_nat, HT.sIx_none, List.length_map, List.drop_zero, Nat.sub_zero, ← List.map_take]
  congr 1
  by_cases h : i ≤ xs.length
  · rw [Nat.min_eq_left h]
  · rw [Nat.min_eq_right (by omega), List.take_length, List.take_of_length_le (by omega)]
theorem cutV_midS {xs : List Str} {m n : Int} {i j : Nat} (e : m = i) (e2 : n = i + j) : cutV (xs.map V.str) (some m) (some n) = ((xs.drop i).take j).map V.str := by
  subst e
  have e3 : n = ((i + j : Nat) : Int) := by omega
  subst e3
  unfold cutV
  rw [HT.sIx_nat, HT.sIx_nat, List.length_map, ← List.map_drop, ← List.map_take]
  congr 1
  by_cases h : i ≤ xs.length
  · rw [Nat.min_eq_left h]
    by_cases h2 : i + j ≤ xs.length
    · rw [Nat.min_eq_left h2, Nat.add_sub_cancel_left]
    · rw [Nat.min_eq_right (by omega), List.take_of_length_le (by rw [List.length_drop]; omega), List.take_of_length_le (by rw [List.length_drop]; omega)]
  · rw [Nat.min_eq_right (show xs.length ≤ i by omega), List.drop_length, List.drop_of_length_le (by omega)]
    simp
theorem eraseIdx_mapS : ∀ (xs : List Str) (i : Nat), (xs.map V.str).eraseIdx i = (xs.eraseIdx i).map V.str
  | [], _ => by simp
  | _ :: _, 0 => by simp
  | x :: r, i + 1 => by simp [eraseIdx_mapS r i]
theorem seqIndex_nat {n m : Nat} (h : m < n) : seqIndex? (m : Int) n = some m := by
  unfold seqIndex?
  simp only
  rw [if_neg (show ¬ (m : Int) < 0 by omega)]
  rw [if_pos (by simp; omega)]
  simp
theorem perm_erase {α : Type} : ∀ {l : List α} {i : Nat} (h : i < l.length), (l[i] :: l.eraseIdx i).Perm l
  | _ :: _, 0, _ => List.Perm.refl _
  | x :: r, i + 1, h => by
    have ih := perm_erase (l := r) (i := i) (by simpa using h)
    simp only [List.getElem_cons_succ, List.eraseIdx_cons_succ]
    exact (List.Perm.swap _ _ _).trans (List.Perm.cons x ih)
/-! ### a row in a drawn order -/
abbrev N__law_mixed : List Str := ["_law_state", "_law_items", "_law_pool", "_law_row_here", "_law_k"]
def t__law_mixed (K : PySem.W.Frag) (E : XK) : TS := (tSeq (tAsg (tCB (rListOf K) (tCons (tVar 1) tNil)) (gName 2))
  (tSeq (tAsg (tLst tNil) (gName 3))
  (tSeq (tFor (iRng1 (tCons (tCB (rLenA K) (tCons (tVar 1) tNil)) tNil)) (gName 4) (tDrop (tBM K "list" rAppend (tVar 3) (tCons (tBM K "list" rPopAt (tVar 2) (tCons (tCl (sp__law_take K) (WE0 E) (tCons (tVar 0) (tCons (tCB (rLenA K) (tCons (tVar 2) tNil)) tNil))) tNil)) tNil))))
  (tRet (tVar 3)))))
def sp__law_mixed (K : PySem.W.Frag) : Sp := fun vs H Q E => ∃ (p t : Addr) (a b : Int) (xs : List Str) (B : Hp), vs = [.ref p, .ref t] ∧ Same B H ∧ B p = none ∧ H p = some (stO a b) ∧ VSt a b ∧ B t = some (.lst (xs.map V.str)) ∧ xs.length ≤ 100 ∧
  ∀ B' H' a' b' l (ys : List Str), HS [p] B H B' H' [(p, stO a' b'), (l, .lst (ys.map V.str))] → VSt a' b' → ys.Perm xs → Q (.ref l) H'
theorem pure__law_mixed {K : PySem.W.Frag} {vs : List V} {H : Hp} {Q : VK} {E : XK} (h : sp__law_mixed K vs H Q E) : t__law_mixed K E { nx := fun _ H' => Q .non H', rt := Q } (start N__law_mixed vs) H := by
  obtain ⟨p, t, a, b, xs, B, rfl, sB, bp, hp, hv, ht, hl, k⟩ := h
  have hs := HS.startS sB bp hp
  show t__law_mixed K E _ [some (.ref p), some (.ref t), none, none, none] H
  unfold t__law_mixed
  ((with_reducible refine x_seq ?_); (with_reducible refine x_asg ?_); (with_reducible refine x_cb ?_); (with_reducible refine x_cons ?_); ((with_reducible refine' x_var ?z5h ?_); case z5h => rfl); (with_reducible refine x_nil ?_); ((with_reducible refine' x_listL ?z7h ?_); case z7h => walk_at "sl"))
  refine new_M hs (fun po H1 hs1 _ => ?_)
  (((with_reducible refine x_gname ?_); try simp only [List.set_cons_zero, List.set_cons_succ]); (with_reducible refine x_seq ?_); (with_reducible refine x_asg ?_); (with_reducible refine x_lst ?_); (with_reducible refine x_nil ?_); ((with_reducible refine' x_newL ?z13h ?_); case z13h => first | exact Nat.zero_le _ | (simp; done) | (simp; omega)))
  refine new_M hs1 (fun ro H2 hs2 _ => ?_)
  (((with_reducible refine x_gname ?_); try simp only [List.set_cons_zero, List.set_cons_succ]); (with_reducible refine x_seq ?_); (with_reducible refine x_for ?_); (with_reducible refine x_iRng1 ?_); (with_reducible refine x_cons ?_); (with_reducible refine x_cb ?_); (with_reducible refine x_cons ?_); ((with_reducible refine' x_var ?z21h ?_); case z21h => rfl); (with_reducible refine x_nil ?_); ((with_reducible refine' x_lenL ?z23h ?_); case z23h => walk_at "sl"); (with_reducible refine x_nil ?_))
  refine ⟨_, rfl, by rw [List.length_map]; omega, by rw [List.length_map]; omega, ?_⟩
  have en : (((xs.map V.str).length : Nat) : Int).toNat = xs.length := by rw [List.length_map]; omega
  rw [en]
  have hs3 : HS [p] B H B H2 [(p, stO a b), (po, .lst (xs.map V.str)), (ro, .lst (([] : List Str).map V.str))] := hs2.perm ((List.Perm.cons _ (List.Perm.swap _ _ _)).trans ((List.Perm.swap _ _ _).trans (List.Perm.cons _ (List.Perm.swap _ _ _))))
  refine l_range (α := (Int × Int) × (List Str × List Str) × Option V) (σf := fun s => [some (.ref p), some (.ref t), some (.ref po), some (.ref ro), s.2.2]) (Mf := fun s => [(p, stO s.1.1 s.1.2), (po, .lst (s.2.1.1.map V.str)), (ro, .lst (s.2.1.2.map V.str))])
    (P := fun i s _ => VSt s.1.1 s.1.2 ∧ s.2.1.2.length = i ∧ (s.2.1.2 ++ s.2.1.1).Perm xs) (s0 := ((a, b), (xs, []), none)) hs3 ⟨hv, rfl, List.Perm.refl _⟩ (fun i s B1 H1 hi sb1 hs1 pp => ?_) (fun s B1 H1 sb1 hs1 pp => ?_)
  · obtain ⟨⟨a1, b1⟩, ⟨rest, done⟩, s3⟩ := s
    obtain ⟨hv1, hl1, hp1⟩ := pp
    dsimp only at hs1 hv1 hl1 hp1 ⊢
    have hlen := hp1.length_eq
    rw [List.length_append] at hlen
    (((with_reducible refine x_gname ?_); try simp only [List.set_cons_zero, List.set_cons_succ]); (with_reducible refine x_drop ?_); (with_reducible refine x_bm ?_); ((with_reducible refine' x_var ?z28h ?_); case z28h => rfl); ((with_reducible refine' x_tyL ?z29h ?_); case z29h => walk_at "sl"); (with_reducible refine x_cons ?_); (with_reducible refine x_bm ?_); ((with_reducible refine' x_var ?z32h ?_); case z32h => rfl); ((with_reducible refine' x_tyL ?z33h ?_); case z33h => walk_at "sl"); (with_reducible refine x_cons ?_); (with_reducible refine x_cl ?_); (with_reducible refine x_cons ?_); ((with_reducible refine' x_var ?z37h ?_); case z37h => rfl); (with_reducible refine x_cons ?_); (with_reducible refine x_cb ?_); (with_reducible refine x_cons ?_); ((with_reducible refine' x_var ?z41h ?_); case z41h => rfl); (with_reducible refine x_nil ?_); ((with_reducible refine' x_lenL ?z43h ?_); case z43h => walk_at "sl"); (with_reducible refine x_nil ?_))
    try refine x_tyL (SqL.of (hs1.get (List.mem_cons_of_mem _ (List.mem_cons_of_mem _ List.mem_cons_self)))) ?_
    skip
    try refine x_tyL (SqL.of (hs1.get (List.mem_cons_of_mem _ List.mem_cons_self))) ?_
    skip
    try refine x_lenL (SqL.of (hs1.get (List.mem_cons_of_mem _ List.mem_cons_self))) ?_
    skip
    refine use_take hs1 hv1 (by rw [List.length_map]; omega) (by rw [List.length_map]; omega) (fun B2 H2 a2 b2 m sb2 hs2 hv2 hm => ?_)
    rw [List.length_map] at hm
    have hm' : m < rest.length := by omega
    (with_reducible refine x_nil ?_)
    refine x_popAt (y := .str rest[m]) hs2.swap (by omega) (by omega) (seqIndex_nat (by rw [List.length_map]; exact hm')) (by rw [List.getElem?_map, List.getElem?_eq_getElem hm']; rfl) (fun H3 hs3 => ?_)
    rw [eraseIdx_mapS] at hs3
    (with_reducible refine x_nil ?_)
    refine x_append hs3.rot3 (by rw [List.length_map]; omega) (fun H4 hs4 => ?_)
    have hs5 := hs4.unrot3.swap
    refine ⟨((a2, b2), (rest.eraseIdx m, done ++ [rest[m]]), some _), B2, rfl, sb1.trans sb2, by simpa using hs5, hv2, by simp [hl1], ?_⟩
    have e1 : (done ++ [rest[m]] ++ rest.eraseIdx m) = done ++ (rest[m] :: rest.eraseIdx m) := by simp
    dsimp only
    rw [e1]
    exact ((List.Perm.refl done).append (perm_erase hm')).trans hp1
  · obtain ⟨⟨a1, b1⟩, ⟨rest, done⟩, s3⟩ := s
    obtain ⟨hv1, hl1, hp1⟩ := pp
    dsimp only at hs1 hv1 hl1 hp1 ⊢
    have hlen := hp1.length_eq
    rw [List.length_append] at hlen
    have hr : rest = [] := List.length_eq_zero_iff.mp (by omega)
    rw [hr, List.append_nil] at hp1
    ((with_reducible refine x_ret ?_); ((with_reducible refine' x_var ?z48h ?_); case z48h => rfl))
    exact k B1 H1 a1 b1 ro done (hs1.swap.drop) hv1 hp1
theorem use_mixed {K : PySem.W.Frag} {S : List Addr} {B0 H0 B H : Hp} {M : List (Addr × HO)} {Q : VK} {E : XK} {p t : Addr} {a b : Int} {xs : List Str} (hs : HS S B0 H0 B H ((p, stO a b) :: M)) (v : VSt a b) (ht : B t = some (.lst (xs.map V.str))) (hl : xs.length ≤ 100)
    (k : ∀ B' H' a' b' l (ys : List Str), Same B B' → HS S B0 H0 B' H' ((p, stO a' b') :: (l, .lst (ys.map V.str)) :: M) → VSt a' b' → ys.Perm xs → Q (.ref l) H') : sp__law_mixed K [.ref p, .ref t] H Q E :=
  ⟨p, t, a, b, xs, B, rfl, hs.bh, (hs.mu _ List.mem_cons_self).1, hs.get List.mem_cons_self, v, ht, hl, fun B' H' a' b' l ys c v' h1 => k B' H' a' b' l ys c.bb (hs.call1N c) v' h1⟩
/-- the same, and the row stands still from now on -/
theorem HS.stillN {p q : Addr} {o u : HO} {M : List (Addr × HO)} {S : List Addr} {B0 H0 B H : Hp} (h : HS S B0 H0 B H ((p, o) :: (q, u) :: M)) (hq : q ∉ S) : ∃ B', HS S B0 H0 B' H ((p, o) :: M) ∧ Same B B' ∧ B' q = some u := by
  obtain ⟨h1, h2⟩ := h.swap.still hq
  exact ⟨_, h1, h2, upd_same⟩
theorem use_mixedF {K : PySem.W.Frag} {B0 H0 B H : Hp} {M : List (Addr × HO)} {Q : VK} {E : XK} {p t : Addr} {a b : Int} {xs : List Str} (hs : HS [p] B0 H0 B H ((p, stO a b) :: M)) (v : VSt a b) (ht : B t = some (.lst (xs.map V.str))) (hl : xs.length ≤ 100)
    (k : ∀ B' H' a' b' l (ys : List Str), Same B B' → HS [p] B0 H0 B' H' ((p, stO a' b') :: M) → B' l = some (.lst (ys.map V.str)) → VSt a' b' → ys.Perm xs → Q (.ref l) H') : sp__law_mixed K [.ref p, .ref t] H Q E :=
  use_mixed hs v ht hl fun B' H' a' b' l ys sb h v' pe => by
    obtain ⟨B'', h1, h2, h3⟩ := h.stillN (by simpa using Ne.symm h.ne01)
    exact k B'' H' a' b' l ys (sb.trans h2) h1 h3 v' pe
abbrev N__law_others : List Str := ["_law_names_here", "_law_a", "_law_b"]
def t__law_others (K : PySem.W.Frag) (E : XK) : TS := (tRet (tLc (iList K (tVar 0)) (gName 2) (tTest (tOp rNe (tVar 2) (tVar 1))) (tVar 2) [2]))
def sp__law_others (K : PySem.W.Frag) : Sp := fun vs H Q E => ∃ (t : Addr) (x : Str) (xs : List Str) (B : Hp), vs = [.ref t, .str x] ∧ Same B H ∧ B t = some (.lst (xs.map V.str)) ∧ xs.length ≤ 1000 ∧
  ∀ B' H' l, HS [] B H B' H' [(l, .lst ((xs.filter fun y => !decide (y = x)).map V.str))] → Q (.ref l) H'
theorem pure__law_others {K : PySem.W.Frag} {vs : List V} {H : Hp} {Q : VK} {E : XK} (h : sp__law_others K vs H Q E) : t__law_others K E { nx := fun _ H' => Q .non H', rt := Q } (start N__law_others vs) H := by
  obtain ⟨t, x, xs, B, rfl, sB, ht, hl, k⟩ := h
  have hs := HS.start sB
  show t__law_others K E _ [some (.ref t), some (.str x), none] H
  unfold t__law_others
  ((with_reducible refine x_ret ?_); (with_reducible refine x_lc ?_); (with_reducible refine x_iList ?_); ((with_reducible refine' x_var ?z52h ?_); case z52h => rfl))
  refine ⟨t, rfl, ⟨_, by walk_at "sl"⟩, fun D hD => ?_⟩
  refine c_list (α := Unit) (Mf := fun _ => []) (P := fun i _ acc _ => acc = ((xs.take i).filter fun y => !decide (y = x)).map V.str) (s0 := ()) hs hD ht rfl (fun i y _ acc B1 H1 hi hacc sb1 hs1 pp => ?_) (fun _ acc B1 H1 sb1 hs1 hacc pp => ?_)
  · obtain ⟨y, hy, rfl⟩ := strs_get hi
    have hil : i < xs.length := (List.getElem?_eq_some_iff.mp hy).1
    ((with_reducible refine x_gname ?_); try simp only [List.set_cons_zero, List.set_cons_succ])
    refine ⟨rfl, ?_⟩
    ((with_reducible refine x_test ?_); (with_reducible refine x_op ?_); ((with_reducible refine' x_var ?z56h ?_); case z56h => rfl); ((with_reducible refine' x_var ?z57h ?_); case z57h => rfl); ((with_reducible refine' x_ne ?z58h ?_); case z58h => rfl); (with_reducible refine x_exb ?_))
    have e : decide (V.str y = V.str x) = decide (y = x) := by simp
    rw [e]
    refine x_ite (fun h => ?_) (fun h => ?_)
    · ((with_reducible refine' x_var ?z60h ?_); case z60h => rfl)
      refine c_keep (s := ()) sb1 hs1 hacc (by omega) ?_
      rw [filter_take _ hy, if_pos h, pp]
      simp
    · refine c_left (s := ()) sb1 hs1 hacc ?_
      rw [filter_take _ hy, if_neg (by rw [h]; decide), pp]
  · rw [List.length_map, List.take_length] at pp
    subst pp
    exact k B1 H1 D hs1
theorem use_others {K : PySem.W.Frag} {S : List Addr} {B0 H0 B H : Hp} {M : List (Addr × HO)} {Q : VK} {E : XK} {t : Addr} {x : Str} {xs : List Str} (hs : HS S B0 H0 B H M) (ht : B t = some (.lst (xs.map V.str))) (hl : xs.length ≤ 1000)
    (k : ∀ B' H' l, Same B B' → HS S B0 H0 B' H' ((l, .lst ((xs.filter fun y => !decide (y = x)).map V.str)) :: M) → Q (.ref l) H') : sp__law_others K [.ref t, .str x] H Q E := ⟨t, x, xs, B, rfl, hs.bh, ht, hl, fun B' H' l c => k B' H' l c.bb (hs.callN c)⟩
end Q

set_option Elab.async false
set_option linter.all false
set_option maxRecDepth 100000
set_option maxHeartbeats 4000000
namespace Q
open PySem PySem.Spec PyProof.Rows L2
local macro_rules | `(tactic| walk_at "bf") => `(tactic| first | assumption | (refine' bstep (by assumption) ?r; case r => walk_at "bf") | fail)
local macro_rules | `(tactic| walk_at "rp") => `(tactic| first | assumption | exact Rep.int _ | exact Rep.bl _ | exact Rep.non | (refine' Rep.mono (by assumption) ?r; case r => walk_at "rp") | fail)
local macro_rules | `(tactic| walk_at "hf") => `(tactic| first | assumption | exact HS.up (by assumption) (by walk_at "bf") | exact HS.get (by assumption) List.mem_cons_self | exact HS.get (by assumption) (List.mem_cons_of_mem _ List.mem_cons_self) | exact HS.get (by assumption) (List.mem_cons_of_mem _ (List.mem_cons_of_mem _ List.mem_cons_self)) | exact HS.get (by assumption) (List.mem_cons_of_mem _ (List.mem_cons_of_mem _ (List.mem_cons_of_mem _ List.mem_cons_self))) | fail)
local macro_rules | `(tactic| walk_at "sl") => `(tactic| first | assumption | exact SqL.of (by walk_at "hf") | fail)
local macro_rules | `(tactic| walk_at "st") => `(tactic| first | assumption | exact SqT.of (by walk_at "hf") | fail)
local macro_rules | `(tactic| walk_at "sz") => `(tactic| first | assumption | (refine small_le ?_; first | assumption | omega | (simp; done) | (simp; omega)) | fail)
/-! ### wishes that are drawn -/
def RowOk (names : List Str) (p : Str) (row : List Str) : Prop := row.Nodup ∧ p ∉ row ∧ ∀ q ∈ row, q ∈ names
theorem RowOk.perm {names row row' : List Str} {p : Str} (h : RowOk names p row) (e : row'.Perm row) : RowOk names p row' := ⟨e.nodup_iff.mpr h.1, fun m => h.2.1 (e.mem_iff.mp m), fun q m => h.2.2 q (e.mem_iff.mp m)⟩
theorem RowOk.take {names row : List Str} {p : Str} (h : RowOk names p row) (n : Nat) : RowOk names p (row.take n) := ⟨h.1.sublist (List.take_sublist n row), fun m => h.2.1 (List.mem_of_mem_take m), fun q m => h.2.2 q (List.mem_of_mem_take m)⟩
theorem RowOk.len {names row : List Str} {p : Str} (h : RowOk names p row) : row.length ≤ names.length := nodup_len h.1 h.2.2
theorem rowOk_rot {names ord : List Str} {i : Nat} {x : Str} (pe : ord.Perm names) (nd : ord.Nodup) (e : ord[i]? = some x) : RowOk names x (ord.drop (i + 1) ++ ord.take i) := by
  have hi : i < ord.length := (List.getElem?_eq_some_iff.mp e).1
  have e1 : ord = ord.take i ++ (x :: ord.drop (i + 1)) := by
    have h1 := (List.take_append_drop i ord).symm
    rw [List.drop_eq_getElem_cons hi, (List.getElem?_eq_some_iff.mp e).2] at h1
    exact h1
  have nd1 : (ord.take i ++ (x :: ord.drop (i + 1))).Nodup := by rw [← e1]; exact nd
  rw [List.nodup_append] at nd1
  obtain ⟨n1, n2, n3⟩ := nd1
  rw [List.nodup_cons] at n2
  refine ⟨?_, fun m => ?_, fun q m => ?_⟩
  · rw [List.nodup_append]
    exact ⟨n2.2, n1, fun a ha b hb z => n3 b hb a (List.mem_cons_of_mem _ ha) z.symm⟩
  · rcases List.mem_append.mp m with z | z
    · exact n2.1 z
    · exact n3 x z x List.mem_cons_self rfl
  · refine pe.mem_iff.mp ?_
    rcases List.mem_append.mp m with z | z
    · exact List.mem_of_mem_drop z
    · exact List.mem_of_mem_take z
theorem rowOk_filter {names ord : List Str} {x : Str} (pe : ord.Perm names) (nd : ord.Nodup) : RowOk names x (ord.filter fun y => !decide (y = x)) :=
  ⟨nd.filter _, fun m => by simpa using (List.mem_filter.mp m).2, fun q m => pe.mem_iff.mp (List.mem_filter.mp m).1⟩
def WRows (B : Hp) (names done : List Str) (kvs : List (Key × V)) : Prop := ∃ al : List Addr, al.length = done.length ∧ kvs = zipK done al ∧ ∀ (j : Nat) p a, done[j]? = some p → al[j]? = some a → ∃ row : List Str, B a = some (.lst (row.map V.str)) ∧ RowOk names p row
theorem WRows.nil {B : Hp} {names : List Str} : WRows B names [] [] := ⟨[], rfl, rfl, by simp⟩
theorem WRows.mono {B B' : Hp} {names done : List Str} {kvs : List (Key × V)} (s : Same B B') (h : WRows B names done kvs) : WRows B' names done kvs := by
  obtain ⟨al, h1, h2, h3⟩ := h
  refine ⟨al, h1, h2, fun j p a e1 e2 => ?_⟩
  obtain ⟨row, q1, q2⟩ := h3 j p a e1 e2
  exact ⟨row, s _ _ q1, q2⟩
theorem WRows.len {B : Hp} {names done : List Str} {kvs : List (Key × V)} (h : WRows B names done kvs) : kvs.length = done.length := by
  obtain ⟨al, h1, h2, h3⟩ := h
  rw [h2]
  unfold zipK
  rw [List.length_map, List.length_zip, h1, Nat.min_self]
theorem WRows.keys {B : Hp} {names done : List Str} {kvs : List (Key × V)} (h : WRows B names done kvs) : kvs.map (·.1) = done.map Sum.inr := by
  obtain ⟨al, h1, h2, h3⟩ := h
  rw [h2]
  exact zipK_keys h1
theorem WRows.snoc {B : Hp} {names done : List Str} {kvs : List (Key × V)} {x : Str} {a : Addr} {row : List Str} (h : WRows B names done kvs) (hx : x ∉ done) (e : B a = some (.lst (row.map V.str))) (ok : RowOk names x row) : WRows B names (done ++ [x]) (putK kvs (.inr x) (.ref a)) := by
  have hk := h.keys
  obtain ⟨al, h1, h2, h3⟩ := h
  refine ⟨al ++ [a], by simp [h1], ?_, fun j p b e1 e2 => ?_⟩
  · rw [putK_new (valV_none_keys ?_), h2, zipK_snoc h1]
    rw [hk]
    intro z
    obtain ⟨y, hy, q⟩ := List.mem_map.mp z
    have := Sum.inr.inj q
    subst this
    exact hx hy
  · by_cases hj : j < done.length
    · rw [List.getElem?_append_left hj] at e1
      rw [List.getElem?_append_left (by omega)] at e2
      exact h3 j p b e1 e2
    · rw [List.getElem?_append_right (by omega)] at e1 e2
      have hj0 : j - done.length = 0 := by
        by_cases z : j - done.length = 0
        · exact z
        · rw [List.getElem?_eq_none (by simp; omega)] at e1; cases e1
      rw [h1] at e2
      rw [hj0] at e1 e2
      cases e1
      cases e2
      exact ⟨row, e, ok⟩
theorem zipK_over {x : Str} {a : Addr} : ∀ {xs : List Str} {al : List Addr} {j : Nat}, al.length = xs.length → xs.Nodup → xs[j]? = some x → (zipK xs al).map (fun q => if q.1 = (Sum.inr x : Key) then (q.1, V.ref a) else q) = zipK xs (al.set j a)
  | [], _, _, _, _, e => by simp at e
  | y :: r, [], _, h, _, _ => by simp at h
  | y :: r, b :: al, 0, h, nd, e => by
    have e : y = x := by simpa using e
    subst e
    rw [List.nodup_cons] at nd
    show (if (Sum.inr y : Key) = Sum.inr y then ((Sum.inr y : Key), V.ref a) else ((Sum.inr y : Key), V.ref b)) :: (zipK r al).map _ = _
    rw [if_pos rfl]
    show _ = (Sum.inr y, V.ref a) :: zipK r al
    congr 1
    have : ∀ q ∈ zipK r al, (if q.1 = (Sum.inr y : Key) then (q.1, V.ref a) else q) = q := fun q m => by
      unfold zipK at m
      obtain ⟨z, hz, rfl⟩ := List.mem_map.mp m
      have : z.1 ∈ r := (List.of_mem_zip hz).1
      rw [if_neg (fun e => nd.1 (by rw [← Sum.inr.inj e]; exact this))]
    rw [List.map_congr_left this]
    simp
  | y :: r, b :: al, j + 1, h, nd, e => by
    rw [List.nodup_cons] at nd
    have e : r[j]? = some x := by simpa using e
    have hxy : ¬ (Sum.inr y : Key) = Sum.inr x := fun z => nd.1 (by rw [Sum.inr.inj z]; exact List.mem_of_getElem? e)
    show (if (Sum.inr y : Key) = Sum.inr x then ((Sum.inr y : Key), V.ref a) else ((Sum.inr y : Key), V.ref b)) :: (zipK r al).map _ = (Sum.inr y, V.ref b) :: zipK r (al.set j a)
    rw [if_neg hxy, zipK_over (by simpa using h) nd.2 e]
theorem WRows.over {B : Hp} {names done : List Str} {kvs : List (Key × V)} {x : Str} {a : Addr} {row : List Str} (h : WRows B names done kvs) (nd : done.Nodup) (hx : x ∈ done) (e : B a = some (.lst (row.map V.str))) (ok : RowOk names x row) : WRows B names done (putK kvs (.inr x) (.ref a)) := by
  obtain ⟨al, h1, h2, h3⟩ := h
  obtain ⟨j, hj, ej⟩ := List.getElem_of_mem hx
  have ej : done[j]? = some x := by rw [List.getElem?_eq_getElem hj, ej]
  obtain ⟨_, _, _, _, hv⟩ := zipK_val h1 nd hx
  refine ⟨al.set j a, by simp [h1], ?_, fun i p b e1 e2 => ?_⟩
  · rw [h2]
    unfold putK
    rw [valV_any, hv]
    exact zipK_over (a := a) h1 nd ej
  · by_cases hij : j = i
    · subst hij
      rw [ej] at e1
      cases e1
      rw [List.getElem?_set_self (by omega)] at e2
      cases e2
      exact ⟨row, e, ok⟩
    · rw [List.getElem?_set_ne hij] at e2
      exact h3 i p b e1 e2
abbrev N__law_plain_wishes : List Str := ["_law_state", "_law_names_here", "_law_mode", "_law_order", "_law_wishes_here", "_law_k", "_law_others_here", "_law_b"]
def t__law_plain_wishes (K : PySem.W.Frag) (E : XK) : TS := (tSeq (tAsg (tCl (sp__law_mixed K) (WE0 E) (tCons (tVar 0) (tCons (tVar 1) tNil))) (gName 3))
  (tSeq (tAsg tDNewK (gName 4))
  (tSeq (tFor (iRng1 (tCons (tCB (rLenA K) (tCons (tVar 3) tNil)) tNil)) (gName 5) (tSeq (tAsg (tOp rCat (tSl (rSlL K) (tVar 3) (tPart (tOp rAddI (tVar 5) (tC (.int 1)))) tNoPart) (tSl (rSlL K) (tVar 3) tNoPart (tPart (tVar 5)))) (gName 6))
  (tSeq (tIfS (tTest (tOp rEq (tVar 2) (tC (.int 1)))) (tAsg (tLc (iList K (tVar 3)) (gName 7) (tTest (tOp rNe (tVar 7) (tOp (rIxL K) (tVar 3) (tVar 5)))) (tVar 7) [7]) (gName 6)) tNext)
  (tSeq (tIfS (tTest (tOp rGtI (tVar 2) (tC (.int 1)))) (tAsg (tCl (sp__law_mixed K) (WE0 E) (tCons (tVar 0) (tCons (tVar 6) tNil))) (gName 6)) tNext)
  (tSeq (tIfS (tTest (tOp rEq (tVar 2) (tC (.int 3)))) (tAsg (tSl (rSlL K) (tVar 6) tNoPart (tPart (tCl (sp__law_take K) (WE0 E) (tCons (tVar 0) (tCons (tOp rAddI (tCB (rLenA K) (tCons (tVar 6) tNil)) (tC (.int 1))) tNil))))) (gName 6)) tNext)
  (tSeq (tIfS (tTest (tOp rEq (tVar 2) (tC (.int 4)))) (tAsg (tSl (rSlL K) (tVar 6) tNoPart (tPart (tCl (sp__law_take K) (WE0 E) (tCons (tVar 0) (tCons (tC (.int 4)) tNil))))) (gName 6)) tNext)
  (sDPut (tVar 4) (tOp (rIxL K) (tVar 3) (tVar 5)) (tVar 6))))))))
  (tRet (tVar 4)))))
def spW (p t : Addr) (H : Hp) (Q : VK) : Prop := ∃ (a b : Int) (xs : List Str) (B : Hp), Same B H ∧ B p = none ∧ H p = some (stO a b) ∧ VSt a b ∧ B t = some (.lst (xs.map V.str)) ∧ xs.length ≤ 25 ∧ xs.Nodup ∧
  ∀ B' H' a' b' w kvs done, HS [p] B H B' H' [(p, stO a' b'), (w, .dK kvs)] → VSt a' b' → done.Perm xs → WRows B' xs done kvs → Q (.ref w) H'
theorem use_W {B0 H0 B H : Hp} {M : List (Addr × HO)} {S : List Addr} {Q : VK} {p t : Addr} {a b : Int} {xs : List Str} (hs : HS S B0 H0 B H ((p, stO a b) :: M)) (v : VSt a b) (ht : B t = some (.lst (xs.map V.str))) (hl : xs.length ≤ 25) (nd : xs.Nodup)
    (k : ∀ B' H' a' b' w kvs done, Same B B' → HS S B0 H0 B' H' ((p, stO a' b') :: (w, .dK kvs) :: M) → VSt a' b' → done.Perm xs → WRows B' xs done kvs → Q (.ref w) H') : spW p t H Q :=
  ⟨a, b, xs, B, hs.bh, (hs.mu _ List.mem_cons_self).1, hs.get List.mem_cons_self, v, ht, hl, nd, fun B' H' a' b' w kvs done c v' h1 h2 => k B' H' a' b' w kvs done c.bb (hs.call1N c) v' h1 h2⟩
def sp__law_plain_wishes (K : PySem.W.Frag) : Sp := fun vs H Q E => ∃ (p t : Addr) (m : Int), vs = [.ref p, .ref t, .int m] ∧ spW p t H Q
theorem take_snoc {α : Type} {l : List α} {i : Nat} {x : α} (h : l[i]? = some x) : l.take (i + 1) = l.take i ++ [x] := by rw [List.take_succ, h]; rfl
theorem notin_take {l : List Str} {i : Nat} {x : Str} (nd : l.Nodup) (h : l[i]? = some x) : x ∉ l.take i := fun m => by
  obtain ⟨j, hj, e⟩ := List.mem_take_iff_getElem.mp m
  have h1 : l[j]? = some x := by rw [← e]; simp
  have := nodup_ix nd h1 h
  omega
theorem pure__law_plain_wishes {K : PySem.W.Frag} {vs : List V} {H : Hp} {Q : VK} {E : XK} (h : sp__law_plain_wishes K vs H Q E) : t__law_plain_wishes K E { nx := fun _ H' => Q .non H', rt := Q } (start N__law_plain_wishes vs) H := by
  obtain ⟨p, t, mo, rfl, a, b, xs, B, sB, bp, hp, hv, ht, hl, nd, k⟩ := h
  have hs := HS.startS sB bp hp
  show t__law_plain_wishes K E _ [some (.ref p), some (.ref t), some (.int mo), none, none, none, none, none] H
  unfold t__law_plain_wishes
  ((with_reducible refine x_seq ?_); (with_reducible refine x_asg ?_); (with_reducible refine x_cl ?_); (with_reducible refine x_cons ?_); ((with_reducible refine' x_var ?z5h ?_); case z5h => rfl); (with_reducible refine x_cons ?_); ((with_reducible refine' x_var ?z7h ?_); case z7h => rfl); (with_reducible refine x_nil ?_))
  refine use_mixedF hs hv ht (by omega) (fun B1 H1 a1 b1 o ord sb1 hs1 eo hv1 pe => ?_)
  have ndo : ord.Nodup := pe.nodup_iff.mpr nd
  have hol : ord.length = xs.length := pe.length_eq
  (((with_reducible refine x_gname ?_); try simp only [List.set_cons_zero, List.set_cons_succ]); (with_reducible refine x_seq ?_); (with_reducible refine x_asg ?_); (with_reducible refine x_dnew ?_))
  refine new_M hs1 (fun w H2 hs2 _ => ?_)
  (((with_reducible refine x_gname ?_); try simp only [List.set_cons_zero, List.set_cons_succ]); (with_reducible refine x_seq ?_); (with_reducible refine x_for ?_); (with_reducible refine x_iRng1 ?_); (with_reducible refine x_cons ?_); (with_reducible refine x_cb ?_); (with_reducible refine x_cons ?_); ((with_reducible refine' x_var ?z20h ?_); case z20h => rfl); (with_reducible refine x_nil ?_); ((with_reducible refine' x_lenL ?z22h ?_); case z22h => walk_at "sl"); (with_reducible refine x_nil ?_))
  refine ⟨_, rfl, by rw [List.length_map]; omega, by rw [List.length_map]; omega, ?_⟩
  have en : (((ord.map V.str).length : Nat) : Int).toNat = ord.length := by rw [List.length_map]; omega
  rw [en]
  refine l_range (α := (Int × Int) × List (Key × V) × Option V × Option V) (σf := fun s => [some (.ref p), some (.ref t), some (.int mo), some (.ref o), some (.ref w), s.2.2.1, s.2.2.2, none]) (Mf := fun s => [(p, stO s.1.1 s.1.2), (w, .dK s.2.1)])
    (P := fun i s B1 => VSt s.1.1 s.1.2 ∧ WRows B1 xs (ord.take i) s.2.1) (s0 := ((a1, b1), [], none, none)) hs2.swap ⟨hv1, .nil⟩ (fun i s B3 H3 hi sb3 hs3 pp => ?_) (fun s B3 H3 sb3 hs3 pp => ?_)
  · obtain ⟨⟨a3, b3⟩, kvs, s3, s4⟩ := s
    obtain ⟨hv3, hw3⟩ := pp
    dsimp only at hs3 hv3 hw3 ⊢
    rw [Int.zero_add]
    have hx : ord[i]? = some ord[i] := List.getElem?_eq_getElem hi
    generalize hxe : ord[i] = x at hx
    have hat : atI (ord.map V.str) (i : Int) = some (.str x) := by
      rw [atI_nat (by rw [List.length_map]; exact hi)]
      simp [hxe]
    have eo3 := sb3 _ _ eo
    have rot := rowOk_rot pe ndo hx
    (((with_reducible refine x_gname ?_); try simp only [List.set_cons_zero, List.set_cons_succ]); (with_reducible refine x_seq ?_); (with_reducible refine x_asg ?_); (with_reducible refine x_op ?_); (with_reducible refine x_sl ?_); ((with_reducible refine' x_var ?z29h ?_); case z29h => rfl); (with_reducible refine x_part ?_); (with_reducible refine x_op ?_); ((with_reducible refine' x_var ?z32h ?_); case z32h => rfl); (with_reducible refine x_c ?_); (with_reducible refine x_addI ?_); (with_reducible refine x_exi ?_); (with_reducible refine x_noPart ?_); ((with_reducible refine' x_slL ?z37h ?_); case z37h => walk_at "sl"))
    rw [cutV_fromS (i := i + 1) (by omega)]
    refine new_F hs3 (fun r1 B4 H4 hs4 sb4 e1 _ => ?_)
    ((with_reducible refine x_sl ?_); ((with_reducible refine' x_var ?z39h ?_); case z39h => rfl); (with_reducible refine x_noPart ?_); (with_reducible refine x_part ?_); ((with_reducible refine' x_var ?z42h ?_); case z42h => rfl); (with_reducible refine x_exi ?_); ((with_reducible refine' x_slL ?z44h ?_); case z44h => walk_at "sl"))
    try refine x_slL (SqL.of (hs4.up (sb4 _ _ eo3))) ?_
    rw [cutV_toS (i := i) rfl]
    refine new_F hs4 (fun r2 B5 H5 hs5 sb5 e2 _ => ?_)
    refine x_cat (hs5.up (sb5 _ _ e1)) (hs5.up e2) (by simp; omega) ?_
    rw [← List.map_append]
    refine new_F hs5 (fun r3 B6 H6 hs6 sb6 e3 _ => ?_)
    ((with_reducible refine x_gname ?_); try simp only [List.set_cons_zero, List.set_cons_succ])
    let I : L2.St → Hp → Prop := fun σ H' => ∃ a' b' B' r row, HS [p] B H B' H' [(p, stO a' b'), (w, .dK kvs)] ∧ VSt a' b' ∧ Same B3 B' ∧ B' r = some (.lst (row.map V.str)) ∧ RowOk xs x row ∧
      σ = [some (.ref p), some (.ref t), some (.int mo), some (.ref o), some (.ref w), some (.int (i : Nat)), some (.ref r), none]
    have base : I [some (.ref p), some (.ref t), some (.int mo), some (.ref o), some (.ref w), some (.int (i : Nat)), some (.ref r3), none] H6 := ⟨a3, b3, B6, r3, _, hs6, hv3, (sb4.trans sb5).trans sb6, e3, rot, rfl⟩
    refine x_join (I := I) ?_ (fun R hR => ?_)
    case refine_2 =>
      ((with_reducible refine x_if ?_); (with_reducible refine x_test ?_); (with_reducible refine x_op ?_); ((with_reducible refine' x_var ?z49h ?_); case z49h => rfl); (with_reducible refine x_c ?_); ((with_reducible refine' x_eq ?z51h ?_); case z51h => rfl); (with_reducible refine x_exb ?_))
      refine x_ite (fun h => ?_) (fun h => ?_)
      · ((with_reducible refine x_asg ?_); (with_reducible refine x_lc ?_); (with_reducible refine x_iList ?_); ((with_reducible refine' x_var ?z56h ?_); case z56h => rfl))
        refine ⟨o, rfl, ⟨_, SqL.of (hs6.up (sb6 _ _ (sb5 _ _ (sb4 _ _ eo3))))⟩, fun D hD => ?_⟩
        refine c_list (α := Unit) (Mf := fun _ => [(p, stO a3 b3), (w, .dK kvs)]) (P := fun i _ acc _ => acc = ((ord.take i).filter fun y => !decide (y = x)).map V.str) (s0 := ()) hs6 hD (sb6 _ _ (sb5 _ _ (sb4 _ _ eo3))) rfl (fun j y _ acc B7 H7 hj hacc sb7 hs7 pp => ?_) (fun _ acc B7 H7 sb7 hs7 hacc pp => ?_)
        · obtain ⟨y, hy, rfl⟩ := strs_get hj
          have hjl : j < ord.length := (List.getElem?_eq_some_iff.mp hy).1
          have eo7 := sb7 _ _ (sb6 _ _ (sb5 _ _ (sb4 _ _ eo3)))
          ((with_reducible refine x_gname ?_); try simp only [List.set_cons_zero, List.set_cons_succ])
          refine ⟨rfl, ?_⟩
          ((with_reducible refine x_test ?_); (with_reducible refine x_op ?_); ((with_reducible refine' x_var ?z60h ?_); case z60h => rfl); (with_reducible refine x_op ?_); ((with_reducible refine' x_var ?z62h ?_); case z62h => rfl); ((with_reducible refine' x_var ?z63h ?_); case z63h => rfl); ((with_reducible refine' x_ixL ?z64h ?z64h2 ?_); (case z64h => walk_at "sl"); (case z64h2 => first | rfl | assumption)); ((with_reducible refine' x_ne ?z65h ?_); case z65h => rfl); (with_reducible refine x_exb ?_))
          have e : decide (V.str y = V.str x) = decide (y = x) := by simp
          rw [e]
          refine x_ite (fun h => ?_) (fun h => ?_)
          · ((with_reducible refine' x_var ?z67h ?_); case z67h => rfl)
            refine c_keep (s := ()) sb7 hs7 hacc (by omega) ?_
            rw [filter_take _ hy, if_pos h, pp]
            simp
          · refine c_left (s := ()) sb7 hs7 hacc ?_
            rw [filter_take _ hy, if_neg (by rw [h]; decide), pp]
        · rw [List.length_map, List.take_length] at pp
          subst pp
          obtain ⟨hs8, sb8⟩ := hs7.still (by simpa using hs7.ne01)
          exact hR _ _ ⟨a3, b3, _, D, _, hs8, hv3, ((((sb4.trans sb5).trans sb6).trans sb7).trans sb8), upd_same, rowOk_filter pe ndo, rfl⟩
      · (with_reducible refine x_next ?_)
        exact hR _ _ base
    rintro σ H7 ⟨a7, b7, B7, r, row, hs7, hv7, sb7, er, ok7, rfl⟩
    refine x_join (I := I) ?_ (fun R hR => ?_)
    case refine_2 =>
      ((with_reducible refine x_if ?_); (with_reducible refine x_test ?_); (with_reducible refine x_op ?_); ((with_reducible refine' x_var ?z72h ?_); case z72h => rfl); (with_reducible refine x_c ?_); (with_reducible refine x_gtI ?_); (with_reducible refine x_exb ?_))
      refine x_ite (fun h => ?_) (fun h => ?_)
      · ((with_reducible refine x_asg ?_); (with_reducible refine x_cl ?_); (with_reducible refine x_cons ?_); ((with_reducible refine' x_var ?z79h ?_); case z79h => rfl); (with_reducible refine x_cons ?_); ((with_reducible refine' x_var ?z81h ?_); case z81h => rfl); (with_reducible refine x_nil ?_))
        refine use_mixedF hs7 hv7 er (by have := ok7.len; omega) (fun B8 H8 a8 b8 l ys sb8 hs8 el hv8 pe8 => ?_)
        exact hR _ _ ⟨a8, b8, B8, l, ys, hs8, hv8, sb7.trans sb8, el, ok7.perm pe8, rfl⟩
      · (with_reducible refine x_next ?_)
        exact hR _ _ ⟨a7, b7, B7, r, row, hs7, hv7, sb7, er, ok7, rfl⟩
    clear er ok7 hs7 base
    clear sb7
    rintro σ H7 ⟨a7, b7, B7, r, row, hs7, hv7, sb7, er, ok7, rfl⟩
    refine x_join (I := I) ?_ (fun R hR => ?_)
    case refine_2 =>
      ((with_reducible refine x_if ?_); (with_reducible refine x_test ?_); (with_reducible refine x_op ?_); ((with_reducible refine' x_var ?z87h ?_); case z87h => rfl); (with_reducible refine x_c ?_); ((with_reducible refine' x_eq ?z89h ?_); case z89h => rfl); (with_reducible refine x_exb ?_))
      refine x_ite (fun h => ?_) (fun h => ?_)
      · ((with_reducible refine x_asg ?_); (with_reducible refine x_sl ?_); ((with_reducible refine' x_var ?z93h ?_); case z93h => rfl); (with_reducible refine x_noPart ?_); (with_reducible refine x_part ?_); (with_reducible refine x_cl ?_); (with_reducible refine x_cons ?_); ((with_reducible refine' x_var ?z98h ?_); case z98h => rfl); (with_reducible refine x_cons ?_); (with_reducible refine x_op ?_); (with_reducible refine x_cb ?_); (with_reducible refine x_cons ?_); ((with_reducible refine' x_var ?z103h ?_); case z103h => rfl); (with_reducible refine x_nil ?_); ((with_reducible refine' x_lenL ?z105h ?_); case z105h => walk_at "sl"); (with_reducible refine x_c ?_); (with_reducible refine x_addI ?_); (with_reducible refine x_nil ?_))
        refine use_take hs7 hv7 (by omega) (by have := ok7.len; rw [List.length_map]; omega) (fun B8 H8 a8 b8 m sb8 hs8 hv8 hm => ?_)
        ((with_reducible refine x_exi ?_); ((with_reducible refine' x_slL ?z110h ?_); case z110h => walk_at "sl"))
        try refine x_slL (SqL.of (hs8.up (sb8 _ _ er))) ?_
        rw [cutV_toS (i := m) rfl]
        refine new_F hs8 (fun r2 B9 H9 hs9 sb9 e2 _ => ?_)
        exact hR _ _ ⟨a8, b8, B9, r2, _, hs9, hv8, (sb7.trans sb8).trans sb9, e2, ok7.take m, rfl⟩
      · (with_reducible refine x_next ?_)
        exact hR _ _ ⟨a7, b7, B7, r, row, hs7, hv7, sb7, er, ok7, rfl⟩
    clear er ok7 hs7
    clear sb7
    rintro σ H7 ⟨a7, b7, B7, r, row, hs7, hv7, sb7, er, ok7, rfl⟩
    refine x_join (I := I) ?_ (fun R hR => ?_)
    case refine_2 =>
      ((with_reducible refine x_if ?_); (with_reducible refine x_test ?_); (with_reducible refine x_op ?_); ((with_reducible refine' x_var ?z115h ?_); case z115h => rfl); (with_reducible refine x_c ?_); ((with_reducible refine' x_eq ?z117h ?_); case z117h => rfl); (with_reducible refine x_exb ?_))
      refine x_ite (fun h => ?_) (fun h => ?_)
      · ((with_reducible refine x_asg ?_); (with_reducible refine x_sl ?_); ((with_reducible refine' x_var ?z121h ?_); case z121h => rfl); (with_reducible refine x_noPart ?_); (with_reducible refine x_part ?_); (with_reducible refine x_cl ?_); (with_reducible refine x_cons ?_); ((with_reducible refine' x_var ?z126h ?_); case z126h => rfl); (with_reducible refine x_cons ?_); (with_reducible refine x_c ?_); (with_reducible refine x_nil ?_))
        refine use_take hs7 hv7 (by decide) (by decide) (fun B8 H8 a8 b8 m sb8 hs8 hv8 hm => ?_)
        ((with_reducible refine x_exi ?_); ((with_reducible refine' x_slL ?z131h ?_); case z131h => walk_at "sl"))
        try refine x_slL (SqL.of (hs8.up (sb8 _ _ er))) ?_
        rw [cutV_toS (i := m) rfl]
        refine new_F hs8 (fun r2 B9 H9 hs9 sb9 e2 _ => ?_)
        exact hR _ _ ⟨a8, b8, B9, r2, _, hs9, hv8, (sb7.trans sb8).trans sb9, e2, ok7.take m, rfl⟩
      · (with_reducible refine x_next ?_)
        exact hR _ _ ⟨a7, b7, B7, r, row, hs7, hv7, sb7, er, ok7, rfl⟩
    clear er ok7 hs7
    clear sb7
    rintro σ H7 ⟨a7, b7, B7, r, row, hs7, hv7, sb7, er, ok7, rfl⟩
    have eo7 := sb7 _ _ eo3
    ((with_reducible refine x_dputU ?_); ((with_reducible refine' x_var ?z134h ?_); case z134h => rfl); ((with_reducible refine' x_var ?z135h ?_); case z135h => rfl); (with_reducible refine x_op ?_); ((with_reducible refine' x_var ?z137h ?_); case z137h => rfl); ((with_reducible refine' x_var ?z138h ?_); case z138h => rfl); ((with_reducible refine' x_ixL ?z139h ?z139h2 ?_); (case z139h => walk_at "sl"); (case z139h2 => first | rfl | assumption)))
    have hwl := hw3.len
    rw [List.length_take] at hwl
    refine x_dput hs7.swap (by omega) (fun H8 hs8 => ?_)
    refine ⟨((a7, b7), putK kvs (.inr x) (.ref r), some _, some _), B7, rfl, sb3.trans sb7, hs8.swap, hv7, ?_⟩
    dsimp only
    rw [take_snoc hx]
    exact (hw3.mono sb7).snoc (notin_take ndo hx) er ok7
  · obtain ⟨⟨a3, b3⟩, kvs, s3, s4⟩ := s
    obtain ⟨hv3, hw3⟩ := pp
    rw [List.take_length] at hw3
    ((with_reducible refine x_ret ?_); ((with_reducible refine' x_var ?z141h ?_); case z141h => rfl))
    exact k B3 H3 a3 b3 w kvs ord hs3 hv3 pe hw3
end Q

set_option Elab.async false
set_option linter.all false
set_option maxRecDepth 100000
set_option maxHeartbeats 4000000
namespace Q
open PySem PySem.Spec PyProof.Rows L2
local macro_rules | `(tactic| walk_at "bf") => `(tactic| first | assumption | (refine' bstep (by assumption) ?r; case r => walk_at "bf") | fail)
local macro_rules | `(tactic| walk_at "rp") => `(tactic| first | assumption | exact Rep.int _ | exact Rep.bl _ | exact Rep.non | (refine' Rep.mono (by assumption) ?r; case r => walk_at "rp") | fail)
local macro_rules | `(tactic| walk_at "hf") => `(tactic| first | assumption | exact HS.up (by assumption) (by walk_at "bf") | exact HS.get (by assumption) List.mem_cons_self | exact HS.get (by assumption) (List.mem_cons_of_mem _ List.mem_cons_self) | exact HS.get (by assumption) (List.mem_cons_of_mem _ (List.mem_cons_of_mem _ List.mem_cons_self)) | exact HS.get (by assumption) (List.mem_cons_of_mem _ (List.mem_cons_of_mem _ (List.mem_cons_of_mem _ List.mem_cons_self))) | fail)
local macro_rules | `(tactic| walk_at "sl") => `(tactic| first | assumption | exact SqL.of (by walk_at "hf") | fail)
local macro_rules | `(tactic| walk_at "st") => `(tactic| first | assumption | exact SqT.of (by walk_at "hf") | fail)
local macro_rules | `(tactic| walk_at "sz") => `(tactic| first | assumption | (refine small_le ?_; first | assumption | omega | (simp; done) | (simp; omega)) | fail)
/-! ### wishes of two sides, of blocks -/
abbrev N__law_side_wishes : List Str := ["_law_state", "_law_names_here", "_law_order", "_law_left", "_law_right", "_law_turned", "_law_wishes_here", "_law_k"]
def t__law_side_wishes (K : PySem.W.Frag) (E : XK) : TS := (tSeq (tAsg (tCl (sp__law_mixed K) (WE0 E) (tCons (tVar 0) (tCons (tVar 1) tNil))) (gName 2))
  (tSeq (tAsg (tSl (rSlL K) (tVar 2) tNoPart (tPart (tOp rDivI (tCB (rLenA K) (tCons (tVar 2) tNil)) (tC (.int 2))))) (gName 3))
  (tSeq (tAsg (tSl (rSlL K) (tVar 2) (tPart (tOp rDivI (tCB (rLenA K) (tCons (tVar 2) tNil)) (tC (.int 2)))) tNoPart) (gName 4))
  (tSeq (tAsg (tCl (sp__law_take K) (WE0 E) (tCons (tVar 0) (tCons (tC (.int 2)) tNil))) (gName 5))
  (tSeq (tAsg tDNewK (gName 6))
  (tSeq (tFor (iRng1 (tCons (tCB (rLenA K) (tCons (tVar 3) tNil)) tNil)) (gName 7) (tSeq (sDPut (tVar 6) (tOp (rIxL K) (tVar 3) (tVar 7)) (tOp rCat (tSl (rSlL K) (tVar 4) (tPart (tVar 7)) tNoPart) (tSl (rSlL K) (tVar 4) tNoPart (tPart (tVar 7)))))
  (tIfS (tTest (tOp rEq (tVar 5) (tC (.int 0)))) (sDPut (tVar 6) (tOp (rIxL K) (tVar 3) (tVar 7)) (tCl (sp__law_mixed K) (WE0 E) (tCons (tVar 0) (tCons (tVar 4) tNil)))) tNext)))
  (tSeq (tFor (iRng1 (tCons (tCB (rLenA K) (tCons (tVar 4) tNil)) tNil)) (gName 7) (tSeq (sDPut (tVar 6) (tOp (rIxL K) (tVar 4) (tVar 7)) (tOp rCat (tSl (rSlL K) (tVar 3) (tPart (tOp rAddI (tVar 7) (tC (.int 1)))) tNoPart) (tSl (rSlL K) (tVar 3) tNoPart (tPart (tOp rAddI (tVar 7) (tC (.int 1)))))))
  (tIfS (tTest (tOp rEq (tVar 5) (tC (.int 0)))) (sDPut (tVar 6) (tOp (rIxL K) (tVar 4) (tVar 7)) (tCl (sp__law_mixed K) (WE0 E) (tCons (tVar 0) (tCons (tVar 3) tNil)))) tNext)))
  (tRet (tVar 6)))))))))
def sp__law_side_wishes (K : PySem.W.Frag) : Sp := fun vs H Q E => ∃ (p t : Addr), vs = [.ref p, .ref t] ∧ spW p t H Q
theorem RowOk.of_perm {names side row : List Str} {x : Str} (nd : side.Nodup) (hx : x ∉ side) (hn : ∀ q ∈ side, q ∈ names) (pe : row.Perm side) : RowOk names x row :=
  ⟨pe.nodup_iff.mpr nd, fun m => hx (pe.mem_iff.mp m), fun q m => hn q (pe.mem_iff.mp m)⟩
theorem perm_rot {α : Type} (l : List α) (i : Nat) : (l.drop i ++ l.take i).Perm l := List.perm_append_comm.trans (by rw [List.take_append_drop])
theorem atI_str {xs : List Str} {i : Nat} {x : Str} (h : xs[i]? = some x) : atI (xs.map V.str) (i : Int) = some (.str x) := by
  have hi : i < xs.length := (List.getElem?_eq_some_iff.mp h).1
  rw [atI_nat (by rw [List.length_map]; exact hi)]
  simp [(List.getElem?_eq_some_iff.mp h).2]
theorem pure__law_side_wishes {K : PySem.W.Frag} {vs : List V} {H : Hp} {Q : VK} {E : XK} (h : sp__law_side_wishes K vs H Q E) : t__law_side_wishes K E { nx := fun _ H' => Q .non H', rt := Q } (start N__law_side_wishes vs) H := by
  obtain ⟨p, t, rfl, a, b, xs, B, sB, bp, hp, hv, ht, hl, nd, k⟩ := h
  have hs := HS.startS sB bp hp
  show t__law_side_wishes K E _ [some (.ref p), some (.ref t), none, none, none, none, none, none] H
  unfold t__law_side_wishes
  ((with_reducible refine x_seq ?_); (with_reducible refine x_asg ?_); (with_reducible refine x_cl ?_); (with_reducible refine x_cons ?_); ((with_reducible refine' x_var ?z5h ?_); case z5h => rfl); (with_reducible refine x_cons ?_); ((with_reducible refine' x_var ?z7h ?_); case z7h => rfl); (with_reducible refine x_nil ?_))
  refine use_mixedF hs hv ht (by omega) (fun B1 H1 a1 b1 o ord sb1 hs1 eo hv1 pe => ?_)
  have ndo : ord.Nodup := pe.nodup_iff.mpr nd
  have hol : ord.length = xs.length := pe.length_eq
  (((with_reducible refine x_gname ?_); try simp only [List.set_cons_zero, List.set_cons_succ]); (with_reducible refine x_seq ?_); (with_reducible refine x_asg ?_); (with_reducible refine x_sl ?_); ((with_reducible refine' x_var ?z13h ?_); case z13h => rfl); (with_reducible refine x_noPart ?_); (with_reducible refine x_part ?_); (with_reducible refine x_op ?_); (with_reducible refine x_cb ?_); (with_reducible refine x_cons ?_); ((with_reducible refine' x_var ?z19h ?_); case z19h => rfl); (with_reducible refine x_nil ?_); ((with_reducible refine' x_lenL ?z21h ?_); case z21h => walk_at "sl"); (with_reducible refine x_c ?_); ((with_reducible refine' x_divI ?z23h ?_); case z23h => first | exact ⟨by decide, by decide⟩ | exact ⟨by omega, by omega⟩); (with_reducible refine x_exi ?_); ((with_reducible refine' x_slL ?z25h ?_); case z25h => walk_at "sl"))
  try refine x_slL (SqL.of (hs1.up eo)) ?_
  rw [cutV_toS (i := ord.length / 2) (by rw [List.length_map]; omega)]
  refine new_F hs1 (fun lf B2 H2 hs2 sb2 el _ => ?_)
  have eo2 := sb2 _ _ eo
  (((with_reducible refine x_gname ?_); try simp only [List.set_cons_zero, List.set_cons_succ]); (with_reducible refine x_seq ?_); (with_reducible refine x_asg ?_); (with_reducible refine x_sl ?_); ((with_reducible refine' x_var ?z30h ?_); case z30h => rfl); (with_reducible refine x_part ?_); (with_reducible refine x_op ?_); (with_reducible refine x_cb ?_); (with_reducible refine x_cons ?_); ((with_reducible refine' x_var ?z35h ?_); case z35h => rfl); (with_reducible refine x_nil ?_); ((with_reducible refine' x_lenL ?z37h ?_); case z37h => walk_at "sl"); (with_reducible refine x_c ?_); ((with_reducible refine' x_divI ?z39h ?_); case z39h => first | exact ⟨by decide, by decide⟩ | exact ⟨by omega, by omega⟩); (with_reducible refine x_exi ?_); (with_reducible refine x_noPart ?_); ((with_reducible refine' x_slL ?z42h ?_); case z42h => walk_at "sl"))
  try refine x_slL (SqL.of (hs2.up eo2)) ?_
  rw [cutV_fromS (i := ord.length / 2) (by rw [List.length_map]; omega)]
  refine new_F hs2 (fun rt B3 H3 hs3 sb3 er _ => ?_)
  have el3 := sb3 _ _ el
  have hsplit := List.take_append_drop (ord.length / 2) ord
  generalize hL : ord.take (ord.length / 2) = left at el3 hsplit
  generalize hR : ord.drop (ord.length / 2) = right at er hsplit
  have ndlr : (left ++ right).Nodup := by rw [hsplit]; exact ndo
  have hll : left.length ≤ 25 := by rw [← hL, List.length_take]; omega
  have hrl : right.length ≤ 25 := by rw [← hR, List.length_drop]; omega
  have inx : ∀ q ∈ left ++ right, q ∈ xs := fun q m => pe.mem_iff.mp (by rw [← hsplit]; exact m)
  rw [List.nodup_append] at ndlr
  obtain ⟨ndl, ndr, dis⟩ := ndlr
  (((with_reducible refine x_gname ?_); try simp only [List.set_cons_zero, List.set_cons_succ]); (with_reducible refine x_seq ?_); (with_reducible refine x_asg ?_); (with_reducible refine x_cl ?_); (with_reducible refine x_cons ?_); ((with_reducible refine' x_var ?z48h ?_); case z48h => rfl); (with_reducible refine x_cons ?_); (with_reducible refine x_c ?_); (with_reducible refine x_nil ?_))
  refine use_take hs3 hv1 (by decide) (by decide) (fun B4 H4 a4 b4 tu sb4 hs4 hv4 _ => ?_)
  have el4 := sb4 _ _ el3
  have er4 := sb4 _ _ er
  (((with_reducible refine x_gname ?_); try simp only [List.set_cons_zero, List.set_cons_succ]); (with_reducible refine x_seq ?_); (with_reducible refine x_asg ?_); (with_reducible refine x_dnew ?_))
  refine new_M hs4 (fun w H5 hs5 _ => ?_)
  (((with_reducible refine x_gname ?_); try simp only [List.set_cons_zero, List.set_cons_succ]); (with_reducible refine x_seq ?_); (with_reducible refine x_for ?_); (with_reducible refine x_iRng1 ?_); (with_reducible refine x_cons ?_); (with_reducible refine x_cb ?_); (with_reducible refine x_cons ?_); ((with_reducible refine' x_var ?z63h ?_); case z63h => rfl); (with_reducible refine x_nil ?_); ((with_reducible refine' x_lenL ?z65h ?_); case z65h => walk_at "sl"); (with_reducible refine x_nil ?_))
  refine ⟨_, rfl, by rw [List.length_map]; omega, by rw [List.length_map]; omega, ?_⟩
  have en : (((left.map V.str).length : Nat) : Int).toNat = left.length := by rw [List.length_map]; omega
  rw [en]
  refine l_range (α := (Int × Int) × List (Key × V) × Option V) (σf := fun s => [some (.ref p), some (.ref t), some (.ref o), some (.ref lf), some (.ref rt), some (.int (tu : Nat)), some (.ref w), s.2.2]) (Mf := fun s => [(p, stO s.1.1 s.1.2), (w, .dK s.2.1)])
    (P := fun i s B1 => VSt s.1.1 s.1.2 ∧ WRows B1 xs (left.take i) s.2.1) (s0 := ((a4, b4), [], none)) hs5.swap ⟨hv4, .nil⟩ (fun i s B6 H6 hi sb6 hs6 pp => ?_) (fun s B6 H6 sb6 hs6 pp => ?_)
  · obtain ⟨⟨a6, b6⟩, kvs, s3⟩ := s
    obtain ⟨hv6, hw6⟩ := pp
    dsimp only at hs6 hv6 hw6 ⊢
    rw [Int.zero_add]
    have hx : left[i]? = some left[i] := List.getElem?_eq_getElem hi
    generalize left[i] = x at hx
    have hxm := List.mem_of_getElem? hx
    have hat := atI_str hx
    have hxr : x ∉ right := fun m => dis x hxm x m rfl
    have inr : ∀ q ∈ right, q ∈ xs := fun q m => inx q (List.mem_append_right _ m)
    have er6 := sb6 _ _ er4
    have el6 := sb6 _ _ el4
    have hwl := hw6.len
    rw [List.length_take] at hwl
    (((with_reducible refine x_gname ?_); try simp only [List.set_cons_zero, List.set_cons_succ]); (with_reducible refine x_seq ?_); (with_reducible refine x_dputU ?_); (with_reducible refine x_op ?_); (with_reducible refine x_sl ?_); ((with_reducible refine' x_var ?z72h ?_); case z72h => rfl); (with_reducible refine x_part ?_); ((with_reducible refine' x_var ?z74h ?_); case z74h => rfl); (with_reducible refine x_exi ?_); (with_reducible refine x_noPart ?_); ((with_reducible refine' x_slL ?z77h ?_); case z77h => walk_at "sl"))
    try refine x_slL (SqL.of (hs6.up er6)) ?_
    rw [cutV_fromS (i := i) rfl]
    refine new_F hs6 (fun r1 B7 H7 hs7 sb7 e1 _ => ?_)
    ((with_reducible refine x_sl ?_); ((with_reducible refine' x_var ?z79h ?_); case z79h => rfl); (with_reducible refine x_noPart ?_); (with_reducible refine x_part ?_); ((with_reducible refine' x_var ?z82h ?_); case z82h => rfl); (with_reducible refine x_exi ?_); ((with_reducible refine' x_slL ?z84h ?_); case z84h => walk_at "sl"))
    try refine x_slL (SqL.of (hs7.up (sb7 _ _ er6))) ?_
    rw [cutV_toS (i := i) rfl]
    refine new_F hs7 (fun r2 B8 H8 hs8 sb8 e2 _ => ?_)
    refine x_cat (hs8.up (sb8 _ _ e1)) (hs8.up e2) (by simp; omega) ?_
    rw [← List.map_append]
    refine new_F hs8 (fun r3 B9 H9 hs9 sb9 e3 _ => ?_)
    have s69 := (sb7.trans sb8).trans sb9
    have el9 := s69 _ _ el6
    (((with_reducible refine' x_var ?z85h ?_); case z85h => rfl); (with_reducible refine x_op ?_); ((with_reducible refine' x_var ?z87h ?_); case z87h => rfl); ((with_reducible refine' x_var ?z88h ?_); case z88h => rfl); ((with_reducible refine' x_ixL ?z89h ?z89h2 ?_); (case z89h => walk_at "sl"); (case z89h2 => first | rfl | assumption)))
    refine x_dput hs9.swap (by omega) (fun H10 hs10 => ?_)
    have hw10 : WRows B9 xs (left.take (i + 1)) (putK kvs (.inr x) (.ref r3)) := by
      rw [take_snoc hx]
      exact (hw6.mono s69).snoc (notin_take ndl hx) e3 (RowOk.of_perm ndr hxr inr (perm_rot right i))
    ((with_reducible refine x_if ?_); (with_reducible refine x_test ?_); (with_reducible refine x_op ?_); ((with_reducible refine' x_var ?z93h ?_); case z93h => rfl); (with_reducible refine x_c ?_); ((with_reducible refine' x_eq ?z95h ?_); case z95h => rfl); (with_reducible refine x_exb ?_))
    refine x_ite (fun h => ?_) (fun h => ?_)
    · ((with_reducible refine x_dputU ?_); (with_reducible refine x_cl ?_); (with_reducible refine x_cons ?_); ((with_reducible refine' x_var ?z100h ?_); case z100h => rfl); (with_reducible refine x_cons ?_); ((with_reducible refine' x_var ?z102h ?_); case z102h => rfl); (with_reducible refine x_nil ?_))
      refine use_mixedF hs10.swap hv6 (s69 _ _ er6) (by omega) (fun B11 H11 a11 b11 l ys sb11 hs11 ely hv11 pe11 => ?_)
      have el11 := sb11 _ _ el9
      (((with_reducible refine' x_var ?z104h ?_); case z104h => rfl); (with_reducible refine x_op ?_); ((with_reducible refine' x_var ?z106h ?_); case z106h => rfl); ((with_reducible refine' x_var ?z107h ?_); case z107h => rfl); ((with_reducible refine' x_ixL ?z108h ?z108h2 ?_); (case z108h => walk_at "sl"); (case z108h2 => first | rfl | assumption)))
      have hwl := hw10.len
      rw [List.length_take] at hwl
      refine x_dput hs11.swap (by omega) (fun H12 hs12 => ?_)
      exact ⟨((a11, b11), _, some _), B11, rfl, (sb6.trans s69).trans sb11, hs12.swap, hv11, (hw10.mono sb11).over (ndl.sublist (List.take_sublist _ _)) (by rw [take_snoc hx]; simp) ely (RowOk.of_perm ndr hxr inr pe11)⟩
    · (with_reducible refine x_next ?_)
      exact ⟨((a6, b6), _, some _), B9, rfl, sb6.trans s69, hs10.swap, hv6, hw10⟩
  · obtain ⟨⟨a6, b6⟩, kvs0, s3⟩ := s
    obtain ⟨hv6, hw6⟩ := pp
    dsimp only at hs6 hv6 hw6 ⊢
    rw [List.take_length] at hw6
    have er6 := sb6 _ _ er4
    have el6 := sb6 _ _ el4
    ((with_reducible refine x_seq ?_); (with_reducible refine x_for ?_); (with_reducible refine x_iRng1 ?_); (with_reducible refine x_cons ?_); (with_reducible refine x_cb ?_); (with_reducible refine x_cons ?_); ((with_reducible refine' x_var ?z116h ?_); case z116h => rfl); (with_reducible refine x_nil ?_); ((with_reducible refine' x_lenL ?z118h ?_); case z118h => walk_at "sl"); (with_reducible refine x_nil ?_))
    refine ⟨_, rfl, by rw [List.length_map]; omega, by rw [List.length_map]; omega, ?_⟩
    have en : (((right.map V.str).length : Nat) : Int).toNat = right.length := by rw [List.length_map]; omega
    rw [en]
    refine l_range (α := (Int × Int) × List (Key × V) × Option V) (σf := fun s => [some (.ref p), some (.ref t), some (.ref o), some (.ref lf), some (.ref rt), some (.int (tu : Nat)), some (.ref w), s.2.2]) (Mf := fun s => [(p, stO s.1.1 s.1.2), (w, .dK s.2.1)])
      (P := fun i s B1 => VSt s.1.1 s.1.2 ∧ WRows B1 xs (left ++ right.take i) s.2.1) (s0 := ((a6, b6), kvs0, s3)) hs6 ⟨hv6, by simpa using hw6⟩ (fun i s B7 H7 hi sb7 hs7 pp => ?_) (fun s B7 H7 sb7 hs7 pp => ?_)
    · obtain ⟨⟨a7, b7⟩, kvs, s4⟩ := s
      obtain ⟨hv7, hw7⟩ := pp
      dsimp only at hs7 hv7 hw7 ⊢
      rw [Int.zero_add]
      have hx : right[i]? = some right[i] := List.getElem?_eq_getElem hi
      generalize right[i] = x at hx
      have hxm := List.mem_of_getElem? hx
      have hat := atI_str hx
      have hxr : x ∉ left := fun m => dis x m x hxm rfl
      have inl : ∀ q ∈ left, q ∈ xs := fun q m => inx q (List.mem_append_left _ m)
      have er7 := sb7 _ _ er6
      have el7 := sb7 _ _ el6
      have hwl := hw7.len
      rw [List.length_append, List.length_take] at hwl
      have snx : left ++ right.take (i + 1) = (left ++ right.take i) ++ [x] := by rw [take_snoc hx, List.append_assoc]
      have nox : x ∉ left ++ right.take i := fun m => by
        rcases List.mem_append.mp m with z | z
        · exact hxr z
        · exact notin_take ndr hx z
      (((with_reducible refine x_gname ?_); try simp only [List.set_cons_zero, List.set_cons_succ]); (with_reducible refine x_seq ?_); (with_reducible refine x_dputU ?_); (with_reducible refine x_op ?_); (with_reducible refine x_sl ?_); ((with_reducible refine' x_var ?z125h ?_); case z125h => rfl); (with_reducible refine x_part ?_); (with_reducible refine x_op ?_); ((with_reducible refine' x_var ?z128h ?_); case z128h => rfl); (with_reducible refine x_c ?_); (with_reducible refine x_addI ?_); (with_reducible refine x_exi ?_); (with_reducible refine x_noPart ?_); ((with_reducible refine' x_slL ?z133h ?_); case z133h => walk_at "sl"))
      try refine x_slL (SqL.of (hs7.up el7)) ?_
      rw [cutV_fromS (i := i + 1) (by omega)]
      refine new_F hs7 (fun r1 B8 H8 hs8 sb8 e1 _ => ?_)
      ((with_reducible refine x_sl ?_); ((with_reducible refine' x_var ?z135h ?_); case z135h => rfl); (with_reducible refine x_noPart ?_); (with_reducible refine x_part ?_); (with_reducible refine x_op ?_); ((with_reducible refine' x_var ?z139h ?_); case z139h => rfl); (with_reducible refine x_c ?_); (with_reducible refine x_addI ?_); (with_reducible refine x_exi ?_); ((with_reducible refine' x_slL ?z143h ?_); case z143h => walk_at "sl"))
      try refine x_slL (SqL.of (hs8.up (sb8 _ _ el7))) ?_
      rw [cutV_toS (i := i + 1) (by omega)]
      refine new_F hs8 (fun r2 B9 H9 hs9 sb9 e2 _ => ?_)
      refine x_cat (hs9.up (sb9 _ _ e1)) (hs9.up e2) (by simp; omega) ?_
      rw [← List.map_append]
      refine new_F hs9 (fun r3 B10 H10 hs10 sb10 e3 _ => ?_)
      have s710 := (sb8.trans sb9).trans sb10
      have er10 := s710 _ _ er7
      (((with_reducible refine' x_var ?z144h ?_); case z144h => rfl); (with_reducible refine x_op ?_); ((with_reducible refine' x_var ?z146h ?_); case z146h => rfl); ((with_reducible refine' x_var ?z147h ?_); case z147h => rfl); ((with_reducible refine' x_ixL ?z148h ?z148h2 ?_); (case z148h => walk_at "sl"); (case z148h2 => first | rfl | assumption)))
      refine x_dput hs10.swap (by omega) (fun H11 hs11 => ?_)
      have hw11 : WRows B10 xs (left ++ right.take (i + 1)) (putK kvs (.inr x) (.ref r3)) := by
        rw [snx]
        exact (hw7.mono s710).snoc nox e3 (RowOk.of_perm ndl hxr inl (perm_rot left (i + 1)))
      ((with_reducible refine x_if ?_); (with_reducible refine x_test ?_); (with_reducible refine x_op ?_); ((with_reducible refine' x_var ?z152h ?_); case z152h => rfl); (with_reducible refine x_c ?_); ((with_reducible refine' x_eq ?z154h ?_); case z154h => rfl); (with_reducible refine x_exb ?_))
      refine x_ite (fun h => ?_) (fun h => ?_)
      · ((with_reducible refine x_dputU ?_); (with_reducible refine x_cl ?_); (with_reducible refine x_cons ?_); ((with_reducible refine' x_var ?z159h ?_); case z159h => rfl); (with_reducible refine x_cons ?_); ((with_reducible refine' x_var ?z161h ?_); case z161h => rfl); (with_reducible refine x_nil ?_))
        refine use_mixedF hs11.swap hv7 (s710 _ _ el7) (by omega) (fun B12 H12 a12 b12 l ys sb12 hs12 ely hv12 pe12 => ?_)
        have er12 := sb12 _ _ er10
        (((with_reducible refine' x_var ?z163h ?_); case z163h => rfl); (with_reducible refine x_op ?_); ((with_reducible refine' x_var ?z165h ?_); case z165h => rfl); ((with_reducible refine' x_var ?z166h ?_); case z166h => rfl); ((with_reducible refine' x_ixL ?z167h ?z167h2 ?_); (case z167h => walk_at "sl"); (case z167h2 => first | rfl | assumption)))
        have hwl := hw11.len
        rw [List.length_append, List.length_take] at hwl
        refine x_dput hs12.swap (by omega) (fun H13 hs13 => ?_)
        refine ⟨((a12, b12), _, some _), B12, rfl, (sb7.trans s710).trans sb12, hs13.swap, hv12, (hw11.mono sb12).over ?_ (by rw [snx]; simp) ely (RowOk.of_perm ndl hxr inl pe12)⟩
        have : (left ++ right.take (i + 1)).Sublist (left ++ right) := (List.Sublist.refl left).append (List.take_sublist _ _)
        refine List.Nodup.sublist this ?_
        rw [hsplit]
        exact ndo
      · (with_reducible refine x_next ?_)
        exact ⟨((a7, b7), _, some _), B10, rfl, sb7.trans s710, hs11.swap, hv7, hw11⟩
    · obtain ⟨⟨a7, b7⟩, kvs, s4⟩ := s
      obtain ⟨hv7, hw7⟩ := pp
      rw [List.take_length, hsplit] at hw7
      ((with_reducible refine x_ret ?_); ((with_reducible refine' x_var ?z170h ?_); case z170h => rfl))
      exact k B7 H7 a7 b7 w kvs ord hs7 hv7 pe hw7
end Q

set_option Elab.async false
set_option linter.all false
set_option maxRecDepth 100000
set_option maxHeartbeats 4000000
namespace Q
open PySem PySem.Spec PyProof.Rows L2
local macro_rules | `(tactic| walk_at "bf") => `(tactic| first | assumption | (refine' bstep (by assumption) ?r; case r => walk_at "bf") | fail)
local macro_rules | `(tactic| walk_at "rp") => `(tactic| first | assumption | exact Rep.int _ | exact Rep.bl _ | exact Rep.non | (refine' Rep.mono (by assumption) ?r; case r => walk_at "rp") | fail)
local macro_rules | `(tactic| walk_at "hf") => `(tactic| first | assumption | exact HS.up (by assumption) (by walk_at "bf") | exact HS.get (by assumption) List.mem_cons_self | exact HS.get (by assumption) (List.mem_cons_of_mem _ List.mem_cons_self) | exact HS.get (by assumption) (List.mem_cons_of_mem _ (List.mem_cons_of_mem _ List.mem_cons_self)) | exact HS.get (by assumption) (List.mem_cons_of_mem _ (List.mem_cons_of_mem _ (List.mem_cons_of_mem _ List.mem_cons_self))) | fail)
local macro_rules | `(tactic| walk_at "sl") => `(tactic| first | assumption | exact SqL.of (by walk_at "hf") | fail)
local macro_rules | `(tactic| walk_at "st") => `(tactic| first | assumption | exact SqT.of (by walk_at "hf") | fail)
local macro_rules | `(tactic| walk_at "sz") => `(tactic| first | assumption | (refine small_le ?_; first | assumption | omega | (simp; done) | (simp; omega)) | fail)
/-! ### wishes of blocks -/
abbrev N__law_block_wishes : List Str := ["_law_state", "_law_names_here", "_law_order", "_law_wishes_here", "_law_at", "_law_turn", "_law_size", "_law_block", "_law_k", "_law_ring", "_law_head", "_law_tail", "_law_b"]
def t__law_block_wishes (K : PySem.W.Frag) (E : XK) : TS := (tSeq (tAsg (tCl (sp__law_mixed K) (WE0 E) (tCons (tVar 0) (tCons (tVar 1) tNil))) (gName 2))
  (tSeq (tAsg tDNewK (gName 3))
  (tSeq (tAsg (tC (.int 0)) (gName 4))
  (tSeq (tFor (iRng1 (tCons (tCB (rLenA K) (tCons (tVar 2) tNil)) tNil)) (gName 5) (tSeq (tAsg (tOp rAddI (tC (.int 1)) (tCl (sp__law_take K) (WE0 E) (tCons (tVar 0) (tCons (tC (.int 7)) tNil)))) (gName 6))
  (tSeq (tAsg (tSl (rSlL K) (tVar 2) (tPart (tVar 4)) (tPart (tOp rAddI (tVar 4) (tVar 6)))) (gName 7))
  (tSeq (tAug 4 (tVar 6) (ipI fun i j => i + j))
  (tFor (iRng1 (tCons (tCB (rLenA K) (tCons (tVar 7) tNil)) tNil)) (gName 8) (tSeq (tAsg (tOp rCat (tSl (rSlL K) (tVar 7) (tPart (tOp rAddI (tVar 8) (tC (.int 1)))) tNoPart) (tSl (rSlL K) (tVar 7) tNoPart (tPart (tVar 8)))) (gName 9))
  (tSeq (tAsg (tSl (rSlL K) (tVar 9) tNoPart (tPart (tC (.int 1)))) (gName 10))
  (tSeq (tIfS (tTest (tOp rGtI (tCB (rLenA K) (tCons (tVar 9) tNil)) (tC (.int 1)))) (tAsg (tLst (tCons (tOp (rIxL K) (tVar 9) (tC (.int 0))) (tCons (tOp (rIxL K) (tVar 9) (tUn rNegI (tC (.int 1)))) tNil))) (gName 10)) tNext)
  (tSeq (tAsg (tCl (sp__law_mixed K) (WE0 E) (tCons (tVar 0) (tCons (tLc (iList K (tCl (sp__law_others K) (WE0 E) (tCons (tVar 1) (tCons (tOp (rIxL K) (tVar 7) (tVar 8)) tNil)))) (gName 12) (tTest (tOp (rIn K true) (tVar 12) (tVar 10))) (tVar 12) [12]) tNil))) (gName 11))
  (tSeq (tAsg (tSl (rSlL K) (tVar 11) tNoPart (tPart (tCl (sp__law_take K) (WE0 E) (tCons (tVar 0) (tCons (tOp rAddI (tCB (rLenA K) (tCons (tVar 11) tNil)) (tC (.int 1))) tNil))))) (gName 11))
  (tSeq (tIfS (tAnd (tTr K (tVar 11)) (tTest (tOp rEq (tCl (sp__law_take K) (WE0 E) (tCons (tVar 0) (tCons (tC (.int 5)) tNil))) (tC (.int 0))))) (tSeq (tAsg (tOp rCat (tSl (rSlL K) (tVar 11) tNoPart (tPart (tC (.int 1)))) (tVar 10)) (gName 10))
  (tAsg (tSl (rSlL K) (tVar 11) (tPart (tC (.int 1))) tNoPart) (gName 11))) tNext)
  (sDPut (tVar 3) (tOp (rIxL K) (tVar 7) (tVar 8)) (tOp rCat (tVar 10) (tVar 11))))))))))))))
  (tRet (tVar 3))))))
def sp__law_block_wishes (K : PySem.W.Frag) : Sp := fun vs H Q E => ∃ (p t : Addr), vs = [.ref p, .ref t] ∧ spW p t H Q
theorem x_augI {σ : L2.St} {H : Hp} {De : Ends} {te : TE} {i : Nat} {m : Int} {f : Int → Int → Int} (e : σ[i]? = some (some (.int m))) (h : te σ H fun y H1 => ipI f (.int m) y H1 fun z H2 => De.nx (σ.set i (some z)) H2) : tAug i te (ipI f) De σ H := ⟨_, e, h⟩
theorem x_ipI {H : Hp} {Q : VK} {m n : Int} {f : Int → Int → Int} (h : Q (.int (f m n)) H) : ipI f (.int m) (.int n) H Q := ⟨m, n, rfl, rfl, h⟩
theorem RowOk.weak {names names' row : List Str} {p : Str} (h : RowOk names p row) (w : ∀ q ∈ names, q ∈ names') : RowOk names' p row := ⟨h.1, h.2.1, fun q m => w q (h.2.2 q m)⟩
theorem atI_last {xs : List Str} (h : 0 < xs.length) : atI (xs.map V.str) (-1) = some (.str (xs[xs.length - 1]'(by omega))) := by
  unfold atI ixN
  rw [List.length_map, if_neg (by decide), if_pos (by omega)]
  have : (-1 + (xs.length : Int)).toNat = xs.length - 1 := by omega
  rw [this]
  simp
theorem rowOk_ends {names row : List Str} {p : Str} (h : RowOk names p row) (h1 : 1 < row.length) : RowOk names p [row[0], row[row.length - 1]] := by
  refine ⟨?_, fun m => ?_, fun q m => ?_⟩
  · rw [List.nodup_cons]
    refine ⟨fun m => ?_, by simp⟩
    have e : row[0] = row[row.length - 1] := by simpa using m
    have := (List.getElem_inj h.1).mp e
    omega
  · rcases List.mem_cons.mp m with z | z
    · exact h.2.1 (by rw [z]; exact List.getElem_mem _)
    · have z : p = row[row.length - 1] := by simpa using z
      exact h.2.1 (by rw [z]; exact List.getElem_mem _)
  · rcases List.mem_cons.mp m with z | z
    · exact h.2.2 _ (by rw [z]; exact List.getElem_mem _)
    · have z : q = row[row.length - 1] := by simpa using z
      exact h.2.2 _ (by rw [z]; exact List.getElem_mem _)
theorem rowOk_join {names hd tl : List Str} {p : Str} (h : RowOk names p hd) (ht : RowOk names p tl) (d : ∀ q ∈ tl, q ∉ hd) : RowOk names p (hd ++ tl) := by
  refine ⟨?_, fun m => ?_, fun q m => ?_⟩
  · rw [List.nodup_append]
    exact ⟨h.1, ht.1, fun a ha b hb e => d b hb (by rw [← e]; exact ha)⟩
  · rcases List.mem_append.mp m with z | z
    · exact h.2.1 z
    · exact ht.2.1 z
  · rcases List.mem_append.mp m with z | z
    · exact h.2.2 q z
    · exact ht.2.2 q z
theorem pure__law_block_wishes {K : PySem.W.Frag} {vs : List V} {H : Hp} {Q : VK} {E : XK} (h : sp__law_block_wishes K vs H Q E) : t__law_block_wishes K E { nx := fun _ H' => Q .non H', rt := Q } (start N__law_block_wishes vs) H := by
  obtain ⟨p, t, rfl, a, b, xs, B, sB, bp, hp, hv, ht, hl, nd, k⟩ := h
  have hs := HS.startS sB bp hp
  show t__law_block_wishes K E _ [some (.ref p), some (.ref t), none, none, none, none, none, none, none, none, none, none, none] H
  unfold t__law_block_wishes
  ((with_reducible refine x_seq ?_); (with_reducible refine x_asg ?_); (with_reducible refine x_cl ?_); (with_reducible refine x_cons ?_); ((with_reducible refine' x_var ?z5h ?_); case z5h => rfl); (with_reducible refine x_cons ?_); ((with_reducible refine' x_var ?z7h ?_); case z7h => rfl); (with_reducible refine x_nil ?_))
  refine use_mixedF hs hv ht (by omega) (fun B1 H1 a1 b1 o ord sb1 hs1 eo hv1 pe => ?_)
  have ndo : ord.Nodup := pe.nodup_iff.mpr nd
  have hol : ord.length = xs.length := pe.length_eq
  have ht1 := sb1 _ _ ht
  (((with_reducible refine x_gname ?_); try simp only [List.set_cons_zero, List.set_cons_succ]); (with_reducible refine x_seq ?_); (with_reducible refine x_asg ?_); (with_reducible refine x_dnew ?_))
  refine new_M hs1 (fun w H2 hs2 _ => ?_)
  (((with_reducible refine x_gname ?_); try simp only [List.set_cons_zero, List.set_cons_succ]); (with_reducible refine x_seq ?_); (with_reducible refine x_asg ?_); (with_reducible refine x_c ?_); ((with_reducible refine x_gname ?_); try simp only [List.set_cons_zero, List.set_cons_succ]); (with_reducible refine x_seq ?_); (with_reducible refine x_for ?_); (with_reducible refine x_iRng1 ?_); (with_reducible refine x_cons ?_); (with_reducible refine x_cb ?_); (with_reducible refine x_cons ?_); ((with_reducible refine' x_var ?z24h ?_); case z24h => rfl); (with_reducible refine x_nil ?_); ((with_reducible refine' x_lenL ?z26h ?_); case z26h => walk_at "sl"); (with_reducible refine x_nil ?_))
  refine ⟨_, rfl, by rw [List.length_map]; omega, by rw [List.length_map]; omega, ?_⟩
  have en : (((ord.map V.str).length : Nat) : Int).toNat = ord.length := by rw [List.length_map]; omega
  rw [en]
  refine l_range (α := (Int × Int) × (Nat × List (Key × V)) × Option V × Option V × Option V × Option V × Option V × Option V × Option V)
    (σf := fun s => [some (.ref p), some (.ref t), some (.ref o), some (.ref w), some (.int (s.2.1.1 : Nat)), s.2.2.1, s.2.2.2.1, s.2.2.2.2.1, s.2.2.2.2.2.1, s.2.2.2.2.2.2.1, s.2.2.2.2.2.2.2.1, s.2.2.2.2.2.2.2.2, none]) (Mf := fun s => [(p, stO s.1.1 s.1.2), (w, .dK s.2.1.2)])
    (P := fun i s B1 => VSt s.1.1 s.1.2 ∧ i ≤ s.2.1.1 ∧ s.2.1.1 ≤ 7 * i ∧ WRows B1 xs (ord.take s.2.1.1) s.2.1.2) (s0 := ((a1, b1), (0, []), none, none, none, none, none, none, none)) hs2.swap ⟨hv1, Nat.le_refl _, Nat.le_refl _, .nil⟩ (fun i s B3 H3 hi sb3 hs3 pp => ?_) (fun s B3 H3 sb3 hs3 pp => ?_)
  · obtain ⟨⟨a3, b3⟩, ⟨at_, kvs0⟩, q5, q6, q7, q8, q9, q10, q11⟩ := s
    obtain ⟨hv3, hat1, hat2, hw3⟩ := pp
    dsimp only at hs3 hv3 hat1 hat2 hw3 ⊢
    have eo3 := sb3 _ _ eo
    have ht3 := sb3 _ _ ht1
    (((with_reducible refine x_gname ?_); try simp only [List.set_cons_zero, List.set_cons_succ]); (with_reducible refine x_seq ?_); (with_reducible refine x_asg ?_); (with_reducible refine x_op ?_); (with_reducible refine x_c ?_); (with_reducible refine x_cl ?_); (with_reducible refine x_cons ?_); ((with_reducible refine' x_var ?z35h ?_); case z35h => rfl); (with_reducible refine x_cons ?_); (with_reducible refine x_c ?_); (with_reducible refine x_nil ?_))
    refine use_take hs3 hv3 (by decide) (by decide) (fun B4 H4 a4 b4 m sb4 hs4 hv4 hm => ?_)
    have eo4 := sb4 _ _ eo3
    have ht4 := sb4 _ _ ht3
    ((with_reducible refine x_addI ?_); ((with_reducible refine x_gname ?_); try simp only [List.set_cons_zero, List.set_cons_succ]); (with_reducible refine x_seq ?_); (with_reducible refine x_asg ?_); (with_reducible refine x_sl ?_); ((with_reducible refine' x_var ?z44h ?_); case z44h => rfl); (with_reducible refine x_part ?_); ((with_reducible refine' x_var ?z46h ?_); case z46h => rfl); (with_reducible refine x_exi ?_); (with_reducible refine x_part ?_); (with_reducible refine x_op ?_); ((with_reducible refine' x_var ?z50h ?_); case z50h => rfl); ((with_reducible refine' x_var ?z51h ?_); case z51h => rfl); (with_reducible refine x_addI ?_); (with_reducible refine x_exi ?_); ((with_reducible refine' x_slL ?z54h ?_); case z54h => walk_at "sl"))
    try refine x_slL (SqL.of (hs4.up eo4)) ?_
    rw [cutV_midS (i := at_) (j := 1 + m) rfl (by omega)]
    refine new_F hs4 (fun bk B5 H5 hs5 sb5 ek _ => ?_)
    have eo5 := sb5 _ _ eo4
    have ht5 := sb5 _ _ ht4
    (((with_reducible refine x_gname ?_); try simp only [List.set_cons_zero, List.set_cons_succ]); (with_reducible refine x_seq ?_))
    refine x_augI rfl ?_
    ((with_reducible refine' x_var ?z57h ?_); case z57h => rfl)
    refine x_ipI ?_
    simp only [List.set_cons_zero, List.set_cons_succ]
    have eat : ((at_ : Int) + (1 + (m : Int))) = ((at_ + (1 + m) : Nat) : Int) := by omega
    rw [eat]
    have hblk : ∀ (j : Nat) x, ((ord.drop at_).take (1 + m))[j]? = some x → ord[at_ + j]? = some x := fun j x e => by
      rw [List.getElem?_take] at e
      split at e
      · rw [List.getElem?_drop] at e; exact e
      · cases e
    have hbs : ((ord.drop at_).take (1 + m)).Sublist ord := (List.take_sublist _ _).trans (List.drop_sublist _ _)
    have hbl : at_ + ((ord.drop at_).take (1 + m)).length ≤ max ord.length at_ := by rw [List.length_take, List.length_drop]; omega
    have hbl2 : ((ord.drop at_).take (1 + m)).length = min (1 + m) (ord.length - at_) := by rw [List.length_take, List.length_drop]
    generalize (ord.drop at_).take (1 + m) = blk at ek hblk hbs hbl hbl2
    have ndb : blk.Nodup := ndo.sublist hbs
    have inb : ∀ q ∈ blk, q ∈ xs := fun q mq => pe.mem_iff.mp (hbs.subset mq)
    have hbn : blk.length ≤ 7 := by omega
    ((with_reducible refine x_for ?_); (with_reducible refine x_iRng1 ?_); (with_reducible refine x_cons ?_); (with_reducible refine x_cb ?_); (with_reducible refine x_cons ?_); ((with_reducible refine' x_var ?z63h ?_); case z63h => rfl); (with_reducible refine x_nil ?_); ((with_reducible refine' x_lenL ?z65h ?_); case z65h => walk_at "sl"); (with_reducible refine x_nil ?_))
    refine ⟨_, rfl, by rw [List.length_map]; omega, by rw [List.length_map]; omega, ?_⟩
    have en : (((blk.map V.str).length : Nat) : Int).toNat = blk.length := by rw [List.length_map]; omega
    rw [en]
    refine l_range (α := (Int × Int) × List (Key × V) × Option V × Option V × Option V × Option V)
      (σf := fun s => [some (.ref p), some (.ref t), some (.ref o), some (.ref w), some (.int ((at_ + (1 + m) : Nat))), some (.int (0 + (i : Nat))), some (.int (1 + (m : Nat))), some (.ref bk), s.2.2.1, s.2.2.2.1, s.2.2.2.2.1, s.2.2.2.2.2, none]) (Mf := fun s => [(p, stO s.1.1 s.1.2), (w, .dK s.2.1)])
      (P := fun j s B1 => VSt s.1.1 s.1.2 ∧ WRows B1 xs (ord.take (at_ + j)) s.2.1) (s0 := ((a4, b4), kvs0, q8, q9, q10, q11)) hs5 ⟨hv4, by simpa using (hw3.mono sb4).mono sb5⟩ (fun j s B6 H6 hj sb6 hs6 pp => ?_) (fun s B6 H6 sb6 hs6 pp => ?_)
    · obtain ⟨⟨a6, b6⟩, kvs, r8, r9, r10, r11⟩ := s
      obtain ⟨hv6, hw6⟩ := pp
      dsimp only at hs6 hv6 hw6 ⊢
      rw [Int.zero_add]
      have hx : blk[j]? = some blk[j] := List.getElem?_eq_getElem hj
      generalize blk[j] = x at hx
      have hxo := hblk j x hx
      have hat := atI_str hx
      have ek6 := sb6 _ _ ek
      have ht6 := sb6 _ _ ht5
      have rot : RowOk xs x (blk.drop (j + 1) ++ blk.take j) := (rowOk_rot (List.Perm.refl blk) ndb hx).weak inb
      (((with_reducible refine x_gname ?_); try simp only [List.set_cons_zero, List.set_cons_succ]); (with_reducible refine x_seq ?_); (with_reducible refine x_asg ?_); (with_reducible refine x_op ?_); (with_reducible refine x_sl ?_); ((with_reducible refine' x_var ?z72h ?_); case z72h => rfl); (with_reducible refine x_part ?_); (with_reducible refine x_op ?_); ((with_reducible refine' x_var ?z75h ?_); case z75h => rfl); (with_reducible refine x_c ?_); (with_reducible refine x_addI ?_); (with_reducible refine x_exi ?_); (with_reducible refine x_noPart ?_); ((with_reducible refine' x_slL ?z80h ?_); case z80h => walk_at "sl"))
      try refine x_slL (SqL.of (hs6.up ek6)) ?_
      rw [cutV_fromS (i := j + 1) (by omega)]
      refine new_F hs6 (fun r1 B7 H7 hs7 sb7 e1 _ => ?_)
      ((with_reducible refine x_sl ?_); ((with_reducible refine' x_var ?z82h ?_); case z82h => rfl); (with_reducible refine x_noPart ?_); (with_reducible refine x_part ?_); ((with_reducible refine' x_var ?z85h ?_); case z85h => rfl); (with_reducible refine x_exi ?_); ((with_reducible refine' x_slL ?z87h ?_); case z87h => walk_at "sl"))
      try refine x_slL (SqL.of (hs7.up (sb7 _ _ ek6))) ?_
      rw [cutV_toS (i := j) rfl]
      refine new_F hs7 (fun r2 B8 H8 hs8 sb8 e2 _ => ?_)
      refine x_cat (hs8.up (sb8 _ _ e1)) (hs8.up e2) (by simp; omega) ?_
      rw [← List.map_append]
      refine new_F hs8 (fun ri B9 H9 hs9 sb9 er _ => ?_)
      have s69 := (sb7.trans sb8).trans sb9
      generalize blk.drop (j + 1) ++ blk.take j = ring at er rot
      have hrl := rot.len
      (((with_reducible refine x_gname ?_); try simp only [List.set_cons_zero, List.set_cons_succ]); (with_reducible refine x_seq ?_); (with_reducible refine x_asg ?_); (with_reducible refine x_sl ?_); ((with_reducible refine' x_var ?z92h ?_); case z92h => rfl); (with_reducible refine x_noPart ?_); (with_reducible refine x_part ?_); (with_reducible refine x_c ?_); (with_reducible refine x_exi ?_); ((with_reducible refine' x_slL ?z97h ?_); case z97h => walk_at "sl"))
      try refine x_slL (SqL.of (hs9.up er)) ?_
      rw [cutV_toS (m := 1) (i := 1) rfl]
      refine new_F hs9 (fun h1 B10 H10 hs10 sb10 eh _ => ?_)
      have er10 := sb10 _ _ er
      ((with_reducible refine x_gname ?_); try simp only [List.set_cons_zero, List.set_cons_succ])
      let Ia : L2.St → Hp → Prop := fun σ H' => ∃ B' h hd, HS [p] B H B' H' [(p, stO a6 b6), (w, .dK kvs)] ∧ Same B10 B' ∧ B' h = some (.lst (hd.map V.str)) ∧ RowOk xs x hd ∧
        σ = [some (.ref p), some (.ref t), some (.ref o), some (.ref w), some (.int ((at_ + (1 + m) : Nat))), some (.int (0 + (i : Nat))), some (.int (1 + (m : Nat))), some (.ref bk), some (.int (j : Nat)), some (.ref ri), some (.ref h), r11, none]
      refine x_join (I := Ia) ?_ (fun R hR => ?_)
      case refine_2 =>
        ((with_reducible refine x_if ?_); (with_reducible refine x_test ?_); (with_reducible refine x_op ?_); (with_reducible refine x_cb ?_); (with_reducible refine x_cons ?_); ((with_reducible refine' x_var ?z104h ?_); case z104h => rfl); (with_reducible refine x_nil ?_); ((with_reducible refine' x_lenL ?z106h ?_); case z106h => walk_at "sl"); (with_reducible refine x_c ?_); (with_reducible refine x_gtI ?_); (with_reducible refine x_exb ?_))
        refine x_ite (fun h => ?_) (fun h => ?_)
        · have h := of_decide_eq_true h
          rw [List.length_map] at h
          have h1r : 1 < ring.length := by omega
          have a0 : atI (ring.map V.str) 0 = some (.str (ring[0]'(by omega))) := atI_str (i := 0) (List.getElem?_eq_getElem (by omega))
          have al := atI_last (xs := ring) (by omega)
          ((with_reducible refine x_asg ?_); (with_reducible refine x_lst ?_); (with_reducible refine x_cons ?_); (with_reducible refine x_op ?_); ((with_reducible refine' x_var ?z114h ?_); case z114h => rfl); (with_reducible refine x_c ?_); ((with_reducible refine' x_ixL ?z116h ?z116h2 ?_); (case z116h => walk_at "sl"); (case z116h2 => first | rfl | assumption)); (with_reducible refine x_cons ?_); (with_reducible refine x_op ?_); ((with_reducible refine' x_var ?z119h ?_); case z119h => rfl); (with_reducible refine x_un ?_); (with_reducible refine x_c ?_); (with_reducible refine x_neg ?_); ((with_reducible refine' x_ixL ?z123h ?z123h2 ?_); (case z123h => walk_at "sl"); (case z123h2 => first | rfl | assumption)); (with_reducible refine x_nil ?_); ((with_reducible refine' x_newL ?z125h ?_); case z125h => first | exact Nat.zero_le _ | (simp; done) | (simp; omega)))
          refine new_F hs10 (fun h2 B11 H11 hs11 sb11 e11 _ => ?_)
          ((with_reducible refine x_gname ?_); try simp only [List.set_cons_zero, List.set_cons_succ])
          exact hR _ _ ⟨B11, h2, [ring[0], ring[ring.length - 1]], hs11, sb11, e11, rowOk_ends rot h1r, rfl⟩
        · (with_reducible refine x_next ?_)
          exact hR _ _ ⟨B10, h1, _, hs10, Same.refl _, eh, rot.take 1, rfl⟩
      rintro σ H11 ⟨B11, h, hd, hs11, sb11, eh11, okh, rfl⟩
      have s611 : Same B6 B11 := (s69.trans sb10).trans sb11
      have ek11 := s611 _ _ ek6
      ((with_reducible refine x_seq ?_); (with_reducible refine x_asg ?_); (with_reducible refine x_cl ?_); (with_reducible refine x_cons ?_); ((with_reducible refine' x_var ?z132h ?_); case z132h => rfl); (with_reducible refine x_cons ?_); (with_reducible refine x_lc ?_); (with_reducible refine x_iList ?_); (with_reducible refine x_cl ?_); (with_reducible refine x_cons ?_); ((with_reducible refine' x_var ?z138h ?_); case z138h => rfl); (with_reducible refine x_cons ?_); (with_reducible refine x_op ?_); ((with_reducible refine' x_var ?z141h ?_); case z141h => rfl); ((with_reducible refine' x_var ?z142h ?_); case z142h => rfl); ((with_reducible refine' x_ixL ?z143h ?z143h2 ?_); (case z143h => walk_at "sl"); (case z143h2 => first | rfl | assumption)); (with_reducible refine x_nil ?_))
      refine use_others hs11 (s611 _ _ ht6) (by omega) (fun B12 H12 l1 sb12 hs12 => ?_)
      obtain ⟨hs13, sb13⟩ := hs12.still (by simpa using hs12.ne01)
      have e13 : upd B12 l1 (.lst ((xs.filter fun y => !decide (y = x)).map V.str)) l1 = some (.lst ((xs.filter fun y => !decide (y = x)).map V.str)) := upd_same
      generalize upd B12 l1 (.lst ((xs.filter fun y => !decide (y = x)).map V.str)) = B13 at hs13 sb13 e13
      have eh13 := sb13 _ _ (sb12 _ _ eh11)
      have okf : RowOk xs x (xs.filter fun y => !decide (y = x)) := rowOk_filter (List.Perm.refl xs) nd
      generalize (xs.filter fun y => !decide (y = x)) = oth at e13 okf
      have hol2 := okf.len
      refine ⟨l1, rfl, ⟨_, SqL.of (hs13.up e13)⟩, fun D hD => ?_⟩
      refine c_list (α := Unit) (Mf := fun _ => [(p, stO a6 b6), (w, .dK kvs)]) (P := fun i _ acc _ => acc = ((oth.take i).filter fun y => !decide (y ∈ hd)).map V.str) (s0 := ()) hs13 hD e13 rfl (fun n y _ acc B14 H14 hn hacc sb14 hs14 pp => ?_) (fun _ acc B14 H14 sb14 hs14 hacc pp => ?_)
      · obtain ⟨y, hy, rfl⟩ := strs_get hn
        have hnl : n < oth.length := (List.getElem?_eq_some_iff.mp hy).1
        have eh14 := sb14 _ _ eh13
        ((with_reducible refine x_gname ?_); try simp only [List.set_cons_zero, List.set_cons_succ])
        refine ⟨rfl, ?_⟩
        ((with_reducible refine x_test ?_); (with_reducible refine x_op ?_); ((with_reducible refine' x_var ?z148h ?_); case z148h => rfl); ((with_reducible refine' x_var ?z149h ?_); case z149h => rfl); ((with_reducible refine' x_ninLS ?z150h ?_); case z150h => walk_at "sl"); (with_reducible refine x_exb ?_))
        try (refine x_ninLS (SqL.of (hs14.up eh14)) ?_; fail)
        refine x_ite (fun h => ?_) (fun h => ?_)
        · ((with_reducible refine' x_var ?z152h ?_); case z152h => rfl)
          refine c_keep (s := ()) sb14 hs14 hacc (by omega) ?_
          rw [filter_take _ hy, if_pos h, pp]
          simp
        · refine c_left (s := ()) sb14 hs14 hacc ?_
          rw [filter_take _ hy, if_neg (by rw [h]; decide), pp]
      · rw [List.length_map, List.take_length] at pp
        subst pp
        obtain ⟨hs15, sb15⟩ := hs14.still (by simpa using hs14.ne01)
        have e15 : upd B14 D (.lst ((oth.filter fun y => !decide (y ∈ hd)).map V.str)) D = some (.lst ((oth.filter fun y => !decide (y ∈ hd)).map V.str)) := upd_same
        generalize upd B14 D (.lst ((oth.filter fun y => !decide (y ∈ hd)).map V.str)) = B15 at hs15 sb15 e15
        have okt : RowOk xs x (oth.filter fun y => !decide (y ∈ hd)) := ⟨okf.1.filter _, fun mm => okf.2.1 (List.mem_filter.mp mm).1, fun q mm => okf.2.2 q (List.mem_filter.mp mm).1⟩
        have dis : ∀ q ∈ oth.filter fun y => !decide (y ∈ hd), q ∉ hd := fun q mm => by simpa using (List.mem_filter.mp mm).2
        generalize (oth.filter fun y => !decide (y ∈ hd)) = rest at e15 okt dis
        have hrl2 := okt.len
        have s1115 : Same B11 B15 := ((sb12.trans sb13).trans sb14).trans sb15
        (with_reducible refine x_nil ?_)
        refine use_mixedF hs15 hv6 e15 (by omega) (fun B16 H16 a16 b16 l2 ys sb16 hs16 e16 hv16 pe16 => ?_)
        have okt := okt.perm pe16
        have dis : ∀ q ∈ ys, q ∉ hd := fun q mm => dis q (pe16.mem_iff.mp mm)
        have hyl := okt.len
        (((with_reducible refine x_gname ?_); try simp only [List.set_cons_zero, List.set_cons_succ]); (with_reducible refine x_seq ?_); (with_reducible refine x_asg ?_); (with_reducible refine x_sl ?_); ((with_reducible refine' x_var ?z158h ?_); case z158h => rfl); (with_reducible refine x_noPart ?_); (with_reducible refine x_part ?_); (with_reducible refine x_cl ?_); (with_reducible refine x_cons ?_); ((with_reducible refine' x_var ?z163h ?_); case z163h => rfl); (with_reducible refine x_cons ?_); (with_reducible refine x_op ?_); (with_reducible refine x_cb ?_); (with_reducible refine x_cons ?_); ((with_reducible refine' x_var ?z168h ?_); case z168h => rfl); (with_reducible refine x_nil ?_); ((with_reducible refine' x_lenL ?z170h ?_); case z170h => walk_at "sl"); (with_reducible refine x_c ?_); (with_reducible refine x_addI ?_); (with_reducible refine x_nil ?_))
        try (refine x_lenL (SqL.of (hs16.up e16)) ?_; fail)
        refine use_take hs16 hv16 (by rw [List.length_map]; omega) (by rw [List.length_map]; omega) (fun B17 H17 a17 b17 n sb17 hs17 hv17 hn => ?_)
        ((with_reducible refine x_exi ?_); ((with_reducible refine' x_slL ?z175h ?_); case z175h => walk_at "sl"))
        try refine x_slL (SqL.of (hs17.up (sb17 _ _ e16))) ?_
        rw [cutV_toS (i := n) rfl]
        refine new_F hs17 (fun l3 B18 H18 hs18 sb18 e18 _ => ?_)
        have s1118 : Same B11 B18 := ((s1115.trans sb16).trans sb17).trans sb18
        have eh18 := s1118 _ _ eh11
        have okr : RowOk xs x (hd ++ ys.take n) := rowOk_join okh (okt.take n) fun q mm => dis q (List.mem_of_mem_take mm)
        generalize ys.take n = tl at e18 okr
        ((with_reducible refine x_gname ?_); try simp only [List.set_cons_zero, List.set_cons_succ])
        let Ib : L2.St → Hp → Prop := fun σ H' => ∃ a' b' B' h hd l tl, HS [p] B H B' H' [(p, stO a' b'), (w, .dK kvs)] ∧ VSt a' b' ∧ Same B18 B' ∧ B' h = some (.lst (hd.map V.str)) ∧ B' l = some (.lst (tl.map V.str)) ∧ RowOk xs x (hd ++ tl) ∧
          σ = [some (.ref p), some (.ref t), some (.ref o), some (.ref w), some (.int ((at_ + (1 + m) : Nat))), some (.int (0 + (i : Nat))), some (.int (1 + (m : Nat))), some (.ref bk), some (.int (j : Nat)), some (.ref ri), some (.ref h), some (.ref l), none]
        refine x_join (I := Ib) ?_ (fun R hR => ?_)
        case refine_2 =>
          ((with_reducible refine x_if ?_); (with_reducible refine x_and ?_); (with_reducible refine x_tr ?_); ((with_reducible refine' x_var ?z180h ?_); case z180h => rfl))
          refine x_trL (hs18.up e18) ?_
          refine x_ite (fun hh => ?_) (fun hh => ?_)
          · ((with_reducible refine x_test ?_); (with_reducible refine x_op ?_); (with_reducible refine x_cl ?_); (with_reducible refine x_cons ?_); ((with_reducible refine' x_var ?z185h ?_); case z185h => rfl); (with_reducible refine x_cons ?_); (with_reducible refine x_c ?_); (with_reducible refine x_nil ?_))
            refine use_take hs18 hv17 (by decide) (by decide) (fun B19 H19 a19 b19 n2 sb19 hs19 hv19 _ => ?_)
            have e19 := sb19 _ _ e18
            have eh19 := sb19 _ _ eh18
            ((with_reducible refine x_c ?_); ((with_reducible refine' x_eq ?z190h ?_); case z190h => rfl); (with_reducible refine x_exb ?_))
            refine x_ite (fun hh => ?_) (fun hh => ?_)
            · ((with_reducible refine x_seq ?_); (with_reducible refine x_asg ?_); (with_reducible refine x_op ?_); (with_reducible refine x_sl ?_); ((with_reducible refine' x_var ?z196h ?_); case z196h => rfl); (with_reducible refine x_noPart ?_); (with_reducible refine x_part ?_); (with_reducible refine x_c ?_); (with_reducible refine x_exi ?_); ((with_reducible refine' x_slL ?z201h ?_); case z201h => walk_at "sl"))
              try refine x_slL (SqL.of (hs19.up e19)) ?_
              rw [cutV_toS (m := 1) (i := 1) rfl]
              refine new_F hs19 (fun l4 B20 H20 hs20 sb20 e20 _ => ?_)
              have htl := okr.len
              rw [List.length_append] at htl
              ((with_reducible refine' x_var ?z202h ?_); case z202h => rfl)
              refine x_cat (hs20.up e20) (hs20.up (sb20 _ _ eh19)) (by simp; omega) ?_
              rw [← List.map_append]
              refine new_F hs20 (fun l5 B21 H21 hs21 sb21 e21 _ => ?_)
              (((with_reducible refine x_gname ?_); try simp only [List.set_cons_zero, List.set_cons_succ]); (with_reducible refine x_asg ?_); (with_reducible refine x_sl ?_); ((with_reducible refine' x_var ?z206h ?_); case z206h => rfl); (with_reducible refine x_part ?_); (with_reducible refine x_c ?_); (with_reducible refine x_exi ?_); (with_reducible refine x_noPart ?_); ((with_reducible refine' x_slL ?z211h ?_); case z211h => walk_at "sl"))
              try refine x_slL (SqL.of (hs21.up (sb21 _ _ (sb20 _ _ e19)))) ?_
              rw [cutV_fromS (m := 1) (i := 1) rfl]
              refine new_F hs21 (fun l6 B22 H22 hs22 sb22 e22 _ => ?_)
              ((with_reducible refine x_gname ?_); try simp only [List.set_cons_zero, List.set_cons_succ])
              refine hR _ _ ⟨a19, b19, B22, l5, _, l6, _, hs22, hv19, ((sb19.trans sb20).trans sb21).trans sb22, sb22 _ _ e21, e22, okr.perm ?_, rfl⟩
              have h1 : (tl.take 1 ++ hd ++ tl.drop 1).Perm (hd ++ tl.take 1 ++ tl.drop 1) := List.perm_append_comm.append_right _
              rw [List.append_assoc hd, List.take_append_drop] at h1
              exact h1
            · (with_reducible refine x_next ?_)
              exact hR _ _ ⟨a19, b19, B19, h, hd, l3, tl, hs19, hv19, sb19, eh19, e19, okr, rfl⟩
          · ((with_reducible refine x_ff _ _ ?_); (with_reducible refine x_next ?_))
            exact hR _ _ ⟨a17, b17, B18, h, hd, l3, tl, hs18, hv17, Same.refl _, eh18, e18, okr, rfl⟩
        clear okr e18 eh18 dis okt
        rintro σ H19 ⟨a19, b19, B19, h', hd', l', tl', hs19, hv19, sb19, eh19, el19, okr, rfl⟩
        have s1119 := s1118.trans sb19
        have ek19 := s1119 _ _ ek11
        have htl := okr.len
        rw [List.length_append] at htl
        ((with_reducible refine x_dputU ?_); (with_reducible refine x_op ?_); ((with_reducible refine' x_var ?z218h ?_); case z218h => rfl); ((with_reducible refine' x_var ?z219h ?_); case z219h => rfl))
        refine x_cat (hs19.up eh19) (hs19.up el19) (by simp; omega) ?_
        rw [← List.map_append]
        refine new_F hs19 (fun rr B20 H20 hs20 sb20 e20 _ => ?_)
        have ek20 := sb20 _ _ ek19
        (((with_reducible refine' x_var ?z220h ?_); case z220h => rfl); (with_reducible refine x_op ?_); ((with_reducible refine' x_var ?z222h ?_); case z222h => rfl); ((with_reducible refine' x_var ?z223h ?_); case z223h => rfl); ((with_reducible refine' x_ixL ?z224h ?z224h2 ?_); (case z224h => walk_at "sl"); (case z224h2 => first | rfl | assumption)))
        have hwl := hw6.len
        rw [List.length_take] at hwl
        refine x_dput hs20.swap (by omega) (fun H21 hs21 => ?_)
        have s620 : Same B6 B20 := (s611.trans s1119).trans sb20
        refine ⟨((a19, b19), _, some _, some _, some _, some _), B20, rfl, sb6.trans s620, hs21.swap, hv19, ?_⟩
        dsimp only
        have e2 : at_ + (j + 1) = (at_ + j) + 1 := by omega
        rw [e2, take_snoc hxo]
        exact (hw6.mono s620).snoc (notin_take ndo hxo) e20 okr
    · obtain ⟨⟨a6, b6⟩, kvs, r8, r9, r10, r11⟩ := s
      obtain ⟨hv6, hw6⟩ := pp
      dsimp only at hs6 hv6 hw6 ⊢
      refine ⟨((a6, b6), (at_ + (1 + m), kvs), _, _, _, _, _, _, _), B6, rfl, (((sb3.trans sb4).trans sb5).trans sb6), hs6, hv6, by dsimp only; omega, by dsimp only; omega, ?_⟩
      dsimp only
      have e3 : ord.take (at_ + (1 + m)) = ord.take (at_ + blk.length) := by
        by_cases hh : 1 + m ≤ ord.length - at_
        · rw [hbl2, Nat.min_eq_left hh]
        · rw [List.take_of_length_le (by omega), List.take_of_length_le (by omega)]
      rw [e3]
      exact hw6
  · obtain ⟨⟨a3, b3⟩, ⟨at_, kvs0⟩, q5, q6, q7, q8, q9, q10, q11⟩ := s
    obtain ⟨hv3, hat1, hat2, hw3⟩ := pp
    dsimp only at hs3 hv3 hat1 hat2 hw3 ⊢
    rw [List.take_of_length_le hat1] at hw3
    ((with_reducible refine x_ret ?_); ((with_reducible refine' x_var ?z226h ?_); case z226h => rfl))
    exact k B3 H3 a3 b3 w kvs0 ord hs3 hv3 pe hw3
end Q

set_option Elab.async false
set_option linter.all false
set_option maxRecDepth 100000
set_option maxHeartbeats 4000000
namespace Q
open PySem PySem.Spec PyProof.Rows L2
local macro_rules | `(tactic| walk_at "bf") => `(tactic| first | assumption | (refine' bstep (by assumption) ?r; case r => walk_at "bf") | fail)
local macro_rules | `(tactic| walk_at "rp") => `(tactic| first | assumption | exact Rep.int _ | exact Rep.bl _ | exact Rep.non | (refine' Rep.mono (by assumption) ?r; case r => walk_at "rp") | fail)
local macro_rules | `(tactic| walk_at "hf") => `(tactic| first | assumption | exact HS.up (by assumption) (by walk_at "bf") | exact HS.get (by assumption) List.mem_cons_self | exact HS.get (by assumption) (List.mem_cons_of_mem _ List.mem_cons_self) | exact HS.get (by assumption) (List.mem_cons_of_mem _ (List.mem_cons_of_mem _ List.mem_cons_self)) | exact HS.get (by assumption) (List.mem_cons_of_mem _ (List.mem_cons_of_mem _ (List.mem_cons_of_mem _ List.mem_cons_self))) | fail)
local macro_rules | `(tactic| walk_at "sl") => `(tactic| first | assumption | exact SqL.of (by walk_at "hf") | fail)
local macro_rules | `(tactic| walk_at "st") => `(tactic| first | assumption | exact SqT.of (by walk_at "hf") | fail)
local macro_rules | `(tactic| walk_at "sz") => `(tactic| first | assumption | (refine small_le ?_; first | assumption | omega | (simp; done) | (simp; omega)) | fail)
/-! ### a drawn group -/
def WAt (B : Hp) (done : List Str) (kvs : List (Key × V)) (ws : Str → List Str) : Prop := ∃ al : List Addr, al.length = done.length ∧ kvs = zipK done al ∧ ∀ (j : Nat) p a, done[j]? = some p → al[j]? = some a → LAt B ws p a
theorem WAt.mono {B B' : Hp} {done : List Str} {kvs : List (Key × V)} {ws : Str → List Str} (s : Same B B') (h : WAt B done kvs ws) : WAt B' done kvs ws := by
  obtain ⟨al, h1, h2, h3⟩ := h
  exact ⟨al, h1, h2, fun j p a e1 e2 => s _ _ (h3 j p a e1 e2)⟩
theorem WAt.get {B : Hp} {done : List Str} {kvs : List (Key × V)} {ws : Str → List Str} (h : WAt B done kvs ws) (nd : done.Nodup) {p : Str} (m : p ∈ done) : ∃ a, valV kvs (.inr p) = some (.ref a) ∧ B a = some (.lst ((ws p).map V.str)) := by
  obtain ⟨al, h1, h2, h3⟩ := h
  obtain ⟨j, a, e1, e2, e3⟩ := zipK_val h1 nd m
  exact ⟨a, by rw [h2]; exact e3, h3 j p a e1 e2⟩
theorem WAt.keys {B : Hp} {done : List Str} {kvs : List (Key × V)} {ws : Str → List Str} (h : WAt B done kvs ws) : kvs.map (·.1) = done.map Sum.inr := by
  obtain ⟨al, h1, h2, h3⟩ := h
  rw [h2]
  exact zipK_keys h1
theorem WRows.fn {B : Hp} {names done : List Str} {kvs : List (Key × V)} (h : WRows B names done kvs) (pe : done.Perm names) (nd : names.Nodup) : ∃ ws : Str → List Str, (∀ p ∈ names, RowOk names p (ws p)) ∧ WAt B done kvs ws := by
  have ndd : done.Nodup := pe.nodup_iff.mpr nd
  obtain ⟨al, h1, h2, h3⟩ := h
  have hex : ∀ p, ∃ row : List Str, p ∈ done → (∀ a, valV kvs (.inr p) = some (.ref a) → B a = some (.lst (row.map V.str))) ∧ RowOk names p row := fun p => by
    by_cases m : p ∈ done
    · obtain ⟨j, a, e1, e2, e3⟩ := zipK_val h1 ndd m
      obtain ⟨row, q1, q2⟩ := h3 j p a e1 e2
      refine ⟨row, fun _ => ⟨fun b hb => ?_, q2⟩⟩
      rw [h2, e3] at hb
      cases hb
      exact q1
    · exact ⟨[], fun z => absurd z m⟩
  refine ⟨fun p => (hex p).choose, fun p m => ((hex p).choose_spec (pe.mem_iff.mpr m)).2, al, h1, h2, fun j p a e1 e2 => ?_⟩
  have m : p ∈ done := List.mem_of_getElem? e1
  refine ((hex p).choose_spec m).1 a ?_
  obtain ⟨j', a', f1, f2, f3⟩ := zipK_val h1 ndd m
  have := nodup_ix ndd f1 e1
  subst this
  rw [e2] at f2
  cases f2
  rw [h2]
  exact f3
/-- names and wishes that fit them -/
structure Drawn (xs done : List Str) (ws : Str → List Str) : Prop where
  nd : xs.Nodup
  ok : ∀ x ∈ xs, okName x = true
  pe : done.Perm xs
  row : ∀ p ∈ xs, RowOk xs p (ws p)
abbrev N__law_wishes : List Str := ["_law_state", "_law_names_here", "_law_mode"]
def t__law_wishes (K : PySem.W.Frag) (E : XK) : TS := (tSeq (tAsg (tCl (sp__law_take K) (WE0 E) (tCons (tVar 0) (tCons (tC (.int 9)) tNil))) (gName 2))
  (tSeq (tIfS (tTest (tOp rGtI (tVar 2) (tC (.int 6)))) (tRet (tCl (sp__law_block_wishes K) (WE0 E) (tCons (tVar 0) (tCons (tVar 1) tNil)))) tNext)
  (tSeq (tIfS (tTest (tOp rGtI (tVar 2) (tC (.int 4)))) (tRet (tCl (sp__law_side_wishes K) (WE0 E) (tCons (tVar 0) (tCons (tVar 1) tNil)))) tNext)
  (tRet (tCl (sp__law_plain_wishes K) (WE0 E) (tCons (tVar 0) (tCons (tVar 1) (tCons (tVar 2) tNil))))))))
def sp__law_wishes (K : PySem.W.Frag) : Sp := fun vs H Q E => ∃ (p t : Addr), vs = [.ref p, .ref t] ∧ spW p t H Q
theorem pure__law_wishes {K : PySem.W.Frag} {vs : List V} {H : Hp} {Q : VK} {E : XK} (h : sp__law_wishes K vs H Q E) : t__law_wishes K E { nx := fun _ H' => Q .non H', rt := Q } (start N__law_wishes vs) H := by
  obtain ⟨p, t, rfl, a, b, xs, B, sB, bp, hp, hv, ht, hl, nd, k⟩ := h
  have hs := HS.startS sB bp hp
  show t__law_wishes K E _ [some (.ref p), some (.ref t), none] H
  unfold t__law_wishes
  ((with_reducible refine x_seq ?_); (with_reducible refine x_asg ?_); (with_reducible refine x_cl ?_); (with_reducible refine x_cons ?_); ((with_reducible refine' x_var ?z5h ?_); case z5h => rfl); (with_reducible refine x_cons ?_); (with_reducible refine x_c ?_); (with_reducible refine x_nil ?_))
  refine use_take hs hv (by decide) (by decide) (fun B1 H1 a1 b1 m sb1 hs1 hv1 hm => ?_)
  have ht1 := sb1 _ _ ht
  have go : spW p t H1 Q := use_W hs1 hv1 ht1 hl nd fun B' H' a' b' w kvs done _ c v d r => k B' H' a' b' w kvs done c v d r
  (((with_reducible refine x_gname ?_); try simp only [List.set_cons_zero, List.set_cons_succ]); (with_reducible refine x_seq ?_); (with_reducible refine x_if ?_); (with_reducible refine x_test ?_); (with_reducible refine x_op ?_); ((with_reducible refine' x_var ?z14h ?_); case z14h => rfl); (with_reducible refine x_c ?_); (with_reducible refine x_gtI ?_); (with_reducible refine x_exb ?_))
  refine x_ite (fun h => ?_) (fun h => ?_)
  · ((with_reducible refine x_ret ?_); (with_reducible refine x_cl ?_); (with_reducible refine x_cons ?_); ((with_reducible refine' x_var ?z21h ?_); case z21h => rfl); (with_reducible refine x_cons ?_); ((with_reducible refine' x_var ?z23h ?_); case z23h => rfl); (with_reducible refine x_nil ?_))
    exact ⟨p, t, rfl, go⟩
  · ((with_reducible refine x_next ?_); (with_reducible refine x_seq ?_); (with_reducible refine x_if ?_); (with_reducible refine x_test ?_); (with_reducible refine x_op ?_); ((with_reducible refine' x_var ?z30h ?_); case z30h => rfl); (with_reducible refine x_c ?_); (with_reducible refine x_gtI ?_); (with_reducible refine x_exb ?_))
    refine x_ite (fun h => ?_) (fun h => ?_)
    · ((with_reducible refine x_ret ?_); (with_reducible refine x_cl ?_); (with_reducible refine x_cons ?_); ((with_reducible refine' x_var ?z37h ?_); case z37h => rfl); (with_reducible refine x_cons ?_); ((with_reducible refine' x_var ?z39h ?_); case z39h => rfl); (with_reducible refine x_nil ?_))
      exact ⟨p, t, rfl, go⟩
    · ((with_reducible refine x_next ?_); (with_reducible refine x_ret ?_); (with_reducible refine x_cl ?_); (with_reducible refine x_cons ?_); ((with_reducible refine' x_var ?z45h ?_); case z45h => rfl); (with_reducible refine x_cons ?_); ((with_reducible refine' x_var ?z47h ?_); case z47h => rfl); (with_reducible refine x_cons ?_); ((with_reducible refine' x_var ?z49h ?_); case z49h => rfl); (with_reducible refine x_nil ?_))
      exact ⟨p, t, _, rfl, go⟩
abbrev N__law_group : List Str := ["_law_state", "_law_top", "_law_names_here", "_law_wishes_here"]
def t__law_group (K : PySem.W.Frag) (E : XK) : TS := (tSeq (tAsg (tCl (sp__law_names K) (WE0 E) (tCons (tVar 0) (tCons (tCl (sp__law_take K) (WE0 E) (tCons (tVar 0) (tCons (tOp rAddI (tVar 1) (tC (.int 1))) tNil))) tNil))) (gName 2))
  (tSeq (tAsg (tCl (sp__law_wishes K) (WE0 E) (tCons (tVar 0) (tCons (tVar 2) tNil))) (gName 3))
  (tRet (tTup (tCons (tVar 2) (tCons (tVar 3) tNil))))))
def sp__law_group (K : PySem.W.Frag) : Sp := fun vs H Q E => ∃ (p : Addr) (top : Nat) (a b : Int) (B : Hp), vs = [.ref p, .int (top : Nat)] ∧ Same B H ∧ B p = none ∧ H p = some (stO a b) ∧ VSt a b ∧ top ≤ 24 ∧
  ∀ B' H' a' b' T n w xs kvs done ws, HS [p] B H B' H' [(p, stO a' b'), (w, .dK kvs)] → VSt a' b' → B' T = some (.tup [.ref n, .ref w]) → B' n = some (.lst (xs.map V.str)) → xs.length ≤ top → Drawn xs done ws → WAt B' done kvs ws → Q (.ref T) H'
theorem pure__law_group {K : PySem.W.Frag} {vs : List V} {H : Hp} {Q : VK} {E : XK} (h : sp__law_group K vs H Q E) : t__law_group K E { nx := fun _ H' => Q .non H', rt := Q } (start N__law_group vs) H := by
  obtain ⟨p, top, a, b, B, rfl, sB, bp, hp, hv, htop, k⟩ := h
  have hs := HS.startS sB bp hp
  show t__law_group K E _ [some (.ref p), some (.int (top : Nat)), none, none] H
  unfold t__law_group
  ((with_reducible refine x_seq ?_); (with_reducible refine x_asg ?_); (with_reducible refine x_cl ?_); (with_reducible refine x_cons ?_); ((with_reducible refine' x_var ?z55h ?_); case z55h => rfl); (with_reducible refine x_cons ?_); (with_reducible refine x_cl ?_); (with_reducible refine x_cons ?_); ((with_reducible refine' x_var ?z59h ?_); case z59h => rfl); (with_reducible refine x_cons ?_); (with_reducible refine x_op ?_); ((with_reducible refine' x_var ?z62h ?_); case z62h => rfl); (with_reducible refine x_c ?_); (with_reducible refine x_addI ?_); (with_reducible refine x_nil ?_))
  refine use_take hs hv (by omega) (by omega) (fun B1 H1 a1 b1 m sb1 hs1 hv1 hm => ?_)
  (with_reducible refine x_nil ?_)
  refine use_names hs1 hv1 (by omega) (fun B2 H2 a2 b2 n xs sb2 hs2 hv2 hxl hnd hok => ?_)
  obtain ⟨B3, hs3, sb3, en⟩ := hs2.stillN (by simpa using Ne.symm hs2.ne01)
  (((with_reducible refine x_gname ?_); try simp only [List.set_cons_zero, List.set_cons_succ]); (with_reducible refine x_seq ?_); (with_reducible refine x_asg ?_); (with_reducible refine x_cl ?_); (with_reducible refine x_cons ?_); ((with_reducible refine' x_var ?z72h ?_); case z72h => rfl); (with_reducible refine x_cons ?_); ((with_reducible refine' x_var ?z74h ?_); case z74h => rfl); (with_reducible refine x_nil ?_))
  refine ⟨p, n, rfl, use_W hs3 hv2 en (by omega) hnd fun B4 H4 a4 b4 w kvs done sb4 hs4 hv4 pe hw => ?_⟩
  have en4 := sb4 _ _ en
  (((with_reducible refine x_gname ?_); try simp only [List.set_cons_zero, List.set_cons_succ]); (with_reducible refine x_ret ?_); (with_reducible refine x_tup ?_); (with_reducible refine x_cons ?_); ((with_reducible refine' x_var ?z80h ?_); case z80h => rfl); (with_reducible refine x_cons ?_); ((with_reducible refine' x_var ?z82h ?_); case z82h => rfl); (with_reducible refine x_nil ?_); ((with_reducible refine' x_newT ?z84h ?_); case z84h => first | exact Nat.zero_le _ | (simp; done) | (simp; omega)))
  refine new_F hs4 (fun T B5 H5 hs5 sb5 eT _ => ?_)
  obtain ⟨ws, h1, h2⟩ := (hw.mono sb5).fn pe hnd
  exact k B5 H5 a4 b4 T n w xs kvs done ws hs5 hv4 eT (sb5 _ _ en4) (by omega) ⟨hnd, hok, pe, h1⟩ h2
theorem use_group {K : PySem.W.Frag} {S : List Addr} {B0 H0 B H : Hp} {M : List (Addr × HO)} {Q : VK} {E : XK} {p : Addr} {a b : Int} {top : Nat} (hs : HS S B0 H0 B H ((p, stO a b) :: M)) (v : VSt a b) (ht : top ≤ 24)
    (k : ∀ B' H' a' b' T n w xs kvs done ws, Same B B' → HS S B0 H0 B' H' ((p, stO a' b') :: (w, .dK kvs) :: M) → VSt a' b' → B' T = some (.tup [.ref n, .ref w]) → B' n = some (.lst (xs.map V.str)) → xs.length ≤ top → Drawn xs done ws → WAt B' done kvs ws → Q (.ref T) H') : sp__law_group K [.ref p, .int (top : Nat)] H Q E :=
  ⟨p, top, a, b, B, rfl, hs.bh, (hs.mu _ List.mem_cons_self).1, hs.get List.mem_cons_self, v, ht, fun B' H' a' b' T n w xs kvs done ws c v' h1 h2 h3 h4 h5 => k B' H' a' b' T n w xs kvs done ws c.bb (hs.call1N c) v' h1 h2 h3 h4 h5⟩
/-! ### for x in a dict -/
def Lk (d : Addr) (u : HO) (o : Obj) (De : Ends) : Ends := ⟨fun σ' H' => H' d = some (.frz o u) ∧ De.nx σ' (upd H' d u), fun v H' => H' d = some (.frz o u) ∧ De.rt v (upd H' d u), fun σ' H' => H' d = some (.frz o u) ∧ De.bk σ' (upd H' d u), fun σ' H' => H' d = some (.frz o u) ∧ De.ct σ' (upd H' d u)⟩
theorem walk_keys {d : Addr} {o : Obj} {kvs : List (Key × V)} : Walk (Itk d o kvs) kvs.length (fun H => H d = some (.frz o (.dK kvs))) (fun i H v H' => H' = H ∧ ∃ k w, kvs[i]? = some (k, w) ∧ v = kV k) := ⟨fun i _ hi q => ⟨q, hi⟩, fun _ q => ⟨q, Nat.le_refl _⟩, fun i H v H' _ q y => y⟩
section
variable {α : Type} {S : List Addr} {B0 H0 B : Hp} {σf : α → L2.St} {Mf : α → List (Addr × HO)} {P : Nat → α → Hp → Prop} {g : TG} {tb : TS} {De : Ends} {H : Hp} {s0 : α} {d : Addr} {kvs : List (Key × V)} {ks : List Str} {td : TE}
theorem l_keys (hk : kvs.map (·.1) = ks.map Sum.inr) (hs : HS S B0 H0 B H ((d, .dK kvs) :: Mf s0)) (h0 : P 0 s0 B) (ev : ∀ (H' : Hp) (Qv : VK), Qv (.ref d) H' → td (σf s0) H' Qv)
    (hb : ∀ o i x s B1 H1, ks[i]? = some x → Same B B1 → HS S B0 H0 B1 H1 ((d, .frz o (.dK kvs)) :: Mf s) → P i s B1 → g (.str x) (σf s) H1 fun σ2 H2 => tb { (Lk d (.dK kvs) o De) with nx := LI S B0 H0 B σf (fun s => (d, .frz o (.dK kvs)) :: Mf s) P (i + 1), ct := LI S B0 H0 B σf (fun s => (d, .frz o (.dK kvs)) :: Mf s) P (i + 1), bk := (Lk d (.dK kvs) o De).nx } σ2 H2)
    (hd : ∀ s B1 H1, Same B B1 → HS S B0 H0 B1 H1 ((d, .dK kvs) :: Mf s) → P ks.length s B1 → De.nx (σf s) H1) : tLock (tFor (iKeys td) g tb) De (σf s0) H := by
  have hlen : kvs.length = ks.length := by
    have := congrArg List.length hk
    simpa using this
  refine ⟨d, .dK kvs, hs.get List.mem_cons_self, trivial, fun o => ?_⟩
  have hs1 := hs.set0 (o' := .frz o (.dK kvs))
  refine x_for (ev _ _ ⟨d, o, rfl, .inl ⟨kvs, hs1.get List.mem_cons_self, ?_⟩⟩)
  refine for_it walk_keys (LI S B0 H0 B σf (fun s => (d, .frz o (.dK kvs)) :: Mf s) P) ⟨s0, B, rfl, Same.refl _, hs1, h0⟩ (fun i σ H' _ ⟨s, B1, _, sb, hs', _⟩ => hs'.get List.mem_cons_self) (fun i v σ H' H2 hi ⟨s, B1, e, sb, hs', p⟩ y => ?_) fun σ H' ⟨s, B1, e, sb, hs', p⟩ => ?_
  · obtain ⟨rfl, k, w, e1, rfl⟩ := y
    rw [e]
    have hki : (kvs.map (·.1))[i]? = some k := by rw [List.getElem?_map, e1]; rfl
    rw [hk, List.getElem?_map] at hki
    cases hx : ks[i]? with
    | none => rw [hx] at hki; cases hki
    | some x =>
      rw [hx] at hki
      cases hki
      exact hb o i x s B1 _ hx sb hs' p
  · rw [e]
    refine ⟨hs'.get List.mem_cons_self, ?_⟩
    exact hd s B1 _ sb hs'.set0 (by rw [← hlen]; exact p)
end
/-- a key of a locked dict -/
theorem x_dgF {H : Hp} {p : Addr} {kvs : List (Key × V)} {x : Str} {v : V} {o : Obj} {R : V → Prop} (hd : H p = some (.frz o (.dK kvs))) (e : valV kvs (.inr x) = some v) (h : R v) : ∃ a v, V.ref p = .ref a ∧ DGet H a (.str x) (some v) ∧ R v :=
  ⟨p, v, rfl, .inl ⟨kvs, .inr x, .inr ⟨o, hd⟩, rfl, e.symm⟩, h⟩
/-! ### copies -/
def lsM (al : List Addr) (done : List Str) (ws : Str → List Str) : List (Addr × HO) := (al.zip done).map fun q => (q.1, .lst ((ws q.2).map V.str))
theorem lsM_snoc {al : List Addr} {done : List Str} {ws : Str → List Str} {a : Addr} {x : Str} (h : al.length = done.length) : lsM (al ++ [a]) (done ++ [x]) ws = lsM al done ws ++ [(a, .lst ((ws x).map V.str))] := by
  unfold lsM
  rw [List.zip_append h, List.map_append]
  rfl
abbrev N__law_copy : List Str := ["_law_wishes_here", "_law_copy_here", "_law_a"]
def t__law_copy (K : PySem.W.Frag) (E : XK) : TS := (tSeq (tAsg tDNewK (gName 1))
  (tSeq (tLock (tFor (iKeys (tVar 0)) (gName 2) (sDPut (tVar 1) (tVar 2) (tCB (rListOf K) (tCons (tDGet (tVar 0) (tVar 2)) tNil)))))
  (tRet (tVar 1))))
def sp__law_copy (K : PySem.W.Frag) : Sp := fun vs H Q E => ∃ (d : Addr) (kvs : List (Key × V)) (done : List Str) (ws : Str → List Str) (B : Hp), vs = [.ref d] ∧ Same B H ∧ B d = none ∧ H d = some (.dK kvs) ∧ WAt B done kvs ws ∧ done.Nodup ∧ done.length ≤ 100 ∧
  ∀ B' H' c al, HS [d] B H B' H' ((d, .dK kvs) :: (c, .dK (zipK done al)) :: lsM al done ws) → al.length = done.length → Q (.ref c) H'
theorem pure__law_copy {K : PySem.W.Frag} {vs : List V} {H : Hp} {Q : VK} {E : XK} (h : sp__law_copy K vs H Q E) : t__law_copy K E { nx := fun _ H' => Q .non H', rt := Q } (start N__law_copy vs) H := by
  obtain ⟨d, kvs, done, ws, B, rfl, sB, bd, hd, hw, nd, hl, k⟩ := h
  have hs := HS.startS sB bd hd
  show t__law_copy K E _ [some (.ref d), none, none] H
  unfold t__law_copy
  ((with_reducible refine x_seq ?_); (with_reducible refine x_asg ?_); (with_reducible refine x_dnew ?_))
  refine new_M hs (fun c H1 hs1 _ => ?_)
  (((with_reducible refine x_gname ?_); try simp only [List.set_cons_zero, List.set_cons_succ]); (with_reducible refine x_seq ?_))
  refine l_keys (α := List Addr × Option V) (σf := fun s => [some (.ref d), some (.ref c), s.2]) (Mf := fun s => (c, .dK (zipK (done.take s.1.length) s.1)) :: lsM s.1 (done.take s.1.length) ws) (P := fun i s _ => s.1.length = i) (s0 := ([], none)) hw.keys hs1.swap rfl (fun H' Qv q => ⟨_, rfl, q⟩)
    (fun o i x s B1 H1 hx sb1 hs1 pp => ?_) (fun s B1 H1 sb1 hs1 pp => ?_)
  · obtain ⟨al, s2⟩ := s
    dsimp only at pp hs1 ⊢
    have hil : i < done.length := (List.getElem?_eq_some_iff.mp hx).1
    obtain ⟨a, e1, e2⟩ := (hw.mono sb1).get nd (List.mem_of_getElem? hx)
    (((with_reducible refine x_gname ?_); try simp only [List.set_cons_zero, List.set_cons_succ]); (with_reducible refine x_dputU ?_); (with_reducible refine x_cb ?_); (with_reducible refine x_cons ?_); (with_reducible refine x_dget ?_); ((with_reducible refine' x_var ?z95h ?_); case z95h => rfl); ((with_reducible refine' x_var ?z96h ?_); case z96h => rfl))
    refine x_dgF (hs1.get List.mem_cons_self) e1 ?_
    ((with_reducible refine x_nil ?_); ((with_reducible refine' x_listL ?z98h ?_); case z98h => walk_at "sl"))
    try refine x_listL (SqL.of (hs1.up e2)) ?_
    refine new_M hs1 (fun r H2 hs2 _ => ?_)
    (((with_reducible refine' x_var ?z99h ?_); case z99h => rfl); ((with_reducible refine' x_var ?z100h ?_); case z100h => rfl))
    have hs3 : HS [d] B H B1 H2 ((c, .dK (zipK (done.take al.length) al)) :: (r, .lst ((ws x).map V.str)) :: (d, .frz o (.dK kvs)) :: lsM al (done.take al.length) ws) := hs2.perm ((List.Perm.cons _ (List.Perm.swap _ _ _)).trans ((List.Perm.swap _ _ _)))
    refine x_dput hs3 (by have := zipK_len (done.take al.length) al; rw [List.length_take] at this; omega) (fun H3 hs4 => ?_)
    refine ⟨(al ++ [r], some _), B1, rfl, sb1, ?_, by simp [pp]⟩
    dsimp only
    have hz := zipK_put (c := r) nd hx pp
    rw [pp, hz] at hs4
    have e3 : (al ++ [r]).length = i + 1 := by simp [pp]
    rw [e3, take_snoc hx, lsM_snoc (by rw [List.length_take]; omega)]
    rw [take_snoc hx] at hs4
    refine hs4.perm ?_
    have p1 : ((r, HO.lst ((ws x).map V.str)) :: lsM al (done.take i) ws).Perm (lsM al (done.take i) ws ++ [(r, HO.lst ((ws x).map V.str))]) := (List.perm_append_singleton _ _).symm
    exact (List.Perm.cons _ ((List.Perm.swap _ _ _).trans (List.Perm.cons _ p1))).trans (List.Perm.swap _ _ _)
  · obtain ⟨al, s2⟩ := s
    dsimp only at pp hs1 ⊢
    rw [pp, List.take_length] at hs1
    ((with_reducible refine x_ret ?_); ((with_reducible refine' x_var ?z102h ?_); case z102h => rfl))
    exact k B1 H1 c al hs1 pp
end Q

set_option Elab.async false
set_option linter.all false
set_option maxRecDepth 100000
set_option maxHeartbeats 4000000
namespace Q
open PySem PySem.Spec PyProof.Rows L2
local macro_rules | `(tactic| walk_at "bf") => `(tactic| first | assumption | (refine' bstep (by assumption) ?r; case r => walk_at "bf") | fail)
local macro_rules | `(tactic| walk_at "rp") => `(tactic| first | assumption | exact Rep.int _ | exact Rep.bl _ | exact Rep.non | (refine' Rep.mono (by assumption) ?r; case r => walk_at "rp") | fail)
local macro_rules | `(tactic| walk_at "hf") => `(tactic| first | assumption | exact HS.up (by assumption) (by walk_at "bf") | exact HS.get (by assumption) List.mem_cons_self | exact HS.get (by assumption) (List.mem_cons_of_mem _ List.mem_cons_self) | exact HS.get (by assumption) (List.mem_cons_of_mem _ (List.mem_cons_of_mem _ List.mem_cons_self)) | exact HS.get (by assumption) (List.mem_cons_of_mem _ (List.mem_cons_of_mem _ (List.mem_cons_of_mem _ List.mem_cons_self))) | fail)
local macro_rules | `(tactic| walk_at "sl") => `(tactic| first | assumption | exact SqL.of (by walk_at "hf") | fail)
local macro_rules | `(tactic| walk_at "st") => `(tactic| first | assumption | exact SqT.of (by walk_at "hf") | fail)
local macro_rules | `(tactic| walk_at "sz") => `(tactic| first | assumption | (refine small_le ?_; first | assumption | omega | (simp; done) | (simp; omega)) | fail)
/-! ### methods of a group -/
def Grp.has (G : Grp) : D → Bool
  | .str x => decide (x ∈ G.names)
  | _ => false
theorem Thr.up {K : PySem.W.Frag} {B H B1 H1 : Hp} {E : XK} {c : Str} {fs : List (Str × V)} {M : List (Addr × HO)} (k : Thr K B H E c fs) (hs : HS [] B H B1 H1 M) : Thr K B1 H1 E c fs := fun B' H' d c h1 h2 => k B' H' d (hs.call c).all h1 h2
/-- an error in a caller's frame -/
def ThrW (K : PySem.W.Frag) (S : List Addr) (B0 H0 B : Hp) (M : List (Addr × HO)) (E : XK) (c : Str) (fs : List (Str × V)) : Prop := ∀ B' H' d, Same B B' → HS S B0 H0 B' H' M → B' d = none → H' d = some (.xd fs) → E (.ref (He.ga K c)) (some d) H'
theorem ThrW.thr {K : PySem.W.Frag} {S : List Addr} {B0 H0 B H : Hp} {M : List (Addr × HO)} {E : XK} {c : Str} {fs : List (Str × V)} (k : ThrW K S B0 H0 B M E c fs) (hs : HS S B0 H0 B H M) : Thr K B H E c fs := fun B' H' d c h1 h2 => k B' H' d c.bb (hs.call c) h1 h2
theorem Thr.w {K : PySem.W.Frag} {B H B1 : Hp} {E : XK} {c : Str} {fs : List (Str × V)} {M : List (Addr × HO)} (k : Thr K B H E c fs) : ThrW K [] B H B1 M E c fs := fun B' H' d _ c h1 h2 => k B' H' d c.all h1 h2
abbrev N_Group_check : List Str := ["self", "a"]
def t_Group_check (K : PySem.W.Frag) (E : XK) : TS := (tIfS (tOr (tNot (tB (tCB (rIsi K) (tCons (tVar 1) (tCons (tC (.ty "str")) tNil))))) (tB (tDNotIn (tVar 1) (tFld K (tVar 0) "lists")))) (tRz1 (He.ga K "NoPerson") "value" (tVar 1) (WE0 E)) tNext)
def sp_Group_check (K : PySem.W.Frag) : Sp := fun vs H Q E => ∃ p v B G d, vs = [.ref p, v] ∧ Same B H ∧ GAt K B p G ∧ Rep K B v d ∧ (G.has d = true → Ret B H Q fun _ r => r = .non) ∧ (G.has d = false → Thr K B H E "NoPerson" [("value", v)])
theorem pure_Group_check {K : PySem.W.Frag} (gk : GK K) {vs : List V} {H : Hp} {Q : VK} {E : XK} (h : sp_Group_check K vs H Q E) : t_Group_check K E { nx := fun _ H' => Q .non H', rt := Q } (start N_Group_check vs) H := by
  obtain ⟨p, v, B, G, d, rfl, sB, g, r, k, ke⟩ := h
  have hs := HS.start sB
  show t_Group_check K E _ [some (.ref p), some v] H
  unfold t_Group_check
  obtain ⟨⟨dx, n, l, m, q, h1, h2, h3, h4, h5⟩, ok⟩ := g
  ((with_reducible refine x_if ?_); (with_reducible refine x_or ?_); (with_reducible refine x_not ?_); (with_reducible refine x_tB ?_); (with_reducible refine x_cb ?_); (with_reducible refine x_cons ?_); ((with_reducible refine' x_var ?z7h ?_); case z7h => rfl); (with_reducible refine x_cons ?_); (with_reducible refine x_c ?_); (with_reducible refine x_nil ?_); ((with_reducible refine' x_isiD ?z11h1 ?z11h2 ?z11h3 ?_); (case z11h1 => assumption); (case z11h2 => walk_at "rp"); (case z11h3 => decide)); (with_reducible refine x_exb ?_))
  cases r with
  | @str x hx =>
    refine x_ite (fun h => by simp [D.isT] at h) (fun _ => ?_)
    ((with_reducible refine x_tB ?_); (with_reducible refine x_dnin ?_); ((with_reducible refine' x_var ?z15h ?_); case z15h => rfl); (with_reducible refine x_fldU ?_); ((with_reducible refine' x_var ?z17h ?_); case z17h => rfl))
    refine x_fld (hs.up h1) gk.cl gk.nl (gf_lists n l m q) ?_
    obtain ⟨kvs, el, hk⟩ := h3.has ok.nd x
    (((with_reducible refine' x_dinO ?z18h ?_); case z18h => walk_at "hf"); (with_reducible refine x_exb ?_))
    rw [hk]
    refine x_ite (fun h => ?_) (fun h => ?_)
    · ((with_reducible refine x_rz1 ?_); ((with_reducible refine' x_var ?z21h ?_); case z21h => rfl))
      exact x_thr hs (ke (by simpa [Grp.has] using h))
    · exact k (by simpa [Grp.has] using h) B H _ hs rfl
  | _ =>
    refine x_ite (fun h => ?_) (fun h => by simp [D.isT] at h)
    ((with_reducible refine x_tt _ _ ?_); (with_reducible refine x_rz1 ?_); ((with_reducible refine' x_var ?z24h ?_); case z24h => rfl))
    exact x_thr hs (ke rfl)
theorem use_check {K : PySem.W.Frag} {S : List Addr} {B0 H0 B H : Hp} {M : List (Addr × HO)} {Q : VK} {E : XK} {p : Addr} {v : V} {G : Grp} {d : D} (hs : HS S B0 H0 B H M) (g : GAt K B p G) (r : Rep K B v d)
    (k : G.has d = true → ∀ B' H', Same B B' → HS S B0 H0 B' H' M → Q .non H') (ke : G.has d = false → ThrW K S B0 H0 B M E "NoPerson" [("value", v)]) : sp_Group_check K [.ref p, v] H Q E :=
  ⟨p, v, B, G, d, rfl, hs.bh, g, r, fun h B' H' v' c e => by rw [e]; exact k h B' H' c.bb (hs.call c), fun h => (ke h).thr hs⟩
theorem has_str {G : Grp} {d : D} (h : G.has d = true) : ∃ x, d = .str x ∧ x ∈ G.names := by
  cases d with
  | str x => exact ⟨x, rfl, of_decide_eq_true h⟩
  | _ => cases h
theorem rep_str {K : PySem.W.Frag} {B : Hp} {v : V} {x : Str} (r : Rep K B v (.str x)) : v = .str x := by cases r; rfl
abbrev N_Group_wishes : List Str := ["self", "a"]
def t_Group_wishes (K : PySem.W.Frag) (E : XK) : TS := (tSeq (tDrop (tMt (He.ga K "Group") "check" (sp_Group_check K) (WE0 E) (tVar 0) (tCons (tVar 1) tNil)))
  (tRet (tCB (rListOf K) (tCons (tDGet (tFld K (tVar 0) "lists") (tVar 1)) tNil))))
def sp_Group_wishes (K : PySem.W.Frag) : Sp := fun vs H Q E => ∃ p v B G d, vs = [.ref p, v] ∧ Same B H ∧ GAt K B p G ∧ Rep K B v d ∧ (∀ x, d = .str x → x ∈ G.names → ∀ B' H' l, HS [] B H B' H' [(l, .lst ((G.wish x).map V.str))] → Q (.ref l) H') ∧ (G.has d = false → Thr K B H E "NoPerson" [("value", v)])
theorem pure_Group_wishes {K : PySem.W.Frag} (gk : GK K) {vs : List V} {H : Hp} {Q : VK} {E : XK} (h : sp_Group_wishes K vs H Q E) : t_Group_wishes K E { nx := fun _ H' => Q .non H', rt := Q } (start N_Group_wishes vs) H := by
  obtain ⟨p, v, B, G, d, rfl, sB, g, r, k, ke⟩ := h
  have hs := HS.start sB
  show t_Group_wishes K E _ [some (.ref p), some v] H
  unfold t_Group_wishes
  obtain ⟨dx0, n0, l0, m0, q0, hg0⟩ := g.ins
  ((with_reducible refine x_seq ?_); (with_reducible refine x_drop ?_); (with_reducible refine x_mtU ?_); ((with_reducible refine' x_var ?z28h ?_); case z28h => rfl))
  refine x_mt (hs.up hg0) (gf_no (by decide +kernel)) ?_
  ((with_reducible refine x_cons ?_); ((with_reducible refine' x_var ?z30h ?_); case z30h => rfl); (with_reducible refine x_nil ?_))
  refine use_check hs g r (fun hh B1 H1 sb1 hs1 => ?_) (fun hh => (ke hh).w)
  obtain ⟨x, rfl, hx⟩ := has_str hh
  cases rep_str r
  obtain ⟨⟨dx, n, l, m, q, h1, h2, h3, h4, h5⟩, ok⟩ := g.mono sb1
  obtain ⟨kvs, a, ed, ev, ea⟩ := h3.get ok.nd hx
  have ea : B1 a = some (.lst ((G.wish x).map V.str)) := ea
  ((with_reducible refine x_ret ?_); (with_reducible refine x_cb ?_); (with_reducible refine x_cons ?_); (with_reducible refine x_dget ?_); (with_reducible refine x_fldU ?_); ((with_reducible refine' x_var ?z37h ?_); case z37h => rfl))
  refine x_fld (hs1.up h1) gk.cl gk.nl (gf_lists n l m q) ?_
  (((with_reducible refine' x_var ?z38h ?_); case z38h => rfl); ((with_reducible refine' x_dgS ?z39h ?z39h2 ?_); (case z39h => walk_at "hf"); (case z39h2 => assumption)); (with_reducible refine x_nil ?_); ((with_reducible refine' x_listL ?z41h ?_); case z41h => walk_at "sl"))
  try refine x_listL (SqL.of (hs1.up ea)) ?_
  refine new_M hs1 (fun r H2 hs2 _ => k x rfl hx B1 H2 r hs2)
abbrev N_Group_open_to : List Str := ["self", "a"]
def t_Group_open_to (K : PySem.W.Frag) (E : XK) : TS := (tSeq (tDrop (tMt (He.ga K "Group") "check" (sp_Group_check K) (WE0 E) (tVar 0) (tCons (tVar 1) tNil)))
  (tRet (tCB (rListOf K) (tCons (tDGet (tFld K (tVar 0) "mutual") (tVar 1)) tNil))))
def sp_Group_open_to (K : PySem.W.Frag) : Sp := fun vs H Q E => ∃ p v B G d, vs = [.ref p, v] ∧ Same B H ∧ GAt K B p G ∧ Rep K B v d ∧ (∀ x, d = .str x → x ∈ G.names → ∀ B' H' l, HS [] B H B' H' [(l, .lst ((G.open x).map V.str))] → Q (.ref l) H') ∧ (G.has d = false → Thr K B H E "NoPerson" [("value", v)])
theorem pure_Group_open_to {K : PySem.W.Frag} (gk : GK K) {vs : List V} {H : Hp} {Q : VK} {E : XK} (h : sp_Group_open_to K vs H Q E) : t_Group_open_to K E { nx := fun _ H' => Q .non H', rt := Q } (start N_Group_open_to vs) H := by
  obtain ⟨p, v, B, G, d, rfl, sB, g, r, k, ke⟩ := h
  have hs := HS.start sB
  show t_Group_open_to K E _ [some (.ref p), some v] H
  unfold t_Group_open_to
  obtain ⟨dx0, n0, l0, m0, q0, hg0⟩ := g.ins
  ((with_reducible refine x_seq ?_); (with_reducible refine x_drop ?_); (with_reducible refine x_mtU ?_); ((with_reducible refine' x_var ?z45h ?_); case z45h => rfl))
  refine x_mt (hs.up hg0) (gf_no (by decide +kernel)) ?_
  ((with_reducible refine x_cons ?_); ((with_reducible refine' x_var ?z47h ?_); case z47h => rfl); (with_reducible refine x_nil ?_))
  refine use_check hs g r (fun hh B1 H1 sb1 hs1 => ?_) (fun hh => (ke hh).w)
  obtain ⟨x, rfl, hx⟩ := has_str hh
  cases rep_str r
  obtain ⟨⟨dx, n, l, m, q, h1, h2, h3, h4, h5⟩, ok⟩ := g.mono sb1
  obtain ⟨kvs, a, ed, ev, ea⟩ := h4.get ok.nd hx
  have ea : B1 a = some (.lst ((G.open x).map V.str)) := ea
  ((with_reducible refine x_ret ?_); (with_reducible refine x_cb ?_); (with_reducible refine x_cons ?_); (with_reducible refine x_dget ?_); (with_reducible refine x_fldU ?_); ((with_reducible refine' x_var ?z54h ?_); case z54h => rfl))
  refine x_fld (hs1.up h1) gk.cl gk.nm (gf_mutual n l m q) ?_
  (((with_reducible refine' x_var ?z55h ?_); case z55h => rfl); ((with_reducible refine' x_dgS ?z56h ?z56h2 ?_); (case z56h => walk_at "hf"); (case z56h2 => assumption)); (with_reducible refine x_nil ?_); ((with_reducible refine' x_listL ?z58h ?_); case z58h => walk_at "sl"))
  try refine x_listL (SqL.of (hs1.up ea)) ?_
  refine new_M hs1 (fun r H2 hs2 _ => k x rfl hx B1 H2 r hs2)
abbrev N_Group___getitem__ : List Str := ["self", "a"]
def t_Group___getitem__ (K : PySem.W.Frag) (E : XK) : TS := (tSeq (tIfS (tOr (tNot (tB (tCB (rIsi K) (tCons (tVar 1) (tCons (tC (.ty "str")) tNil))))) (tB (tDNotIn (tVar 1) (tFld K (tVar 0) "lists")))) (tRz1 (He.ga K "NoPerson") "value" (tVar 1) (WE0 E)) tNext)
  (tRet (tCB (rListOf K) (tCons (tDGet (tFld K (tVar 0) "mutual") (tVar 1)) tNil))))
def sp_Group___getitem__ (K : PySem.W.Frag) : Sp := sp_Group_open_to K
theorem pure_Group___getitem__ {K : PySem.W.Frag} (gk : GK K) {vs : List V} {H : Hp} {Q : VK} {E : XK} (h : sp_Group___getitem__ K vs H Q E) : t_Group___getitem__ K E { nx := fun _ H' => Q .non H', rt := Q } (start N_Group___getitem__ vs) H := by
  obtain ⟨p, v, B, G, d, rfl, sB, g, r, k, ke⟩ := h
  have hs := HS.start sB
  show t_Group___getitem__ K E _ [some (.ref p), some v] H
  unfold t_Group___getitem__
  obtain ⟨⟨dx, n, l, m, q, h1, h2, h3, h4, h5⟩, ok⟩ := g
  ((with_reducible refine x_seq ?_); (with_reducible refine x_if ?_); (with_reducible refine x_or ?_); (with_reducible refine x_not ?_); (with_reducible refine x_tB ?_); (with_reducible refine x_cb ?_); (with_reducible refine x_cons ?_); ((with_reducible refine' x_var ?z66h ?_); case z66h => rfl); (with_reducible refine x_cons ?_); (with_reducible refine x_c ?_); (with_reducible refine x_nil ?_); ((with_reducible refine' x_isiD ?z70h1 ?z70h2 ?z70h3 ?_); (case z70h1 => assumption); (case z70h2 => walk_at "rp"); (case z70h3 => decide)); (with_reducible refine x_exb ?_))
  cases r with
  | @str x hx =>
    refine x_ite (fun h => by simp [D.isT] at h) (fun _ => ?_)
    ((with_reducible refine x_tB ?_); (with_reducible refine x_dnin ?_); ((with_reducible refine' x_var ?z74h ?_); case z74h => rfl); (with_reducible refine x_fldU ?_); ((with_reducible refine' x_var ?z76h ?_); case z76h => rfl))
    refine x_fld (hs.up h1) gk.cl gk.nl (gf_lists n l m q) ?_
    obtain ⟨kvs, el, hk⟩ := h3.has ok.nd x
    (((with_reducible refine' x_dinO ?z77h ?_); case z77h => walk_at "hf"); (with_reducible refine x_exb ?_))
    rw [hk]
    refine x_ite (fun h => ?_) (fun h => ?_)
    · ((with_reducible refine x_rz1 ?_); ((with_reducible refine' x_var ?z80h ?_); case z80h => rfl))
      exact x_thr hs (ke (by simpa [Grp.has] using h))
    · have hxm : x ∈ G.names := by simpa using h
      obtain ⟨kvs, a, ed, ev, ea⟩ := h4.get ok.nd hxm
      have ea : B a = some (.lst ((G.open x).map V.str)) := ea
      ((with_reducible refine x_next ?_); (with_reducible refine x_ret ?_); (with_reducible refine x_cb ?_); (with_reducible refine x_cons ?_); (with_reducible refine x_dget ?_); (with_reducible refine x_fldU ?_); ((with_reducible refine' x_var ?z87h ?_); case z87h => rfl))
      refine x_fld (hs.up h1) gk.cl gk.nm (gf_mutual n l m q) ?_
      (((with_reducible refine' x_var ?z88h ?_); case z88h => rfl); ((with_reducible refine' x_dgS ?z89h ?z89h2 ?_); (case z89h => walk_at "hf"); (case z89h2 => assumption)); (with_reducible refine x_nil ?_); ((with_reducible refine' x_listL ?z91h ?_); case z91h => walk_at "sl"))
      try refine x_listL (SqL.of (hs.up ea)) ?_
      exact new_M hs (fun r H2 hs2 _ => k x rfl hxm B H2 r hs2)
  | _ =>
    refine x_ite (fun h => ?_) (fun h => by simp [D.isT] at h)
    ((with_reducible refine x_tt _ _ ?_); (with_reducible refine x_rz1 ?_); ((with_reducible refine' x_var ?z94h ?_); case z94h => rfl))
    exact x_thr hs (ke rfl)
theorem use_open_to {K : PySem.W.Frag} {S : List Addr} {B0 H0 B H : Hp} {M : List (Addr × HO)} {Q : VK} {E : XK} {p : Addr} {v : V} {G : Grp} {d : D} (hs : HS S B0 H0 B H M) (g : GAt K B p G) (r : Rep K B v d)
    (k : ∀ x, d = .str x → x ∈ G.names → ∀ B' H' l, Same B B' → HS S B0 H0 B' H' ((l, .lst ((G.open x).map V.str)) :: M) → Q (.ref l) H') (ke : G.has d = false → ThrW K S B0 H0 B M E "NoPerson" [("value", v)]) : sp_Group_open_to K [.ref p, v] H Q E :=
  ⟨p, v, B, G, d, rfl, hs.bh, g, r, fun x e hx B' H' l c => k x e hx B' H' l c.bb (hs.callN c), fun h => (ke h).thr hs⟩
theorem use_wishes {K : PySem.W.Frag} {S : List Addr} {B0 H0 B H : Hp} {M : List (Addr × HO)} {Q : VK} {E : XK} {p : Addr} {v : V} {G : Grp} {d : D} (hs : HS S B0 H0 B H M) (g : GAt K B p G) (r : Rep K B v d)
    (k : ∀ x, d = .str x → x ∈ G.names → ∀ B' H' l, Same B B' → HS S B0 H0 B' H' ((l, .lst ((G.wish x).map V.str)) :: M) → Q (.ref l) H') (ke : G.has d = false → ThrW K S B0 H0 B M E "NoPerson" [("value", v)]) : sp_Group_wishes K [.ref p, v] H Q E :=
  ⟨p, v, B, G, d, rfl, hs.bh, g, r, fun x e hx B' H' l c => k x e hx B' H' l c.bb (hs.callN c), fun h => (ke h).thr hs⟩
end Q

set_option Elab.async false
set_option linter.all false
set_option maxRecDepth 100000
set_option maxHeartbeats 4000000
namespace Q
open PySem PySem.Spec PyProof.Rows L2
local macro_rules | `(tactic| walk_at "bf") => `(tactic| first | assumption | (refine' bstep (by assumption) ?r; case r => walk_at "bf") | fail)
local macro_rules | `(tactic| walk_at "rp") => `(tactic| first | assumption | exact Rep.int _ | exact Rep.bl _ | exact Rep.non | (refine' Rep.mono (by assumption) ?r; case r => walk_at "rp") | fail)
local macro_rules | `(tactic| walk_at "hf") => `(tactic| first | assumption | exact HS.up (by assumption) (by walk_at "bf") | exact HS.get (by assumption) List.mem_cons_self | exact HS.get (by assumption) (List.mem_cons_of_mem _ List.mem_cons_self) | exact HS.get (by assumption) (List.mem_cons_of_mem _ (List.mem_cons_of_mem _ List.mem_cons_self)) | exact HS.get (by assumption) (List.mem_cons_of_mem _ (List.mem_cons_of_mem _ (List.mem_cons_of_mem _ List.mem_cons_self))) | fail)
local macro_rules | `(tactic| walk_at "sl") => `(tactic| first | assumption | exact SqL.of (by walk_at "hf") | fail)
local macro_rules | `(tactic| walk_at "st") => `(tactic| first | assumption | exact SqT.of (by walk_at "hf") | fail)
local macro_rules | `(tactic| walk_at "sz") => `(tactic| first | assumption | (refine small_le ?_; first | assumption | omega | (simp; done) | (simp; omega)) | fail)
/-! ### rank, pairs, in -/
theorem Grp.Ok.ond {G : Grp} (ok : G.Ok) {x : Str} (h : x ∈ G.names) : (G.open x).Nodup := (ok.wn x h).filter _
theorem Grp.Ok.olen {G : Grp} (ok : G.Ok) {x : Str} (h : x ∈ G.names) : (G.open x).length ≤ 16 := by
  have h1 : (G.open x).length ≤ (G.wish x).length := List.length_filter_le _ _
  have h2 := nodup_len (ok.wn x h) (ok.wi x h)
  have := ok.few
  omega
theorem Grp.Ok.oin {G : Grp} (ok : G.Ok) {x y : Str} (h : x ∈ G.names) (m : y ∈ G.open x) : y ∈ G.names := ok.wi x h y (List.mem_filter.mp m).1
/-! ### rows of tuples of texts -/
inductive TRs (B : Hp) : List V → List (List Str) → Prop
  | nil : TRs B [] []
  | cons {t : Addr} {k : List Str} {vs : List V} {ks : List (List Str)} : B t = some (.tup (k.map V.str)) → TRs B vs ks → TRs B (.ref t :: vs) (k :: ks)
theorem TRs.mono {B B' : Hp} (s : Same B B') : ∀ {vs : List V} {ks : List (List Str)}, TRs B vs ks → TRs B' vs ks
  | _, _, .nil => .nil
  | _, _, .cons h r => .cons (s _ _ h) (TRs.mono s r)
theorem TRs.snoc {B : Hp} {t : Addr} {k : List Str} (h : B t = some (.tup (k.map V.str))) : ∀ {vs : List V} {ks : List (List Str)}, TRs B vs ks → TRs B (vs ++ [.ref t]) (ks ++ [k])
  | _, _, .nil => .cons h .nil
  | _, _, .cons a r => .cons a (TRs.snoc h r)
theorem TRs.len {B : Hp} : ∀ {vs : List V} {ks : List (List Str)}, TRs B vs ks → vs.length = ks.length
  | _, _, .nil => rfl
  | _, _, .cons _ r => by simp [TRs.len r]
theorem TRs.dp {K : PySem.W.Frag} {B H : Hp} (s : Same B H) : ∀ {vs : List V} {ks : List (List Str)}, TRs B vs ks → DpAll K H vs (ks.map fun k => PyData.tuple (k.map PyData.str))
  | _, _, .nil => .nil
  | _, _, .cons h r => .cons (.tup (SqT.of (s _ _ h)) (dp_strs _)) (TRs.dp s r)
theorem TRs.get {B : Hp} : ∀ {vs : List V} {ks : List (List Str)} {v : V}, TRs B vs ks → v ∈ vs → ∃ t k, v = .ref t ∧ B t = some (.tup (k.map V.str)) ∧ k ∈ ks
  | _, _, _, .nil, m => nomatch m
  | _, _, _, .cons h r, m => by
    rcases List.mem_cons.mp m with rfl | m
    · exact ⟨_, _, rfl, h, List.mem_cons_self⟩
    · obtain ⟨t, k, e, h1, h2⟩ := TRs.get r m
      exact ⟨t, k, e, h1, List.mem_cons_of_mem _ h2⟩
def Grp.prs (G : Grp) (a : Str) : List (List Str) := ((sortS (G.open a)).filter fun b => decide (a.cps.toList < b.cps.toList)).map fun b => [a, b]
def Grp.pairs (G : Grp) : List (List Str) := (sortS G.names).flatMap G.prs
theorem flatMap_take {α β : Type} {l : List α} {i : Nat} {x : α} (f : α → List β) (h : l[i]? = some x) : (l.take (i + 1)).flatMap f = (l.take i).flatMap f ++ f x := by
  rw [List.take_succ, h]
  simp
theorem prs_len (G : Grp) (a : Str) : (G.prs a).length ≤ (G.open a).length := by
  unfold Grp.prs
  rw [List.length_map]
  exact Nat.le_trans (List.length_filter_le _ _) (by rw [sortS_len]; exact Nat.le_refl _)
theorem flat_len {α β : Type} {f : α → List β} {n : Nat} : ∀ {l : List α}, (∀ x ∈ l, (f x).length ≤ n) → (l.flatMap f).length ≤ l.length * n
  | [], _ => by simp
  | x :: r, h => by
    rw [List.flatMap_cons, List.length_append, List.length_cons]
    have h1 := h x List.mem_cons_self
    have h2 := flat_len (l := r) fun y m => h y (List.mem_cons_of_mem _ m)
    rw [Nat.add_mul]
    omega
abbrev N_Group_pairs : List Str := ["self", "rows", "a", "b"]
def t_Group_pairs (K : PySem.W.Frag) (E : XK) : TS := (tSeq (tAsg (tLst tNil) (gName 1))
  (tSeq (tFor (iList K (tCB (rSortL K) (tCons (tFld K (tVar 0) "names") tNil))) (gName 2) (tFor (iList K (tCB (rSortL K) (tCons (tDGet (tFld K (tVar 0) "mutual") (tVar 2)) tNil))) (gName 3) (tIfS (tTest (tOp rLtS (tVar 2) (tVar 3))) (tDrop (tBM K "list" rAppend (tVar 1) (tCons (tTup (tCons (tVar 2) (tCons (tVar 3) tNil))) tNil))) tNext)))
  (tRet (tVar 1))))
def sp_Group_pairs (K : PySem.W.Frag) : Sp := fun vs H Q E => ∃ p B G, vs = [.ref p] ∧ Same B H ∧ GAt K B p G ∧ ∀ B' H' l vs, HS [] B H B' H' [(l, .lst vs)] → TRs B' vs G.pairs → Q (.ref l) H'
theorem pure_Group_pairs {K : PySem.W.Frag} (gk : GK K) {vs : List V} {H : Hp} {Q : VK} {E : XK} (h : sp_Group_pairs K vs H Q E) : t_Group_pairs K E { nx := fun _ H' => Q .non H', rt := Q } (start N_Group_pairs vs) H := by
  obtain ⟨p, B, G, rfl, sB, g, k⟩ := h
  have hs := HS.start sB
  show t_Group_pairs K E _ [some (.ref p), none, none, none] H
  unfold t_Group_pairs
  obtain ⟨⟨dx, n, l, m, q, h1, h2, h3, h4, h5⟩, ok⟩ := g
  have few := ok.few
  ((with_reducible refine x_seq ?_); (with_reducible refine x_asg ?_); (with_reducible refine x_lst ?_); (with_reducible refine x_nil ?_); ((with_reducible refine' x_newL ?z44h ?_); case z44h => first | exact Nat.zero_le _ | (simp; done) | (simp; omega)))
  refine new_M hs (fun ro H1 hs1 _ => ?_)
  (((with_reducible refine x_gname ?_); try simp only [List.set_cons_zero, List.set_cons_succ]); (with_reducible refine x_seq ?_); (with_reducible refine x_for ?_); (with_reducible refine x_iList ?_); (with_reducible refine x_cb ?_); (with_reducible refine x_cons ?_); (with_reducible refine x_fldU ?_); ((with_reducible refine' x_var ?z52h ?_); case z52h => rfl))
  refine x_fld (hs1.up h1) gk.cl gk.nn (gf_names n l m q) ?_
  ((with_reducible refine x_nil ?_); ((with_reducible refine' x_srtL ?z54h ?z54h2 ?_); (case z54h => walk_at "sl"); (case z54h2 => omega)))
  try refine x_srtL (SqL.of (hs1.up h2)) (by omega) ?_
  refine new_F hs1 (fun so B2 H2 hs2 sb2 e2 _ => ?_)
  refine ⟨so, rfl, ⟨_, SqL.of (hs2.up e2)⟩, ?_⟩
  refine l_list (α := List V × Option V × Option V) (σf := fun s => [some (.ref p), some (.ref ro), s.2.1, s.2.2]) (Mf := fun s => [(ro, .lst s.1)]) (P := fun i s B1 => TRs B1 s.1 (((sortS G.names).take i).flatMap G.prs)) (s0 := ([], none, none)) hs2 e2 .nil
    (fun i x s B3 H3 hi sb3 hs3 pp => ?_) (fun s B3 H3 sb3 hs3 pp => ?_)
  · obtain ⟨rows, s2, s3⟩ := s
    dsimp only at pp hs3 ⊢
    obtain ⟨a, ha, rfl⟩ := strs_get hi
    have ham : a ∈ G.names := mem_sortS.mp (List.mem_of_getElem? ha)
    have sb03 : Same B B3 := sb2.trans sb3
    obtain ⟨kvs, oa, ed, ev, eo⟩ := (h4.mono sb03 (R' := LAt B3 G.open) fun _ _ z => sb03 _ _ z).get ok.nd ham
    have eo : B3 oa = some (.lst ((G.open a).map V.str)) := eo
    have h1' := sb03 _ _ h1
    have ol := ok.olen ham
    (((with_reducible refine x_gname ?_); try simp only [List.set_cons_zero, List.set_cons_succ]); (with_reducible refine x_for ?_); (with_reducible refine x_iList ?_); (with_reducible refine x_cb ?_); (with_reducible refine x_cons ?_); (with_reducible refine x_dget ?_); (with_reducible refine x_fldU ?_); ((with_reducible refine' x_var ?z62h ?_); case z62h => rfl))
    refine x_fld (hs3.up h1') gk.cl gk.nm (gf_mutual n l m q) ?_
    (((with_reducible refine' x_var ?z63h ?_); case z63h => rfl); ((with_reducible refine' x_dgS ?z64h ?z64h2 ?_); (case z64h => walk_at "hf"); (case z64h2 => assumption)); (with_reducible refine x_nil ?_); ((with_reducible refine' x_srtL ?z66h ?z66h2 ?_); (case z66h => walk_at "sl"); (case z66h2 => omega)))
    try refine x_srtL (SqL.of (hs3.up eo)) (by omega) ?_
    refine new_F hs3 (fun so2 B4 H4 hs4 sb4 e4 _ => ?_)
    refine ⟨so2, rfl, ⟨_, SqL.of (hs4.up e4)⟩, ?_⟩
    refine l_list (α := List V × Option V) (σf := fun s => [some (.ref p), some (.ref ro), some (.str a), s.2]) (Mf := fun s => [(ro, .lst s.1)])
      (P := fun j s B1 => TRs B1 s.1 (((sortS G.names).take i).flatMap G.prs ++ (((sortS (G.open a)).take j).filter fun b => decide (a.cps.toList < b.cps.toList)).map fun b => [a, b])) (s0 := (rows, s3)) hs4 e4 (by simpa using pp.mono sb4)
      (fun j y s B5 H5 hj sb5 hs5 pp => ?_) (fun s B5 H5 sb5 hs5 pp => ?_)
    · obtain ⟨rows, s3⟩ := s
      dsimp only at pp hs5 ⊢
      obtain ⟨b, hb, rfl⟩ := strs_get hj
      have hjl : j < (sortS (G.open a)).length := (List.getElem?_eq_some_iff.mp hb).1
      rw [sortS_len] at hjl
      (((with_reducible refine x_gname ?_); try simp only [List.set_cons_zero, List.set_cons_succ]); (with_reducible refine x_if ?_); (with_reducible refine x_test ?_); (with_reducible refine x_op ?_); ((with_reducible refine' x_var ?z71h ?_); case z71h => rfl); ((with_reducible refine' x_var ?z72h ?_); case z72h => rfl); (with_reducible refine x_ltS ?_); (with_reducible refine x_exb ?_))
      refine x_ite (fun h => ?_) (fun h => ?_)
      · ((with_reducible refine x_drop ?_); (with_reducible refine x_bm ?_); ((with_reducible refine' x_var ?z77h ?_); case z77h => rfl); ((with_reducible refine' x_tyL ?z78h ?_); case z78h => walk_at "sl"); (with_reducible refine x_cons ?_); (with_reducible refine x_tup ?_); (with_reducible refine x_cons ?_); ((with_reducible refine' x_var ?z82h ?_); case z82h => rfl); (with_reducible refine x_cons ?_); ((with_reducible refine' x_var ?z84h ?_); case z84h => rfl); (with_reducible refine x_nil ?_); ((with_reducible refine' x_newT ?z86h ?_); case z86h => first | exact Nat.zero_le _ | (simp; done) | (simp; omega)))
        try refine x_tyL (SqL.of (hs5.get List.mem_cons_self)) ?_
        skip
        refine new_F hs5 (fun t B6 H6 hs6 sb6 e6 _ => ?_)
        (with_reducible refine x_nil ?_)
        have hlen := pp.len
        rw [List.length_append] at hlen
        have l1 : (((sortS G.names).take i).flatMap G.prs).length ≤ ((sortS G.names).take i).length * 16 := flat_len fun z mz => Nat.le_trans (prs_len G z) (ok.olen (mem_sortS.mp (List.mem_of_mem_take mz)))
        have l2 : ((((sortS (G.open a)).take j).filter fun b => decide (a.cps.toList < b.cps.toList)).map fun b => [a, b]).length ≤ 16 := by
          rw [List.length_map]
          exact Nat.le_trans (List.length_filter_le _ _) (by rw [List.length_take]; omega)
        rw [List.length_take, sortS_len] at l1
        have l3 : min i G.names.length * 16 ≤ 256 := by
          have : min i G.names.length ≤ 16 := by omega
          omega
        refine x_append hs6 (by omega) (fun H7 hs7 => ?_)
        refine ⟨(rows ++ [.ref t], some _), B6, rfl, sb5.trans sb6, hs7, ?_⟩
        dsimp only
        rw [filter_take _ hb, if_pos h, List.map_append, ← List.append_assoc]
        exact (pp.mono sb6).snoc e6
      · (with_reducible refine x_next ?_)
        refine ⟨(rows, some _), B5, rfl, sb5, hs5, ?_⟩
        dsimp only
        rw [filter_take _ hb, if_neg (by rw [h]; decide)]
        exact pp
    · obtain ⟨rows, s3⟩ := s
      dsimp only at pp hs5 ⊢
      rw [List.length_map, List.take_length] at pp
      refine ⟨(rows, some _, s3), B5, rfl, (sb3.trans sb4).trans sb5, hs5, ?_⟩
      dsimp only
      rw [flatMap_take _ ha]
      exact pp
  · obtain ⟨rows, s2, s3⟩ := s
    dsimp only at pp hs3 ⊢
    rw [List.length_map, List.take_length] at pp
    ((with_reducible refine x_ret ?_); ((with_reducible refine' x_var ?z90h ?_); case z90h => rfl))
    exact k B3 H3 ro rows hs3 pp
theorem use_pairs {K : PySem.W.Frag} {S : List Addr} {B0 H0 B H : Hp} {M : List (Addr × HO)} {Q : VK} {E : XK} {p : Addr} {G : Grp} (hs : HS S B0 H0 B H M) (g : GAt K B p G)
    (k : ∀ B' H' l vs, Same B B' → HS S B0 H0 B' H' ((l, .lst vs) :: M) → TRs B' vs G.pairs → Q (.ref l) H') : sp_Group_pairs K [.ref p] H Q E := ⟨p, B, G, rfl, hs.bh, g, fun B' H' l vs c h => k B' H' l vs c.bb (hs.callN c) h⟩
/-! ### x in group -/
end Q

set_option Elab.async false
set_option linter.all false
set_option maxRecDepth 100000
set_option maxHeartbeats 4000000
namespace Q
open PySem PySem.Spec PyProof.Rows L2
/-! ### a group made of what was drawn -/
theorem repK_zip {K : PySem.W.Frag} {B : Hp} {ws : Str → List Str} : ∀ {done : List Str} {al : List Addr}, al.length = done.length → (∀ q ∈ lsM al done ws, B q.1 = some q.2) → (∀ p ∈ done, (ws p).length ≤ 100000 ∧ ∀ x ∈ ws p, x.length ≤ 1000000) → RepK K B (zipK done al) (done.map fun p => (.inr p, D.strs (ws p)))
  | [], [], _, _, _ => .nil
  | p :: r, [], h, _, _ => by simp at h
  | [], _ :: _, h, _, _ => by simp at h
  | p :: r, a :: al, h, hl, hw => by
    have e : B a = some (.lst ((ws p).map V.str)) := hl (a, .lst ((ws p).map V.str)) List.mem_cons_self
    obtain ⟨h1, h2⟩ := hw p List.mem_cons_self
    exact .cons (rep_strs h2 h1 e) (repK_zip (by simpa using h) (fun q m => hl q (List.mem_cons_of_mem _ m)) fun q m => hw q (List.mem_cons_of_mem _ m))
def wsD (done : List Str) (ws : Str → List Str) : List (Key × D) := done.map fun p => (.inr p, D.strs (ws p))
theorem wsD_val {ws : Str → List Str} {p : Str} : ∀ {done : List Str}, p ∈ done → dval (wsD done ws) (.inr p) = some (D.strs (ws p))
  | [], m => nomatch m
  | y :: r, m => by
    by_cases e : y = p
    · simp [wsD, dval, e]
    · have m' : p ∈ r := by
        rcases List.mem_cons.mp m with z | z
        · exact absurd z.symm e
        · exact z
      have ih := wsD_val (ws := ws) m'
      unfold wsD dval at ih ⊢
      rw [List.map_cons, List.find?_cons, decide_eq_false (fun z => e (Sum.inr.inj z))]
      exact ih
theorem badAt_names : ∀ {xs : List Str} {i : Nat} {seen : List Str}, (∀ x ∈ xs, okName x = true ∧ x ∉ seen) → xs.Nodup → badAt i seen (xs.map D.str) = none
  | [], _, _, _, _ => rfl
  | x :: r, i, seen, h, nd => by
    rw [List.nodup_cons] at nd
    obtain ⟨h1, h2⟩ := h x List.mem_cons_self
    unfold badAt
    rw [List.map_cons]
    simp only [h1, decide_eq_false h2, Bool.not_false, Bool.and_self, if_true]
    refine badAt_names (fun y m => ⟨(h y (List.mem_cons_of_mem _ m)).1, fun z => ?_⟩) nd.2
    rcases List.mem_append.mp z with z | z
    · exact (h y (List.mem_cons_of_mem _ m)).2 z
    · have : y = x := by simpa using z
      exact nd.1 (by rw [← this]; exact m)
theorem fitsGo_row {xs : List Str} {p : Str} : ∀ {ws seen : List Str}, (∀ x ∈ ws, x ≠ p ∧ x ∈ xs ∧ x ∉ seen) → ws.Nodup → fitsGo xs p seen (ws.map D.str) = true
  | [], _, _, _ => rfl
  | x :: r, seen, h, nd => by
    rw [List.nodup_cons] at nd
    obtain ⟨h1, h2, h3⟩ := h x List.mem_cons_self
    unfold fitsGo
    rw [List.map_cons]
    simp only [decide_eq_false h1, decide_eq_true h2, decide_eq_false h3, Bool.not_false, Bool.true_and]
    refine fitsGo_row (fun y m => ?_) nd.2
    obtain ⟨g1, g2, g3⟩ := h y (List.mem_cons_of_mem _ m)
    refine ⟨g1, g2, fun z => ?_⟩
    rcases List.mem_append.mp z with z | z
    · exact g3 z
    · have : y = x := by simpa using z
      exact nd.1 (by rw [← this]; exact m)
theorem drawn_group {xs done : List Str} {ws : Str → List Str} (d : Drawn xs done ws) (hl : xs.length ≤ 16) : ∃ G, mkGroup (.tup (xs.map D.str)) (.dct (wsD done ws)) = .ok G ∧ G.names = xs ∧ ∀ p ∈ xs, G.wish p = ws p := by
  have ex : (D.tup (xs.map D.str)).asStrs = xs := strL_map xs
  have hv : ∀ p ∈ xs, vald (.dct (wsD done ws)) p = D.strs (ws p) := fun p m => by simp only [vald, wsD_val (d.pe.mem_iff.mpr m), Option.getD_some]
  have hbp : badPeople (.tup (xs.map D.str)) = none := by
    unfold badPeople
    have hb := badAt_names (i := 0) (seen := []) (fun x m => ⟨d.ok x m, by simp⟩) d.nd
    simp only [List.length_map, if_pos hl, hb, Option.map_none]
  have hsk : sameKeys (.dct (wsD done ws)) xs = true := by
    unfold sameKeys
    simp only [Bool.and_eq_true, decide_eq_true_eq, List.all_eq_true]
    refine ⟨?_, fun x m => ?_⟩
    · unfold wsD
      rw [List.length_map]
      exact d.pe.length_eq
    · rw [wsD_val (d.pe.mem_iff.mpr m)]
      rfl
  have hbw : badWishes (.dct (wsD done ws)) xs = none := by
    unfold badWishes
    rw [if_pos hsk, List.find?_eq_none]
    intro p m
    have m := mem_sortS.mp m
    rw [hv p m]
    obtain ⟨r1, r2, r3⟩ := d.row p m
    have : fitsW (D.strs (ws p)) xs p = true := fitsGo_row (fun x mx => ⟨fun e => r2 (e ▸ mx), r3 x mx, by simp⟩) r1
    simp [this]
  refine ⟨⟨xs, fun p => (vald (.dct (wsD done ws)) p).asStrs⟩, ?_, rfl, fun p m => ?_⟩
  · simp only [mkGroup, hbp, ex, hbw]
  · show (vald (.dct (wsD done ws)) p).asStrs = ws p
    rw [hv p m, asStrs_strs]
theorem rep_names {K : PySem.W.Frag} {B : Hp} {T : Addr} {xs : List Str} (e : B T = some (.tup (xs.map V.str))) (h : ∀ x ∈ xs, okName x = true) : Rep K B (.ref T) (.tup (xs.map D.str)) := .tup e (reps_str fun x m => okName_len (h x m))
/-! ### open pairs, in order -/
/-! ### rows of tuples of texts are equal -/
theorem shaped_tups {ks : List (List Str)} (h : ∀ k ∈ ks, ∀ x ∈ k, PyData.strOk x = true) : SeqAt.shaped (.list (ks.map fun k => PyData.tuple (k.map PyData.str))) = true := by
  have h1 : PyData.canLayAll0 (ks.map fun k => PyData.tuple (k.map PyData.str)) = true := by
    induction ks with
    | nil => rfl
    | cons k r ih =>
      simp only [List.map_cons, PyData.canLayAll0, PyData.canLay0, canLay_strs (h k List.mem_cons_self), ih fun k m => h k (List.mem_cons_of_mem _ m), Bool.and_self]
  have h2 : PyData.depthAll (ks.map fun k => PyData.tuple (k.map PyData.str)) ≤ 1 := by
    clear h h1
    induction ks with
    | nil => simp only [List.map_nil, PyData.depthAll]; omega
    | cons k r ih => simp only [List.map_cons, PyData.depthAll, PyData.depth, depth_strs]; omega
  unfold SeqAt.shaped
  simp only [PyData.canLay0, h1, PyData.depth, Bool.true_and]
  exact decide_eq_true (by omega)
theorem eqv_tups : ∀ ks ls : List (List Str), PyData.eqvAll (ks.map fun k => PyData.tuple (k.map PyData.str)) (ls.map fun k => PyData.tuple (k.map PyData.str)) = decide (ks = ls)
  | [], [] => by simp [PyData.eqvAll]
  | [], _ :: _ => by simp [PyData.eqvAll]
  | _ :: _, [] => by simp [PyData.eqvAll]
  | x :: xs, y :: ys => by
    simp only [List.map_cons, PyData.eqvAll, PyData.eqv, eqv_tups xs ys, eqv_strs]
    by_cases e : x = y <;> simp [e]
theorem row_tups {K : PySem.W.Frag} {H B : Hp} {Q : VK} {E : XK} {p q : Addr} {vs us : List V} {ks ls : List (List Str)} (sB : Same B H) (hp : H p = some (.lst vs)) (hq : H q = some (.lst us)) (t1 : TRs B vs ks) (t2 : TRs B us ls) (h1 : ∀ k ∈ ks, ∀ x ∈ k, PyData.strOk x = true) (h2 : ∀ k ∈ ls, ∀ x ∈ k, PyData.strOk x = true)
    (k : Q (.bl (decide (ks = ls))) H) : sp__law_row K [.ref p, .ref q] H Q E := ⟨p, q, _, _, _, B, rfl, sB, hp, .lst (SqL.of hp) (t1.dp sB), .lst (SqL.of hq) (t2.dp sB), shaped_tups h1, shaped_tups h2, by simp only [PyData.eqv, eqv_tups]; exact k⟩
end Q

set_option Elab.async false
set_option linter.all false
set_option maxRecDepth 100000
set_option maxHeartbeats 4000000
namespace Q
open PySem PySem.Spec PyProof.Rows L2
local macro_rules | `(tactic| walk_at "bf") => `(tactic| first | assumption | (refine' bstep (by assumption) ?r; case r => walk_at "bf") | fail)
local macro_rules | `(tactic| walk_at "rp") => `(tactic| first | assumption | exact Rep.int _ | exact Rep.bl _ | exact Rep.non | (refine' Rep.mono (by assumption) ?r; case r => walk_at "rp") | fail)
local macro_rules | `(tactic| walk_at "hf") => `(tactic| first | assumption | exact HS.up (by assumption) (by walk_at "bf") | exact HS.get (by assumption) List.mem_cons_self | exact HS.get (by assumption) (List.mem_cons_of_mem _ List.mem_cons_self) | exact HS.get (by assumption) (List.mem_cons_of_mem _ (List.mem_cons_of_mem _ List.mem_cons_self)) | exact HS.get (by assumption) (List.mem_cons_of_mem _ (List.mem_cons_of_mem _ (List.mem_cons_of_mem _ List.mem_cons_self))) | fail)
local macro_rules | `(tactic| walk_at "sl") => `(tactic| first | assumption | exact SqL.of (by walk_at "hf") | fail)
local macro_rules | `(tactic| walk_at "st") => `(tactic| first | assumption | exact SqT.of (by walk_at "hf") | fail)
local macro_rules | `(tactic| walk_at "sz") => `(tactic| first | assumption | (refine small_le ?_; first | assumption | omega | (simp; done) | (simp; omega)) | fail)
/-! ### who is open to whom, by the law; rows of persons and their wishes -/
def opn (ws : Str → List Str) (a : Str) : List Str := (ws a).filter fun b => decide (a ∈ ws b)
theorem WAt.nil {B : Hp} {ws : Str → List Str} : WAt B [] [] ws := ⟨[], rfl, rfl, by simp⟩
theorem WAt.snoc {B : Hp} {done : List Str} {kvs : List (Key × V)} {ws : Str → List Str} {x : Str} {a : Addr} (h : WAt B done kvs ws) (hx : x ∉ done) (e : B a = some (.lst ((ws x).map V.str))) : WAt B (done ++ [x]) (putK kvs (.inr x) (.ref a)) ws := by
  have hk := h.keys
  obtain ⟨al, h1, h2, h3⟩ := h
  refine ⟨al ++ [a], by simp [h1], ?_, fun j p b e1 e2 => ?_⟩
  · rw [putK_new (valV_none_keys ?_), h2, zipK_snoc h1]
    rw [hk]
    intro z
    obtain ⟨y, hy, q⟩ := List.mem_map.mp z
    have := Sum.inr.inj q
    subst this
    exact hx hy
  · by_cases hj : j < done.length
    · rw [List.getElem?_append_left hj] at e1
      rw [List.getElem?_append_left (by omega)] at e2
      exact h3 j p b e1 e2
    · rw [List.getElem?_append_right (by omega)] at e1 e2
      have hj0 : j - done.length = 0 := by
        by_cases z : j - done.length = 0
        · exact z
        · rw [List.getElem?_eq_none (by simp; omega)] at e1; cases e1
      rw [h1] at e2
      rw [hj0] at e1 e2
      cases e1
      cases e2
      exact e
theorem WAt.len {B : Hp} {done : List Str} {kvs : List (Key × V)} {ws : Str → List Str} (h : WAt B done kvs ws) : kvs.length = done.length := by
  have := congrArg List.length h.keys
  simpa using this
abbrev N__law_mutual : List Str := ["_law_names_here", "_law_wishes_here", "_law_mutual_here", "_law_a", "_law_b"]
def t__law_mutual (K : PySem.W.Frag) (E : XK) : TS := (tSeq (tAsg tDNewK (gName 2))
  (tSeq (tFor (iList K (tVar 0)) (gName 3) (sDPut (tVar 2) (tVar 3) (tLc (iList K (tDGet (tVar 1) (tVar 3))) (gName 4) (tTest (tOp (rIn K false) (tVar 3) (tDGet (tVar 1) (tVar 4)))) (tVar 4) [4])))
  (tRet (tVar 2))))
def sp__law_mutual (K : PySem.W.Frag) : Sp := fun vs H Q E => ∃ (n w : Addr) (xs done : List Str) (kvs : List (Key × V)) (ws : Str → List Str) (B : Hp), vs = [.ref n, .ref w] ∧ Same B H ∧ B n = some (.lst (xs.map V.str)) ∧ B w = some (.dK kvs) ∧ WAt B done kvs ws ∧ Drawn xs done ws ∧ xs.length ≤ 25 ∧
  ∀ B' H' m kvs', HS [] B H B' H' [(m, .dK kvs')] → WAt B' xs kvs' (opn ws) → Q (.ref m) H'
theorem pure__law_mutual {K : PySem.W.Frag} {vs : List V} {H : Hp} {Q : VK} {E : XK} (h : sp__law_mutual K vs H Q E) : t__law_mutual K E { nx := fun _ H' => Q .non H', rt := Q } (start N__law_mutual vs) H := by
  obtain ⟨n, w, xs, done, kvs, ws, B, rfl, sB, en, ew, hw, dr, hl, k⟩ := h
  have hs := HS.start sB
  have ndd : done.Nodup := dr.pe.nodup_iff.mpr dr.nd
  show t__law_mutual K E _ [some (.ref n), some (.ref w), none, none, none] H
  unfold t__law_mutual
  ((with_reducible refine x_seq ?_); (with_reducible refine x_asg ?_); (with_reducible refine x_dnew ?_))
  refine new_M hs (fun m H1 hs1 _ => ?_)
  (((with_reducible refine x_gname ?_); try simp only [List.set_cons_zero, List.set_cons_succ]); (with_reducible refine x_seq ?_); (with_reducible refine x_for ?_); (with_reducible refine x_iList ?_); ((with_reducible refine' x_var ?z8h ?_); case z8h => rfl))
  refine ⟨n, rfl, ⟨_, SqL.of (hs1.up en)⟩, ?_⟩
  refine l_list (α := List (Key × V) × Option V) (σf := fun s => [some (.ref n), some (.ref w), some (.ref m), s.2, none]) (Mf := fun s => [(m, .dK s.1)]) (P := fun i s B1 => WAt B1 (xs.take i) s.1 (opn ws)) (s0 := ([], none)) hs1 en .nil
    (fun i x s B2 H2 hi sb2 hs2 pp => ?_) (fun s B2 H2 sb2 hs2 pp => ?_)
  · obtain ⟨mk, s2⟩ := s
    dsimp only at pp hs2 ⊢
    obtain ⟨a, ha, rfl⟩ := strs_get hi
    have ham : a ∈ xs := List.mem_of_getElem? ha
    obtain ⟨wa, eva, ewa⟩ := (hw.mono sb2).get ndd (dr.pe.mem_iff.mpr ham)
    have ew2 := sb2 _ _ ew
    have hla := nodup_len (dr.row a ham).1 (dr.row a ham).2.2
    (((with_reducible refine x_gname ?_); try simp only [List.set_cons_zero, List.set_cons_succ]); (with_reducible refine x_dputU ?_); (with_reducible refine x_lc ?_); (with_reducible refine x_iList ?_); (with_reducible refine x_dget ?_); ((with_reducible refine' x_var ?z14h ?_); case z14h => rfl); ((with_reducible refine' x_var ?z15h ?_); case z15h => rfl); ((with_reducible refine' x_dgS ?z16h ?z16h2 ?_); (case z16h => walk_at "hf"); (case z16h2 => assumption)))
    refine ⟨wa, rfl, ⟨_, SqL.of (hs2.up ewa)⟩, fun D hD => ?_⟩
    refine c_list (α := Unit) (Mf := fun _ => [(m, .dK mk)]) (P := fun j _ acc _ => acc = (((ws a).take j).filter fun b => decide (a ∈ ws b)).map V.str) (s0 := ()) hs2 hD ewa rfl (fun j y _ acc B3 H3 hj hacc sb3 hs3 pp => ?_) (fun _ acc B3 H3 sb3 hs3 hacc pp => ?_)
    · obtain ⟨b, hb, rfl⟩ := strs_get hj
      have hjl : j < (ws a).length := (List.getElem?_eq_some_iff.mp hb).1
      have hbm : b ∈ xs := (dr.row a ham).2.2 b (List.mem_of_getElem? hb)
      obtain ⟨wb, evb, ewb⟩ := ((hw.mono sb2).mono sb3).get ndd (dr.pe.mem_iff.mpr hbm)
      have ew3 := sb3 _ _ ew2
      ((with_reducible refine x_gname ?_); try simp only [List.set_cons_zero, List.set_cons_succ])
      refine ⟨rfl, ?_⟩
      ((with_reducible refine x_test ?_); (with_reducible refine x_op ?_); ((with_reducible refine' x_var ?z20h ?_); case z20h => rfl); (with_reducible refine x_dget ?_); ((with_reducible refine' x_var ?z22h ?_); case z22h => rfl); ((with_reducible refine' x_var ?z23h ?_); case z23h => rfl); ((with_reducible refine' x_dgS ?z24h ?z24h2 ?_); (case z24h => walk_at "hf"); (case z24h2 => assumption)); ((with_reducible refine' x_inLS ?z25h ?_); case z25h => walk_at "sl"); (with_reducible refine x_exb ?_))
      refine x_ite (fun h => ?_) (fun h => ?_)
      · ((with_reducible refine' x_var ?z27h ?_); case z27h => rfl)
        refine c_keep (s := ()) sb3 hs3 hacc (by omega) ?_
        rw [filter_take _ hb, if_pos h, pp]
        simp
      · refine c_left (s := ()) sb3 hs3 hacc ?_
        rw [filter_take _ hb, if_neg (by rw [h]; decide), pp]
    · rw [List.length_map, List.take_length] at pp
      subst pp
      obtain ⟨hs4, sb4⟩ := hs3.still (by simp)
      have er : upd B3 D (.lst (((ws a).filter fun b => decide (a ∈ ws b)).map V.str)) D = some (.lst ((opn ws a).map V.str)) := upd_same
      generalize upd B3 D (.lst (((ws a).filter fun b => decide (a ∈ ws b)).map V.str)) = B4 at hs4 sb4 er
      have hlen := pp.len
      rw [List.length_take] at hlen
      (((with_reducible refine' x_var ?z28h ?_); case z28h => rfl); ((with_reducible refine' x_var ?z29h ?_); case z29h => rfl))
      refine x_dput hs4 (by omega) (fun H5 hs5 => ?_)
      refine ⟨(putK mk (.inr a) (.ref D), some _), B4, rfl, (sb2.trans sb3).trans sb4, hs5, ?_⟩
      dsimp only
      rw [take_snoc ha]
      exact ((pp.mono sb3).mono sb4).snoc (notin_take dr.nd ha) er
  · obtain ⟨mk, s2⟩ := s
    dsimp only at pp hs2 ⊢
    rw [List.length_map, List.take_length] at pp
    ((with_reducible refine x_ret ?_); ((with_reducible refine' x_var ?z31h ?_); case z31h => rfl))
    exact k B2 H2 m mk hs2 pp
/-! ### rows of a person and their wishes -/
inductive MRs (B : Hp) : List V → List (Str × List Str) → Prop
  | nil : MRs B [] []
  | cons {t l : Addr} {a : Str} {r : List Str} {vs : List V} {ks : List (Str × List Str)} : B t = some (.tup [.str a, .ref l]) → B l = some (.lst (r.map V.str)) → MRs B vs ks → MRs B (.ref t :: vs) ((a, r) :: ks)
theorem MRs.mono {B B' : Hp} (s : Same B B') : ∀ {vs : List V} {ks : List (Str × List Str)}, MRs B vs ks → MRs B' vs ks
  | _, _, .nil => .nil
  | _, _, .cons h h2 r => .cons (s _ _ h) (s _ _ h2) (MRs.mono s r)
theorem MRs.snoc {B : Hp} {t l : Addr} {a : Str} {r : List Str} (h : B t = some (.tup [.str a, .ref l])) (h2 : B l = some (.lst (r.map V.str))) : ∀ {vs : List V} {ks : List (Str × List Str)}, MRs B vs ks → MRs B (vs ++ [.ref t]) (ks ++ [(a, r)])
  | _, _, .nil => .cons h h2 .nil
  | _, _, .cons a b r => .cons a b (MRs.snoc h h2 r)
theorem MRs.len {B : Hp} : ∀ {vs : List V} {ks : List (Str × List Str)}, MRs B vs ks → vs.length = ks.length
  | _, _, .nil => rfl
  | _, _, .cons _ _ r => by simp [MRs.len r]
def mrD (q : Str × List Str) : PyData := .tuple [.str q.1, .list (q.2.map PyData.str)]
theorem MRs.dp {K : PySem.W.Frag} {B H : Hp} (s : Same B H) : ∀ {vs : List V} {ks : List (Str × List Str)}, MRs B vs ks → DpAll K H vs (ks.map mrD)
  | _, _, .nil => .nil
  | _, _, .cons h h2 r => .cons (.tup (SqT.of (s _ _ h)) (.cons (.str _) (.cons (.lst (SqL.of (s _ _ h2)) (dp_strs _)) .nil))) (MRs.dp s r)
theorem shaped_mrs {ks : List (Str × List Str)} (h : ∀ k ∈ ks, PyData.strOk k.1 = true ∧ ∀ x ∈ k.2, PyData.strOk x = true) : SeqAt.shaped (.list (ks.map mrD)) = true := by
  have h1 : PyData.canLayAll0 (ks.map mrD) = true := by
    induction ks with
    | nil => rfl
    | cons k r ih =>
      obtain ⟨g1, g2⟩ := h k List.mem_cons_self
      simp only [List.map_cons, mrD, PyData.canLayAll0, PyData.canLay0, g1, canLay_strs g2, Bool.and_self, Bool.true_and]
      exact ih fun k m => h k (List.mem_cons_of_mem _ m)
  have h2 : PyData.depthAll (ks.map mrD) ≤ 2 := by
    clear h h1
    induction ks with
    | nil => simp only [List.map_nil, PyData.depthAll]; omega
    | cons k r ih => simp only [List.map_cons, mrD, PyData.depthAll, PyData.depth, depth_strs] at ih ⊢; omega
  unfold SeqAt.shaped
  simp only [PyData.canLay0, h1, PyData.depth, Bool.true_and]
  exact decide_eq_true (by omega)
theorem eqv_mrs : ∀ ks ls : List (Str × List Str), PyData.eqvAll (ks.map mrD) (ls.map mrD) = decide (ks = ls)
  | [], [] => by simp [PyData.eqvAll]
  | [], _ :: _ => by simp [PyData.eqvAll]
  | _ :: _, [] => by simp [PyData.eqvAll]
  | (x, r) :: xs, (y, q) :: ys => by
    simp only [List.map_cons, mrD, PyData.eqvAll, PyData.eqv, eqv_strs]
    rw [eqv_mrs xs ys]
    by_cases e1 : x = y <;> by_cases e2 : r = q <;> simp [e1, e2]
theorem row_mrs {K : PySem.W.Frag} {H B : Hp} {Q : VK} {E : XK} {p q : Addr} {vs us : List V} {ks ls : List (Str × List Str)} (sB : Same B H) (hp : H p = some (.lst vs)) (hq : H q = some (.lst us)) (t1 : MRs B vs ks) (t2 : MRs B us ls) (h1 : ∀ k ∈ ks, PyData.strOk k.1 = true ∧ ∀ x ∈ k.2, PyData.strOk x = true) (h2 : ∀ k ∈ ls, PyData.strOk k.1 = true ∧ ∀ x ∈ k.2, PyData.strOk x = true)
    (k : Q (.bl (decide (ks = ls))) H) : sp__law_row K [.ref p, .ref q] H Q E := ⟨p, q, _, _, _, B, rfl, sB, hp, .lst (SqL.of hp) (t1.dp sB), .lst (SqL.of hq) (t2.dp sB), shaped_mrs h1, shaped_mrs h2, by simp only [PyData.eqv, eqv_mrs]; exact k⟩
def rowsOf (xs : List Str) (ws : Str → List Str) : List (Str × List Str) := xs.map fun a => (a, ws a)
abbrev N__law_model : List Str := ["_law_names_here", "_law_wishes_here", "_law_rows", "_law_a"]
def t__law_model (K : PySem.W.Frag) (E : XK) : TS := (tSeq (tAsg (tLst tNil) (gName 2))
  (tSeq (tFor (iList K (tVar 0)) (gName 3) (tDrop (tBM K "list" rAppend (tVar 2) (tCons (tTup (tCons (tVar 3) (tCons (tCB (rListOf K) (tCons (tDGet (tVar 1) (tVar 3)) tNil)) tNil))) tNil))))
  (tRet (tVar 2))))
def sp__law_model (K : PySem.W.Frag) : Sp := fun vs H Q E => ∃ (n w : Addr) (xs done : List Str) (kvs : List (Key × V)) (ws : Str → List Str) (B : Hp), vs = [.ref n, .ref w] ∧ Same B H ∧ B n = some (.lst (xs.map V.str)) ∧ B w = some (.dK kvs) ∧ WAt B done kvs ws ∧ done.Nodup ∧ (∀ x ∈ xs, x ∈ done) ∧ xs.length ≤ 100 ∧
  ∀ B' H' l vs, HS [] B H B' H' [(l, .lst vs)] → MRs B' vs (rowsOf xs ws) → Q (.ref l) H'
theorem pure__law_model {K : PySem.W.Frag} {vs : List V} {H : Hp} {Q : VK} {E : XK} (h : sp__law_model K vs H Q E) : t__law_model K E { nx := fun _ H' => Q .non H', rt := Q } (start N__law_model vs) H := by
  obtain ⟨n, w, xs, done, kvs, ws, B, rfl, sB, en, ew, hw, ndd, hin, hl, k⟩ := h
  have hs := HS.start sB
  show t__law_model K E _ [some (.ref n), some (.ref w), none, none] H
  unfold t__law_model
  ((with_reducible refine x_seq ?_); (with_reducible refine x_asg ?_); (with_reducible refine x_lst ?_); (with_reducible refine x_nil ?_); ((with_reducible refine' x_newL ?z36h ?_); case z36h => first | exact Nat.zero_le _ | (simp; done) | (simp; omega)))
  refine new_M hs (fun ro H1 hs1 _ => ?_)
  (((with_reducible refine x_gname ?_); try simp only [List.set_cons_zero, List.set_cons_succ]); (with_reducible refine x_seq ?_); (with_reducible refine x_for ?_); (with_reducible refine x_iList ?_); ((with_reducible refine' x_var ?z41h ?_); case z41h => rfl))
  refine ⟨n, rfl, ⟨_, SqL.of (hs1.up en)⟩, ?_⟩
  refine l_list (α := List V × Option V) (σf := fun s => [some (.ref n), some (.ref w), some (.ref ro), s.2]) (Mf := fun s => [(ro, .lst s.1)]) (P := fun i s B1 => MRs B1 s.1 (rowsOf (xs.take i) ws)) (s0 := ([], none)) hs1 en .nil
    (fun i x s B2 H2 hi sb2 hs2 pp => ?_) (fun s B2 H2 sb2 hs2 pp => ?_)
  · obtain ⟨rows, s2⟩ := s
    dsimp only at pp hs2 ⊢
    obtain ⟨a, ha, rfl⟩ := strs_get hi
    have hil : i < xs.length := (List.getElem?_eq_some_iff.mp ha).1
    obtain ⟨wa, eva, ewa⟩ := (hw.mono sb2).get ndd (hin a (List.mem_of_getElem? ha))
    have ew2 := sb2 _ _ ew
    (((with_reducible refine x_gname ?_); try simp only [List.set_cons_zero, List.set_cons_succ]); (with_reducible refine x_drop ?_); (with_reducible refine x_bm ?_); ((with_reducible refine' x_var ?z45h ?_); case z45h => rfl); ((with_reducible refine' x_tyL ?z46h ?_); case z46h => walk_at "sl"); (with_reducible refine x_cons ?_); (with_reducible refine x_tup ?_); (with_reducible refine x_cons ?_); ((with_reducible refine' x_var ?z50h ?_); case z50h => rfl); (with_reducible refine x_cons ?_); (with_reducible refine x_cb ?_); (with_reducible refine x_cons ?_); (with_reducible refine x_dget ?_); ((with_reducible refine' x_var ?z55h ?_); case z55h => rfl); ((with_reducible refine' x_var ?z56h ?_); case z56h => rfl); ((with_reducible refine' x_dgS ?z57h ?z57h2 ?_); (case z57h => walk_at "hf"); (case z57h2 => assumption)); (with_reducible refine x_nil ?_); ((with_reducible refine' x_listL ?z59h ?_); case z59h => walk_at "sl"))
    refine new_F hs2 (fun l B3 H3 hs3 sb3 el _ => ?_)
    ((with_reducible refine x_nil ?_); ((with_reducible refine' x_newT ?z61h ?_); case z61h => first | exact Nat.zero_le _ | (simp; done) | (simp; omega)))
    refine new_F hs3 (fun t B4 H4 hs4 sb4 et _ => ?_)
    (with_reducible refine x_nil ?_)
    have hlen := pp.len
    unfold rowsOf at hlen
    rw [List.length_map, List.length_take] at hlen
    refine x_append hs4 (by omega) (fun H5 hs5 => ?_)
    refine ⟨(rows ++ [.ref t], some _), B4, rfl, (sb2.trans sb3).trans sb4, hs5, ?_⟩
    dsimp only
    have e : rowsOf (xs.take (i + 1)) ws = rowsOf (xs.take i) ws ++ [(a, ws a)] := by
      unfold rowsOf
      rw [take_snoc ha, List.map_append]
      rfl
    rw [e]
    exact ((pp.mono sb3).mono sb4).snoc et (sb4 _ _ el)
  · obtain ⟨rows, s2⟩ := s
    dsimp only at pp hs2 ⊢
    rw [List.length_map, List.take_length] at pp
    ((with_reducible refine x_ret ?_); ((with_reducible refine' x_var ?z64h ?_); case z64h => rfl))
    exact k B2 H2 ro rows hs2 pp
abbrev N__law_shows : List Str := ["_law_group_here", "_law_rows", "_law_a"]
def t__law_shows (K : PySem.W.Frag) (E : XK) : TS := (tSeq (tAsg (tLst tNil) (gName 1))
  (tSeq (tFor (iList K (tMt (He.ga K "Group") "people" (sp_Group_people K) (WE0 E) (tVar 0) tNil)) (gName 2) (tDrop (tBM K "list" rAppend (tVar 1) (tCons (tTup (tCons (tVar 2) (tCons (tMt (He.ga K "Group") "wishes" (sp_Group_wishes K) (WE0 E) (tVar 0) (tCons (tVar 2) tNil)) tNil))) tNil))))
  (tRet (tVar 1))))
def sp__law_shows (K : PySem.W.Frag) : Sp := fun vs H Q E => ∃ p B G, vs = [.ref p] ∧ Same B H ∧ GAt K B p G ∧ ∀ B' H' l vs, HS [] B H B' H' [(l, .lst vs)] → MRs B' vs (rowsOf G.names G.wish) → Q (.ref l) H'
theorem pure__law_shows {K : PySem.W.Frag} {vs : List V} {H : Hp} {Q : VK} {E : XK} (h : sp__law_shows K vs H Q E) : t__law_shows K E { nx := fun _ H' => Q .non H', rt := Q } (start N__law_shows vs) H := by
  obtain ⟨p, B, G, rfl, sB, g, k⟩ := h
  have hs := HS.start sB
  have ok := g.ok
  have few := ok.few
  obtain ⟨dx, n', l', m', q', hg⟩ := g.ins
  show t__law_shows K E _ [some (.ref p), none, none] H
  unfold t__law_shows
  ((with_reducible refine x_seq ?_); (with_reducible refine x_asg ?_); (with_reducible refine x_lst ?_); (with_reducible refine x_nil ?_); ((with_reducible refine' x_newL ?z69h ?_); case z69h => first | exact Nat.zero_le _ | (simp; done) | (simp; omega)))
  refine new_M hs (fun ro H1 hs1 _ => ?_)
  (((with_reducible refine x_gname ?_); try simp only [List.set_cons_zero, List.set_cons_succ]); (with_reducible refine x_seq ?_); (with_reducible refine x_for ?_); (with_reducible refine x_iList ?_); (with_reducible refine x_mtU ?_); ((with_reducible refine' x_var ?z75h ?_); case z75h => rfl))
  refine x_mt (hs1.up hg) (gf_no (by decide +kernel)) ?_
  (with_reducible refine x_nil ?_)
  refine use_people hs1 g (fun B2 H2 pl sb2 hs2 => ?_)
  obtain ⟨B3, hs3, sb3, epl⟩ := hs2.still0
  have g3 := (g.mono sb2).mono sb3
  have hg3 := sb3 _ _ (sb2 _ _ hg)
  refine ⟨pl, rfl, ⟨_, SqL.of (hs3.up epl)⟩, ?_⟩
  refine l_list (α := List V × Option V) (σf := fun s => [some (.ref p), some (.ref ro), s.2]) (Mf := fun s => [(ro, .lst s.1)]) (P := fun i s B1 => MRs B1 s.1 (rowsOf (G.names.take i) G.wish)) (s0 := ([], none)) hs3 epl .nil
    (fun i x s B4 H4 hi sb4 hs4 pp => ?_) (fun s B4 H4 sb4 hs4 pp => ?_)
  · obtain ⟨rows, s2⟩ := s
    dsimp only at pp hs4 ⊢
    obtain ⟨a, ha, rfl⟩ := strs_get hi
    have hil : i < G.names.length := (List.getElem?_eq_some_iff.mp ha).1
    have ham : a ∈ G.names := List.mem_of_getElem? ha
    (((with_reducible refine x_gname ?_); try simp only [List.set_cons_zero, List.set_cons_succ]); (with_reducible refine x_drop ?_); (with_reducible refine x_bm ?_); ((with_reducible refine' x_var ?z80h ?_); case z80h => rfl); ((with_reducible refine' x_tyL ?z81h ?_); case z81h => walk_at "sl"); (with_reducible refine x_cons ?_); (with_reducible refine x_tup ?_); (with_reducible refine x_cons ?_); ((with_reducible refine' x_var ?z85h ?_); case z85h => rfl); (with_reducible refine x_cons ?_); (with_reducible refine x_mtU ?_); ((with_reducible refine' x_var ?z88h ?_); case z88h => rfl))
    refine x_mt (hs4.up (sb4 _ _ hg3)) (gf_no (by decide +kernel)) ?_
    ((with_reducible refine x_cons ?_); ((with_reducible refine' x_var ?z90h ?_); case z90h => rfl); (with_reducible refine x_nil ?_))
    refine use_wishes hs4 (g3.mono sb4) (.str (okName_len (ok.nm a ham))) (fun y ey hy B5 H5 l sb5 hs5 => ?_) (fun hh => absurd hh (by simp [Grp.has, ham]))
    cases ey
    obtain ⟨B6, hs6, sb6, el⟩ := hs5.still0
    ((with_reducible refine x_nil ?_); ((with_reducible refine' x_newT ?z93h ?_); case z93h => first | exact Nat.zero_le _ | (simp; done) | (simp; omega)))
    refine new_F hs6 (fun t B7 H7 hs7 sb7 et _ => ?_)
    (with_reducible refine x_nil ?_)
    have hlen := pp.len
    unfold rowsOf at hlen
    rw [List.length_map, List.length_take] at hlen
    refine x_append hs7 (by omega) (fun H8 hs8 => ?_)
    refine ⟨(rows ++ [.ref t], some _), B7, rfl, ((sb4.trans sb5).trans sb6).trans sb7, hs8, ?_⟩
    dsimp only
    have e : rowsOf (G.names.take (i + 1)) G.wish = rowsOf (G.names.take i) G.wish ++ [(a, G.wish a)] := by
      unfold rowsOf
      rw [take_snoc ha, List.map_append]
      rfl
    rw [e]
    exact (((pp.mono sb5).mono sb6).mono sb7).snoc et (sb7 _ _ el)
  · obtain ⟨rows, s2⟩ := s
    dsimp only at pp hs4 ⊢
    rw [List.length_map, List.take_length] at pp
    ((with_reducible refine x_ret ?_); ((with_reducible refine' x_var ?z96h ?_); case z96h => rfl))
    exact k B4 H4 ro rows hs4 pp
end Q

set_option Elab.async false
set_option linter.all false
set_option maxRecDepth 100000
set_option maxHeartbeats 4000000
namespace Q
open PySem PySem.Spec PyProof.Rows L2
local macro_rules | `(tactic| walk_at "bf") => `(tactic| first | assumption | (refine' bstep (by assumption) ?r; case r => walk_at "bf") | fail)
local macro_rules | `(tactic| walk_at "rp") => `(tactic| first | assumption | exact Rep.int _ | exact Rep.bl _ | exact Rep.non | (refine' Rep.mono (by assumption) ?r; case r => walk_at "rp") | fail)
local macro_rules | `(tactic| walk_at "hf") => `(tactic| first | assumption | exact HS.up (by assumption) (by walk_at "bf") | exact HS.get (by assumption) List.mem_cons_self | exact HS.get (by assumption) (List.mem_cons_of_mem _ List.mem_cons_self) | exact HS.get (by assumption) (List.mem_cons_of_mem _ (List.mem_cons_of_mem _ List.mem_cons_self)) | exact HS.get (by assumption) (List.mem_cons_of_mem _ (List.mem_cons_of_mem _ (List.mem_cons_of_mem _ List.mem_cons_self))) | fail)
local macro_rules | `(tactic| walk_at "sl") => `(tactic| first | assumption | exact SqL.of (by walk_at "hf") | fail)
local macro_rules | `(tactic| walk_at "st") => `(tactic| first | assumption | exact SqT.of (by walk_at "hf") | fail)
local macro_rules | `(tactic| walk_at "sz") => `(tactic| first | assumption | (refine small_le ?_; first | assumption | omega | (simp; done) | (simp; omega)) | fail)
/-! ### parts of a group -/
theorem WAt.repK {K : PySem.W.Frag} {B : Hp} {done : List Str} {kvs : List (Key × V)} {ws : Str → List Str} (h : WAt B done kvs ws) (hw : ∀ p ∈ done, (ws p).length ≤ 100000 ∧ ∀ x ∈ ws p, x.length ≤ 1000000) : RepK K B kvs (wsD done ws) := by
  obtain ⟨al, h1, h2, h3⟩ := h
  rw [h2]
  refine repK_zip h1 (fun q m => ?_) hw
  unfold lsM at m
  obtain ⟨z, hz, rfl⟩ := List.mem_map.mp m
  obtain ⟨j, hj, e⟩ := List.getElem_of_mem hz
  have hj' : j < al.length ∧ j < done.length := by
    rw [List.length_zip] at hj
    omega
  rw [List.getElem_zip] at e
  have e1 : al[j] = z.1 := by rw [← e]
  have e2 : done[j] = z.2 := by rw [← e]
  exact h3 j z.2 z.1 (by rw [List.getElem?_eq_getElem hj'.2, e2]) (by rw [List.getElem?_eq_getElem hj'.1, e1])
def Grp.part (G : Grp) (ps : List Str) (x : Str) : List Str := (G.wish x).filter fun b => decide (b ∈ ps)
theorem Grp.Ok.part {G : Grp} (ok : G.Ok) {ps : List Str} (nd : ps.Nodup) (hin : ∀ x ∈ ps, x ∈ G.names) : Drawn ps ps (G.part ps) :=
  ⟨nd, fun x m => ok.nm x (hin x m), List.Perm.refl _, fun p m => ⟨(ok.wn p (hin p m)).filter _, fun z => ok.ws p (hin p m) (List.mem_filter.mp z).1, fun q z => by simpa using (List.mem_filter.mp z).2⟩⟩
theorem Grp.Ok.wlen {G : Grp} (ok : G.Ok) {x : Str} (h : x ∈ G.names) : (G.wish x).length ≤ 16 := by
  have h2 := nodup_len (ok.wn x h) (ok.wi x h)
  have := ok.few
  omega
end Q

set_option Elab.async false
set_option linter.all false
set_option maxRecDepth 100000
set_option maxHeartbeats 4000000
namespace Q
open PySem PySem.Spec PyProof.Rows L2
local macro_rules | `(tactic| walk_at "bf") => `(tactic| first | assumption | (refine' bstep (by assumption) ?r; case r => walk_at "bf") | fail)
local macro_rules | `(tactic| walk_at "rp") => `(tactic| first | assumption | exact Rep.int _ | exact Rep.bl _ | exact Rep.non | (refine' Rep.mono (by assumption) ?r; case r => walk_at "rp") | fail)
local macro_rules | `(tactic| walk_at "hf") => `(tactic| first | assumption | exact HS.up (by assumption) (by walk_at "bf") | exact HS.get (by assumption) List.mem_cons_self | exact HS.get (by assumption) (List.mem_cons_of_mem _ List.mem_cons_self) | exact HS.get (by assumption) (List.mem_cons_of_mem _ (List.mem_cons_of_mem _ List.mem_cons_self)) | exact HS.get (by assumption) (List.mem_cons_of_mem _ (List.mem_cons_of_mem _ (List.mem_cons_of_mem _ List.mem_cons_self))) | fail)
local macro_rules | `(tactic| walk_at "sl") => `(tactic| first | assumption | exact SqL.of (by walk_at "hf") | fail)
local macro_rules | `(tactic| walk_at "st") => `(tactic| first | assumption | exact SqT.of (by walk_at "hf") | fail)
local macro_rules | `(tactic| walk_at "sz") => `(tactic| first | assumption | (refine small_le ?_; first | assumption | omega | (simp; done) | (simp; omega)) | fail)
/-! ### lots; inside, outside, without -/
end Q

set_option Elab.async false
set_option linter.all false
set_option maxRecDepth 100000
set_option maxHeartbeats 4000000
namespace Q
open PySem PySem.Spec PyProof.Rows L2
/-! ### != of two lists of the same things -/
end Q

set_option Elab.async false
set_option linter.all false
set_option maxRecDepth 100000
set_option maxHeartbeats 4000000
namespace Q
open PySem PySem.Spec PyProof.Rows L2
local macro_rules | `(tactic| walk_at "bf") => `(tactic| first | assumption | (refine' bstep (by assumption) ?r; case r => walk_at "bf") | fail)
local macro_rules | `(tactic| walk_at "rp") => `(tactic| first | assumption | exact Rep.int _ | exact Rep.bl _ | exact Rep.non | (refine' Rep.mono (by assumption) ?r; case r => walk_at "rp") | fail)
local macro_rules | `(tactic| walk_at "hf") => `(tactic| first | assumption | exact HS.up (by assumption) (by walk_at "bf") | exact HS.get (by assumption) List.mem_cons_self | exact HS.get (by assumption) (List.mem_cons_of_mem _ List.mem_cons_self) | exact HS.get (by assumption) (List.mem_cons_of_mem _ (List.mem_cons_of_mem _ List.mem_cons_self)) | exact HS.get (by assumption) (List.mem_cons_of_mem _ (List.mem_cons_of_mem _ (List.mem_cons_of_mem _ List.mem_cons_self))) | fail)
local macro_rules | `(tactic| walk_at "sl") => `(tactic| first | assumption | exact SqL.of (by walk_at "hf") | fail)
local macro_rules | `(tactic| walk_at "st") => `(tactic| first | assumption | exact SqT.of (by walk_at "hf") | fail)
local macro_rules | `(tactic| walk_at "sz") => `(tactic| first | assumption | (refine small_le ?_; first | assumption | omega | (simp; done) | (simp; omega)) | fail)
/-! ### k10: lots by the law -/
end Q

set_option Elab.async false
set_option linter.all false
set_option maxRecDepth 100000
set_option maxHeartbeats 4000000
namespace Q
open PySem PySem.Spec PyProof.Rows L2
/-! ### k10: asked for a part -/
theorem use_shows {K : PySem.W.Frag} {S : List Addr} {B0 H0 B H : Hp} {M : List (Addr × HO)} {Q : VK} {E : XK} {p : Addr} {G : Grp} (hs : HS S B0 H0 B H M) (g : GAt K B p G)
    (k : ∀ B' H' l vs, Same B B' → HS S B0 H0 B' H' ((l, .lst vs) :: M) → MRs B' vs (rowsOf G.names G.wish) → Q (.ref l) H') : sp__law_shows K [.ref p] H Q E := ⟨p, B, G, rfl, hs.bh, g, fun B' H' l vs c h => k B' H' l vs c.bb (hs.callN c) h⟩
theorem rowsOf_congr {xs : List Str} {f g : Str → List Str} (h : ∀ x ∈ xs, f x = g x) : rowsOf xs f = rowsOf xs g := List.map_congr_left fun x m => by rw [h x m]
/-- insert -/
def rInsert : V → List V → Hp → VK → Prop := fun x vs H Q => ∃ (l : Addr) (xs : List V) (i : Nat) (y : V), x = .ref l ∧ vs = [.int (i : Nat), y] ∧ H l = some (.lst xs) ∧ xs.length ≤ 1000000 ∧ i ≤ xs.length ∧ Q .non (upd H l (.lst (xs.take i ++ [y] ++ xs.drop i)))
theorem mtInsert {X : Cx} : MtR X "list.insert" rInsert := by
  intro pins s σ H x xs v us Q I rx rv h
  obtain ⟨l, ys, i, y, rfl, rfl, hH, hz, hi, q⟩ := h
  refine mt_insert pins s σ H _ _ v us Q I rx rv ⟨l, ys, (i : Nat), y, rfl, rfl, hH, small_lt hz, by omega, by omega, ?_⟩
  rw [Int.toNat_natCast]
  exact q
theorem x_insert {S : List Addr} {B0 H0 B H : Hp} {M : List (Addr × HO)} {Q : VK} {l : Addr} {xs : List V} {i : Nat} {y : V} (hs : HS S B0 H0 B H ((l, .lst xs) :: M)) (hz : xs.length ≤ 1000000) (hi : i ≤ xs.length) (h : ∀ H', HS S B0 H0 B H' ((l, .lst (xs.take i ++ [y] ++ xs.drop i)) :: M) → Q .non H') : rInsert (.ref l) [.int (i : Nat), y] H Q :=
  ⟨l, xs, i, y, rfl, rfl, hs.get List.mem_cons_self, hz, hi, h _ hs.set0⟩
theorem Reps.insert {K : PySem.W.Frag} {B : Hp} {v : V} {d : D} (h : Rep K B v d) : ∀ {vs : List V} {ds : List D} (i : Nat), Reps K B vs ds → Reps K B (vs.take i ++ [v] ++ vs.drop i) (ds.take i ++ [d] ++ ds.drop i)
  | _, _, 0, r => .cons h r
  | _, _, i + 1, .nil => .cons h .nil
  | _, _, i + 1, .cons a r => .cons a (Reps.insert h i r)
end Q

set_option Elab.async false
set_option linter.all false
set_option maxRecDepth 100000
set_option maxHeartbeats 4000000
namespace Q
open PySem PySem.Spec PyProof.Rows L2
/-! ### y = {..: .. for ..} -/
end Q

set_option Elab.async false
set_option linter.all false
set_option maxRecDepth 100000
set_option maxHeartbeats 4000000
namespace Q
open PySem PySem.Spec PyProof.Rows L2
/-! ### try with several clauses `except X as e` -/
abbrev Clause := Value × Nat × (Addr → Value → Option Addr → TS)
section
variable {X : Cx} {body : List Stmt} {hd0 : ExceptHandler} {hds : List ExceptHandler} {cs : List Clause} {pos : Pos} {tb : WX → TS} {Wout : WX}
end
end Q

set_option Elab.async false
set_option linter.all false
set_option maxRecDepth 100000
set_option maxHeartbeats 4000000
namespace Q
open PySem PySem.Spec PyProof.Rows L2
/-! ### names, wishes and the group that a law draws -/
structure Pre (K : PySem.W.Frag) (B : Hp) (n g : Addr) (xs done : List Str) (kvs : List (Key × V)) (ws : Str → List Str) (G : Grp) : Prop where
  en : B n = some (.lst (xs.map V.str))
  hw : WAt B done kvs ws
  dr : Drawn xs done ws
  xl : xs.length ≤ 16
  gat : GAt K B g G
  gn : G.names = xs
  gw : ∀ p ∈ xs, G.wish p = ws p
theorem Pre.mono {K : PySem.W.Frag} {B B' : Hp} {n g : Addr} {xs done : List Str} {kvs : List (Key × V)} {ws : Str → List Str} {G : Grp} (s : Same B B') (h : Pre K B n g xs done kvs ws G) : Pre K B' n g xs done kvs ws G :=
  ⟨s _ _ h.en, h.hw.mono s, h.dr, h.xl, h.gat.mono s, h.gn, h.gw⟩
theorem Pre.nd {K : PySem.W.Frag} {B : Hp} {n g : Addr} {xs done : List Str} {kvs : List (Key × V)} {ws : Str → List Str} {G : Grp} (h : Pre K B n g xs done kvs ws G) : done.Nodup := h.dr.pe.nodup_iff.mpr h.dr.nd
end Q

set_option Elab.async false
set_option linter.all false
set_option maxRecDepth 100000
set_option maxHeartbeats 4000000
namespace Q
open PySem PySem.Spec PyProof.Rows L2
/-! ### == and != of nested data, both answers -/
/-- two rows, item by item -/
def EqS (F : V → V → Bool → Prop) (xs ys : List V) (b : Bool) : Prop := ∃ e : Nat → Bool, (∀ j u v, xs[j]? = some u → ys[j]? = some v → F u v (e j)) ∧ b = (decide (xs.length = ys.length) && (List.range xs.length).all e)
/-- an item compared with an item -/
def EqA (K : PySem.W.Frag) (H : Hp) : Nat → V → V → Bool → Prop
  | 0 => fun _ _ _ => False
  | n + 1 => fun x y b => (flatV x = true ∧ flatV y = true ∧ b = eqV x y) ∨ (∃ a, x = .ref a ∧ y = .ref a ∧ b = true) ∨
      ∃ a c xs ys, x = .ref a ∧ y = .ref c ∧ ((SqL K H a xs ∧ SqL K H c ys) ∨ (SqT K H a xs ∧ SqT K H c ys)) ∧ EqS (EqA K H n) xs ys b
/-- a whole compared with a whole -/
def EqW (K : PySem.W.Frag) (H : Hp) (n : Nat) (x y : V) (b : Bool) : Prop :=
  (∃ a c xs ys, x = .ref a ∧ y = .ref c ∧ ((SqL K H a xs ∧ SqL K H c ys) ∨ (SqT K H a xs ∧ SqT K H c ys)) ∧ EqS (EqA K H n) xs ys b) ∨
  ∃ a c ks ls, ∃ e : Key → Bool, x = .ref a ∧ y = .ref c ∧ H a = some (.dK ks) ∧ H c = some (.dK ls) ∧ (∀ k u v, (k, u) ∈ ks → valV ls k = some v → EqA K H n u v (e k)) ∧ b = (decide (ks.length = ls.length) && ks.all fun p => (valV ls p.1).isSome && e p.1)
theorem eqV_self {v : V} (f : flatV v = true) : eqV v v = true := by
  cases v <;> first | rfl | (simp [eqV]; done) | cases f
section
variable {X : Cx} {pins : List (Addr × Obj)} {σ : L2.St} {H : Hp} {s : Shared}
theorem eqA_refl (I : Inv X pins σ H s) : ∀ (n : Nat) (x : V) (b : Bool), EqA X.K H n x x b → b = true
  | 0, _, _, h => (show False from h).elim
  | n + 1, x, b, h => by
    rcases h with ⟨f, _, e⟩ | ⟨a, _, _, e⟩ | ⟨a, c, xs, ys, e1, e2, hq, e, he, eb⟩
    · rw [e]; exact eqV_self f
    · exact e
    · have ac : a = c := by rw [e1] at e2; injection e2
      subst ac
      have xy : xs = ys := by
        rcases hq with ⟨h1, h2⟩ | ⟨h1, h2⟩
        · exact I.list_inj h1 h2
        · exact I.tuple_inj h1 h2
      subst xy
      rw [eb, decide_eq_true rfl, Bool.true_and, List.all_eq_true]
      intro j hj
      have hj := List.mem_range.mp hj
      exact eqA_refl I n _ _ (he j _ _ (List.getElem?_eq_getElem hj) (List.getElem?_eq_getElem hj))
theorem eqS_at {A : Around} {n : Nat} (ih : ∀ x y v u b, EqA X.K H n x y b → RelV x v → RelV y u → SeqAt.EqAt A s v u b) {xs ys : List V} {us ws : List Value} (r1 : Vals xs us) (r2 : Vals ys ws) {e : Nat → Bool}
    (he : ∀ j u v, xs[j]? = some u → ys[j]? = some v → EqA X.K H n u v (e j)) (j : Nat) (h1 : j < us.toArray.size) (h2 : j < ws.toArray.size) : SeqAt.EqAt A s us.toArray[j] ws.toArray[j] (e j) := by
  have l1 := r1.length
  have l2 := r2.length
  have h1' : j < us.length := by simpa using h1
  have h2' : j < ws.length := by simpa using h2
  have hx : xs[j]? = some (xs[j]'(by omega)) := List.getElem?_eq_getElem (by omega)
  have hy : ys[j]? = some (ys[j]'(by omega)) := List.getElem?_eq_getElem (by omega)
  obtain ⟨u1, e1, q1⟩ := r1.get hx
  obtain ⟨u2, e2, q2⟩ := r2.get hy
  rw [List.getElem?_eq_getElem h1'] at e1
  rw [List.getElem?_eq_getElem h2'] at e2
  cases e1
  cases e2
  have := ih _ _ _ _ _ (he j _ _ hx hy) q1 q2
  simpa using this
theorem eqA_at (I : Inv X pins σ H s) : ∀ (n : Nat) (A : Around), A.units + n < cLine → ∀ (x y : V) (v u : Value) (b : Bool), EqA X.K H n x y b → RelV x v → RelV y u → SeqAt.EqAt A s v u b
  | 0, _, _, _, _, _, _, _, h, _, _ => (show False from h).elim
  | n + 1, A, hu, x, y, v, u, b, h, rx, ry => by
    have h0 := h
    rcases h with ⟨f1, f2, e⟩ | ⟨a, rfl, rfl, e⟩ | ⟨a, c, xs, ys, rfl, rfl, hq, e, he, eb⟩
    · rw [e]; exact eqAt_V rx ry f1 f2
    · cases (show v = Value.ref a from rx)
      cases (show u = Value.ref a from ry)
      rw [e]
      exact SeqAt.EqAt.same _
    · cases (show v = Value.ref a from rx)
      cases (show u = Value.ref c from ry)
      by_cases ac : a = c
      · subst ac
        rw [eqA_refl I (n + 1) _ _ h0]
        exact SeqAt.EqAt.same _
      · refine SeqAt.EqAt.of_refs ac ?_
        have ih := eqA_at I n A.in1 (by show A.units + 1 + n < cLine; omega)
        rcases hq with ⟨h1, h2⟩ | ⟨h1, h2⟩
        · obtain ⟨us, r1, p1, _⟩ := I.list h1
          obtain ⟨ws, r2, p2, _⟩ := I.list h2
          have l1 := r1.length
          have l2 := r2.length
          by_cases hl : xs.length = ys.length
          · have := SeqAt.RcAt.lists (e := e) p1.isList p2.isList (by rw [List.size_toArray, List.size_toArray]; omega) (by omega) (eqS_at (A := A.in1) ih r1 r2 he)
            rw [eb, decide_eq_true hl, Bool.true_and]
            rw [List.size_toArray, ← l1] at this
            exact this
          · have := SeqAt.RcAt.lists_lengths (A := A) p1.isList p2.isList (by rw [List.size_toArray, List.size_toArray, bne_iff_ne]; omega) (by omega)
            rw [eb, decide_eq_false hl, Bool.false_and]
            exact this
        · obtain ⟨us, r1, p1, _⟩ := I.tuple h1
          obtain ⟨ws, r2, p2, _⟩ := I.tuple h2
          have l1 := r1.length
          have l2 := r2.length
          have := SeqAt.RcAt.tuples (e := e) p1 p2 (by omega) (eqS_at (A := A.in1) ih r1 r2 he)
          rw [List.size_toArray, List.size_toArray, ← l1, ← l2] at this
          by_cases hl : xs.length = ys.length
          · rw [eb, decide_eq_true hl, Bool.true_and]
            rw [← hl, Nat.min_self, beq_self_eq_true, Bool.and_true] at this
            exact this
          · rw [eb, decide_eq_false hl, Bool.false_and]
            rw [beq_eq_false_iff_ne.mpr hl, Bool.and_false] at this
            exact this
theorem hits_A {A : Around} {n : Nat} (ih : ∀ x y v u b, EqA X.K H n x y b → RelV x v → RelV y u → SeqAt.EqAt A s v u b) {ls : List (Key × V)} {vb : List (Key × Value)} (rb : KV ls vb) {e : Key → Bool} {ks : List (Key × V)} {va : List (Key × Value)}
    (ra : KV ks va) : (∀ k u v, (k, u) ∈ ks → valV ls k = some v → EqA X.K H n u v (e k)) → ∃ r, PySem.W.KeqHits A s vb va r ∧ r = ks.all fun p => (valV ls p.1).isSome && e p.1 := by
  unfold KV at ra
  induction ra with
  | nil => intro _; exact ⟨true, .nil, rfl⟩
  | @cons p q ps qs h t k =>
    intro hp
    obtain ⟨h1, h2⟩ := h
    obtain ⟨key, v⟩ := q
    obtain ⟨pk, pv⟩ := p
    have h1' : pk = key := h1
    subst h1'
    obtain ⟨r, hr, er⟩ := k fun k' u v m => hp k' u v (List.mem_cons_of_mem _ m)
    have rr : RelO (valV ls pk) (valueAt vb pk) := rb.val pk
    cases hv : valV ls pk with
    | none =>
      rw [hv] at rr
      have hn : valueAt vb pk = none := by
        cases hq : valueAt vb pk with
        | none => rfl
        | some _ => rw [hq] at rr; cases rr
      exact ⟨false, .miss hn, by simp [hv]⟩
    | some u =>
      rw [hv] at rr
      obtain ⟨y, hy, ry⟩ := rr.some_of
      refine ⟨e pk && r, .hit hy (ih _ _ _ _ _ (hp pk pv u List.mem_cons_self hv) h2 ry) hr, by simp [hv, er]⟩
end
def rNeE (K : PySem.W.Frag) : R2 := fun x y H Q => ∃ n b, n ≤ 60 ∧ EqW K H n x y b ∧ Q (.bl (!b)) H
section
variable {X : Cx}
theorem op_neE (hu : X.A.units + 64 < cLine) : OpR X (compareOp .NotEq) (rNeE X.K) := by
  intro pins s σ H x y v u Q I rx ry h
  obtain ⟨n, b, hn, h, q⟩ := h
  have ih := eqA_at I n X.A.in1 (by show X.A.units + 1 + n < cLine; omega)
  rcases h with ⟨a, c, xs, ys, rfl, rfl, hq, e, he, eb⟩ | ⟨a, c, ks, ls, e, rfl, rfl, ha, hb, he, eb⟩
  · cases (show v = Value.ref a from rx)
    cases (show u = Value.ref c from ry)
    rcases hq with ⟨h1, h2⟩ | ⟨h1, h2⟩
    · obtain ⟨us, r1, p1, _⟩ := I.list h1
      obtain ⟨ws, r2, p2, _⟩ := I.list h2
      have l1 := r1.length
      have l2 := r2.length
      by_cases hl : xs.length = ys.length
      · refine PySem.W.cmp_ofNotEq (SeqAt.RcNeAt.lists (e := e) p1.isList p2.isList (by rw [List.size_toArray, List.size_toArray]; omega) (by omega) (eqS_at (A := X.A.in1) ih r1 r2 he) X.prog X.w X.xe (EP X pins σ Q) ?_)
        rw [eb, decide_eq_true hl, Bool.true_and] at q
        rw [List.size_toArray, ← l1]
        exact ⟨.bl _, H, I, rfl, q⟩
      · refine PySem.W.cmp_ofNotEq (SeqAt.RcNeAt.lists_lengths p1.isList p2.isList (by rw [List.size_toArray, List.size_toArray, bne_iff_ne]; omega) (by omega) X.prog X.w X.xe (EP X pins σ Q) ?_)
        rw [eb, decide_eq_false hl, Bool.false_and] at q
        exact ⟨.bl _, H, I, rfl, q⟩
    · obtain ⟨us, r1, p1, _⟩ := I.tuple h1
      obtain ⟨ws, r2, p2, _⟩ := I.tuple h2
      have l1 := r1.length
      have l2 := r2.length
      refine PySem.W.cmp_ofNotEq (SeqAt.RcNeAt.tuples (e := e) p1 p2 (by omega) (eqS_at (A := X.A.in1) ih r1 r2 he) X.prog X.w X.xe (EP X pins σ Q) ?_)
      rw [List.size_toArray, List.size_toArray, ← l1, ← l2]
      by_cases hl : xs.length = ys.length
      · rw [eb, decide_eq_true hl, Bool.true_and] at q
        rw [← hl, Nat.min_self, beq_self_eq_true, Bool.and_true]
        exact ⟨.bl _, H, I, rfl, q⟩
      · rw [eb, decide_eq_false hl, Bool.false_and] at q
        rw [beq_eq_false_iff_ne.mpr hl, Bool.and_false]
        exact ⟨.bl _, H, I, rfl, q⟩
  · cases (show v = Value.ref a from rx)
    cases (show u = Value.ref c from ry)
    obtain ⟨_, ya, va, ra, da⟩ := (show ObjOk X.prog X.w H s.heap a (.dK ks) from I.hok a _ ha)
    obtain ⟨_, yb, vb, rb, db⟩ := (show ObjOk X.prog X.w H s.heap c (.dK ls) from I.hok c _ hb)
    obtain ⟨r, hr, er⟩ := hits_A ih rb ra he
    refine PySem.W.keq_ne (knd := mixKind X.prog X.w) (r := r) ya yb da db (by omega) (fun _ => hr) ?_
    rw [← ra.length, ← rb.length, er]
    rw [eb] at q
    exact ⟨.bl _, H, I, rfl, q⟩
end
end Q

set_option Elab.async false
set_option linter.all false
set_option maxRecDepth 100000
set_option maxHeartbeats 4000000
namespace Q
open PySem PySem.Spec PyProof.Rows L2
/-! ### == and != by an own __eq__, two instances of one class -/
section
variable {M : Model} {A : Around} {E : Value → Shared → Prop} {s : Shared} {K : PySem.W.Frag} {x C : Addr} {ox : Obj} {od : Option Obj}
end
section
variable {prog : Program} {w : World} {A : Around} {E : Value → Shared → Prop} {s : Shared} {K : PySem.W.Frag} {x y C f : Addr} {ox oy : Obj} {od oe : Option Obj}
end
section
variable {X : Cx} {k j : Nat} {c : Str} {ps : List Str} {sp : Sp}
end
end Q

set_option Elab.async false
set_option linter.all false
set_option maxRecDepth 100000
set_option maxHeartbeats 4000000
namespace Q
open PySem PySem.Spec PyProof.Rows L2
/-! ### isinstance(x, Group) -/
/-! ### == of lists and dicts of texts -/
theorem eqa_str {K : PySem.W.Frag} {H : Hp} {n : Nat} {x y : Str} : EqA K H (n + 1) (.str x) (.str y) (decide (x = y)) := .inl ⟨rfl, rfl, by
  show decide (x = y) = (x == y)
  by_cases h : x = y
  · subst h; simp
  · simp [h]⟩
theorem eqs_strs {K : PySem.W.Frag} {H : Hp} {n : Nat} (xs ys : List Str) : EqS (EqA K H (n + 1)) (xs.map V.str) (ys.map V.str) (decide (xs = ys)) := by
  refine ⟨fun j => decide (xs[j]? = ys[j]?), fun j u v h1 h2 => ?_, ?_⟩
  · obtain ⟨x, e1, rfl⟩ := strs_get h1
    obtain ⟨y, e2, rfl⟩ := strs_get h2
    dsimp only
    rw [e1, e2]
    have := eqa_str (K := K) (H := H) (n := n) (x := x) (y := y)
    simpa using this
  · rw [List.length_map, List.length_map]
    by_cases h : xs = ys
    · subst h
      simp
    · rw [decide_eq_false h]
      symm
      rw [Bool.and_eq_false_iff]
      by_cases hl : xs.length = ys.length
      · right
        rw [List.all_eq_false]
        have : ∃ j, xs[j]? ≠ ys[j]? := Classical.byContradiction fun z => h (List.ext_getElem? fun j => Classical.byContradiction fun w => z ⟨j, w⟩)
        obtain ⟨j, hj⟩ := this
        refine ⟨j, List.mem_range.mpr ?_, by simpa using hj⟩
        refine Classical.byContradiction fun z => hj ?_
        rw [List.getElem?_eq_none (by omega), List.getElem?_eq_none (by omega)]
      · exact .inl (decide_eq_false hl)
theorem eqa_strs {K : PySem.W.Frag} {H : Hp} {n : Nat} {a c : Addr} {xs ys : List Str} (ha : H a = some (.lst (xs.map V.str))) (hc : H c = some (.lst (ys.map V.str))) : EqA K H (n + 2) (.ref a) (.ref c) (decide (xs = ys)) :=
  .inr (.inr ⟨a, c, _, _, rfl, rfl, .inl ⟨SqL.of ha, SqL.of hc⟩, eqs_strs xs ys⟩)
theorem zipK_mem {xs : List Str} {al : List Addr} {k : Key} {u : V} (h : (k, u) ∈ zipK xs al) : ∃ (j : Nat) (p : Str) (a : Addr), xs[j]? = some p ∧ al[j]? = some a ∧ k = .inr p ∧ u = .ref a := by
  unfold zipK at h
  obtain ⟨⟨p, a⟩, m, e⟩ := List.mem_map.mp h
  obtain ⟨j, hj⟩ := List.mem_iff_getElem?.mp m
  rw [List.getElem?_zip_eq_some] at hj
  cases e
  exact ⟨j, p, a, hj.1, hj.2, rfl, rfl⟩
theorem zipK_len' {xs : List Str} {al : List Addr} (h : al.length = xs.length) : (zipK xs al).length = xs.length := by
  unfold zipK
  rw [List.length_map, List.length_zip]
  omega
def keyB (f : Str → Bool) : Key → Bool
  | .inr p => f p
  | _ => false
theorem eqw_dict {K : PySem.W.Frag} {H : Hp} {a c : Addr} {xs ys : List Str} {al bl : List Addr} {f g : Str → List Str} (h1 : al.length = xs.length) (h2 : bl.length = ys.length) (nd2 : ys.Nodup) (ha : H a = some (.dK (zipK xs al))) (hc : H c = some (.dK (zipK ys bl)))
    (hf : ∀ (j : Nat) p a, xs[j]? = some p → al[j]? = some a → LAt H f p a) (hg : ∀ (j : Nat) p a, ys[j]? = some p → bl[j]? = some a → LAt H g p a) :
    EqW K H 2 (.ref a) (.ref c) (decide (xs.length = ys.length) && xs.all fun p => decide (p ∈ ys) && decide (f p = g p)) := by
  refine .inr ⟨a, c, _, _, keyB fun p => decide (f p = g p), rfl, rfl, ha, hc, fun k u v m hv => ?_, ?_⟩
  · obtain ⟨j, p, x, e1, e2, rfl, rfl⟩ := zipK_mem m
    by_cases my : p ∈ ys
    · obtain ⟨j', y, e3, e4, e5⟩ := zipK_val h2 nd2 my
      rw [e5] at hv
      cases hv
      exact eqa_strs (hf j p x e1 e2) (hg j' p y e3 e4)
    · rw [zipK_none my] at hv
      cases hv
  · rw [zipK_len' h1, zipK_len' h2]
    congr 1
    have e : ((zipK xs al).all fun p => (valV (zipK ys bl) p.1).isSome && keyB (fun p => decide (f p = g p)) p.1) = (((zipK xs al).map (·.1)).all fun k => (valV (zipK ys bl) k).isSome && keyB (fun p => decide (f p = g p)) k) := by
      rw [List.all_map]
      rfl
    rw [e, zipK_keys h1, List.all_map]
    refine List.all_congr rfl fun p => ?_
    show _ = ((valV (zipK ys bl) (.inr p)).isSome && decide (f p = g p))
    congr 1
    by_cases my : p ∈ ys
    · obtain ⟨j', y, e3, e4, e5⟩ := zipK_val h2 nd2 my
      rw [e5, decide_eq_true my]
      rfl
    · rw [zipK_none my, decide_eq_false my]
      rfl
/-! ### Group.__eq__ -/
end Q

set_option Elab.async false
set_option linter.all false
set_option maxRecDepth 100000
set_option maxHeartbeats 4000000
namespace Q
open PySem PySem.Spec PyProof.Rows L2
local macro_rules | `(tactic| walk_at "bf") => `(tactic| first | assumption | (refine' bstep (by assumption) ?r; case r => walk_at "bf") | fail)
local macro_rules | `(tactic| walk_at "rp") => `(tactic| first | assumption | exact Rep.int _ | exact Rep.bl _ | exact Rep.non | (refine' Rep.mono (by assumption) ?r; case r => walk_at "rp") | fail)
local macro_rules | `(tactic| walk_at "hf") => `(tactic| first | assumption | exact HS.up (by assumption) (by walk_at "bf") | exact HS.get (by assumption) List.mem_cons_self | exact HS.get (by assumption) (List.mem_cons_of_mem _ List.mem_cons_self) | exact HS.get (by assumption) (List.mem_cons_of_mem _ (List.mem_cons_of_mem _ List.mem_cons_self)) | exact HS.get (by assumption) (List.mem_cons_of_mem _ (List.mem_cons_of_mem _ (List.mem_cons_of_mem _ List.mem_cons_self))) | fail)
local macro_rules | `(tactic| walk_at "sl") => `(tactic| first | assumption | exact SqL.of (by walk_at "hf") | fail)
local macro_rules | `(tactic| walk_at "st") => `(tactic| first | assumption | exact SqT.of (by walk_at "hf") | fail)
local macro_rules | `(tactic| walk_at "sz") => `(tactic| first | assumption | (refine small_le ?_; first | assumption | omega | (simp; done) | (simp; omega)) | fail)
/-! ### dicts by a function of the names -/
def zipF (rs : List Str) (f : Str → Addr) : List (Key × V) := rs.map fun p => (.inr p, .ref (f p))
def lsF (rs : List Str) (f : Str → Addr) (ws : Str → List Str) : List (Addr × HO) := rs.map fun p => (f p, .lst ((ws p).map V.str))
def updW {β : Type} (ws : Str → β) (a : Str) (row : β) : Str → β := fun p => if p = a then row else ws p
theorem updW_eq {β : Type} {ws : Str → β} {a : Str} {row : β} : updW ws a row a = row := if_pos rfl
theorem updW_ne {β : Type} {ws : Str → β} {a p : Str} {row : β} (h : p ≠ a) : updW ws a row p = ws p := if_neg h
theorem zipK_map (rs : List Str) (f : Str → Addr) : zipK rs (rs.map f) = zipF rs f := by
  induction rs with
  | nil => rfl
  | cons x r ih =>
    show ((Sum.inr x : Key), V.ref (f x)) :: zipK r (r.map f) = _
    rw [ih]
    rfl
theorem lsM_map (rs : List Str) (f : Str → Addr) (ws : Str → List Str) : lsM (rs.map f) rs ws = lsF rs f ws := by
  unfold lsM lsF
  induction rs with
  | nil => rfl
  | cons x r ih =>
    rw [List.map_cons, List.zip_cons_cons, List.map_cons, ih, List.map_cons]
theorem fn_of {al : List Addr} {done : List Str} (h : al.length = done.length) (nd : done.Nodup) : ∃ f : Str → Addr, al = done.map f := by
  induction done generalizing al with
  | nil => exact ⟨fun _ => 0, by simpa using h⟩
  | cons x r ih =>
    cases al with
    | nil => simp at h
    | cons a al =>
      obtain ⟨f, e⟩ := ih (by simpa using h) (List.nodup_cons.mp nd).2
      refine ⟨updW f x a, ?_⟩
      rw [List.map_cons, updW_eq, e]
      congr 1
      refine List.map_congr_left fun y m => ?_
      rw [updW_ne]
      exact fun z => (List.nodup_cons.mp nd).1 (z ▸ m)
theorem zipF_val {rs : List Str} {f : Str → Addr} {p : Str} (m : p ∈ rs) : valV (zipF rs f) (.inr p) = some (.ref (f p)) := by
  induction rs with
  | nil => cases m
  | cons x r ih =>
    show valV (((Sum.inr x : Key), V.ref (f x)) :: zipF r f) (.inr p) = _
    by_cases e : x = p
    · subst e
      exact valV_pos (p := ((Sum.inr x : Key), V.ref (f x))) rfl
    · rw [valV_neg (p := ((Sum.inr x : Key), V.ref (f x))) (fun z => e (Sum.inr.inj z))]
      refine ih ?_
      rcases List.mem_cons.mp m with z | z
      · exact absurd z.symm e
      · exact z
theorem zipF_none {rs : List Str} {f : Str → Addr} {p : Str} (m : p ∉ rs) : valV (zipF rs f) (.inr p) = none := by
  rw [← zipK_map]
  exact zipK_none m
theorem lsF_perm {rs rs' : List Str} {f : Str → Addr} {ws : Str → List Str} (h : rs.Perm rs') : (lsF rs f ws).Perm (lsF rs' f ws) := h.map _
/-! ### for x in reversed(list) -/
theorem x_listD {H : Hp} {Q : VK} {p : Addr} {kvs : List (Key × V)} (hp : H p = some (.dK kvs)) (h : New (.lst (kvs.map fun kv => kV kv.1)) Q H) : rListD [.ref p] H Q := ⟨p, kvs, rfl, hp, h⟩
theorem zipF_keysV (rs : List Str) (f : Str → Addr) : ((zipF rs f).map fun kv => kV kv.1) = rs.map V.str := by
  unfold zipF
  rw [List.map_map]
  rfl
section
variable {α : Type} {K : PySem.W.Frag} {S : List Addr} {B0 H0 B : Hp} {σf : α → L2.St} {Mf : α → List (Addr × HO)} {P : Nat → α → Hp → Prop} {a : Addr} {xs : List V} {g : TG} {tb : TS} {De : Ends} {H : Hp} {s0 : α}
theorem l_rev (hs : HS S B0 H0 B H (Mf s0)) (ea : B a = some (.lst xs)) (h0 : P 0 s0 B)
    (hb : ∀ i x s B1 H1, xs.reverse[i]? = some x → Same B B1 → HS S B0 H0 B1 H1 (Mf s) → P i s B1 → g x (σf s) H1 fun σ2 H2 => tb { De with nx := LI S B0 H0 B σf Mf P (i + 1), ct := LI S B0 H0 B σf Mf P (i + 1), bk := De.nx } σ2 H2)
    (hd : ∀ s B1 H1, Same B B1 → HS S B0 H0 B1 H1 (Mf s) → P xs.length s B1 → De.nx (σf s) H1) : LoopW (Itv K a xs.length) g tb De (σf s0) H := by
  refine for_it (walk_rev (K := K) (a := a) (xs := xs)) (LI S B0 H0 B σf Mf P) ⟨s0, B, rfl, Same.refl _, hs, h0⟩ (fun i σ H' _ ⟨s, B1, _, sb, hs', _⟩ => SqL.of (hs'.up (sb _ _ ea))) (fun i x σ H' H2 hi ⟨s, B1, e, sb, hs', p⟩ y => ?_) fun σ H' ⟨s, B1, e, sb, hs', p⟩ => ?_
  · obtain ⟨rfl, hx⟩ := y
    rw [e]
    exact hb i x s B1 _ (by rw [List.getElem?_reverse hi]; exact hx) sb hs' p
  · rw [e]
    exact hd s B1 H' sb hs' p
end
theorem map_strs_rev (xs : List Str) : (xs.map V.str).reverse = xs.reverse.map V.str := List.map_reverse.symm
theorem x_iRev {K : PySem.W.Frag} {ta : TA} {σ : L2.St} {H : Hp} {R : It → Hp → Prop} (h : ta σ H fun vs H1 => ∃ (a : Addr) (xs : List V), vs = [.ref a] ∧ SqL K H1 a xs ∧ R (Itv K a xs.length) H1) : iRev K ta σ H R := h
abbrev N__law_turned : List Str := ["_law_x", "_law_turned_here", "_law_a"]
def t__law_turned (K : PySem.W.Frag) (E : XK) : TS := (tSeq (tAsg tDNewK (gName 1))
  (tSeq (tFor (iRev K (tCons (tCB (rSortL K) (tCons (tCB rListD (tCons (tVar 0) tNil)) tNil)) tNil)) (gName 2) (sDPut (tVar 1) (tVar 2) (tDGet (tVar 0) (tVar 2))))
  (tRet (tVar 1))))
def sp__law_turned (K : PySem.W.Frag) : Sp := fun vs H Q E => ∃ (d : Addr) (done : List Str) (f : Str → Addr) (B : Hp), vs = [.ref d] ∧ Same B H ∧ B d = some (.dK (zipF done f)) ∧ done.Nodup ∧ done.length < 64 ∧
  ∀ B' H' T rs, HS [] B H B' H' [(T, .dK (zipF rs f))] → rs.Perm done → Q (.ref T) H'
theorem pure__law_turned {K : PySem.W.Frag} {vs : List V} {H : Hp} {Q : VK} {E : XK} (h : sp__law_turned K vs H Q E) : t__law_turned K E { nx := fun _ H' => Q .non H', rt := Q } (start N__law_turned vs) H := by
  obtain ⟨d, done, f, B, rfl, sB, bd, nd, hl, k⟩ := h
  have hs := HS.start sB
  show t__law_turned K E _ [some (.ref d), none, none] H
  unfold t__law_turned
  ((with_reducible refine x_seq ?_); (with_reducible refine x_asg ?_); (with_reducible refine x_dnew ?_))
  refine new_M hs (fun T H1 hs1 _ => ?_)
  (((with_reducible refine x_gname ?_); try simp only [List.set_cons_zero, List.set_cons_succ]); (with_reducible refine x_seq ?_); (with_reducible refine x_for ?_))
  refine x_iRev ?_
  ((with_reducible refine x_cons ?_); (with_reducible refine x_cb ?_); (with_reducible refine x_cons ?_); (with_reducible refine x_cb ?_); (with_reducible refine x_cons ?_); ((with_reducible refine' x_var ?z12h ?_); case z12h => rfl); (with_reducible refine x_nil ?_))
  refine x_listD (hs1.up bd) ?_
  rw [zipF_keysV]
  refine new_F hs1 (fun l B2 H2 hs2 sb2 el _ => ?_)
  ((with_reducible refine x_nil ?_); ((with_reducible refine' x_srtL ?z15h ?z15h2 ?_); (case z15h => walk_at "sl"); (case z15h2 => omega)))
  have pe : (sortS done).Perm done := sortS_perm done
  generalize sortS done = ys at pe ⊢
  refine new_F hs2 (fun l2 B3 H3 hs3 sb3 el2 _ => ?_)
  (with_reducible refine x_nil ?_)
  have bd3 := sb3 _ _ (sb2 _ _ bd)
  have ndy : ys.Nodup := pe.nodup_iff.mpr nd
  refine ⟨l2, _, rfl, SqL.of (hs3.up el2), ?_⟩
  refine l_rev (α := Nat × Option V) (σf := fun s => [some (.ref d), some (.ref T), s.2]) (Mf := fun s => [(T, .dK (zipF (ys.reverse.take s.1) f))]) (P := fun i s _ => s.1 = i) (s0 := (0, none)) hs3 el2 rfl (fun i x s B4 H4 hx sb4 hs4 pp => ?_) (fun s B4 H4 sb4 hs4 pp => ?_)
  · obtain ⟨i', s2⟩ := s
    dsimp only at pp hs4 ⊢
    subst pp
    rw [map_strs_rev] at hx
    obtain ⟨b, hb, rfl⟩ := strs_get hx
    have mb : b ∈ done := pe.mem_iff.mp (List.mem_reverse.mp (List.mem_of_getElem? hb))
    have hil : i' < ys.reverse.length := (List.getElem?_eq_some_iff.mp hb).1
    have hyl := pe.length_eq
    rw [List.length_reverse] at hil
    (((with_reducible refine x_gname ?_); try simp only [List.set_cons_zero, List.set_cons_succ]); (with_reducible refine x_dputU ?_); (with_reducible refine x_dget ?_); ((with_reducible refine' x_var ?z20h ?_); case z20h => rfl); ((with_reducible refine' x_var ?z21h ?_); case z21h => rfl))
    refine x_dgS (hs4.up (sb4 _ _ bd3)) (zipF_val mb) ?_
    (((with_reducible refine' x_var ?z22h ?_); case z22h => rfl); ((with_reducible refine' x_var ?z23h ?_); case z23h => rfl))
    refine x_dput hs4 (by unfold zipF; rw [List.length_map, List.length_take]; omega) (fun H5 hs5 => ?_)
    refine ⟨(i' + 1, some _), B4, rfl, sb4, ?_, rfl⟩
    dsimp only
    rw [putK_new (zipF_none (notin_take ((List.reverse_perm ys).nodup_iff.mpr ndy) hb))] at hs5
    rw [take_snoc hb]
    unfold zipF
    rw [List.map_append]
    exact hs5
  · obtain ⟨i', s2⟩ := s
    dsimp only at pp hs4 ⊢
    subst pp
    ((with_reducible refine x_ret ?_); ((with_reducible refine' x_var ?z25h ?_); case z25h => rfl))
    have e : ys.reverse.take (ys.map V.str).length = ys.reverse := List.take_of_length_le (by simp)
    rw [e] at hs4
    exact k B4 H4 T ys.reverse (hs.callN hs4) ((List.reverse_perm ys).trans pe)
theorem use_turned {K : PySem.W.Frag} {S : List Addr} {B0 H0 B H : Hp} {M : List (Addr × HO)} {Q : VK} {E : XK} {d : Addr} {done : List Str} {f : Str → Addr} (hs : HS S B0 H0 B H M) (ed : B d = some (.dK (zipF done f))) (nd : done.Nodup) (hl : done.length < 64)
    (k : ∀ B' H' T rs, Same B B' → HS S B0 H0 B' H' ((T, .dK (zipF rs f)) :: M) → rs.Perm done → Q (.ref T) H') : sp__law_turned K [.ref d] H Q E :=
  ⟨d, done, f, B, rfl, hs.bh, ed, nd, hl, fun B' H' T rs c p => k B' H' T rs c.bb (hs.callN c) p⟩
end Q

set_option Elab.async false
set_option linter.all false
set_option maxRecDepth 100000
set_option maxHeartbeats 4000000
namespace Q
open PySem PySem.Spec PyProof.Rows L2
/-! ### more of dicts by a function -/
theorem WAt.ofF {B : Hp} {rs : List Str} {f : Str → Addr} {ws : Str → List Str} (h : ∀ p ∈ rs, B (f p) = some (.lst ((ws p).map V.str))) : WAt B rs (zipF rs f) ws :=
  ⟨rs.map f, by rw [List.length_map], (zipK_map rs f).symm, fun j p a e1 e2 => by
    rw [List.getElem?_map, e1] at e2
    cases e2
    exact h p (List.mem_of_getElem? e1)⟩
theorem x_reverse {S : List Addr} {B0 H0 B H : Hp} {M : List (Addr × HO)} {Q : VK} {l : Addr} {xs : List V} (hs : HS S B0 H0 B H ((l, .lst xs) :: M)) (h : ∀ H', HS S B0 H0 B H' ((l, .lst xs.reverse) :: M) → Q .non H') : rReverse (.ref l) [] H Q :=
  ⟨l, xs, rfl, rfl, hs.get List.mem_cons_self, h _ hs.set0⟩
/-! ### rows that change -/
theorem ins_perm {α : Type} (l : List α) (i : Nat) (x : α) : (l.take i ++ [x] ++ l.drop i).Perm (x :: l) := by
  rw [List.append_assoc]
  refine (List.perm_middle (l₁ := l.take i) (l₂ := l.drop i) (a := x)).trans ?_
  rw [List.take_append_drop]
theorem RowOk.names {xs ys row : List Str} {p : Str} (h : RowOk xs p row) (s : ∀ q ∈ xs, q ∈ ys) : RowOk ys p row := ⟨h.1, h.2.1, fun q m => s q (h.2.2 q m)⟩
/-! ### one name becomes another -/
theorem ret_lenW {xs : List Str} {done : List Str} {ws : Str → List Str} (dr : Drawn xs done ws) (hl : xs.length ≤ 16) : ∀ p ∈ done, (ws p).length ≤ 100000 ∧ ∀ x ∈ ws p, x.length ≤ 1000000 := fun p m => by
  obtain ⟨r1, r2, r3⟩ := dr.row p (dr.pe.mem_iff.mp m)
  have := nodup_len r1 r3
  exact ⟨by omega, fun x mx => okName_len (dr.ok x (r3 x mx))⟩
end Q

set_option Elab.async false
set_option linter.all false
set_option maxRecDepth 100000
set_option maxHeartbeats 4000000
namespace Q
open PySem PySem.Spec PyProof.Rows L2
/-! ### != of any data with itself or a copy -/
def SameQ (K : PySem.W.Frag) (H : Hp) (x y : V) : Prop := ∃ a, x = .ref a ∧ y = .ref a ∧ ((∃ xs, SqL K H a xs) ∨ (∃ xs, SqT K H a xs) ∨ ∃ kvs, H a = some (.dK kvs))
def rNeU (K : PySem.W.Frag) : R2 := fun x y H Q => rNe x y H Q ∨ rNeE K x y H Q ∨ (SameQ K H x y ∧ Q (.bl false) H)
/-- not an instance -/
def D.plain : D → Bool
  | .obj _ _ => false
  | _ => true
theorem neU_self {K : PySem.W.Frag} {S : List Addr} {B0 H0 B H : Hp} {M : List (Addr × HO)} {Q : VK} {v : V} {d : D} (hs : HS S B0 H0 B H M) (r : Rep K B v d) (hd : d.plain = true) (h : Q (.bl false) H) : rNeU K v v H Q := by
  cases r with
  | non => exact .inl ⟨rfl, by simpa using h⟩
  | bl b => exact .inl ⟨rfl, by simpa using h⟩
  | int i => exact .inl ⟨rfl, by simpa using h⟩
  | str _ => exact .inl ⟨rfl, by simpa using h⟩
  | lst e _ _ => exact .inr (.inr ⟨⟨_, rfl, rfl, .inl ⟨_, SqL.of (hs.up e)⟩⟩, h⟩)
  | tup e _ => exact .inr (.inr ⟨⟨_, rfl, rfl, .inr (.inl ⟨_, SqT.of (hs.up e)⟩)⟩, h⟩)
  | dct e _ => exact .inr (.inr ⟨⟨_, rfl, rfl, .inr (.inr ⟨_, hs.up e⟩)⟩, h⟩)
  | obj _ _ => cases hd
/-! ### rows of names and wishes -/
/-! ### a group of names and wishes that fit -/
/-! ### {person: list(self.lists[person]) for person in self.names} -/
end Q

set_option Elab.async false
set_option linter.all false
set_option maxRecDepth 100000
set_option maxHeartbeats 4000000
namespace Q
open PySem PySem.Spec PyProof.Rows L2
local macro_rules | `(tactic| walk_at "bf") => `(tactic| first | assumption | (refine' bstep (by assumption) ?r; case r => walk_at "bf") | fail)
local macro_rules | `(tactic| walk_at "rp") => `(tactic| first | assumption | exact Rep.int _ | exact Rep.bl _ | exact Rep.non | (refine' Rep.mono (by assumption) ?r; case r => walk_at "rp") | fail)
local macro_rules | `(tactic| walk_at "hf") => `(tactic| first | assumption | exact HS.up (by assumption) (by walk_at "bf") | exact HS.get (by assumption) List.mem_cons_self | exact HS.get (by assumption) (List.mem_cons_of_mem _ List.mem_cons_self) | exact HS.get (by assumption) (List.mem_cons_of_mem _ (List.mem_cons_of_mem _ List.mem_cons_self)) | exact HS.get (by assumption) (List.mem_cons_of_mem _ (List.mem_cons_of_mem _ (List.mem_cons_of_mem _ List.mem_cons_self))) | fail)
local macro_rules | `(tactic| walk_at "sl") => `(tactic| first | assumption | exact SqL.of (by walk_at "hf") | fail)
local macro_rules | `(tactic| walk_at "st") => `(tactic| first | assumption | exact SqT.of (by walk_at "hf") | fail)
local macro_rules | `(tactic| walk_at "sz") => `(tactic| first | assumption | (refine small_le ?_; first | assumption | omega | (simp; done) | (simp; omega)) | fail)
/-! ### [x for x in names if ..], [f(x) for x in names] -/
section
variable {K : PySem.W.Frag} {S : List Addr} {B0 H0 B H : Hp} {M : List (Addr × HO)} {Q : VK} {σ : L2.St} {i : Nat} {tl te : TE} {tt : TT} {l : Addr} {xs : List Str} {f : Str → Bool} {g : Str → Str}
end
/-! ### is_integer -/
/-! ### Group.with_wishes -/
/-! ### Group.without -/
end Q

set_option Elab.async false
set_option linter.all false
set_option maxRecDepth 100000
set_option maxHeartbeats 4000000
namespace Q
open PySem PySem.Spec PyProof.Rows L2
local macro_rules | `(tactic| walk_at "bf") => `(tactic| first | assumption | (refine' bstep (by assumption) ?r; case r => walk_at "bf") | fail)
local macro_rules | `(tactic| walk_at "rp") => `(tactic| first | assumption | exact Rep.int _ | exact Rep.bl _ | exact Rep.non | (refine' Rep.mono (by assumption) ?r; case r => walk_at "rp") | fail)
local macro_rules | `(tactic| walk_at "hf") => `(tactic| first | assumption | exact HS.up (by assumption) (by walk_at "bf") | exact HS.get (by assumption) List.mem_cons_self | exact HS.get (by assumption) (List.mem_cons_of_mem _ List.mem_cons_self) | exact HS.get (by assumption) (List.mem_cons_of_mem _ (List.mem_cons_of_mem _ List.mem_cons_self)) | exact HS.get (by assumption) (List.mem_cons_of_mem _ (List.mem_cons_of_mem _ (List.mem_cons_of_mem _ List.mem_cons_self))) | fail)
local macro_rules | `(tactic| walk_at "sl") => `(tactic| first | assumption | exact SqL.of (by walk_at "hf") | fail)
local macro_rules | `(tactic| walk_at "st") => `(tactic| first | assumption | exact SqT.of (by walk_at "hf") | fail)
local macro_rules | `(tactic| walk_at "sz") => `(tactic| first | assumption | (refine small_le ?_; first | assumption | omega | (simp; done) | (simp; omega)) | fail)
/-! ### Group.struck -/
/-! ### Group.exchanged -/
end Q

set_option Elab.async false
set_option linter.all false
set_option maxRecDepth 100000
set_option maxHeartbeats 4000000
namespace Q
open PySem PySem.Spec PyProof.Rows L2
/-! ### a text among any data -/
section
variable {A : Around} {s : Shared}
end
/-- plain data: flat, or a list, a tuple, a dict -/
def Pln (K : PySem.W.Frag) (H : Hp) (v : V) : Prop := flatV v = true ∨ ∃ a, v = .ref a ∧ ((∃ xs, SqL K H a xs) ∨ (∃ xs, SqT K H a xs) ∨ ∃ kvs, H a = some (.dK kvs))
theorem Pln.two {K : PySem.W.Frag} {H : Hp} {v : V} (p : Pln K H v) : flatV v = true ∨ ∃ a, v = .ref a := p.elim .inl fun ⟨a, e, _⟩ => .inr ⟨a, e⟩
section
variable {X : Cx}
end
end Q

set_option Elab.async false
set_option linter.all false
set_option maxRecDepth 100000
set_option maxHeartbeats 4000000
namespace Q
open PySem PySem.Spec PyProof.Rows L2
local macro_rules | `(tactic| walk_at "bf") => `(tactic| first | assumption | (refine' bstep (by assumption) ?r; case r => walk_at "bf") | fail)
local macro_rules | `(tactic| walk_at "rp") => `(tactic| first | assumption | exact Rep.int _ | exact Rep.bl _ | exact Rep.non | (refine' Rep.mono (by assumption) ?r; case r => walk_at "rp") | fail)
local macro_rules | `(tactic| walk_at "hf") => `(tactic| first | assumption | exact HS.up (by assumption) (by walk_at "bf") | exact HS.get (by assumption) List.mem_cons_self | exact HS.get (by assumption) (List.mem_cons_of_mem _ List.mem_cons_self) | exact HS.get (by assumption) (List.mem_cons_of_mem _ (List.mem_cons_of_mem _ List.mem_cons_self)) | exact HS.get (by assumption) (List.mem_cons_of_mem _ (List.mem_cons_of_mem _ (List.mem_cons_of_mem _ List.mem_cons_self))) | fail)
local macro_rules | `(tactic| walk_at "sl") => `(tactic| first | assumption | exact SqL.of (by walk_at "hf") | fail)
local macro_rules | `(tactic| walk_at "st") => `(tactic| first | assumption | exact SqT.of (by walk_at "hf") | fail)
local macro_rules | `(tactic| walk_at "sz") => `(tactic| first | assumption | (refine small_le ?_; first | assumption | omega | (simp; done) | (simp; omega)) | fail)
/-! ### a dict that stands still is walked through -/
theorem HS.refreeze {B H B' H' : Hp} {d : Addr} {o : HO} {N : List (Addr × HO)} (ed : B d = some o) (c : HS [d] (del B d) H B' H' ((d, o) :: N)) : HS [] B H (upd B' d o) H' N := by
  obtain ⟨c1, c2, _⟩ := c.mu (d, o) List.mem_cons_self
  dsimp only at c1 c2
  have nd := c.nd
  rw [List.map_cons, List.nodup_cons] at nd
  refine ⟨fun b u e => ?_, fun b u e => ?_, fun b u _ n2 e => ?_, fun q m => ?_, nd.2⟩
  · by_cases z : b = d
    · subst z; rw [ed] at e; cases e; exact upd_same
    · rw [upd_ne z]; exact c.bb b u (by rw [del_ne z]; exact e)
  · by_cases z : b = d
    · subst z; rw [upd_same] at e; cases e; exact c2
    · rw [upd_ne z] at e; exact c.bh b u e
  · have z : b ≠ d := fun z => by rw [z, ed] at n2; cases n2
    obtain ⟨x, y⟩ := c.fr b u (by simpa using z) (by rw [del_ne z]; exact n2) e
    exact ⟨by rw [upd_ne z]; exact x, y⟩
  · obtain ⟨x, y, w⟩ := c.mu q (List.mem_cons_of_mem _ m)
    have z : q.1 ≠ d := fun z => nd.1 (List.mem_map.mpr ⟨q, m, z⟩)
    exact ⟨by rw [upd_ne z]; exact x, y, .inl (w.resolve_right (by simpa using z))⟩
theorem Same.del {B H : Hp} {d : Addr} (s : Same B H) : Same (del B d) H := fun b u e => by
  by_cases z : b = d
  · rw [z, del_same] at e; cases e
  · rw [del_ne z] at e; exact s b u e
theorem WAt.del {B : Hp} {done : List Str} {kvs : List (Key × V)} {ws : Str → List Str} {d : Addr} {ks : List (Key × V)} (h : WAt B done kvs ws) (ed : B d = some (.dK ks)) : WAt (del B d) done kvs ws := by
  obtain ⟨al, h1, h2, h3⟩ := h
  refine ⟨al, h1, h2, fun j p a e1 e2 => ?_⟩
  have := h3 j p a e1 e2
  unfold LAt at this ⊢
  rw [del_ne]
  · exact this
  · intro z
    rw [z, ed] at this
    cases this
theorem use_copyB {K : PySem.W.Frag} {S : List Addr} {B0 H0 B H : Hp} {M : List (Addr × HO)} {Q : VK} {E : XK} {d : Addr} {kvs : List (Key × V)} {done : List Str} {ws : Str → List Str} (hs : HS S B0 H0 B H M) (ed : B d = some (.dK kvs)) (hw : WAt B done kvs ws) (nd : done.Nodup) (hl : done.length ≤ 100)
    (k : ∀ B' H' c f, Same B B' → HS S B0 H0 B' H' (((c, .dK (zipF done f)) :: lsF done f ws) ++ M) → Q (.ref c) H') : sp__law_copy K [.ref d] H Q E :=
  ⟨d, kvs, done, ws, del B d, rfl, Same.del hs.bh, del_same, hs.up ed, hw.del ed, nd, hl, fun B' H' c al h e => by
    obtain ⟨f, rfl⟩ := fn_of e nd
    rw [zipK_map, lsM_map] at h
    have c2 := HS.refreeze ed h
    exact k _ H' c f c2.bb (hs.callN c2)⟩
/-! ### _law_are_wishes -/
/-! ### _law_with -/
/-! ### _law_exchange -/
end Q

set_option Elab.async false
set_option linter.all false
set_option maxRecDepth 100000
set_option maxHeartbeats 4000000
namespace Q
open PySem PySem.Spec PyProof.Rows L2
local macro_rules | `(tactic| walk_at "bf") => `(tactic| first | assumption | (refine' bstep (by assumption) ?r; case r => walk_at "bf") | fail)
local macro_rules | `(tactic| walk_at "rp") => `(tactic| first | assumption | exact Rep.int _ | exact Rep.bl _ | exact Rep.non | (refine' Rep.mono (by assumption) ?r; case r => walk_at "rp") | fail)
local macro_rules | `(tactic| walk_at "hf") => `(tactic| first | assumption | exact HS.up (by assumption) (by walk_at "bf") | exact HS.get (by assumption) List.mem_cons_self | exact HS.get (by assumption) (List.mem_cons_of_mem _ List.mem_cons_self) | exact HS.get (by assumption) (List.mem_cons_of_mem _ (List.mem_cons_of_mem _ List.mem_cons_self)) | exact HS.get (by assumption) (List.mem_cons_of_mem _ (List.mem_cons_of_mem _ (List.mem_cons_of_mem _ List.mem_cons_self))) | fail)
local macro_rules | `(tactic| walk_at "sl") => `(tactic| first | assumption | exact SqL.of (by walk_at "hf") | fail)
local macro_rules | `(tactic| walk_at "st") => `(tactic| first | assumption | exact SqT.of (by walk_at "hf") | fail)
local macro_rules | `(tactic| walk_at "sz") => `(tactic| first | assumption | (refine small_le ?_; first | assumption | omega | (simp; done) | (simp; omega)) | fail)
/-! ### _law_given, _law_exchanged -/
/-! ### _law_new_wishes -/
theorem Pre.open {K : PySem.W.Frag} {B : Hp} {n g : Addr} {xs done : List Str} {kvs : List (Key × V)} {ws : Str → List Str} {G : Grp} (h : Pre K B n g xs done kvs ws G) {p : Str} (m : p ∈ xs) : G.open p = opn ws p := by
  unfold Grp.open opn
  rw [h.gw p m]
  refine List.filter_congr fun b mb => ?_
  rw [h.gw b ((h.dr.row p m).2.2 b mb)]
theorem okRows {xs : List Str} {ws : Str → List Str} (hn : ∀ x ∈ xs, okName x = true) (hw : ∀ x ∈ xs, ∀ y ∈ ws x, okName y = true) : ∀ k ∈ rowsOf xs ws, PyData.strOk k.1 = true ∧ ∀ x ∈ k.2, PyData.strOk x = true := fun k mk => by
  unfold rowsOf at mk
  obtain ⟨a, ma, rfl⟩ := List.mem_map.mp mk
  exact ⟨okName_strOk (hn a ma), fun x mx => okName_strOk (hw a ma x mx)⟩
theorem row_same {K : PySem.W.Frag} {H B : Hp} {Q : VK} {E : XK} {p q : Addr} {vs us : List V} {xs : List Str} {ws : Str → List Str} (sB : Same B H) (hp : H p = some (.lst vs)) (hq : H q = some (.lst us)) (t1 : MRs B vs (rowsOf xs ws)) (t2 : MRs B us (rowsOf xs ws)) (hn : ∀ x ∈ xs, okName x = true) (hw : ∀ x ∈ xs, ∀ y ∈ ws x, okName y = true)
    (k : Q (.bl true) H) : sp__law_row K [.ref p, .ref q] H Q E := row_mrs sB hp hq t1 t2 (okRows hn hw) (okRows hn hw) (by rw [decide_eq_true rfl]; exact k)
end Q

set_option Elab.async false
set_option linter.all false
set_option maxRecDepth 100000
set_option maxHeartbeats 4000000
namespace Q
open PySem PySem.Spec PyProof.Rows L2
theorem valV_of_mem {kvs : List (Key × V)} (nd : (kvs.map (·.1)).Nodup) {k : Key} {v : V} (m : (k, v) ∈ kvs) : valV kvs k = some v := by
  induction kvs with
  | nil => cases m
  | cons p r ih =>
    rw [List.map_cons, List.nodup_cons] at nd
    rcases List.mem_cons.mp m with e | m
    · subst e
      exact valV_pos rfl
    · rw [valV_neg]
      · exact ih nd.2 m
      · intro e
        exact nd.1 (List.mem_map.mpr ⟨(k, v), m, e.symm⟩)
/-! ### dict(d); != with more -/
/-- two dicts that hold the same -/
def SameD (H : Hp) (x y : V) : Prop := ∃ a c kvs, x = .ref a ∧ y = .ref c ∧ H a = some (.dK kvs) ∧ H c = some (.dK kvs) ∧ ∀ p ∈ kvs, flatV p.2 = true ∨ ∃ b, p.2 = .ref b
/-! ### new names -/
theorem vald_get {K : PySem.W.Frag} {B : Hp} {kvs : List (Key × V)} {ds : List (Key × D)} (r : RepK K B kvs ds) {p : Str} (h : (dval ds (.inr p)).isSome = true) : ∃ v, valV kvs (.inr p) = some v ∧ Rep K B v (vald (.dct ds) p) := by
  rcases repK_val r (.inr p) with ⟨v, d, e1, e2, e3⟩ | ⟨_, e2⟩
  · refine ⟨v, e1, ?_⟩
    unfold vald
    dsimp only
    rw [e2]
    exact e3
  · rw [e2] at h
    cases h
theorem inj_of_nd {xs : List Str} {f : Str → Str} (nd : (xs.map f).Nodup) {p q : Str} (mp : p ∈ xs) (mq : q ∈ xs) (e : f p = f q) : p = q := by
  induction xs with
  | nil => cases mp
  | cons x r ih =>
    rw [List.map_cons, List.nodup_cons] at nd
    rcases List.mem_cons.mp mp with e1 | mp2
    · rcases List.mem_cons.mp mq with e2 | mq2
      · rw [e1, e2]
      · exact absurd (List.mem_map.mpr ⟨q, mq2, by rw [← e, e1]⟩) nd.1
    · rcases List.mem_cons.mp mq with e2 | mq2
      · exact absurd (List.mem_map.mpr ⟨p, mp2, by rw [e, e2]⟩) nd.1
      · exact ih nd.2 mp2 mq2
/-- wishes under new names -/
def renW (xs : List Str) (f : Str → Str) (ws : Str → List Str) : Str → List Str := fun q => match xs.find? fun p => decide (f p = q) with
  | some p => (ws p).map f
  | none => []
theorem renW_at {xs : List Str} {f : Str → Str} {ws : Str → List Str} (nd : (xs.map f).Nodup) {p : Str} (m : p ∈ xs) : renW xs f ws (f p) = (ws p).map f := by
  unfold renW
  cases h : xs.find? fun q => decide (f q = f p) with
  | none => exact absurd (List.find?_eq_none.mp h p m) (by simp)
  | some q =>
    have h1 := List.find?_some h
    have e := inj_of_nd nd (List.mem_of_find?_eq_some h) m (of_decide_eq_true h1)
    dsimp only
    rw [e]
theorem rowOk_map {xs row : List Str} {f : Str → Str} {p : Str} (h : RowOk xs p row) (nd : (xs.map f).Nodup) (mp : p ∈ xs) : RowOk (xs.map f) (f p) (row.map f) :=
  ⟨List.pairwise_map.mpr (h.1.imp_of_mem fun {x y} mx my ne e => ne (inj_of_nd nd (h.2.2 x mx) (h.2.2 y my) e)), fun m => by
    obtain ⟨c, mc, e⟩ := List.mem_map.mp m
    exact h.2.1 (inj_of_nd nd (h.2.2 c mc) mp e ▸ mc), fun q m => by
    obtain ⟨c, mc, rfl⟩ := List.mem_map.mp m
    exact List.mem_map.mpr ⟨c, h.2.2 c mc, rfl⟩⟩
theorem Drawn.map {xs done : List Str} {ws : Str → List Str} {f : Str → Str} (d : Drawn xs done ws) (hok : ∀ p ∈ xs, okName (f p) = true) (nd : (xs.map f).Nodup) : Drawn (xs.map f) (xs.map f) (renW xs f ws) :=
  ⟨nd, fun q m => by obtain ⟨p, mp, rfl⟩ := List.mem_map.mp m; exact hok p mp, List.Perm.refl _, fun q m => by
    obtain ⟨p, mp, rfl⟩ := List.mem_map.mp m
    rw [renW_at nd mp]
    exact rowOk_map (d.row p mp) nd mp⟩
theorem RepK.put {K : PySem.W.Frag} {B : Hp} {k : Key} {v : V} {d : D} (h : Rep K B v d) : ∀ {kvs : List (Key × V)} {ds : List (Key × D)}, RepK K B kvs ds → ∃ ds', RepK K B (putK kvs k v) ds' := by
  have mp : ∀ {kvs : List (Key × V)} {ds : List (Key × D)}, RepK K B kvs ds → ∃ ds', RepK K B (kvs.map fun p => if p.1 = k then (p.1, v) else p) ds' := by
    intro kvs ds r
    induction kvs generalizing ds with
    | nil => exact ⟨[], .nil⟩
    | cons p r' ih =>
      cases r with
      | @cons k2 v2 _ d2 ds2 h2 r2 =>
        obtain ⟨ds', hd⟩ := ih r2
        rw [List.map_cons]
        by_cases e : k2 = k
        · dsimp only
          rw [if_pos e]
          exact ⟨_, .cons h hd⟩
        · dsimp only
          rw [if_neg e]
          exact ⟨_, .cons h2 hd⟩
  have ap : ∀ {kvs : List (Key × V)} {ds : List (Key × D)}, RepK K B kvs ds → ∃ ds', RepK K B (kvs ++ [(k, v)]) ds' := by
    intro kvs ds r
    induction kvs generalizing ds with
    | nil => exact ⟨_, .cons h .nil⟩
    | cons p r' ih =>
      cases r with
      | cons h2 r2 =>
        obtain ⟨ds', hd⟩ := ih r2
        exact ⟨_, .cons h2 hd⟩
  intro kvs ds r
  unfold putK
  split
  · exact mp r
  · exact ap r
theorem RepK.drop {K : PySem.W.Frag} {B : Hp} {k : Key} : ∀ {kvs : List (Key × V)} {ds : List (Key × D)}, RepK K B kvs ds → ∃ ds', RepK K B (dropK kvs k) ds' := by
  intro kvs ds r
  unfold dropK
  induction kvs generalizing ds with
  | nil => exact ⟨[], .nil⟩
  | cons p r' ih =>
    cases r with
    | cons h2 r2 =>
      obtain ⟨ds', hd⟩ := ih r2
      rw [List.filter_cons]
      split
      · exact ⟨_, .cons h2 hd⟩
      · exact ⟨_, hd⟩
end Q

set_option Elab.async false
set_option linter.all false
set_option maxRecDepth 100000
set_option maxHeartbeats 4000000
namespace Q
open PySem PySem.Spec PyProof.Rows L2
local macro_rules | `(tactic| walk_at "bf") => `(tactic| first | assumption | (refine' bstep (by assumption) ?r; case r => walk_at "bf") | fail)
local macro_rules | `(tactic| walk_at "rp") => `(tactic| first | assumption | exact Rep.int _ | exact Rep.bl _ | exact Rep.non | (refine' Rep.mono (by assumption) ?r; case r => walk_at "rp") | fail)
local macro_rules | `(tactic| walk_at "hf") => `(tactic| first | assumption | exact HS.up (by assumption) (by walk_at "bf") | exact HS.get (by assumption) List.mem_cons_self | exact HS.get (by assumption) (List.mem_cons_of_mem _ List.mem_cons_self) | exact HS.get (by assumption) (List.mem_cons_of_mem _ (List.mem_cons_of_mem _ List.mem_cons_self)) | exact HS.get (by assumption) (List.mem_cons_of_mem _ (List.mem_cons_of_mem _ (List.mem_cons_of_mem _ List.mem_cons_self))) | fail)
local macro_rules | `(tactic| walk_at "sl") => `(tactic| first | assumption | exact SqL.of (by walk_at "hf") | fail)
local macro_rules | `(tactic| walk_at "st") => `(tactic| first | assumption | exact SqT.of (by walk_at "hf") | fail)
local macro_rules | `(tactic| walk_at "sz") => `(tactic| first | assumption | (refine small_le ?_; first | assumption | omega | (simp; done) | (simp; omega)) | fail)
/-! ### Group.renamed -/
end Q

set_option Elab.async false
set_option linter.all false
set_option maxRecDepth 100000
set_option maxHeartbeats 4000000
namespace Q
open PySem PySem.Spec PyProof.Rows L2
/-! ### dicts of plain values, as they are changed -/
/-- of all values -/
def PlK (P : D → Prop) (ds : List (Key × D)) : Prop := ∀ q ∈ ds, P q.2
end Q

set_option Elab.async false
set_option linter.all false
set_option maxRecDepth 100000
set_option maxHeartbeats 4000000
namespace Q
open PySem PySem.Spec PyProof.Rows L2
local macro_rules | `(tactic| walk_at "bf") => `(tactic| first | assumption | (refine' bstep (by assumption) ?r; case r => walk_at "bf") | fail)
local macro_rules | `(tactic| walk_at "rp") => `(tactic| first | assumption | exact Rep.int _ | exact Rep.bl _ | exact Rep.non | (refine' Rep.mono (by assumption) ?r; case r => walk_at "rp") | fail)
local macro_rules | `(tactic| walk_at "hf") => `(tactic| first | assumption | exact HS.up (by assumption) (by walk_at "bf") | exact HS.get (by assumption) List.mem_cons_self | exact HS.get (by assumption) (List.mem_cons_of_mem _ List.mem_cons_self) | exact HS.get (by assumption) (List.mem_cons_of_mem _ (List.mem_cons_of_mem _ List.mem_cons_self)) | exact HS.get (by assumption) (List.mem_cons_of_mem _ (List.mem_cons_of_mem _ (List.mem_cons_of_mem _ List.mem_cons_self))) | fail)
local macro_rules | `(tactic| walk_at "sl") => `(tactic| first | assumption | exact SqL.of (by walk_at "hf") | fail)
local macro_rules | `(tactic| walk_at "st") => `(tactic| first | assumption | exact SqT.of (by walk_at "hf") | fail)
local macro_rules | `(tactic| walk_at "sz") => `(tactic| first | assumption | (refine small_le ?_; first | assumption | omega | (simp; done) | (simp; omega)) | fail)
/-! ### _law_pairs -/
def prsF (f : Str → List Str) (a : Str) : List (List Str) := ((sortS (f a)).filter fun b => decide (a.cps.toList < b.cps.toList)).map fun b => [a, b]
def prsOf (xs : List Str) (f : Str → List Str) : List (List Str) := (sortS xs).flatMap (prsF f)
abbrev N__law_pairs : List Str := ["_law_mutual_here", "_law_rows", "_law_a", "_law_b"]
def t__law_pairs (K : PySem.W.Frag) (E : XK) : TS := (tSeq (tAsg (tLst tNil) (gName 1))
  (tSeq (tFor (iList K (tCB (rSortL K) (tCons (tCB rListD (tCons (tVar 0) tNil)) tNil))) (gName 2) (tFor (iList K (tCB (rSortL K) (tCons (tDGet (tVar 0) (tVar 2)) tNil))) (gName 3) (tIfS (tTest (tOp rLtS (tVar 2) (tVar 3))) (tDrop (tBM K "list" rAppend (tVar 1) (tCons (tTup (tCons (tVar 2) (tCons (tVar 3) tNil))) tNil))) tNext)))
  (tRet (tVar 1))))
def sp__law_pairs (K : PySem.W.Frag) : Sp := fun vs H Q E => ∃ (m : Addr) (kvs : List (Key × V)) (xs : List Str) (f : Str → List Str) (B : Hp), vs = [.ref m] ∧ Same B H ∧ B m = some (.dK kvs) ∧ WAt B xs kvs f ∧ xs.Nodup ∧ xs.length ≤ 25 ∧ (∀ x ∈ xs, (f x).length ≤ 25) ∧
  ∀ B' H' l vs, HS [] B H B' H' [(l, .lst vs)] → TRs B' vs (prsOf xs f) → Q (.ref l) H'
theorem prsF_len (f : Str → List Str) (a : Str) : (prsF f a).length ≤ (f a).length := by
  unfold prsF
  rw [List.length_map]
  exact Nat.le_trans (List.length_filter_le _ _) (by rw [sortS_len]; exact Nat.le_refl _)
theorem WAt.zip {B : Hp} {xs : List Str} {kvs : List (Key × V)} {f : Str → List Str} (h : WAt B xs kvs f) : (kvs.map fun kv => kV kv.1) = xs.map V.str := by
  have := congrArg (List.map kV) h.keys
  rw [List.map_map, List.map_map] at this
  exact this
theorem pure__law_pairs {K : PySem.W.Frag} {vs : List V} {H : Hp} {Q : VK} {E : XK} (h : sp__law_pairs K vs H Q E) : t__law_pairs K E { nx := fun _ H' => Q .non H', rt := Q } (start N__law_pairs vs) H := by
  obtain ⟨m, kvs, xs, f, B, rfl, sB, em, hw, nd, few, hfl, k⟩ := h
  have hs := HS.start sB
  show t__law_pairs K E _ [some (.ref m), none, none, none] H
  unfold t__law_pairs
  ((with_reducible refine x_seq ?_); (with_reducible refine x_asg ?_); (with_reducible refine x_lst ?_); (with_reducible refine x_nil ?_); ((with_reducible refine' x_newL ?z5h ?_); case z5h => first | exact Nat.zero_le _ | (simp; done) | (simp; omega)))
  refine new_M hs (fun ro H1 hs1 _ => ?_)
  (((with_reducible refine x_gname ?_); try simp only [List.set_cons_zero, List.set_cons_succ]); (with_reducible refine x_seq ?_); (with_reducible refine x_for ?_); (with_reducible refine x_iList ?_); (with_reducible refine x_cb ?_); (with_reducible refine x_cons ?_); (with_reducible refine x_cb ?_); (with_reducible refine x_cons ?_); ((with_reducible refine' x_var ?z14h ?_); case z14h => rfl); (with_reducible refine x_nil ?_))
  refine x_listD (hs1.up em) ?_
  rw [hw.zip]
  refine new_F hs1 (fun kl B2 H2 hs2 sb2 ekl _ => ?_)
  ((with_reducible refine x_nil ?_); ((with_reducible refine' x_srtL ?z17h ?z17h2 ?_); (case z17h => walk_at "sl"); (case z17h2 => omega)))
  try refine x_srtL (SqL.of (hs2.up ekl)) (by omega) ?_
  refine new_F hs2 (fun so B3 H3 hs3 sb3 e3 _ => ?_)
  have s03 := sb2.trans sb3
  refine ⟨so, rfl, ⟨_, SqL.of (hs3.up e3)⟩, ?_⟩
  refine l_list (α := List V × Option V × Option V) (σf := fun s => [some (.ref m), some (.ref ro), s.2.1, s.2.2]) (Mf := fun s => [(ro, .lst s.1)]) (P := fun i s B1 => TRs B1 s.1 (((sortS xs).take i).flatMap (prsF f))) (s0 := ([], none, none)) hs3 e3 .nil
    (fun i x s B4 H4 hi sb4 hs4 pp => ?_) (fun s B4 H4 sb4 hs4 pp => ?_)
  · obtain ⟨rows, s2, s3⟩ := s
    dsimp only at pp hs4 ⊢
    obtain ⟨a, ha, rfl⟩ := strs_get hi
    have ham : a ∈ xs := mem_sortS.mp (List.mem_of_getElem? ha)
    obtain ⟨oa, ev, eo⟩ := ((hw.mono s03).mono sb4).get nd ham
    have ol := hfl a ham
    have em4 := sb4 _ _ (s03 _ _ em)
    (((with_reducible refine x_gname ?_); try simp only [List.set_cons_zero, List.set_cons_succ]); (with_reducible refine x_for ?_); (with_reducible refine x_iList ?_); (with_reducible refine x_cb ?_); (with_reducible refine x_cons ?_); (with_reducible refine x_dget ?_); ((with_reducible refine' x_var ?z24h ?_); case z24h => rfl); ((with_reducible refine' x_var ?z25h ?_); case z25h => rfl); ((with_reducible refine' x_dgS ?z26h ?z26h2 ?_); (case z26h => walk_at "hf"); (case z26h2 => assumption)); (with_reducible refine x_nil ?_); ((with_reducible refine' x_srtL ?z28h ?z28h2 ?_); (case z28h => walk_at "sl"); (case z28h2 => omega)))
    try (refine x_dgS (hs4.up em4) ev ?_; fail)
    try refine x_srtL (SqL.of (hs4.up eo)) (by omega) ?_
    refine new_F hs4 (fun so2 B5 H5 hs5 sb5 e5 _ => ?_)
    refine ⟨so2, rfl, ⟨_, SqL.of (hs5.up e5)⟩, ?_⟩
    refine l_list (α := List V × Option V) (σf := fun s => [some (.ref m), some (.ref ro), some (.str a), s.2]) (Mf := fun s => [(ro, .lst s.1)])
      (P := fun j s B1 => TRs B1 s.1 (((sortS xs).take i).flatMap (prsF f) ++ (((sortS (f a)).take j).filter fun b => decide (a.cps.toList < b.cps.toList)).map fun b => [a, b])) (s0 := (rows, s3)) hs5 e5 (by simpa using pp.mono sb5)
      (fun j y s B6 H6 hj sb6 hs6 pp => ?_) (fun s B6 H6 sb6 hs6 pp => ?_)
    · obtain ⟨rows, s3⟩ := s
      dsimp only at pp hs6 ⊢
      obtain ⟨b, hb, rfl⟩ := strs_get hj
      have hjl : j < (sortS (f a)).length := (List.getElem?_eq_some_iff.mp hb).1
      rw [sortS_len] at hjl
      (((with_reducible refine x_gname ?_); try simp only [List.set_cons_zero, List.set_cons_succ]); (with_reducible refine x_if ?_); (with_reducible refine x_test ?_); (with_reducible refine x_op ?_); ((with_reducible refine' x_var ?z33h ?_); case z33h => rfl); ((with_reducible refine' x_var ?z34h ?_); case z34h => rfl); (with_reducible refine x_ltS ?_); (with_reducible refine x_exb ?_))
      refine x_ite (fun h => ?_) (fun h => ?_)
      · ((with_reducible refine x_drop ?_); (with_reducible refine x_bm ?_); ((with_reducible refine' x_var ?z39h ?_); case z39h => rfl); ((with_reducible refine' x_tyL ?z40h ?_); case z40h => walk_at "sl"); (with_reducible refine x_cons ?_); (with_reducible refine x_tup ?_); (with_reducible refine x_cons ?_); ((with_reducible refine' x_var ?z44h ?_); case z44h => rfl); (with_reducible refine x_cons ?_); ((with_reducible refine' x_var ?z46h ?_); case z46h => rfl); (with_reducible refine x_nil ?_); ((with_reducible refine' x_newT ?z48h ?_); case z48h => first | exact Nat.zero_le _ | (simp; done) | (simp; omega)))
        try refine x_tyL (SqL.of (hs6.get List.mem_cons_self)) ?_
        skip
        refine new_F hs6 (fun t B7 H7 hs7 sb7 e7 _ => ?_)
        (with_reducible refine x_nil ?_)
        have hlen := pp.len
        rw [List.length_append] at hlen
        have l1 : (((sortS xs).take i).flatMap (prsF f)).length ≤ ((sortS xs).take i).length * 25 := flat_len fun z mz => Nat.le_trans (prsF_len f z) (hfl z (mem_sortS.mp (List.mem_of_mem_take mz)))
        have l2 : ((((sortS (f a)).take j).filter fun b => decide (a.cps.toList < b.cps.toList)).map fun b => [a, b]).length ≤ 25 := by
          rw [List.length_map]
          exact Nat.le_trans (List.length_filter_le _ _) (by rw [List.length_take]; omega)
        rw [List.length_take, sortS_len] at l1
        have l3 : min i xs.length * 25 ≤ 625 := by
          have : min i xs.length ≤ 25 := by omega
          omega
        refine x_append hs7 (by omega) (fun H8 hs8 => ?_)
        refine ⟨(rows ++ [.ref t], some _), B7, rfl, sb6.trans sb7, hs8, ?_⟩
        dsimp only
        rw [filter_take _ hb, if_pos h, List.map_append, ← List.append_assoc]
        exact (pp.mono sb7).snoc e7
      · (with_reducible refine x_next ?_)
        refine ⟨(rows, some _), B6, rfl, sb6, hs6, ?_⟩
        dsimp only
        rw [filter_take _ hb, if_neg (by rw [h]; decide)]
        exact pp
    · obtain ⟨rows, s3⟩ := s
      dsimp only at pp hs6 ⊢
      rw [List.length_map, List.take_length] at pp
      refine ⟨(rows, some _, s3), B6, rfl, (sb4.trans sb5).trans sb6, hs6, ?_⟩
      dsimp only
      rw [flatMap_take _ ha]
      exact pp
  · obtain ⟨rows, s2, s3⟩ := s
    dsimp only at pp hs4 ⊢
    rw [List.length_map, List.take_length] at pp
    ((with_reducible refine x_ret ?_); ((with_reducible refine' x_var ?z52h ?_); case z52h => rfl))
    exact k B4 H4 ro rows hs4 pp
theorem prsOf_group {xs : List Str} {f : Str → List Str} {G : Grp} (hn : G.names = xs) (ho : ∀ x ∈ xs, G.open x = f x) : G.pairs = prsOf xs f := by
  unfold Grp.pairs prsOf
  rw [hn]
  have : ∀ l : List Str, (∀ x ∈ l, x ∈ xs) → l.flatMap G.prs = l.flatMap (prsF f) := by
    intro l
    induction l with
    | nil => intro _; rfl
    | cons a r ih =>
      intro h
      rw [List.flatMap_cons, List.flatMap_cons, ih fun x m => h x (List.mem_cons_of_mem _ m)]
      congr 1
      unfold Grp.prs prsF
      rw [ho a (h a List.mem_cons_self)]
  exact this _ fun x m => mem_sortS.mp m
/-! ### x in a list, by == of nested data -/
end Q

set_option Elab.async false
set_option linter.all false
set_option maxRecDepth 100000
set_option maxHeartbeats 4000000
namespace Q
open PySem PySem.Spec PyProof.Rows L2
/-! ### isinstance(x, Group) of any data -/
theorem TRs.append {B : Hp} : ∀ {vs us : List V} {ks ls : List (List Str)}, TRs B vs ks → TRs B us ls → TRs B (vs ++ us) (ks ++ ls)
  | _, _, _, _, .nil, h => h
  | _, _, _, _, .cons h r, h2 => .cons h (TRs.append r h2)
theorem TRs.at {B : Hp} : ∀ {vs : List V} {ks : List (List Str)} {j : Nat} {v : V}, TRs B vs ks → vs[j]? = some v → ∃ t k, v = .ref t ∧ ks[j]? = some k ∧ B t = some (.tup (k.map V.str))
  | _, _, _, _, .nil, e => by simp at e
  | _, _, 0, v, .cons h _, e => by
    simp only [List.getElem?_cons_zero, Option.some.injEq] at e
    subst e
    exact ⟨_, _, rfl, rfl, h⟩
  | _, _, j + 1, v, .cons _ r, e => by
    obtain ⟨t, k, h1, h2, h3⟩ := TRs.at (j := j) (v := v) r (by simpa using e)
    exact ⟨t, k, h1, by simpa using h2, h3⟩
/-- by its names -/
theorem TRs.any {K : PySem.W.Frag} {B H : Hp} (s : Same B H) {a : Addr} {ks : List Str} (ha : H a = some (.tup (ks.map V.str))) : ∀ {vs : List V} {ps : List (List Str)}, TRs B vs ps → ∃ e : V → Bool, (∀ v ∈ vs, (∃ b, v = .ref b) ∧ EqA K H 2 v (.ref a) (e v)) ∧ vs.any e = decide (ks ∈ ps) := by
  intro vs ps t
  have hB : ∀ v ∈ vs, ∃ b k, v = .ref b ∧ B b = some (.tup (k.map V.str)) ∧ k ∈ ps := fun v m => t.get m
  let key : V → List Str := fun v => match v with | .ref b => (match B b with | some (.tup xs) => xs.filterMap (fun x => match x with | .str y => some y | _ => none) | _ => []) | _ => []
  have fm : ∀ k : List Str, (k.map V.str).filterMap (fun x => match x with | .str y => some y | _ => none) = k := fun k => by
    induction k with
    | nil => rfl
    | cons x r ih => rw [List.map_cons, List.filterMap_cons]; dsimp only; rw [ih]
  have hk : ∀ {b : Addr} {k : List Str}, B b = some (.tup (k.map V.str)) → key (.ref b) = k := fun {b k} e => by
    show (match B b with | some (.tup xs) => xs.filterMap _ | _ => []) = k
    rw [e]
    exact fm k
  refine ⟨fun v => decide (key v = ks), fun v m => ?_, ?_⟩
  · obtain ⟨b, k, rfl, eb, _⟩ := hB v m
    refine ⟨⟨b, rfl⟩, .inr (.inr ⟨b, a, _, _, rfl, rfl, .inr ⟨SqT.of (s _ _ eb), SqT.of ha⟩, ?_⟩)⟩
    dsimp only
    rw [hk eb]
    exact eqs_strs k ks
  · clear hB
    induction t with
    | nil => rfl
    | @cons b k vs' ps' h _ ih =>
      rw [List.any_cons, ih]
      rw [hk h]
      by_cases e : k = ks
      · simp [e]
      · have : ¬ ks = k := fun z => e z.symm
        simp [e, this]
theorem str_tri {x y : Str} (h : x ≠ y) : ltS x y ∨ ltS y x := by
  rcases Bool.or_eq_true _ _ ▸ leS_total x y with z | z
  · exact .inl (ltS_iff.mpr ⟨z, h⟩)
  · exact .inr (ltS_iff.mpr ⟨z, fun e => h e.symm⟩)
end Q

set_option Elab.async false
set_option linter.all false
set_option maxRecDepth 100000
set_option maxHeartbeats 4000000
namespace Q
open PySem PySem.Spec PyProof.Rows L2
/-! ### a method called with keywords for its keyword-only parameters -/
section
variable {X : Cx} {k j n : Nat} {c x m : Str} {ps ks : List Str} {sp : Sp} {W : WX} {p pos apos : Pos} {e o : Expr} {es : List Expr} {kws : List Keyword} {ta : TE} {t tq : TA}
end
end Q

set_option Elab.async false
set_option linter.all false
set_option maxRecDepth 100000
set_option maxHeartbeats 4000000
namespace Q
open PySem PySem.Spec PyProof.Rows L2
/-! ### any data != a text -/
section
variable {A : Around} {s : Shared}
end
end Q

set_option Elab.async false
set_option linter.all false
set_option maxRecDepth 100000
set_option maxHeartbeats 4000000
namespace Q
open PySem PySem.Spec PyProof.Rows L2
/-! ### dicts as data, as they are changed -/
def putD (ds : List (Key × D)) (k : Key) (d : D) : List (Key × D) := if (ds.any fun kv => decide (kv.1 = k)) = true then ds.map (fun kv => if kv.1 = k then (kv.1, d) else kv) else ds ++ [(k, d)]
def dropD (ds : List (Key × D)) (k : Key) : List (Key × D) := ds.filter fun kv => decide (kv.1 ≠ k)
theorem RepK.anyK {K : PySem.W.Frag} {B : Hp} {k : Key} : ∀ {kvs : List (Key × V)} {ds : List (Key × D)}, RepK K B kvs ds → (kvs.any fun kv => decide (kv.1 = k)) = (ds.any fun kv => decide (kv.1 = k))
  | _, _, .nil => rfl
  | _, _, .cons _ r => by rw [List.any_cons, List.any_cons, RepK.anyK r]
theorem RepK.mapK {K : PySem.W.Frag} {B : Hp} {k : Key} {v : V} {d : D} (h : Rep K B v d) : ∀ {kvs : List (Key × V)} {ds : List (Key × D)}, RepK K B kvs ds → RepK K B (kvs.map fun kv => if kv.1 = k then (kv.1, v) else kv) (ds.map fun kv => if kv.1 = k then (kv.1, d) else kv)
  | _, _, .nil => .nil
  | _, _, @RepK.cons _ _ k2 _ _ _ _ h2 r => by
    rw [List.map_cons, List.map_cons]
    by_cases e : k2 = k
    · dsimp only
      rw [if_pos e, if_pos e]
      exact .cons h (RepK.mapK h r)
    · dsimp only
      rw [if_neg e, if_neg e]
      exact .cons h2 (RepK.mapK h r)
theorem RepK.append {K : PySem.W.Frag} {B : Hp} : ∀ {kvs kvs' : List (Key × V)} {ds ds' : List (Key × D)}, RepK K B kvs ds → RepK K B kvs' ds' → RepK K B (kvs ++ kvs') (ds ++ ds')
  | _, _, _, _, .nil, s => s
  | _, _, _, _, .cons h r, s => .cons h (RepK.append r s)
theorem RepK.putD {K : PySem.W.Frag} {B : Hp} {k : Key} {v : V} {d : D} {kvs : List (Key × V)} {ds : List (Key × D)} (r : RepK K B kvs ds) (h : Rep K B v d) : RepK K B (putK kvs k v) (Q.putD ds k d) := by
  unfold putK Q.putD
  rw [r.anyK]
  split
  · exact r.mapK h
  · exact r.append (.cons h .nil)
theorem RepK.dropD {K : PySem.W.Frag} {B : Hp} {k : Key} : ∀ {kvs : List (Key × V)} {ds : List (Key × D)}, RepK K B kvs ds → RepK K B (dropK kvs k) (Q.dropD ds k)
  | _, _, .nil => .nil
  | _, _, @RepK.cons _ _ k2 _ _ _ _ h2 r => by
    unfold dropK Q.dropD
    rw [List.filter_cons, List.filter_cons]
    dsimp only
    split
    · exact .cons h2 (RepK.dropD r)
    · exact RepK.dropD r
theorem RepK.keysE {K : PySem.W.Frag} {B : Hp} : ∀ {kvs : List (Key × V)} {ds : List (Key × D)}, RepK K B kvs ds → kvs.map (·.1) = ds.map (·.1)
  | _, _, .nil => rfl
  | _, _, .cons _ r => by rw [List.map_cons, List.map_cons, RepK.keysE r]
theorem dval_nil {k : Key} : dval ([] : List (Key × D)) k = none := rfl
theorem dval_pos {p : Key × D} {r : List (Key × D)} {k : Key} (e : p.1 = k) : dval (p :: r) k = some p.2 := by simp [dval, List.find?_cons, e]
theorem dval_neg {p : Key × D} {r : List (Key × D)} {k : Key} (e : ¬ p.1 = k) : dval (p :: r) k = dval r k := by simp [dval, List.find?_cons, e]
theorem dval_any (k : Key) : ∀ ds : List (Key × D), (ds.any fun kv => decide (kv.1 = k)) = (dval ds k).isSome
  | [] => rfl
  | p :: r => by
    rw [List.any_cons]
    by_cases e : p.1 = k
    · simp only [dval_pos e, decide_eq_true e, Bool.true_or, Option.isSome_some]
    · rw [dval_neg e, decide_eq_false e, Bool.false_or]; exact dval_any k r
theorem dval_put {ds : List (Key × D)} {k k' : Key} {d : D} : dval (putD ds k d) k' = if k' = k then some d else dval ds k' := by
  have mp : ∀ ds : List (Key × D), dval (ds.map fun p => if p.1 = k then (p.1, d) else p) k' = if k' = k then (if (dval ds k).isSome then some d else none) else dval ds k' := by
    intro ds
    induction ds with
    | nil => by_cases e : k' = k <;> simp [e, dval_nil]
    | cons p r ih =>
      rw [List.map_cons]
      by_cases ep : p.1 = k
      · rw [if_pos ep]
        by_cases e : k' = k
        · rw [dval_pos (by rw [ep, e]), if_pos e, dval_pos ep]
          rfl
        · rw [dval_neg (fun z => e (by rw [← z]; exact ep)), ih, if_neg e, if_neg e, dval_neg (fun z => e (by rw [← z]; exact ep))]
      · rw [if_neg ep]
        by_cases e2 : p.1 = k'
        · rw [dval_pos e2, if_neg (fun z => ep (e2.trans z)), dval_pos e2]
        · rw [dval_neg e2, ih, dval_neg e2, dval_neg ep]
  unfold putD
  split
  · rename_i h
    rw [mp]
    rw [dval_any] at h
    rw [if_pos h]
  · rename_i h
    rw [dval_any] at h
    have hn : dval ds k = none := by
      cases hv : dval ds k with
      | none => rfl
      | some _ => rw [hv] at h; exact absurd rfl h
    clear mp h
    induction ds with
    | nil =>
      by_cases e : k' = k
      · rw [if_pos e]
        exact dval_pos (p := (k, d)) e.symm
      · rw [if_neg e]
        exact dval_neg (p := (k, d)) (fun z => e z.symm)
    | cons p r ih =>
      have np : p.1 ≠ k := fun z => by rw [dval_pos z] at hn; cases hn
      rw [dval_neg np] at hn
      rw [List.cons_append]
      by_cases e2 : p.1 = k'
      · rw [dval_pos e2, if_neg (fun z => np (e2.trans z)), dval_pos e2]
      · rw [dval_neg e2, ih hn, dval_neg e2]
theorem keys_putD {ds : List (Key × D)} {k : Key} {d : D} : (k ∈ ds.map (·.1) ∧ (putD ds k d).map (·.1) = ds.map (·.1)) ∨ (k ∉ ds.map (·.1) ∧ (putD ds k d).map (·.1) = ds.map (·.1) ++ [k]) := by
  unfold putD
  have hc : (ds.any fun kv => decide (kv.1 = k)) = true ↔ k ∈ ds.map (·.1) := by
    rw [List.any_eq_true, List.mem_map]
    exact ⟨fun ⟨q, m, e⟩ => ⟨q, m, of_decide_eq_true e⟩, fun ⟨q, m, e⟩ => ⟨q, m, decide_eq_true e⟩⟩
  by_cases h : (ds.any fun kv => decide (kv.1 = k)) = true
  · rw [if_pos h, List.map_map]
    exact .inl ⟨hc.mp h, List.map_congr_left fun kv _ => by
      show (if kv.1 = k then (kv.1, d) else kv).1 = kv.1
      split <;> rfl⟩
  · rw [if_neg h, List.map_append]
    exact .inr ⟨fun z => h (hc.mpr z), rfl⟩
theorem ndD_put {ds : List (Key × D)} {k : Key} {d : D} (nd : (ds.map (·.1)).Nodup) : ((putD ds k d).map (·.1)).Nodup := by
  rcases keys_putD (ds := ds) (k := k) (d := d) with ⟨_, e⟩ | ⟨h, e⟩ <;> rw [e]
  · exact nd
  · rw [List.nodup_append]
    exact ⟨nd, by simp, fun a ma b mb e => h (by rw [← List.mem_singleton.mp mb, ← e]; exact ma)⟩
theorem ndD_drop {ds : List (Key × D)} {k : Key} (nd : (ds.map (·.1)).Nodup) : ((dropD ds k).map (·.1)).Nodup := nd.sublist ((List.filter_sublist (p := fun kv : Key × D => decide (kv.1 ≠ k))).map _)
theorem lenD_put {ds : List (Key × D)} {k : Key} {d : D} : (putD ds k d).length ≤ ds.length + 1 := by
  unfold putD
  split <;> simp
theorem lenD_drop {ds : List (Key × D)} {k : Key} : (dropD ds k).length ≤ ds.length := List.length_filter_le _ _
/-- all keys are texts, each once, at most m -/
structure StrK (ds : List (Key × D)) (m : Nat) : Prop where
  nd : (ds.map (·.1)).Nodup
  st : ∃ ks : List Str, ds.map (·.1) = ks.map Sum.inr
  le : ds.length ≤ m
theorem StrK.nil : StrK [] 0 := ⟨List.nodup_nil, ⟨[], rfl⟩, Nat.le_refl _⟩
theorem StrK.up {ds : List (Key × D)} {m m' : Nat} (h : StrK ds m) (hm : m ≤ m') : StrK ds m' := ⟨h.nd, h.st, Nat.le_trans h.le hm⟩
theorem StrK.put {ds : List (Key × D)} {m : Nat} {x : Str} {d : D} (h : StrK ds m) : StrK (putD ds (.inr x) d) (m + 1) :=
  ⟨ndD_put h.nd, by
    obtain ⟨ks, e⟩ := h.st
    rcases keys_putD (ds := ds) (k := .inr x) (d := d) with ⟨_, e2⟩ | ⟨_, e2⟩ <;> rw [e2]
    · exact ⟨ks, e⟩
    · exact ⟨ks ++ [x], by rw [e, List.map_append]; rfl⟩, Nat.le_trans lenD_put (by have := h.le; omega)⟩
theorem StrK.over {ds : List (Key × D)} {m : Nat} {x : Str} {d : D} (h : StrK ds m) (hx : (dval ds (.inr x)).isSome = true) : StrK (putD ds (.inr x) d) m :=
  ⟨ndD_put h.nd, by
    obtain ⟨ks, e⟩ := h.st
    rcases keys_putD (ds := ds) (k := .inr x) (d := d) with ⟨_, e2⟩ | ⟨_, e2⟩ <;> rw [e2]
    · exact ⟨ks, e⟩
    · exact ⟨ks ++ [x], by rw [e, List.map_append]; rfl⟩, by
    unfold putD
    rw [if_pos (by rw [dval_any]; exact hx), List.length_map]
    exact h.le⟩
theorem StrK.drop {ds : List (Key × D)} {m : Nat} {k : Key} (h : StrK ds m) : StrK (dropD ds k) m :=
  ⟨ndD_drop h.nd, by
    obtain ⟨ks, e⟩ := h.st
    have : ∀ {ds : List (Key × D)} {ks : List Str}, ds.map (·.1) = ks.map Sum.inr → ∃ ks' : List Str, (Q.dropD ds k).map (·.1) = ks'.map Sum.inr := by
      intro ds
      induction ds with
      | nil => intro _ _; exact ⟨[], rfl⟩
      | cons p r ih =>
        intro ks e
        cases ks with
        | nil => cases e
        | cons x ks =>
          rw [List.map_cons, List.map_cons] at e
          injection e with e1 e2
          obtain ⟨ks', e'⟩ := ih e2
          unfold Q.dropD at e' ⊢
          rw [List.filter_cons]
          split
          · exact ⟨x :: ks', by rw [List.map_cons, List.map_cons, e', e1]⟩
          · exact ⟨ks', e'⟩
    exact this e, Nat.le_trans lenD_drop h.le⟩
theorem dval_inK {k : Key} : ∀ {ds : List (Key × D)}, k ∈ ds.map (·.1) → (dval ds k).isSome = true
  | [], h => by simp at h
  | (k', d) :: r, h => by
    by_cases e : k' = k
    · rw [dval_pos (p := (k', d)) e]; rfl
    · rw [dval_neg (p := (k', d)) e]
      rcases List.mem_cons.mp h with z | z
      · exact absurd z.symm e
      · exact dval_inK z
theorem dval_mem' {ds : List (Key × D)} {k : Key} {d : D} (h : dval ds k = some d) : (k, d) ∈ ds := by
  unfold dval at h
  cases e : ds.find? fun kv => decide (kv.1 = k) with
  | none => rw [e] at h; cases h
  | some kv =>
    rw [e] at h
    cases h
    have e1 : kv.1 = k := of_decide_eq_true (List.find?_some (p := fun kv : Key × D => decide (kv.1 = k)) e)
    rw [← e1]
    exact List.mem_of_find?_eq_some e
/-! ### != of dicts that hold the same -/
/-- the same values under the same keys, in any order -/
def SameO (H : Hp) (x y : V) : Prop := ∃ a c ks ls, x = .ref a ∧ y = .ref c ∧ H a = some (.dK ks) ∧ H c = some (.dK ls) ∧ ks.length = ls.length ∧ ∀ p ∈ ks, valV ls p.1 = some p.2 ∧ (flatV p.2 = true ∨ ∃ b, p.2 = .ref b)
def rNeW (K : PySem.W.Frag) : R2 := fun x y H Q => rNeU K x y H Q ∨ (SameD H x y ∧ Q (.bl false) H) ∨ (SameO H x y ∧ Q (.bl false) H)
end Q

set_option Elab.async false
set_option linter.all false
set_option maxRecDepth 100000
set_option maxHeartbeats 4000000
namespace Q
open PySem PySem.Spec PyProof.Rows L2
local macro_rules | `(tactic| walk_at "bf") => `(tactic| first | assumption | (refine' bstep (by assumption) ?r; case r => walk_at "bf") | fail)
local macro_rules | `(tactic| walk_at "rp") => `(tactic| first | assumption | exact Rep.int _ | exact Rep.bl _ | exact Rep.non | (refine' Rep.mono (by assumption) ?r; case r => walk_at "rp") | fail)
local macro_rules | `(tactic| walk_at "hf") => `(tactic| first | assumption | exact HS.up (by assumption) (by walk_at "bf") | exact HS.get (by assumption) List.mem_cons_self | exact HS.get (by assumption) (List.mem_cons_of_mem _ List.mem_cons_self) | exact HS.get (by assumption) (List.mem_cons_of_mem _ (List.mem_cons_of_mem _ List.mem_cons_self)) | exact HS.get (by assumption) (List.mem_cons_of_mem _ (List.mem_cons_of_mem _ (List.mem_cons_of_mem _ List.mem_cons_self))) | fail)
local macro_rules | `(tactic| walk_at "sl") => `(tactic| first | assumption | exact SqL.of (by walk_at "hf") | fail)
local macro_rules | `(tactic| walk_at "st") => `(tactic| first | assumption | exact SqT.of (by walk_at "hf") | fail)
local macro_rules | `(tactic| walk_at "sz") => `(tactic| first | assumption | (refine small_le ?_; first | assumption | omega | (simp; done) | (simp; omega)) | fail)
/-! ### check_places -/
def keyIn (xs : List Str) : Key → Bool
  | .inr x => decide (x ∈ xs)
  | .inl _ => false
def keyS : Key → Str
  | .inr x => x
  | .inl _ => ""
def spotOk (d : D) (n : Nat) : Bool := match d with
  | .int i => decide (0 ≤ i) && decide (i ≤ (n : Int))
  | _ => false
def badSpots (xs : List Str) (f : Str → List Str) (d : D) : Option Str := match d with
  | .dct ds => if ds.all (fun k => keyIn xs k.1) then (sortS (ds.map fun k => keyS k.1)).find? (fun x => !spotOk (vald d x) (f x).length) else some ""
  | _ => some ""
end Q

set_option Elab.async false
set_option linter.all false
set_option maxRecDepth 100000
set_option maxHeartbeats 4000000
namespace Q
open PySem PySem.Spec PyProof.Rows L2
local macro_rules | `(tactic| walk_at "bf") => `(tactic| first | assumption | (refine' bstep (by assumption) ?r; case r => walk_at "bf") | fail)
local macro_rules | `(tactic| walk_at "rp") => `(tactic| first | assumption | exact Rep.int _ | exact Rep.bl _ | exact Rep.non | (refine' Rep.mono (by assumption) ?r; case r => walk_at "rp") | fail)
local macro_rules | `(tactic| walk_at "hf") => `(tactic| first | assumption | exact HS.up (by assumption) (by walk_at "bf") | exact HS.get (by assumption) List.mem_cons_self | exact HS.get (by assumption) (List.mem_cons_of_mem _ List.mem_cons_self) | exact HS.get (by assumption) (List.mem_cons_of_mem _ (List.mem_cons_of_mem _ List.mem_cons_self)) | exact HS.get (by assumption) (List.mem_cons_of_mem _ (List.mem_cons_of_mem _ (List.mem_cons_of_mem _ List.mem_cons_self))) | fail)
local macro_rules | `(tactic| walk_at "sl") => `(tactic| first | assumption | exact SqL.of (by walk_at "hf") | fail)
local macro_rules | `(tactic| walk_at "st") => `(tactic| first | assumption | exact SqT.of (by walk_at "hf") | fail)
local macro_rules | `(tactic| walk_at "sz") => `(tactic| first | assumption | (refine small_le ?_; first | assumption | omega | (simp; done) | (simp; omega)) | fail)
/-! ### joined -/
def insW (f : D) (x : Str) (ws : Str → List Str) (y : Str) : List Str := match vald f y with
  | .int i => (ws y).take i.toNat ++ [x] ++ (ws y).drop i.toNat
  | _ => ws y
end Q

set_option Elab.async false
set_option linter.all false
set_option maxRecDepth 100000
set_option maxHeartbeats 4000000
namespace Q
open PySem PySem.Spec PyProof.Rows L2
/-! ### raise X() of an own class without __init__ -/
section
variable {X : Cx} {W : WX} {x : Str} {p pos pos' : Pos}
end
/-- an error without fields in a caller's frame -/
def Thr0W (K : PySem.W.Frag) (S : List Addr) (B0 H0 B : Hp) (M : List (Addr × HO)) (E : XK) (c : Str) : Prop := ∀ B' H', Same B B' → HS S B0 H0 B' H' M → E (.ref (He.ga K c)) none H'
theorem Thr0W.thr {K : PySem.W.Frag} {S : List Addr} {B0 H0 B H : Hp} {M : List (Addr × HO)} {E : XK} {c : Str} (k : Thr0W K S B0 H0 B M E c) (hs : HS S B0 H0 B H M) : Thr0 K B H E c := fun B' H' c => k B' H' c.bb (hs.call c)
theorem Thr0.w {K : PySem.W.Frag} {B H B1 : Hp} {E : XK} {c : Str} {M : List (Addr × HO)} (k : Thr0 K B H E c) : Thr0W K [] B H B1 M E c := fun B' H' _ c => k B' H' c.all
end Q

set_option Elab.async false
set_option linter.all false
set_option maxRecDepth 100000
set_option maxHeartbeats 4000000
namespace Q
open PySem PySem.Spec PyProof.Rows L2
local macro_rules | `(tactic| walk_at "bf") => `(tactic| first | assumption | (refine' bstep (by assumption) ?r; case r => walk_at "bf") | fail)
local macro_rules | `(tactic| walk_at "rp") => `(tactic| first | assumption | exact Rep.int _ | exact Rep.bl _ | exact Rep.non | (refine' Rep.mono (by assumption) ?r; case r => walk_at "rp") | fail)
local macro_rules | `(tactic| walk_at "hf") => `(tactic| first | assumption | exact HS.up (by assumption) (by walk_at "bf") | exact HS.get (by assumption) List.mem_cons_self | exact HS.get (by assumption) (List.mem_cons_of_mem _ List.mem_cons_self) | exact HS.get (by assumption) (List.mem_cons_of_mem _ (List.mem_cons_of_mem _ List.mem_cons_self)) | exact HS.get (by assumption) (List.mem_cons_of_mem _ (List.mem_cons_of_mem _ (List.mem_cons_of_mem _ List.mem_cons_self))) | fail)
local macro_rules | `(tactic| walk_at "sl") => `(tactic| first | assumption | exact SqL.of (by walk_at "hf") | fail)
local macro_rules | `(tactic| walk_at "st") => `(tactic| first | assumption | exact SqT.of (by walk_at "hf") | fail)
local macro_rules | `(tactic| walk_at "sz") => `(tactic| first | assumption | (refine small_le ?_; first | assumption | omega | (simp; done) | (simp; omega)) | fail)
/-! ### dealings -/
def eqS (d : D) (a : Str) : Bool := match d with
  | .str x => decide (x = a)
  | _ => false
def okVal (op : Str → List Str) (d : D) (a : Str) : D → Bool
  | .non => true
  | .str b => decide (b ∈ op a) && eqS (vald d b) a
  | _ => false
def okPart (op : Str → List Str) (d : D) (a : Str) : Bool := okVal op d a (vald d a)
def isDeal (xs : List Str) (op : Str → List Str) (d : D) : Bool := sameKeys d xs && xs.all (okPart op d)
structure Deal (xs : List Str) (op : Str → List Str) (d : D) : Prop where
  sk : sameKeys d xs = true
  ok : ∀ a ∈ xs, vald d a = .non ∨ ∃ b, vald d a = .str b ∧ b ∈ op a ∧ vald d b = .str a
theorem okPart_true {op : Str → List Str} {d : D} {a : Str} : okPart op d a = true ↔ (vald d a = .non ∨ ∃ b, vald d a = .str b ∧ b ∈ op a ∧ vald d b = .str a) := by
  unfold okPart
  cases h : vald d a with
  | non => simp [okVal]
  | str b =>
    show (decide (b ∈ op a) && eqS (vald d b) a) = true ↔ _
    constructor
    · intro z
      obtain ⟨z1, z2⟩ := Bool.and_eq_true_iff.mp z
      refine .inr ⟨b, rfl, of_decide_eq_true z1, ?_⟩
      unfold eqS at z2
      cases h2 : vald d b with
      | str x => rw [h2] at z2; rw [of_decide_eq_true z2]
      | _ => rw [h2] at z2; cases z2
    · rintro (z | ⟨b', z1, z2, z3⟩)
      · cases z
      · injection z1 with z1
        subst z1
        rw [decide_eq_true z2, z3]
        show (true && decide (a = a)) = true
        simp
  | _ => simp [okVal]
theorem isDeal_true {xs : List Str} {op : Str → List Str} {d : D} : isDeal xs op d = true ↔ Deal xs op d := by
  unfold isDeal
  rw [Bool.and_eq_true_iff, List.all_eq_true]
  exact ⟨fun h => ⟨h.1, fun a m => okPart_true.mp (h.2 a m)⟩, fun h => ⟨h.sk, fun a m => okPart_true.mpr (h.ok a m)⟩⟩
/-! ### who would rather have whom -/
def part (d : D) (a : Str) : Option Str := match vald d a with
  | .str b => some b
  | _ => none
def ratherO (row : List Str) (b : Str) : Option Str → Bool
  | none => true
  | some c => decide (row.idxOf b < row.idxOf c)
def rather (op : Str → List Str) (d : D) (a b : Str) : Bool := ratherO (op a) b (part d a)
def quarB (op : Str → List Str) (d : D) (a b : Str) : Bool := !decide (part d a = some b) && (rather op d a b && rather op d b a)
def quarF (op : Str → List Str) (d : D) : List Str → Bool
  | [a, b] => quarB op d a b
  | _ => false
def quars (xs : List Str) (op : Str → List Str) (d : D) : List (List Str) := (prsOf xs op).filter (quarF op d)
def isCalm (xs : List Str) (op : Str → List Str) (d : D) : Bool := isDeal xs op d && (quars xs op d).isEmpty
theorem get_idx {l : List Str} {x : Str} (m : x ∈ l) : l[l.idxOf x]? = some x := by
  have h := List.idxOf_lt_length_of_mem m
  rw [List.getElem?_eq_getElem h]
  exact congrArg some (List.getElem_idxOf h)
theorem vald_of {ds : List (Key × D)} {a : Str} {d : D} (h : dval ds (.inr a) = some d) : vald (.dct ds) a = d := by unfold vald; dsimp only; rw [h]; rfl
theorem Deal.dvals {xs : List Str} {op : Str → List Str} {ds : List (Key × D)} (h : Deal xs op (.dct ds)) {a : Str} (m : a ∈ xs) : dval ds (.inr a) = some .non ∨ ∃ c, dval ds (.inr a) = some (.str c) ∧ c ∈ op a := by
  obtain ⟨ds', e, _, hsome⟩ := sameKeys_dct h.sk
  cases e
  obtain ⟨d, hd⟩ := Option.isSome_iff_exists.mp (hsome a m)
  rcases h.ok a m with z | ⟨b, z, mb, _⟩
  · rw [vald_of hd] at z; rw [hd, z]; exact .inl rfl
  · rw [vald_of hd] at z; rw [hd, z]; exact .inr ⟨b, rfl, mb⟩
theorem mem_open' {G : Grp} {a b : Str} : b ∈ G.open a ↔ b ∈ G.wish a ∧ a ∈ G.wish b := by
  unfold Grp.open
  rw [List.mem_filter, decide_eq_true_iff]
theorem open_symm {G : Grp} (ok : G.Ok) {a b : Str} (h : b ∈ G.open a) : a ∈ G.open b := mem_open'.mpr ⟨(mem_open'.mp h).2, (mem_open'.mp h).1⟩
theorem prsOf_get {xs : List Str} {f : Str → List Str} {k : List Str} (h : k ∈ prsOf xs f) : ∃ a b, k = [a, b] ∧ a ∈ xs ∧ b ∈ f a ∧ ltS a b := by
  unfold prsOf at h
  obtain ⟨a, ma, h⟩ := List.mem_flatMap.mp h
  unfold prsF at h
  obtain ⟨b, mb, rfl⟩ := List.mem_map.mp h
  obtain ⟨m1, m2⟩ := List.mem_filter.mp mb
  exact ⟨a, b, rfl, mem_sortS.mp ma, mem_sortS.mp m1, of_decide_eq_true m2⟩
end Q

set_option Elab.async false
set_option linter.all false
set_option maxRecDepth 100000
set_option maxHeartbeats 4000000
namespace Q
open PySem PySem.Spec PyProof.Rows L2
local macro_rules | `(tactic| walk_at "bf") => `(tactic| first | assumption | (refine' bstep (by assumption) ?r; case r => walk_at "bf") | fail)
local macro_rules | `(tactic| walk_at "rp") => `(tactic| first | assumption | exact Rep.int _ | exact Rep.bl _ | exact Rep.non | (refine' Rep.mono (by assumption) ?r; case r => walk_at "rp") | fail)
local macro_rules | `(tactic| walk_at "hf") => `(tactic| first | assumption | exact HS.up (by assumption) (by walk_at "bf") | exact HS.get (by assumption) List.mem_cons_self | exact HS.get (by assumption) (List.mem_cons_of_mem _ List.mem_cons_self) | exact HS.get (by assumption) (List.mem_cons_of_mem _ (List.mem_cons_of_mem _ List.mem_cons_self)) | exact HS.get (by assumption) (List.mem_cons_of_mem _ (List.mem_cons_of_mem _ (List.mem_cons_of_mem _ List.mem_cons_self))) | fail)
local macro_rules | `(tactic| walk_at "sl") => `(tactic| first | assumption | exact SqL.of (by walk_at "hf") | fail)
local macro_rules | `(tactic| walk_at "st") => `(tactic| first | assumption | exact SqT.of (by walk_at "hf") | fail)
local macro_rules | `(tactic| walk_at "sz") => `(tactic| first | assumption | (refine small_le ?_; first | assumption | omega | (simp; done) | (simp; omega)) | fail)
/-! ### the same by the law -/
/-- who is open to whom, as a law finds it -/
structure Mut (xs : List Str) (f : Str → List Str) : Prop where
  nd : xs.Nodup
  few : xs.length ≤ 16
  nm : ∀ x ∈ xs, okName x = true
  fn : ∀ a ∈ xs, (f a).Nodup
  fi : ∀ a ∈ xs, ∀ b ∈ f a, b ∈ xs ∧ a ∈ f b
  fs : ∀ a ∈ xs, a ∉ f a
theorem Mut.len {xs : List Str} {f : Str → List Str} (h : Mut xs f) {a : Str} (m : a ∈ xs) : (f a).length ≤ 16 := by
  have := nodup_len (h.fn a m) (fun b mb => (h.fi a m b mb).1)
  have := h.few
  omega
theorem TRs.del {B : Hp} {m : Addr} {kvs : List (Key × V)} (hm : B m = some (.dK kvs)) : ∀ {vs : List V} {ks : List (List Str)}, TRs B vs ks → TRs (L2.del B m) vs ks
  | _, _, .nil => .nil
  | _, _, .cons h r => .cons (by rw [del_ne fun z => by rw [z, hm] at h; cases h]; exact h) (TRs.del hm r)
def optV : Option Str → V
  | none => .non
  | some x => .str x
theorem prsOf_lenM {xs : List Str} {f : Str → List Str} (h : Mut xs f) : (prsOf xs f).length ≤ 256 := by
  unfold prsOf
  have h1 := flat_len (f := prsF f) (n := 16) (l := sortS xs) fun x m => Nat.le_trans (prsF_len f x) (h.len (mem_sortS.mp m))
  have := (sortS_perm xs).length_eq
  have := h.few
  omega
end Q

set_option Elab.async false
set_option linter.all false
set_option maxRecDepth 100000
set_option maxHeartbeats 4000000
namespace Q
open PySem PySem.Spec PyProof.Rows L2
local macro_rules | `(tactic| walk_at "bf") => `(tactic| first | assumption | (refine' bstep (by assumption) ?r; case r => walk_at "bf") | fail)
local macro_rules | `(tactic| walk_at "rp") => `(tactic| first | assumption | exact Rep.int _ | exact Rep.bl _ | exact Rep.non | (refine' Rep.mono (by assumption) ?r; case r => walk_at "rp") | fail)
local macro_rules | `(tactic| walk_at "hf") => `(tactic| first | assumption | exact HS.up (by assumption) (by walk_at "bf") | exact HS.get (by assumption) List.mem_cons_self | exact HS.get (by assumption) (List.mem_cons_of_mem _ List.mem_cons_self) | exact HS.get (by assumption) (List.mem_cons_of_mem _ (List.mem_cons_of_mem _ List.mem_cons_self)) | exact HS.get (by assumption) (List.mem_cons_of_mem _ (List.mem_cons_of_mem _ (List.mem_cons_of_mem _ List.mem_cons_self))) | fail)
local macro_rules | `(tactic| walk_at "sl") => `(tactic| first | assumption | exact SqL.of (by walk_at "hf") | fail)
local macro_rules | `(tactic| walk_at "st") => `(tactic| first | assumption | exact SqT.of (by walk_at "hf") | fail)
local macro_rules | `(tactic| walk_at "sz") => `(tactic| first | assumption | (refine small_le ?_; first | assumption | omega | (simp; done) | (simp; omega)) | fail)
/-! ### dealings that a law draws -/
/-- a dealing of some of the people -/
structure PDeal (xs : List Str) (f : Str → List Str) (ds : List (Key × D)) : Prop where
  st : StrK ds 16
  ok : ∀ a d, dval ds (.inr a) = some d → a ∈ xs ∧ (d = .non ∨ ∃ b, d = .str b ∧ b ∈ f a ∧ dval ds (.inr b) = some (.str a))
theorem keys_of {ds : List (Key × D)} {a : Str} (h : (Sum.inr a : Key) ∈ ds.map (·.1)) : ∃ d, dval ds (.inr a) = some d := Option.isSome_iff_exists.mp (dval_inK h)
theorem StrK.sub {ds : List (Key × D)} {m : Nat} {xs : List Str} (h : StrK ds m) (hx : ∀ a d, dval ds (.inr a) = some d → a ∈ xs) : ds.length ≤ xs.length := by
  obtain ⟨ks, e⟩ := h.st
  have nd := h.nd
  rw [e] at nd
  have ndk : ks.Nodup := (List.pairwise_map.mp nd).imp fun {a b} ne z => ne (by rw [z])
  have := nodup_len ndk (ys := xs) fun a ma => by
    obtain ⟨d, hd⟩ := keys_of (ds := ds) (a := a) (by rw [e]; exact List.mem_map.mpr ⟨a, ma, rfl⟩)
    exact hx a d hd
  have hl := congrArg List.length e
  rw [List.length_map, List.length_map] at hl
  omega
theorem StrK.sup {ds : List (Key × D)} {m : Nat} {xs : List Str} (h : StrK ds m) (nd : xs.Nodup) (hx : ∀ a ∈ xs, (dval ds (.inr a)).isSome = true) : xs.length ≤ ds.length := by
  have := nodup_len (xs := xs.map (Sum.inr : Str → Key)) (ys := ds.map (·.1)) (List.pairwise_map.mpr (nd.imp fun {a b} ne e => ne (Sum.inr.inj e))) fun k mk => by
    obtain ⟨a, ma, rfl⟩ := List.mem_map.mp mk
    obtain ⟨d, hd⟩ := Option.isSome_iff_exists.mp (hx a ma)
    exact List.mem_map.mpr ⟨(.inr a, d), dval_mem' hd, rfl⟩
  rw [List.length_map, List.length_map] at this
  exact this
theorem PDeal.deal {xs : List Str} {f : Str → List Str} {ds : List (Key × D)} (h : PDeal xs f ds) (nd : xs.Nodup) (hx : ∀ a ∈ xs, (dval ds (.inr a)).isSome = true) : Deal xs f (.dct ds) := by
  have h1 := h.st.sub fun a d e => (h.ok a d e).1
  have h2 := h.st.sup nd hx
  refine ⟨?_, fun a ma => ?_⟩
  · unfold sameKeys
    dsimp only
    rw [decide_eq_true (by omega : ds.length = xs.length), List.all_eq_true.mpr hx]
    rfl
  · obtain ⟨d, hd⟩ := Option.isSome_iff_exists.mp (hx a ma)
    rw [vald_of hd]
    rcases (h.ok a d hd).2 with rfl | ⟨b, rfl, mb, e⟩
    · exact .inl rfl
    · exact .inr ⟨b, rfl, mb, vald_of e⟩
theorem PDeal.nil {xs : List Str} {f : Str → List Str} : PDeal xs f [] := ⟨StrK.nil.up (by omega), fun a d e => by cases e⟩
theorem strK_of {ds : List (Key × D)} {m : Nat} {xs : List Str} (h : StrK ds m) (hx : ∀ a d, dval ds (.inr a) = some d → a ∈ xs) (hl : xs.length ≤ 16) : StrK ds 16 := ⟨h.nd, h.st, Nat.le_trans (h.sub hx) hl⟩
theorem PDeal.one {xs : List Str} {f : Str → List Str} {ds : List (Key × D)} {a : Str} (h : PDeal xs f ds) (hl : xs.length ≤ 16) (ma : a ∈ xs) (na : dval ds (.inr a) = none) : PDeal xs f (putD ds (.inr a) .non) := by
  have ok : ∀ c d, dval (putD ds (.inr a) .non) (.inr c) = some d → c ∈ xs ∧ (d = .non ∨ ∃ b, d = .str b ∧ b ∈ f c ∧ dval (putD ds (.inr a) .non) (.inr b) = some (.str c)) := fun c d e => by
    rw [dval_put] at e
    by_cases z : (Sum.inr c : Key) = .inr a
    · rw [if_pos z] at e
      cases e
      rw [Sum.inr.inj z]
      exact ⟨ma, .inl rfl⟩
    · rw [if_neg z] at e
      obtain ⟨h1, h2⟩ := h.ok c d e
      refine ⟨h1, h2.imp id fun ⟨b, e1, e2, e3⟩ => ⟨b, e1, e2, ?_⟩⟩
      rw [dval_put, if_neg fun z2 => by rw [z2, na] at e3; cases e3]
      exact e3
  exact ⟨strK_of h.st.put (fun c d e => (ok c d e).1) hl, ok⟩
theorem PDeal.two {xs : List Str} {f : Str → List Str} {ds : List (Key × D)} {a b : Str} (h : PDeal xs f ds) (mu : Mut xs f) (ma : a ∈ xs) (mb : b ∈ f a) (na : dval ds (.inr a) = none) (nb : dval ds (.inr b) = none) : PDeal xs f (putD (putD (putD ds (.inr a) .non) (.inr a) (.str b)) (.inr b) (.str a)) := by
  have hab : a ≠ b := fun z => mu.fs a ma (z ▸ mb)
  have hv : ∀ c, dval (putD (putD (putD ds (.inr a) .non) (.inr a) (.str b)) (.inr b) (.str a)) (.inr c) = if c = b then some (.str a) else if c = a then some (.str b) else dval ds (.inr c) := fun c => by
    rw [dval_put, dval_put, dval_put]
    by_cases e1 : c = b
    · rw [if_pos (by rw [e1]), if_pos e1]
    · rw [if_neg (fun z => e1 (Sum.inr.inj z)), if_neg e1]
      by_cases e2 : c = a
      · rw [if_pos (by rw [e2]), if_pos e2]
      · rw [if_neg (fun z => e2 (Sum.inr.inj z)), if_neg e2, if_neg (fun z => e2 (Sum.inr.inj z))]
  have ok : ∀ c d, dval (putD (putD (putD ds (.inr a) .non) (.inr a) (.str b)) (.inr b) (.str a)) (.inr c) = some d → c ∈ xs ∧ (d = .non ∨ ∃ b', d = .str b' ∧ b' ∈ f c ∧ dval (putD (putD (putD ds (.inr a) .non) (.inr a) (.str b)) (.inr b) (.str a)) (.inr b') = some (.str c)) := fun c d e => by
    rw [hv] at e
    by_cases e1 : c = b
    · rw [if_pos e1] at e
      cases e
      subst e1
      refine ⟨(mu.fi a ma c mb).1, .inr ⟨a, rfl, (mu.fi a ma c mb).2, ?_⟩⟩
      rw [hv, if_neg hab, if_pos rfl]
    · rw [if_neg e1] at e
      by_cases e2 : c = a
      · rw [if_pos e2] at e
        cases e
        subst e2
        refine ⟨ma, .inr ⟨b, rfl, mb, ?_⟩⟩
        rw [hv, if_pos rfl]
      · rw [if_neg e2] at e
        obtain ⟨h1, h2⟩ := h.ok c d e
        refine ⟨h1, h2.imp id fun ⟨b', e3, e4, e5⟩ => ⟨b', e3, e4, ?_⟩⟩
        rw [hv, if_neg (fun z => by rw [z, nb] at e5; cases e5), if_neg (fun z => by rw [z, na] at e5; cases e5)]
        exact e5
  exact ⟨strK_of h.st.put.put.put (fun c d e => (ok c d e).1) mu.few, ok⟩
/-- a dict of names to names or None shows the same in every heap -/
def SclK (K : PySem.W.Frag) (kvs : List (Key × V)) (ds : List (Key × D)) : Prop := ∀ B, RepK K B kvs ds
end Q

set_option Elab.async false
set_option linter.all false
set_option maxRecDepth 100000
set_option maxHeartbeats 4000000
namespace Q
open PySem PySem.Spec PyProof.Rows L2
local macro_rules | `(tactic| walk_at "bf") => `(tactic| first | assumption | (refine' bstep (by assumption) ?r; case r => walk_at "bf") | fail)
local macro_rules | `(tactic| walk_at "rp") => `(tactic| first | assumption | exact Rep.int _ | exact Rep.bl _ | exact Rep.non | (refine' Rep.mono (by assumption) ?r; case r => walk_at "rp") | fail)
local macro_rules | `(tactic| walk_at "hf") => `(tactic| first | assumption | exact HS.up (by assumption) (by walk_at "bf") | exact HS.get (by assumption) List.mem_cons_self | exact HS.get (by assumption) (List.mem_cons_of_mem _ List.mem_cons_self) | exact HS.get (by assumption) (List.mem_cons_of_mem _ (List.mem_cons_of_mem _ List.mem_cons_self)) | exact HS.get (by assumption) (List.mem_cons_of_mem _ (List.mem_cons_of_mem _ (List.mem_cons_of_mem _ List.mem_cons_self))) | fail)
local macro_rules | `(tactic| walk_at "sl") => `(tactic| first | assumption | exact SqL.of (by walk_at "hf") | fail)
local macro_rules | `(tactic| walk_at "st") => `(tactic| first | assumption | exact SqT.of (by walk_at "hf") | fail)
local macro_rules | `(tactic| walk_at "sz") => `(tactic| first | assumption | (refine small_le ?_; first | assumption | omega | (simp; done) | (simp; omega)) | fail)
/-! ### a dealing that is spoilt -/
def PlainK (ds : List (Key × D)) : Prop := PlK (fun e => e.plain = true) ds
theorem PlainK.put {ds : List (Key × D)} {k : Key} {d : D} (h : PlainK ds) (hd : d.plain = true) : PlainK (putD ds k d) := fun q m => by
  unfold putD at m
  split at m
  · obtain ⟨q', mq, rfl⟩ := List.mem_map.mp m
    split
    · exact hd
    · exact h q' mq
  · rcases List.mem_append.mp m with m | m
    · exact h q m
    · rw [List.mem_singleton.mp m]; exact hd
theorem PlainK.drop {ds : List (Key × D)} {k : Key} (h : PlainK ds) : PlainK (dropD ds k) := fun q m => h q (List.mem_filter.mp m).1
/-! ### the same with its keys turned around -/
/-- what is turned around shows the same -/
structure Alike (d e : D) : Prop where
  va : ∀ p, vald d p = vald e p
  sk : ∀ xs, sameKeys d xs = sameKeys e xs
theorem Pre.mut {K : PySem.W.Frag} {B : Hp} {n g : Addr} {xs done : List Str} {kvs : List (Key × V)} {ws : Str → List Str} {G : Grp} (h : Pre K B n g xs done kvs ws G) : Mut xs (opn ws) :=
  ⟨h.dr.nd, h.xl, h.dr.ok, fun a m => (h.dr.row a m).1.filter _, fun a m b mb => by
    unfold opn at mb
    obtain ⟨m1, m2⟩ := List.mem_filter.mp mb
    have m2 := of_decide_eq_true m2
    refine ⟨(h.dr.row a m).2.2 b m1, ?_⟩
    unfold opn
    exact List.mem_filter.mpr ⟨m2, decide_eq_true m1⟩, fun a m z => by
    unfold opn at z
    exact (h.dr.row a m).2.1 (List.mem_filter.mp z).1⟩
end Q

set_option Elab.async false
set_option linter.all false
set_option maxRecDepth 100000
set_option maxHeartbeats 4000000
namespace Q
open PySem PySem.Spec PyProof.Rows L2
/-! ### more of dealings -/
theorem SclK.plain {K : PySem.W.Frag} {kvs : List (Key × V)} {ds : List (Key × D)} (h : SclK K kvs ds) : PlainK ds := by
  have : ∀ {kvs : List (Key × V)} {ds : List (Key × D)}, RepK K (fun _ => none) kvs ds → PlainK ds := by
    intro kvs
    induction kvs with
    | nil => intro ds r; cases r; exact fun q m => nomatch m
    | cons q r ih =>
      intro ds rr
      cases rr with
      | cons h1 h2 =>
        intro q m
        rcases List.mem_cons.mp m with rfl | m
        · cases h1 with
          | obj e _ => cases e
          | lst e _ _ => cases e
          | tup e _ => cases e
          | dct e _ => cases e
          | _ => rfl
        · exact ih h2 q m
  exact this (h _)
/-- two values that are not told apart by != -/
def NeNo (B : Hp) (u v : V) : Prop := u = v ∨ ∃ a c ks ls, u = .ref a ∧ v = .ref c ∧ B a = some (.dK ks) ∧ B c = some (.dK ls) ∧ ks.length = ls.length ∧ ∀ p ∈ ks, valV ls p.1 = some p.2 ∧ (flatV p.2 = true ∨ ∃ b, p.2 = .ref b)
theorem NeNo.mono {B B' : Hp} {u v : V} (s : Same B B') (h : NeNo B u v) : NeNo B' u v := h.imp id fun ⟨a, c, ks, ls, e1, e2, e3, e4, r⟩ => ⟨a, c, ks, ls, e1, e2, s _ _ e3, s _ _ e4, r⟩
theorem NeNo.ne {K : PySem.W.Frag} {S : List Addr} {B0 H0 B H : Hp} {M : List (Addr × HO)} {Q : VK} {u v : V} {d : D} (h : NeNo B u v) (hs : HS S B0 H0 B H M) (r : Rep K B v d) (hp : d.plain = true) (q : Q (.bl false) H) : rNeW K u v H Q := by
  rcases h with rfl | ⟨a, c, ks, ls, rfl, rfl, e1, e2, hl, hh⟩
  · exact .inl (neU_self hs r hp q)
  · exact .inr (.inr ⟨⟨a, c, ks, ls, rfl, rfl, hs.up e1, hs.up e2, hl, hh⟩, q⟩)
theorem Alike.refl (d : D) : Alike d d := ⟨fun _ => rfl, fun _ => rfl⟩
end Q

set_option Elab.async false
set_option linter.all false
set_option maxRecDepth 100000
set_option maxHeartbeats 4000000
namespace Q
open PySem PySem.Spec PyProof.Rows L2
/-! ### sorted of tuples of tuples of texts -/
inductive IsTxs (h : Heap) : List Value → List (List Str) → Prop
  | nil : IsTxs h [] []
  | cons {u : Value} {us : List Value} {k : List Str} {ks : List (List Str)} : IsTx h u k → IsTxs h us ks → IsTxs h (u :: us) (k :: ks)
theorem IsTxs.length {h : Heap} : ∀ {us : List Value} {ks : List (List Str)}, IsTxs h us ks → us.length = ks.length
  | _, _, .nil => rfl
  | _, _, .cons _ r => by simp [IsTxs.length r]
theorem IsTxs.keeps {h h' : Heap} (k : ∀ b o, h.get? b = some o → o.cls = .type "tuple" → h'.get? b = some o) : ∀ {us : List Value} {ks : List (List Str)}, IsTxs h us ks → IsTxs h' us ks
  | _, _, .nil => .nil
  | _, _, .cons p r => .cons (p.keeps k) (IsTxs.keeps k r)
def IsTT (h : Heap) (v : Value) (ks : List (List Str)) : Prop := ∃ a o n us, v = .ref a ∧ h.get? a = some o ∧ o.cls = .type "tuple" ∧ o.data = .seq (List.toArray us) n ∧ IsTxs h us ks
theorem IsTT.keeps {h h' : Heap} {v : Value} {ks : List (List Str)} (p : IsTT h v ks) (k : ∀ b o, h.get? b = some o → o.cls = .type "tuple" → h'.get? b = some o) : IsTT h' v ks := by
  obtain ⟨a, o, n, us, e, ho, hc, hd, r⟩ := p
  exact ⟨a, o, n, us, e, k _ _ ho hc, hc, hd, r.keeps k⟩
section
variable {prog : Program} {w : World} {A : Around} {E : Value → Shared → Prop} {s : Shared}
end
end Q

set_option Elab.async false
set_option linter.all false
set_option maxRecDepth 100000
set_option maxHeartbeats 4000000
namespace Q
open PySem PySem.Spec PyProof.Rows L2
/-! ### all calm dealings, found person by person (plain) -/
abbrev PM := Str → Option (Option Str)
def setP (m : PM) (a : Str) : Option Str → PM
  | none => fun c => if c = a then some none else m c
  | some b => fun c => if c = b then some (some a) else if c = a then some (some b) else m c
def waitL (xs : List Str) (m : PM) : List Str := (sortS xs).filter fun a => (m a).isNone
def freeP (m : PM) : Option Str → Bool
  | none => true
  | some b => (m b).isNone
/-- the choices of a person -/
def choP (op : Str → List Str) (a : Str) : List (Option Str) := none :: (op a).map some
def growG (xs : List Str) (op : Str → List Str) (tst : PM → Str → Option Str → Bool) : Nat → PM → List PM
  | 0, _ => []
  | n + 1, m => match waitL xs m with
    | [] => [m]
    | a :: _ => (choP op a).flatMap fun b => if (freeP m b && tst (setP m a b) a b) = true then growG xs op tst n (setP m a b) else []
def leaves (xs : List Str) (op : Str → List Str) : Nat → PM → List PM := growG xs op fun _ _ _ => true
def qP (op : Str → List Str) (m : PM) (a b : Str) : Bool := match m a, m b with
  | some va, some vb => !decide (va = some b) && (ratherO (op a) b va && ratherO (op b) a vb)
  | _, _ => false
def calmM (xs : List Str) (op : Str → List Str) (m : PM) : Bool := xs.all fun a => (op a).all fun b => !qP op m a b
structure PMOk (xs : List Str) (op : Str → List Str) (m : PM) : Prop where
  dom : ∀ a v, m a = some v → a ∈ xs
  mu2 : ∀ a b, m a = some (some b) → b ∈ op a ∧ m b = some (some a)
theorem calmM_true {xs : List Str} {op : Str → List Str} {m : PM} : calmM xs op m = true ↔ ∀ a ∈ xs, ∀ b ∈ op a, qP op m a b = false := by
  unfold calmM
  rw [List.all_eq_true]
  refine ⟨fun h a ma b mb => ?_, fun h a ma => List.all_eq_true.mpr fun b mb => by rw [h a ma b mb]; rfl⟩
  have := List.all_eq_true.mp (h a ma) b mb
  simpa using this
theorem mem_wait {xs : List Str} {m : PM} {a : Str} : a ∈ waitL xs m ↔ a ∈ xs ∧ m a = none := by
  unfold waitL
  rw [List.mem_filter, mem_sortS, Option.isNone_iff_eq_none]
/-- a choice that may be made -/
def Can (op : Str → List Str) (m : PM) (a : Str) (b : Option Str) : Prop := m a = none ∧ ∀ b', b = some b' → b' ∈ op a ∧ m b' = none
theorem can_of {xs : List Str} {op : Str → List Str} {m : PM} {a : Str} {r : List Str} {b : Option Str} (hw : waitL xs m = a :: r) (mb : b ∈ choP op a) (hf : freeP m b = true) : Can op m a b := by
  have ha : a ∈ waitL xs m := by rw [hw]; exact List.mem_cons_self
  refine ⟨(mem_wait.mp ha).2, fun b' e => ?_⟩
  subst e
  unfold choP at mb
  rcases List.mem_cons.mp mb with z | z
  · cases z
  · obtain ⟨c, mc, e⟩ := List.mem_map.mp z
    cases e
    exact ⟨mc, Option.isNone_iff_eq_none.mp hf⟩
theorem setP_self {m : PM} {a : Str} {b : Option Str} (h : b ≠ some a) : setP m a b a = some b := by
  cases b with
  | none => unfold setP; exact if_pos rfl
  | some c =>
    unfold setP
    dsimp only
    rw [if_neg fun z => h (by rw [z]), if_pos rfl]
theorem setP_other {m : PM} {a b : Str} : setP m a (some b) b = some (some a) := by unfold setP; exact if_pos rfl
theorem setP_old {op : Str → List Str} {m : PM} {a c : Str} {b v : Option Str} (h : Can op m a b) (hc : m c = some v) : setP m a b c = some v := by
  have ha : c ≠ a := fun z => by rw [z, h.1] at hc; cases hc
  cases b with
  | none => unfold setP; dsimp only; rw [if_neg ha]; exact hc
  | some b' =>
    have hb : c ≠ b' := fun z => by rw [z, (h.2 b' rfl).2] at hc; cases hc
    unfold setP
    dsimp only
    rw [if_neg hb, if_neg ha]
    exact hc
theorem setP_cases {m : PM} {a c : Str} {b v : Option Str} (h : setP m a b c = some v) : (c = a ∧ v = b) ∨ (b = some c ∧ v = some a) ∨ m c = some v := by
  cases b with
  | none =>
    unfold setP at h
    dsimp only at h
    by_cases e : c = a
    · rw [if_pos e] at h; exact .inl ⟨e, by cases h; rfl⟩
    · rw [if_neg e] at h; exact .inr (.inr h)
  | some b' =>
    unfold setP at h
    dsimp only at h
    by_cases e1 : c = b'
    · rw [if_pos e1] at h; exact .inr (.inl ⟨by rw [e1], by cases h; rfl⟩)
    · rw [if_neg e1] at h
      by_cases e : c = a
      · rw [if_pos e] at h; exact .inl ⟨e, by cases h; rfl⟩
      · rw [if_neg e] at h; exact .inr (.inr h)
theorem PMOk.set {xs : List Str} {op : Str → List Str} {m : PM} {a : Str} {b : Option Str} (h : PMOk xs op m) (mu : Mut xs op) (ma : a ∈ xs) (hc : Can op m a b) : PMOk xs op (setP m a b) := by
  refine ⟨fun c v e => ?_, fun c d e => ?_⟩
  · rcases setP_cases e with ⟨rfl, _⟩ | ⟨rfl, _⟩ | e
    · exact ma
    · exact (mu.fi a ma c (hc.2 c rfl).1).1
    · exact h.dom c v e
  · rcases setP_cases e with ⟨rfl, rfl⟩ | ⟨rfl, e2⟩ | e
    · exact ⟨(hc.2 d rfl).1, setP_other⟩
    · cases e2
      refine ⟨(mu.fi a ma c (hc.2 c rfl).1).2, setP_self fun z => ?_⟩
      have : c = a := Option.some.inj z
      subst this
      exact mu.fs c ma (hc.2 c rfl).1
    · obtain ⟨h1, h2⟩ := h.mu2 c d e
      exact ⟨h1, setP_old hc h2⟩
theorem qP_symm {xs : List Str} {op : Str → List Str} {m : PM} (ok : PMOk xs op m) {a b : Str} (h : qP op m a b = true) : qP op m b a = true := by
  unfold qP at h ⊢
  cases e1 : m a with
  | none => rw [e1] at h; cases h
  | some va =>
    cases e2 : m b with
    | none => rw [e1, e2] at h; cases h
    | some vb =>
      rw [e1, e2] at h
      dsimp only at h ⊢
      obtain ⟨h1, h2⟩ := Bool.and_eq_true_iff.mp h
      obtain ⟨h2, h3⟩ := Bool.and_eq_true_iff.mp h2
      have : vb ≠ some a := fun z => by
        subst z
        have := (ok.mu2 b a e2).2
        rw [e1] at this
        cases this
        simp at h1
      rw [h2, h3, decide_eq_false this]
      rfl
/-- all calm ones, in the order in which they are found -/
def calms (xs : List Str) (op : Str → List Str) : List PM := (leaves xs op 18 fun _ => none).filter (calmM xs op)
theorem PMOk.nil {xs : List Str} {op : Str → List Str} : PMOk xs op fun _ => none := ⟨fun _ _ e => (nomatch e), fun _ _ e => (nomatch e)⟩
/-! ### how many -/
/-! ### what is found -/
/-- everybody has a partner or is alone -/
def FullP (xs : List Str) (m : PM) : Prop := ∀ a ∈ xs, ∃ v, m a = some v
theorem leaves_ok {xs : List Str} {op : Str → List Str} {tst : PM → Str → Option Str → Bool} (mu : Mut xs op) : ∀ {n : Nat} {m l : PM}, PMOk xs op m → l ∈ growG xs op tst n m → PMOk xs op l ∧ FullP xs l
  | 0, _, _, _, h => by cases h
  | n + 1, m, l, ok, h => by
    unfold growG at h
    split at h
    · rename_i hw
      rw [List.mem_singleton.mp h]
      refine ⟨ok, fun a ma => ?_⟩
      cases e : m a with
      | some v => exact ⟨v, rfl⟩
      | none =>
        have : a ∈ waitL xs m := mem_wait.mpr ⟨ma, e⟩
        rw [hw] at this
        cases this
    · rename_i a r hw
      obtain ⟨b, mb, h⟩ := List.mem_flatMap.mp h
      split at h
      · rename_i ht
        obtain ⟨hf, _⟩ := Bool.and_eq_true_iff.mp ht
        have ma : a ∈ xs := (mem_wait.mp (by rw [hw]; exact List.mem_cons_self)).1
        exact leaves_ok mu (ok.set mu ma (can_of hw mb hf)) h
      · cases h
theorem calms_mem {xs : List Str} {op : Str → List Str} (mu : Mut xs op) {m : PM} (h : m ∈ calms xs op) : PMOk xs op m ∧ FullP xs m ∧ calmM xs op m = true := by
  obtain ⟨h1, h2⟩ := List.mem_filter.mp h
  obtain ⟨h3, h4⟩ := leaves_ok mu PMOk.nil h1
  exact ⟨h3, h4, h2⟩
end Q

set_option Elab.async false
set_option linter.all false
set_option maxRecDepth 100000
set_option maxHeartbeats 4000000
namespace Q
open PySem PySem.Spec PyProof.Rows L2
local macro_rules | `(tactic| walk_at "bf") => `(tactic| first | assumption | (refine' bstep (by assumption) ?r; case r => walk_at "bf") | fail)
local macro_rules | `(tactic| walk_at "rp") => `(tactic| first | assumption | exact Rep.int _ | exact Rep.bl _ | exact Rep.non | (refine' Rep.mono (by assumption) ?r; case r => walk_at "rp") | fail)
local macro_rules | `(tactic| walk_at "hf") => `(tactic| first | assumption | exact HS.up (by assumption) (by walk_at "bf") | exact HS.get (by assumption) List.mem_cons_self | exact HS.get (by assumption) (List.mem_cons_of_mem _ List.mem_cons_self) | exact HS.get (by assumption) (List.mem_cons_of_mem _ (List.mem_cons_of_mem _ List.mem_cons_self)) | exact HS.get (by assumption) (List.mem_cons_of_mem _ (List.mem_cons_of_mem _ (List.mem_cons_of_mem _ List.mem_cons_self))) | fail)
local macro_rules | `(tactic| walk_at "sl") => `(tactic| first | assumption | exact SqL.of (by walk_at "hf") | fail)
local macro_rules | `(tactic| walk_at "st") => `(tactic| first | assumption | exact SqT.of (by walk_at "hf") | fail)
local macro_rules | `(tactic| walk_at "sz") => `(tactic| first | assumption | (refine small_le ?_; first | assumption | omega | (simp; done) | (simp; omega)) | fail)
/-! ### the program's search for calm dealings -/
abbrev N_Group___len__ : List Str := ["self"]
def t_Group___len__ (K : PySem.W.Frag) (E : XK) : TS := (tRet (tCB (rLenA K) (tCons (tFld K (tVar 0) "names") tNil)))
def sp_Group___len__ (K : PySem.W.Frag) : Sp := fun vs H Q E => ∃ (p : Addr) (B : Hp) (G : Grp), vs = [.ref p] ∧ Same B H ∧ GAt K B p G ∧ Ret B H Q fun _ r => r = .int (G.names.length : Nat)
theorem pure_Group___len__ {K : PySem.W.Frag} (gk : GK K) {vs : List V} {H : Hp} {Q : VK} {E : XK} (h : sp_Group___len__ K vs H Q E) : t_Group___len__ K E { nx := fun _ H' => Q .non H', rt := Q } (start N_Group___len__ vs) H := by
  obtain ⟨p, B, G, rfl, sB, g, k⟩ := h
  have hs := HS.start sB
  show t_Group___len__ K E _ [some (.ref p)] H
  unfold t_Group___len__
  obtain ⟨⟨dx, n, l, m, q, h1, h2, h3, h4, h5⟩, ok⟩ := g
  ((with_reducible refine x_ret ?_); (with_reducible refine x_cb ?_); (with_reducible refine x_cons ?_); (with_reducible refine x_fldU ?_); ((with_reducible refine' x_var ?z5h ?_); case z5h => rfl))
  refine x_fld (hs.up h1) gk.cl gk.nn (gf_names n l m q) ?_
  ((with_reducible refine x_nil ?_); ((with_reducible refine' x_lenL ?z7h ?_); case z7h => walk_at "sl"))
  try (refine x_lenL (SqL.of (hs.up h2)) ?_)
  refine k B H _ hs ?_
  rw [List.length_map]
theorem use_len {K : PySem.W.Frag} {S : List Addr} {B0 H0 B H : Hp} {M : List (Addr × HO)} {Q : VK} {p : Addr} {G : Grp} (hs : HS S B0 H0 B H M) (g : GAt K B p G)
    (k : ∀ B' H', Same B B' → HS S B0 H0 B' H' M → Q (.int (G.names.length : Nat)) H') : rLenO (He.ga K "Group") (sp_Group___len__ K) [.ref p] H Q := by
  obtain ⟨dx, n, l, m, q, e⟩ := g.ins
  refine ⟨p, _, _, rfl, hs.up e, p, B, G, rfl, hs.bh, g, fun B' H' v' c z => ⟨G.names.length, z, ?_, k B' H' c.bb (hs.call c)⟩⟩
  have := g.2.few
  omega
/-! ### written as pairs -/
def SclD (ds : List (Key × D)) : Prop := ∀ a d, dval ds (.inr a) = some d → d = .non ∨ ∃ b, d = .str b
/-! ### what is chosen so far, as a dict -/
def optD : Option Str → D
  | none => .non
  | some b => .str b
def RepM (ds : List (Key × D)) (m : PM) : Prop := ∀ a, dval ds (.inr a) = (m a).map optD
theorem RepM.part {ds : List (Key × D)} {m : PM} (h : RepM ds m) {a : Str} {v : Option Str} (e : m a = some v) : part (.dct ds) a = v := by
  have : dval ds (.inr a) = some (optD v) := by rw [h a, e]; rfl
  unfold Q.part
  rw [vald_of this]
  cases v <;> rfl
theorem RepM.scl {ds : List (Key × D)} {m : PM} (h : RepM ds m) : SclD ds := fun a d e => by
  rw [h a] at e
  cases e2 : m a with
  | none => rw [e2] at e; cases e
  | some v =>
    rw [e2] at e
    cases v with
    | none => cases e; exact .inl rfl
    | some b => cases e; exact .inr ⟨b, rfl⟩
theorem RepM.hasK {ds : List (Key × D)} {m : PM} (h : RepM ds m) (a : Str) : (dval ds (.inr a)).isSome = (m a).isSome := by rw [h a]; cases m a <;> rfl
theorem RepM.one {ds : List (Key × D)} {m : PM} (h : RepM ds m) {a : Str} : RepM (putD ds (.inr a) .non) (setP m a none) := fun c => by
  rw [dval_put]
  unfold setP
  dsimp only
  by_cases e : c = a
  · rw [if_pos (by rw [e]), if_pos e]; rfl
  · rw [if_neg fun z => e (Sum.inr.inj z), if_neg e]; exact h c
theorem RepM.two {ds : List (Key × D)} {m : PM} (h : RepM ds m) {a b : Str} : RepM (putD (putD ds (.inr a) (.str b)) (.inr b) (.str a)) (setP m a (some b)) := fun c => by
  rw [dval_put, dval_put]
  unfold setP
  dsimp only
  by_cases e1 : c = b
  · rw [if_pos (by rw [e1]), if_pos e1]; rfl
  · rw [if_neg fun z => e1 (Sum.inr.inj z), if_neg e1]
    by_cases e : c = a
    · rw [if_pos (by rw [e]), if_pos e]; rfl
    · rw [if_neg fun z => e (Sum.inr.inj z), if_neg e]; exact h c
/-- a dict of what is chosen -/
structure DictM (K : PySem.W.Frag) (kx : List (Key × V)) (ds : List (Key × D)) (m : PM) : Prop where
  scl : SclK K kx ds
  rep : RepM ds m
  st : StrK ds 16
theorem DictM.len {K : PySem.W.Frag} {kx : List (Key × V)} {ds : List (Key × D)} {m : PM} (h : DictM K kx ds m) : kx.length ≤ 16 := by
  have := (h.scl (fun _ => none)).length
  have := h.st.le
  omega
theorem DictM.get {K : PySem.W.Frag} {kx : List (Key × V)} {ds : List (Key × D)} {m : PM} (h : DictM K kx ds m) {a : Str} {v : Option Str} (e : m a = some v) : valV kx (.inr a) = some (optV v) := by
  have hd : dval ds (.inr a) = some (optD v) := by rw [h.rep a, e]; rfl
  obtain ⟨u, eu, ru⟩ := vald_get (h.scl (fun _ => none)) (p := a) (by rw [hd]; rfl)
  rw [vald_of hd] at ru
  rw [eu]
  cases v <;> (cases ru; rfl)
theorem DictM.has {K : PySem.W.Frag} {kx : List (Key × V)} {ds : List (Key × D)} {m : PM} (h : DictM K kx ds m) (a : Str) : (valV kx (.inr a)).isSome = (m a).isSome := by
  rw [repK_some (h.scl (fun _ => none)), h.rep.hasK]
theorem DictM.nil {K : PySem.W.Frag} : DictM K [] [] fun _ => none := ⟨fun _ => .nil, fun _ => rfl, StrK.nil.up (by omega)⟩
theorem DictM.put {K : PySem.W.Frag} {xs : List Str} {op : Str → List Str} {kx : List (Key × V)} {ds : List (Key × D)} {m : PM} (h : DictM K kx ds m) (mu : Mut xs op) (ok : PMOk xs op m) {a : Str} {b : Option Str} (ma : a ∈ xs) (can : Can op m a b) :
    (b = none → DictM K (putK kx (.inr a) .non) (putD ds (.inr a) .non) (setP m a b)) ∧ ∀ b', b = some b' → DictM K (putK (putK kx (.inr a) (.str b')) (.inr b') (.str a)) (putD (putD ds (.inr a) (.str b')) (.inr b') (.str a)) (setP m a b) := by
  have ok2 := ok.set mu ma can
  have al := okName_len (mu.nm a ma)
  refine ⟨fun e => ?_, fun b' e => ?_⟩
  · subst e
    have r := h.rep.one (a := a)
    exact ⟨fun B => (h.scl B).putD .non, r, strK_of h.st.put (fun c d e => by
      rw [r c] at e
      cases e2 : setP m a none c with
      | none => rw [e2] at e; cases e
      | some v => exact ok2.dom c v e2) mu.few⟩
  · subst e
    have bl := okName_len (mu.nm b' (mu.fi a ma b' (can.2 b' rfl).1).1)
    have r := h.rep.two (a := a) (b := b')
    exact ⟨fun B => ((h.scl B).putD (.str bl)).putD (.str al), r, strK_of h.st.put.put (fun c d e => by
      rw [r c] at e
      cases e2 : setP m a (some b') c with
      | none => rw [e2] at e; cases e
      | some v => exact ok2.dom c v e2) mu.few⟩
theorem Grp.Ok.mut {G : Grp} (ok : G.Ok) : Mut G.names G.open :=
  ⟨ok.nd, ok.few, ok.nm, fun a m => ok.ond m, fun a m b mb => ⟨ok.oin m mb, open_symm ok mb⟩, fun a m z => ok.ws a m (mem_open'.mp z).1⟩
end Q

set_option Elab.async false
set_option linter.all false
set_option maxRecDepth 100000
set_option maxHeartbeats 4000000
namespace Q
open PySem PySem.Spec PyProof.Rows L2
local macro_rules | `(tactic| walk_at "bf") => `(tactic| first | assumption | (refine' bstep (by assumption) ?r; case r => walk_at "bf") | fail)
local macro_rules | `(tactic| walk_at "rp") => `(tactic| first | assumption | exact Rep.int _ | exact Rep.bl _ | exact Rep.non | (refine' Rep.mono (by assumption) ?r; case r => walk_at "rp") | fail)
local macro_rules | `(tactic| walk_at "hf") => `(tactic| first | assumption | exact HS.up (by assumption) (by walk_at "bf") | exact HS.get (by assumption) List.mem_cons_self | exact HS.get (by assumption) (List.mem_cons_of_mem _ List.mem_cons_self) | exact HS.get (by assumption) (List.mem_cons_of_mem _ (List.mem_cons_of_mem _ List.mem_cons_self)) | exact HS.get (by assumption) (List.mem_cons_of_mem _ (List.mem_cons_of_mem _ (List.mem_cons_of_mem _ List.mem_cons_self))) | fail)
local macro_rules | `(tactic| walk_at "sl") => `(tactic| first | assumption | exact SqL.of (by walk_at "hf") | fail)
local macro_rules | `(tactic| walk_at "st") => `(tactic| first | assumption | exact SqT.of (by walk_at "hf") | fail)
local macro_rules | `(tactic| walk_at "sz") => `(tactic| first | assumption | (refine small_le ?_; first | assumption | omega | (simp; done) | (simp; omega)) | fail)
/-! ### grow, calm -/
/-- rows of dealings written as pairs -/
inductive WRs (B : Hp) : List V → List (List (List Str)) → Prop
  | nil : WRs B [] []
  | cons {t : Addr} {us vs : List V} {k : List (List Str)} {ks : List (List (List Str))} : B t = some (.tup us) → TRs B us k → WRs B vs ks → WRs B (.ref t :: vs) (k :: ks)
theorem WRs.mono {B B' : Hp} (s : Same B B') : ∀ {vs : List V} {ks : List (List (List Str))}, WRs B vs ks → WRs B' vs ks
  | _, _, .nil => .nil
  | _, _, .cons h t r => .cons (s _ _ h) (t.mono s) (WRs.mono s r)
theorem WRs.append {B : Hp} : ∀ {vs us : List V} {ks ls : List (List (List Str))}, WRs B vs ks → WRs B us ls → WRs B (vs ++ us) (ks ++ ls)
  | _, _, _, _, .nil, q => q
  | _, _, _, _, .cons h t r, q => .cons h t (WRs.append r q)
theorem WRs.len {B : Hp} : ∀ {vs : List V} {ks : List (List (List Str))}, WRs B vs ks → vs.length = ks.length
  | _, _, .nil => rfl
  | _, _, .cons _ _ r => by rw [List.length_cons, List.length_cons, WRs.len r]
theorem StrK.perm {ds : List (Key × D)} {m : Nat} {ks xs : List Str} (h : StrK ds m) (hk : ds.map (·.1) = ks.map Sum.inr) (nd : xs.Nodup) (h1 : ∀ a ∈ xs, (dval ds (.inr a)).isSome = true) (h2 : ∀ a d, dval ds (.inr a) = some d → a ∈ xs) : ks.Perm xs := by
  have ndk := h.nd
  rw [hk] at ndk
  have ndk : ks.Nodup := (List.pairwise_map.mp ndk).imp fun {a b} ne z => ne (by rw [z])
  refine (List.perm_ext_iff_of_nodup ndk nd).mpr fun a => ⟨fun m => ?_, fun m => ?_⟩
  · obtain ⟨d, hd⟩ := keys_of (ds := ds) (a := a) (by rw [hk]; exact List.mem_map.mpr ⟨a, m, rfl⟩)
    exact h2 a d hd
  · obtain ⟨d, hd⟩ := Option.isSome_iff_exists.mp (h1 a m)
    have : (Sum.inr a : Key) ∈ ds.map (·.1) := List.mem_map.mpr ⟨_, dval_mem' hd, rfl⟩
    rw [hk] at this
    obtain ⟨q, mq, e⟩ := List.mem_map.mp this
    rw [← Sum.inr.inj e]
    exact mq
end Q

set_option Elab.async false
set_option linter.all false
set_option maxRecDepth 100000
set_option maxHeartbeats 4000000
namespace Q
open PySem PySem.Spec PyProof.Rows L2
/-! ### calm -/
theorem TRs.inj {B : Hp} : ∀ {us : List V} {k k' : List (List Str)}, TRs B us k → TRs B us k' → k = k'
  | _, _, _, .nil, h => by cases h; rfl
  | _, _, _, .cons h r, q => by
    cases q with
    | cons h' r' =>
      rw [h] at h'
      have e := HO.tup.inj (Option.some.inj h')
      have : ∀ {a b : List Str}, a.map V.str = b.map V.str → a = b := fun {a b} z => by
        have := congrArg (List.map fun v : V => match v with | .str x => x | _ => Str.empty) z
        rw [List.map_map, List.map_map] at this
        have idm : ∀ l : List Str, l.map ((fun v : V => match v with | .str x => x | _ => Str.empty) ∘ V.str) = l := fun l => by
          conv => rhs; rw [← List.map_id l]
          rfl
        rw [idm, idm] at this
        exact this
      rw [this e, TRs.inj r r']
open Classical in
/-- what a value shows -/
noncomputable def keyW (B : Hp) (v : V) : List (List Str) := if h : ∃ k, ∃ t us, v = .ref t ∧ B t = some (.tup us) ∧ TRs B us k then Classical.choose h else []
theorem keyW_eq {B : Hp} {t : Addr} {us : List V} {k : List (List Str)} (e : B t = some (.tup us)) (tr : TRs B us k) : keyW B (.ref t) = k := by
  unfold keyW
  have h : ∃ k, ∃ t' us, V.ref t = .ref t' ∧ B t' = some (.tup us) ∧ TRs B us k := ⟨k, t, us, rfl, e, tr⟩
  rw [dif_pos h]
  obtain ⟨t', us', e1, e2, e3⟩ := Classical.choose_spec h
  cases e1
  rw [e] at e2
  cases e2
  exact e3.inj tr
theorem WRs.keys {B : Hp} : ∀ {vs : List V} {ks : List (List (List Str))}, WRs B vs ks → vs.map (keyW B) = ks
  | _, _, .nil => rfl
  | _, _, .cons h t r => by rw [List.map_cons, keyW_eq h t, WRs.keys r]
end Q

set_option Elab.async false
set_option linter.all false
set_option maxRecDepth 100000
set_option maxHeartbeats 4000000
namespace Q
open PySem PySem.Spec PyProof.Rows L2
local macro_rules | `(tactic| walk_at "bf") => `(tactic| first | assumption | (refine' bstep (by assumption) ?r; case r => walk_at "bf") | fail)
local macro_rules | `(tactic| walk_at "rp") => `(tactic| first | assumption | exact Rep.int _ | exact Rep.bl _ | exact Rep.non | (refine' Rep.mono (by assumption) ?r; case r => walk_at "rp") | fail)
local macro_rules | `(tactic| walk_at "hf") => `(tactic| first | assumption | exact HS.up (by assumption) (by walk_at "bf") | exact HS.get (by assumption) List.mem_cons_self | exact HS.get (by assumption) (List.mem_cons_of_mem _ List.mem_cons_self) | exact HS.get (by assumption) (List.mem_cons_of_mem _ (List.mem_cons_of_mem _ List.mem_cons_self)) | exact HS.get (by assumption) (List.mem_cons_of_mem _ (List.mem_cons_of_mem _ (List.mem_cons_of_mem _ List.mem_cons_self))) | fail)
local macro_rules | `(tactic| walk_at "sl") => `(tactic| first | assumption | exact SqL.of (by walk_at "hf") | fail)
local macro_rules | `(tactic| walk_at "st") => `(tactic| first | assumption | exact SqT.of (by walk_at "hf") | fail)
local macro_rules | `(tactic| walk_at "sz") => `(tactic| first | assumption | (refine small_le ?_; first | assumption | omega | (simp; done) | (simp; omega)) | fail)
/-! ### the law's search -/
theorem mem_prsOf {xs : List Str} {f : Str → List Str} {a b : Str} (ma : a ∈ xs) (mb : b ∈ f a) (h : ltS a b) : [a, b] ∈ prsOf xs f := by
  unfold prsOf
  refine List.mem_flatMap.mpr ⟨a, mem_sortS.mpr ma, ?_⟩
  unfold prsF
  exact List.mem_map.mpr ⟨b, List.mem_filter.mpr ⟨mem_sortS.mpr mb, decide_eq_true h⟩, rfl⟩
theorem quarB_qP {op : Str → List Str} {ds : List (Key × D)} {m : PM} (h : RepM ds m) {a b : Str} {va vb : Option Str} (ea : m a = some va) (eb : m b = some vb) : quarB op (.dct ds) a b = qP op m a b := by
  unfold quarB rather qP
  rw [h.part ea, h.part eb, ea, eb]
theorem quars_calm {xs : List Str} {op : Str → List Str} {ds : List (Key × D)} {m : PM} (mu : Mut xs op) (h : RepM ds m) (ok : PMOk xs op m) (fl : FullP xs m) : (quars xs op (.dct ds)).isEmpty = calmM xs op m := by
  rw [Bool.eq_iff_iff, List.isEmpty_iff, calmM_true]
  unfold quars
  rw [List.filter_eq_nil_iff]
  constructor
  · intro z a ma b mb
    obtain ⟨mbx, mab⟩ := mu.fi a ma b mb
    obtain ⟨va, ea⟩ := fl a ma
    obtain ⟨vb, eb⟩ := fl b mbx
    have hab : a ≠ b := fun e => mu.fs a ma (e ▸ mb)
    cases hq : qP op m a b with
    | false => rfl
    | true =>
      rcases str_tri hab with l | l
      · have := z _ (mem_prsOf ma mb l)
        exact absurd (show quarB op (.dct ds) a b = true by rw [quarB_qP h ea eb]; exact hq) this
      · have := z _ (mem_prsOf mbx mab l)
        exact absurd (show quarB op (.dct ds) b a = true by rw [quarB_qP h eb ea]; exact qP_symm ok hq) this
  · intro z k mk hk
    obtain ⟨a, b, rfl, ma, mb, _⟩ := prsOf_get mk
    obtain ⟨va, ea⟩ := fl a ma
    obtain ⟨vb, eb⟩ := fl b (mu.fi a ma b mb).1
    have hk : quarB op (.dct ds) a b = true := hk
    rw [quarB_qP h ea eb, z a ma b mb] at hk
    cases hk
/-- dealings as dicts -/
inductive DRs (K : PySem.W.Frag) (B : Hp) : List V → List PM → Prop
  | nil : DRs K B [] []
  | cons {t : Addr} {kx : List (Key × V)} {ds : List (Key × D)} {m : PM} {vs : List V} {ms : List PM} : B t = some (.dK kx) → DictM K kx ds m → DRs K B vs ms → DRs K B (.ref t :: vs) (m :: ms)
theorem DRs.mono {K : PySem.W.Frag} {B B' : Hp} (s : Same B B') : ∀ {vs : List V} {ms : List PM}, DRs K B vs ms → DRs K B' vs ms
  | _, _, .nil => .nil
  | _, _, .cons h d r => .cons (s _ _ h) d (DRs.mono s r)
theorem DRs.append {K : PySem.W.Frag} {B : Hp} : ∀ {vs us : List V} {ms ls : List PM}, DRs K B vs ms → DRs K B us ls → DRs K B (vs ++ us) (ms ++ ls)
  | _, _, _, _, .nil, q => q
  | _, _, _, _, .cons h d r, q => .cons h d (DRs.append r q)
theorem DRs.len {K : PySem.W.Frag} {B : Hp} : ∀ {vs : List V} {ms : List PM}, DRs K B vs ms → vs.length = ms.length
  | _, _, .nil => rfl
  | _, _, .cons _ _ r => by rw [List.length_cons, List.length_cons, DRs.len r]
theorem DRs.at {K : PySem.W.Frag} {B : Hp} : ∀ {vs : List V} {ms : List PM} {j : Nat} {v : V}, DRs K B vs ms → vs[j]? = some v → ∃ t kx ds m, v = .ref t ∧ ms[j]? = some m ∧ B t = some (.dK kx) ∧ DictM K kx ds m
  | _, _, _, _, .nil, e => by simp at e
  | _, _, 0, _, .cons h d _, e => by simp at e; subst e; exact ⟨_, _, _, _, rfl, rfl, h, d⟩
  | _, _, j + 1, v, .cons _ _ r, e => by
    obtain ⟨t, kx, ds, m, e1, e2, e3, e4⟩ := DRs.at r (j := j) (v := v) (by simpa using e)
    exact ⟨t, kx, ds, m, e1, by simpa using e2, e3, e4⟩
/-! ### rows of written dealings are equal -/
def wrD (k : List (List Str)) : PyData := .tuple (k.map fun p => PyData.tuple (p.map PyData.str))
theorem WRs.dp {K : PySem.W.Frag} {B H : Hp} (s : Same B H) : ∀ {vs : List V} {ks : List (List (List Str))}, WRs B vs ks → DpAll K H vs (ks.map wrD)
  | _, _, .nil => .nil
  | _, _, .cons h t r => .cons (.tup (SqT.of (s _ _ h)) (t.dp s)) (WRs.dp s r)
end Q

set_option Elab.async false
set_option linter.all false
set_option maxRecDepth 100000
set_option maxHeartbeats 4000000
namespace Q
open PySem PySem.Spec PyProof.Rows L2
/-! ### more of the order of texts -/
section
variable {X : Cx} {x y : Str} {H : Hp} {Q : VK}
end
end Q

set_option Elab.async false
set_option linter.all false
set_option maxRecDepth 100000
set_option maxHeartbeats 4000000
namespace Q
open PySem PySem.Spec PyProof.Rows L2
/-! ### y = [..], the name a cell -/
end Q

set_option Elab.async false
set_option linter.all false
set_option maxRecDepth 100000
set_option maxHeartbeats 4000000
namespace Q
open PySem PySem.Spec PyProof.Rows L2
local macro_rules | `(tactic| walk_at "bf") => `(tactic| first | assumption | (refine' bstep (by assumption) ?r; case r => walk_at "bf") | fail)
local macro_rules | `(tactic| walk_at "rp") => `(tactic| first | assumption | exact Rep.int _ | exact Rep.bl _ | exact Rep.non | (refine' Rep.mono (by assumption) ?r; case r => walk_at "rp") | fail)
local macro_rules | `(tactic| walk_at "hf") => `(tactic| first | assumption | exact HS.up (by assumption) (by walk_at "bf") | exact HS.get (by assumption) List.mem_cons_self | exact HS.get (by assumption) (List.mem_cons_of_mem _ List.mem_cons_self) | exact HS.get (by assumption) (List.mem_cons_of_mem _ (List.mem_cons_of_mem _ List.mem_cons_self)) | exact HS.get (by assumption) (List.mem_cons_of_mem _ (List.mem_cons_of_mem _ (List.mem_cons_of_mem _ List.mem_cons_self))) | fail)
local macro_rules | `(tactic| walk_at "sl") => `(tactic| first | assumption | exact SqL.of (by walk_at "hf") | fail)
local macro_rules | `(tactic| walk_at "st") => `(tactic| first | assumption | exact SqT.of (by walk_at "hf") | fail)
local macro_rules | `(tactic| walk_at "sz") => `(tactic| first | assumption | (refine small_le ?_; first | assumption | omega | (simp; done) | (simp; omega)) | fail)
/-! ### a dealing that is written as pairs -/
/-! ### what was written is read back -/
end Q

set_option Elab.async false
set_option linter.all false
set_option maxRecDepth 100000
set_option maxHeartbeats 4000000
namespace Q
open PySem PySem.Spec PyProof.Rows L2
local macro_rules | `(tactic| walk_at "bf") => `(tactic| first | assumption | (refine' bstep (by assumption) ?r; case r => walk_at "bf") | fail)
local macro_rules | `(tactic| walk_at "rp") => `(tactic| first | assumption | exact Rep.int _ | exact Rep.bl _ | exact Rep.non | (refine' Rep.mono (by assumption) ?r; case r => walk_at "rp") | fail)
local macro_rules | `(tactic| walk_at "hf") => `(tactic| first | assumption | exact HS.up (by assumption) (by walk_at "bf") | exact HS.get (by assumption) List.mem_cons_self | exact HS.get (by assumption) (List.mem_cons_of_mem _ List.mem_cons_self) | exact HS.get (by assumption) (List.mem_cons_of_mem _ (List.mem_cons_of_mem _ List.mem_cons_self)) | exact HS.get (by assumption) (List.mem_cons_of_mem _ (List.mem_cons_of_mem _ (List.mem_cons_of_mem _ List.mem_cons_self))) | fail)
local macro_rules | `(tactic| walk_at "sl") => `(tactic| first | assumption | exact SqL.of (by walk_at "hf") | fail)
local macro_rules | `(tactic| walk_at "st") => `(tactic| first | assumption | exact SqT.of (by walk_at "hf") | fail)
local macro_rules | `(tactic| walk_at "sz") => `(tactic| first | assumption | (refine small_le ?_; first | assumption | omega | (simp; done) | (simp; omega)) | fail)
/-! ### the law's own comparison -/
theorem x_iteF {A B : Prop} {b : Bool} (hb : b = false) (h : B) : if b = true then A else B := by rw [if_neg (by rw [hb]; decide)]; exact h

end Q

set_option Elab.async false
set_option linter.all false
set_option maxRecDepth 100000
set_option maxHeartbeats 4000000
namespace Q
open PySem PySem.Spec PyProof.Rows L2
/-! ### the plain law: what the law would have read, and what is read -/
end Q

set_option Elab.async false
set_option linter.all false
set_option maxRecDepth 100000
set_option maxHeartbeats 4000000
namespace Q
open PySem PySem.Spec PyProof.Rows L2
local macro_rules | `(tactic| walk_at "bf") => `(tactic| first | assumption | (refine' bstep (by assumption) ?r; case r => walk_at "bf") | fail)
local macro_rules | `(tactic| walk_at "rp") => `(tactic| first | assumption | exact Rep.int _ | exact Rep.bl _ | exact Rep.non | (refine' Rep.mono (by assumption) ?r; case r => walk_at "rp") | fail)
local macro_rules | `(tactic| walk_at "hf") => `(tactic| first | assumption | exact HS.up (by assumption) (by walk_at "bf") | exact HS.get (by assumption) List.mem_cons_self | exact HS.get (by assumption) (List.mem_cons_of_mem _ List.mem_cons_self) | exact HS.get (by assumption) (List.mem_cons_of_mem _ (List.mem_cons_of_mem _ List.mem_cons_self)) | exact HS.get (by assumption) (List.mem_cons_of_mem _ (List.mem_cons_of_mem _ (List.mem_cons_of_mem _ List.mem_cons_self))) | fail)
local macro_rules | `(tactic| walk_at "sl") => `(tactic| first | assumption | exact SqL.of (by walk_at "hf") | fail)
local macro_rules | `(tactic| walk_at "st") => `(tactic| first | assumption | exact SqT.of (by walk_at "hf") | fail)
local macro_rules | `(tactic| walk_at "sz") => `(tactic| first | assumption | (refine small_le ?_; first | assumption | omega | (simp; done) | (simp; omega)) | fail)
theorem Deal.keys {xs : List Str} {op : Str → List Str} {ds : List (Key × D)} {m : Nat} (dl : Deal xs op (.dct ds)) (nd : xs.Nodup) (st : StrK ds m) : ∃ ks : List Str, ds.map (·.1) = ks.map Sum.inr ∧ ks.Perm xs ∧ SclD ds := by
  obtain ⟨ks, hk⟩ := st.st
  obtain ⟨ds', e, hlen, hsome⟩ := sameKeys_dct dl.sk
  cases e
  have ndk := st.nd
  rw [hk] at ndk
  have ndk : ks.Nodup := (List.pairwise_map.mp ndk).imp fun {a b} ne z => ne (by rw [z])
  have hl := congrArg List.length hk
  rw [List.length_map, List.length_map] at hl
  have inK : ∀ {a : Str} {d : D}, dval ds (.inr a) = some d → a ∈ ks := fun {a d} e => by
    have : (Sum.inr a : Key) ∈ ds.map (·.1) := List.mem_map.mpr ⟨_, dval_mem' e, rfl⟩
    rw [hk] at this
    obtain ⟨y, my, e⟩ := List.mem_map.mp this
    rw [← Sum.inr.inj e]
    exact my
  have h1 : ∀ x ∈ xs, x ∈ ks := fun x mx => by
    obtain ⟨d, hd⟩ := Option.isSome_iff_exists.mp (hsome x mx)
    exact inK hd
  have h2 : ∀ x ∈ ks, x ∈ xs := fun x mx => Classical.byContradiction fun z => by
    have := nodup_len (xs := x :: xs) (ys := ks) (List.nodup_cons.mpr ⟨z, nd⟩) fun y my => by
      rcases List.mem_cons.mp my with rfl | my
      · exact mx
      · exact h1 y my
    rw [List.length_cons] at this
    omega
  refine ⟨ks, hk, (List.perm_ext_iff_of_nodup ndk nd).mpr fun a => ⟨h2 a, h1 a⟩, fun a d e => ?_⟩
  rcases dl.dvals (h2 a (inK e)) with z | ⟨c, z, _⟩
  · rw [z] at e; exact .inl (Option.some.inj e).symm
  · rw [z] at e; exact .inr ⟨c, (Option.some.inj e).symm⟩
theorem Deal.mate {xs : List Str} {op : Str → List Str} {d : D} (dl : Deal xs op d) {a b : Str} (ma : a ∈ xs) (e : part d a = some b) : b ∈ op a ∧ part d b = some a := by
  rcases dl.ok a ma with z | ⟨c, z1, z2, z3⟩
  · unfold part at e; rw [z] at e; cases e
  · unfold part at e ⊢
    rw [z1] at e
    cases e
    exact ⟨z2, by rw [z3]⟩
end Q

set_option Elab.async false
set_option linter.all false
set_option maxRecDepth 100000
set_option maxHeartbeats 4000000
namespace Q
open PySem PySem.Spec PyProof.Rows L2
local macro_rules | `(tactic| walk_at "bf") => `(tactic| first | assumption | (refine' bstep (by assumption) ?r; case r => walk_at "bf") | fail)
local macro_rules | `(tactic| walk_at "rp") => `(tactic| first | assumption | exact Rep.int _ | exact Rep.bl _ | exact Rep.non | (refine' Rep.mono (by assumption) ?r; case r => walk_at "rp") | fail)
local macro_rules | `(tactic| walk_at "hf") => `(tactic| first | assumption | exact HS.up (by assumption) (by walk_at "bf") | exact HS.get (by assumption) List.mem_cons_self | exact HS.get (by assumption) (List.mem_cons_of_mem _ List.mem_cons_self) | exact HS.get (by assumption) (List.mem_cons_of_mem _ (List.mem_cons_of_mem _ List.mem_cons_self)) | exact HS.get (by assumption) (List.mem_cons_of_mem _ (List.mem_cons_of_mem _ (List.mem_cons_of_mem _ List.mem_cons_self))) | fail)
local macro_rules | `(tactic| walk_at "sl") => `(tactic| first | assumption | exact SqL.of (by walk_at "hf") | fail)
local macro_rules | `(tactic| walk_at "st") => `(tactic| first | assumption | exact SqT.of (by walk_at "hf") | fail)
local macro_rules | `(tactic| walk_at "sz") => `(tactic| first | assumption | (refine small_le ?_; first | assumption | omega | (simp; done) | (simp; omega)) | fail)
end Q

set_option Elab.async false
set_option linter.all false
set_option maxRecDepth 100000
set_option maxHeartbeats 4000000
namespace Q
open PySem PySem.Spec PyProof.Rows L2
local macro_rules | `(tactic| walk_at "bf") => `(tactic| first | assumption | (refine' bstep (by assumption) ?r; case r => walk_at "bf") | fail)
local macro_rules | `(tactic| walk_at "rp") => `(tactic| first | assumption | exact Rep.int _ | exact Rep.bl _ | exact Rep.non | (refine' Rep.mono (by assumption) ?r; case r => walk_at "rp") | fail)
local macro_rules | `(tactic| walk_at "hf") => `(tactic| first | assumption | exact HS.up (by assumption) (by walk_at "bf") | exact HS.get (by assumption) List.mem_cons_self | exact HS.get (by assumption) (List.mem_cons_of_mem _ List.mem_cons_self) | exact HS.get (by assumption) (List.mem_cons_of_mem _ (List.mem_cons_of_mem _ List.mem_cons_self)) | exact HS.get (by assumption) (List.mem_cons_of_mem _ (List.mem_cons_of_mem _ (List.mem_cons_of_mem _ List.mem_cons_self))) | fail)
local macro_rules | `(tactic| walk_at "sl") => `(tactic| first | assumption | exact SqL.of (by walk_at "hf") | fail)
local macro_rules | `(tactic| walk_at "st") => `(tactic| first | assumption | exact SqT.of (by walk_at "hf") | fail)
local macro_rules | `(tactic| walk_at "sz") => `(tactic| first | assumption | (refine small_le ?_; first | assumption | omega | (simp; done) | (simp; omega)) | fail)
/-! ### wishes of rings of told sizes -/
end Q

set_option Elab.async false
set_option linter.all false
set_option maxRecDepth 100000
set_option maxHeartbeats 4000000
namespace Q
open PySem PySem.Spec PyProof.Rows L2
local macro_rules | `(tactic| walk_at "bf") => `(tactic| first | assumption | (refine' bstep (by assumption) ?r; case r => walk_at "bf") | fail)
local macro_rules | `(tactic| walk_at "rp") => `(tactic| first | assumption | exact Rep.int _ | exact Rep.bl _ | exact Rep.non | (refine' Rep.mono (by assumption) ?r; case r => walk_at "rp") | fail)
local macro_rules | `(tactic| walk_at "hf") => `(tactic| first | assumption | exact HS.up (by assumption) (by walk_at "bf") | exact HS.get (by assumption) List.mem_cons_self | exact HS.get (by assumption) (List.mem_cons_of_mem _ List.mem_cons_self) | exact HS.get (by assumption) (List.mem_cons_of_mem _ (List.mem_cons_of_mem _ List.mem_cons_self)) | exact HS.get (by assumption) (List.mem_cons_of_mem _ (List.mem_cons_of_mem _ (List.mem_cons_of_mem _ List.mem_cons_self))) | fail)
local macro_rules | `(tactic| walk_at "sl") => `(tactic| first | assumption | exact SqL.of (by walk_at "hf") | fail)
local macro_rules | `(tactic| walk_at "st") => `(tactic| first | assumption | exact SqT.of (by walk_at "hf") | fail)
local macro_rules | `(tactic| walk_at "sz") => `(tactic| first | assumption | (refine small_le ?_; first | assumption | omega | (simp; done) | (simp; omega)) | fail)
/-! ### wishes whose rows may still be changed -/
def RowsOk (xs rs : List Str) (ws : Str → List Str) : Prop := ∀ q ∈ rs, RowOk xs q (ws q)
theorem RowsOk.new {xs rs : List Str} {ws : Str → List Str} {x : Str} {row : List Str} (h : RowsOk xs rs ws) (hr : RowOk xs x row) : RowsOk xs (rs ++ [x]) (updW ws x row) := fun q mq => by
  by_cases e : q = x
  · rw [e, updW_eq]; exact hr
  · rw [updW_ne e]
    rcases List.mem_append.mp mq with m | m
    · exact h q m
    · exact absurd (List.mem_singleton.mp m) e
theorem RowsOk.over {xs rs : List Str} {ws : Str → List Str} {x : Str} {row : List Str} (h : RowsOk xs rs ws) (hr : RowOk xs x row) : RowsOk xs rs (updW ws x row) := fun q mq => by
  by_cases e : q = x
  · rw [e, updW_eq]; exact hr
  · rw [updW_ne e]
    exact h q mq
def spWM (p t : Addr) (H : Hp) (Q : VK) : Prop := ∃ (a b : Int) (xs : List Str) (B : Hp), Same B H ∧ B p = none ∧ H p = some (stO a b) ∧ VSt a b ∧ B t = some (.lst (xs.map V.str)) ∧ xs.length ≤ 25 ∧ xs.Nodup ∧
  ∀ B' H' a' b' w done f ws, HS [p] B H B' H' ((p, stO a' b') :: (w, .dK (zipF done f)) :: lsF done f ws) → VSt a' b' → done.Perm xs → RowsOk xs done ws → Q (.ref w) H'
end Q

set_option Elab.async false
set_option linter.all false
set_option maxRecDepth 100000
set_option maxHeartbeats 4000000
namespace Q
open PySem PySem.Spec PyProof.Rows L2
theorem HS.stillLS {S : List Addr} {B0 H0 : Hp} {M : List (Addr × HO)} : ∀ {N : List (Addr × HO)} {B H : Hp}, HS S B0 H0 B H (N ++ M) → (∀ q ∈ N, q.1 ∉ S) → ∃ B', HS S B0 H0 B' H M ∧ Same B B' ∧ ∀ q ∈ N, B' q.1 = some q.2
  | [], B, H, h, _ => ⟨B, h, Same.refl _, fun _ m => (nomatch m)⟩
  | (p, o) :: N, B, H, h, hn => by
    obtain ⟨h1, s1⟩ := HS.still (p := p) (o := o) h (hn _ List.mem_cons_self)
    obtain ⟨B', h2, s2, h3⟩ := HS.stillLS h1 fun q m => hn q (List.mem_cons_of_mem _ m)
    refine ⟨B', h2, s1.trans s2, fun q m => ?_⟩
    rcases List.mem_cons.mp m with rfl | m
    · exact s2 _ _ upd_same
    · exact h3 q m
theorem HS.ne_rest {S : List Addr} {B0 H0 B H : Hp} {p : Addr} {o : HO} {M : List (Addr × HO)} (h : HS S B0 H0 B H ((p, o) :: M)) {q : Addr × HO} (m : q ∈ M) : q.1 ≠ p := fun e => by
  have := h.nd
  rw [List.map_cons, List.nodup_cons] at this
  exact this.1 (List.mem_map.mpr ⟨q, m, e⟩)
theorem rows_still {B0 H0 B H : Hp} {p w : Addr} {o u : HO} {xs done : List Str} {f : Str → Addr} {ws : Str → List Str} (h : HS [p] B0 H0 B H ((p, o) :: (w, u) :: lsF done f ws)) (ok : RowsOk xs done ws) : ∃ B', HS [p] B0 H0 B' H [(p, o), (w, u)] ∧ Same B B' ∧ WRows B' xs done (zipF done f) := by
  have h0 : HS [p] B0 H0 B H (lsF done f ws ++ [(p, o), (w, u)]) := h.perm (List.perm_append_comm (l₁ := [(p, o), (w, u)]))
  obtain ⟨B', h1, s1, h2⟩ := HS.stillLS h0 fun q m => by
    have := h.ne_rest (List.mem_cons_of_mem _ m)
    simpa using this
  refine ⟨B', h1, s1, done.map f, List.length_map _, (zipK_map done f).symm, fun j q a e1 e2 => ?_⟩
  rw [List.getElem?_map, e1] at e2
  cases e2
  have mq := List.mem_of_getElem? e1
  exact ⟨ws q, h2 (f q, .lst ((ws q).map V.str)) (List.mem_map.mpr ⟨q, mq, rfl⟩), ok q mq⟩
theorem spWM.w {p t : Addr} {H : Hp} {Q : VK} (h : spW p t H Q) : spWM p t H Q := by
  obtain ⟨a, b, xs, B, sB, bp, hp, hv, ht, hl, nd, k⟩ := h
  refine ⟨a, b, xs, B, sB, bp, hp, hv, ht, hl, nd, fun B' H' a' b' w done f ws c v' pe ok => ?_⟩
  obtain ⟨B2, c2, s2, wr⟩ := rows_still c ok
  exact k B2 H' a' b' w _ done c2 v' pe wr
theorem RowOk.ins {names row : List Str} {p y : Str} {i : Nat} (h : RowOk names p row) (h1 : y ∉ row) (h2 : y ≠ p) (h3 : y ∈ names) : RowOk names p (row.take i ++ [y] ++ row.drop i) := by
  refine RowOk.perm (row := y :: row) ⟨List.nodup_cons.mpr ⟨h1, h.1⟩, fun m => ?_, fun q m => ?_⟩ (ins_perm row i y)
  · rcases List.mem_cons.mp m with z | z
    · exact h2 z.symm
    · exact h.2.1 z
  · rcases List.mem_cons.mp m with z | z
    · rw [z]; exact h3
    · exact h.2.2 q z
end Q

set_option Elab.async false
set_option linter.all false
set_option maxRecDepth 100000
set_option maxHeartbeats 4000000
namespace Q
open PySem PySem.Spec PyProof.Rows L2
end Q

set_option Elab.async false
set_option linter.all false
set_option maxRecDepth 100000
set_option maxHeartbeats 4000000
namespace Q
open PySem PySem.Spec PyProof.Rows L2
local macro_rules | `(tactic| walk_at "bf") => `(tactic| first | assumption | (refine' bstep (by assumption) ?r; case r => walk_at "bf") | fail)
local macro_rules | `(tactic| walk_at "rp") => `(tactic| first | assumption | exact Rep.int _ | exact Rep.bl _ | exact Rep.non | (refine' Rep.mono (by assumption) ?r; case r => walk_at "rp") | fail)
local macro_rules | `(tactic| walk_at "hf") => `(tactic| first | assumption | exact HS.up (by assumption) (by walk_at "bf") | exact HS.get (by assumption) List.mem_cons_self | exact HS.get (by assumption) (List.mem_cons_of_mem _ List.mem_cons_self) | exact HS.get (by assumption) (List.mem_cons_of_mem _ (List.mem_cons_of_mem _ List.mem_cons_self)) | exact HS.get (by assumption) (List.mem_cons_of_mem _ (List.mem_cons_of_mem _ (List.mem_cons_of_mem _ List.mem_cons_self))) | fail)
local macro_rules | `(tactic| walk_at "sl") => `(tactic| first | assumption | exact SqL.of (by walk_at "hf") | fail)
local macro_rules | `(tactic| walk_at "st") => `(tactic| first | assumption | exact SqT.of (by walk_at "hf") | fail)
local macro_rules | `(tactic| walk_at "sz") => `(tactic| first | assumption | (refine small_le ?_; first | assumption | omega | (simp; done) | (simp; omega)) | fail)
/-! ### the law's own search for calm dealings -/
end Q

set_option Elab.async false
set_option linter.all false
set_option maxRecDepth 100000
set_option maxHeartbeats 4000000
namespace Q
open PySem PySem.Spec PyProof.Rows L2
/-! ### all calm dealings as dicts -/
theorem WRs.at {B : Hp} : ∀ {vs : List V} {ks : List (List (List Str))} {j : Nat} {v : V}, WRs B vs ks → vs[j]? = some v → ∃ t us k, v = .ref t ∧ ks[j]? = some k ∧ B t = some (.tup us) ∧ TRs B us k
  | _, _, _, _, .nil, e => by simp at e
  | _, _, 0, _, .cons h d _, e => by simp at e; subst e; exact ⟨_, _, _, rfl, rfl, h, d⟩
  | _, _, j + 1, v, .cons _ _ r, e => by
    obtain ⟨t, us, k, e1, e2, e3, e4⟩ := WRs.at r (j := j) (v := v) (by simpa using e)
    exact ⟨t, us, k, e1, by simpa using e2, e3, e4⟩
end Q

set_option Elab.async false
set_option linter.all false
set_option maxRecDepth 100000
set_option maxHeartbeats 4000000
namespace Q
open PySem PySem.Spec PyProof.Rows L2
/-! ### the beginning of many laws, and who may be whose -/
end Q

set_option Elab.async false
set_option linter.all false
set_option maxRecDepth 100000
set_option maxHeartbeats 4000000
namespace Q
open PySem PySem.Spec PyProof.Rows L2
local macro_rules | `(tactic| walk_at "bf") => `(tactic| first | assumption | (refine' bstep (by assumption) ?r; case r => walk_at "bf") | fail)
local macro_rules | `(tactic| walk_at "rp") => `(tactic| first | assumption | exact Rep.int _ | exact Rep.bl _ | exact Rep.non | (refine' Rep.mono (by assumption) ?r; case r => walk_at "rp") | fail)
local macro_rules | `(tactic| walk_at "hf") => `(tactic| first | assumption | exact HS.up (by assumption) (by walk_at "bf") | exact HS.get (by assumption) List.mem_cons_self | exact HS.get (by assumption) (List.mem_cons_of_mem _ List.mem_cons_self) | exact HS.get (by assumption) (List.mem_cons_of_mem _ (List.mem_cons_of_mem _ List.mem_cons_self)) | exact HS.get (by assumption) (List.mem_cons_of_mem _ (List.mem_cons_of_mem _ (List.mem_cons_of_mem _ List.mem_cons_self))) | fail)
local macro_rules | `(tactic| walk_at "sl") => `(tactic| first | assumption | exact SqL.of (by walk_at "hf") | fail)
local macro_rules | `(tactic| walk_at "st") => `(tactic| first | assumption | exact SqT.of (by walk_at "hf") | fail)
local macro_rules | `(tactic| walk_at "sz") => `(tactic| first | assumption | (refine small_le ?_; first | assumption | omega | (simp; done) | (simp; omega)) | fail)
/-! ### the partners that somebody may have -/
/-- dicts at told places: what each has at a key -/
def DAts (B : Hp) (ks : List Str) : List V → List (Str → Option Str) → Prop := fun vs fs => vs.length = fs.length ∧ ∀ (j : Nat) (v : V), vs[j]? = some v → ∃ (t : Addr) (kx : List (Key × V)) (f : Str → Option Str), v = .ref t ∧ fs[j]? = some f ∧ B t = some (.dK kx) ∧ ∀ a ∈ ks, valV kx (.inr a) = some (optV (f a))
theorem DAts.mono {B B' : Hp} {ks : List Str} {vs : List V} {fs : List (Str → Option Str)} (s : Same B B') (h : DAts B ks vs fs) : DAts B' ks vs fs := ⟨h.1, fun j v e => by
  obtain ⟨t, kx, f, h1, h2, h3, h4⟩ := h.2 j v e
  exact ⟨t, kx, f, h1, h2, s _ _ h3, h4⟩⟩
end Q

set_option Elab.async false
set_option linter.all false
set_option maxRecDepth 100000
set_option maxHeartbeats 4000000
namespace Q
open PySem PySem.Spec PyProof.Rows L2
/-! ### what stood still may change again -/
theorem same_delR {B B' : Hp} {x : Addr} (s : Same B B') (h : B x = none) : Same B (del B' x) := fun b o e => by
  have ne : b ≠ x := fun z => by rw [z, h] at e; cases e
  rw [del_ne ne]
  exact s _ _ e
end Q

set_option Elab.async false
set_option linter.all false
set_option maxRecDepth 100000
set_option maxHeartbeats 4000000
namespace Q
open PySem PySem.Spec PyProof.Rows L2
/-! ### dealings as functions -/
/-! ### the law's comparison of plain things -/
abbrev remA (B : Hp) (m : Addr) : Hp := del B m
theorem DRs.del {K : PySem.W.Frag} {B : Hp} {m la : Addr} {kvm : List (Key × V)} {a : Str} (hm : B m = some (.dK kvm)) : ∀ {vs : List V} {ms : List PM}, DRs K B vs ms → (∀ p ∈ ms, ∃ v, p a = some v) → valV kvm (.inr a) = some (.ref la) → DRs K (remA B m) vs ms
  | _, _, .nil, _, _ => .nil
  | _, _, .cons (t := t) (kx := kx) (m := p) h d r, fl, ev => by
    refine .cons ?_ d (DRs.del hm r (fun q mq => fl q (List.mem_cons_of_mem _ mq)) ev)
    have ne : t ≠ m := fun z => by
      rw [z, hm] at h
      cases h
      obtain ⟨v, hv⟩ := fl p List.mem_cons_self
      have := d.get hv
      rw [ev] at this
      cases v <;> cases this
    unfold remA
    rw [del_ne ne]
    exact h
end Q

set_option Elab.async false
set_option linter.all false
set_option maxRecDepth 100000
set_option maxHeartbeats 4000000
namespace Q
open PySem PySem.Spec PyProof.Rows L2
/-! ### calm dealings that were found, as dicts -/
theorem HS.one {S : List Addr} {B0 H0 B H : Hp} {x : Addr} {o : HO} : ∀ {M N : List (Addr × HO)}, HS S B0 H0 B H (M ++ N) → (x, o) ∈ M → HS S B0 H0 B H ((x, o) :: N)
  | q :: M, N, h, m => by
    rcases List.mem_cons.mp m with rfl | m
    · have : ∀ {M : List (Addr × HO)}, HS S B0 H0 B H ((x, o) :: (M ++ N)) → HS S B0 H0 B H ((x, o) :: N) := fun {M} => by
        induction M with
        | nil => exact id
        | cons p M ih => exact fun h => ih h.swap.drop
      exact this h
    · exact HS.one h.drop m
end Q

set_option Elab.async false
set_option linter.all false
set_option maxRecDepth 100000
set_option maxHeartbeats 4000000
namespace Q
open PySem PySem.Spec PyProof.Rows L2
end Q

set_option Elab.async false
set_option linter.all false
set_option maxRecDepth 100000
set_option maxHeartbeats 4000000
namespace Q
open PySem PySem.Spec PyProof.Rows L2
/-! ### two groups with the same people -/
end Q

set_option Elab.async false
set_option linter.all false
set_option maxRecDepth 100000
set_option maxHeartbeats 4000000
namespace Q
open PySem PySem.Spec PyProof.Rows L2
/-! ### x in a tuple, by == of nested data -/
end Q

set_option Elab.async false
set_option linter.all false
set_option maxRecDepth 100000
set_option maxHeartbeats 4000000
namespace Q
open PySem PySem.Spec PyProof.Rows L2
/-! ### x is True, x is False (of a bool) -/
end Q

set_option Elab.async false
set_option linter.all false
set_option maxRecDepth 100000
set_option maxHeartbeats 4000000
namespace Q
open PySem PySem.Spec PyProof.Rows L2
/-! ### seats that ask and seats that hold: plain theory -/
abbrev OF := Str → Option Str
structure SM (xs : List Str) (f : Str → List Str) (A H : OF) : Prop where
  inv : ∀ a ∈ xs, ∀ b ∈ xs, A a = some b ↔ H b = some a
  oa : ∀ a ∈ xs, ∀ b, A a = some b → b ∈ f a
  oh : ∀ a ∈ xs, ∀ b, H a = some b → b ∈ f a
  st : ∀ a ∈ xs, ∀ b ∈ f a, ratherO (f a) b (A a) = true → ratherO (f b) a (H b) = true → False
theorem SM.dual {xs : List Str} {f : Str → List Str} {A H : OF} (mu : Mut xs f) (h : SM xs f A H) : SM xs f H A :=
  ⟨fun a ma b mb => (h.inv b mb a ma).symm, h.oh, h.oa, fun a ma b mb r1 r2 => h.st b (mu.fi a ma b mb).1 a (mu.fi a ma b mb).2 r2 r1⟩
theorem SM.ah {xs : List Str} {f : Str → List Str} {A H : OF} (mu : Mut xs f) (h : SM xs f A H) {a b : Str} (ma : a ∈ xs) (e : A a = some b) : b ∈ xs ∧ H b = some a := by
  have mb := (mu.fi a ma b (h.oa a ma b e)).1
  exact ⟨mb, (h.inv a ma b mb).mp e⟩
theorem SM.ha {xs : List Str} {f : Str → List Str} {A H : OF} (mu : Mut xs f) (h : SM xs f A H) {a b : Str} (ma : a ∈ xs) (e : H a = some b) : b ∈ xs ∧ A b = some a := (h.dual mu).ah mu ma e
/-! ### the first one behind the asked one who would take a -/
/-! ### a cycle is passed on -/
structure CycP (step : OF) (cyc : List Str) : Prop where
  nd : cyc.Nodup
  nx : ∀ a ∈ cyc, ∃ b ∈ cyc, step a = some b
  pv : ∀ b ∈ cyc, ∃ a ∈ cyc, step a = some b
  inj : ∀ a ∈ cyc, ∀ b ∈ cyc, step a = step b → a = b
  ind : ∀ P : Str → Prop, (∃ a ∈ cyc, P a) → (∀ a ∈ cyc, ∀ b ∈ cyc, step a = some b → P b → P a) → ∀ a ∈ cyc, P a
section
variable {xs : List Str} {f : Str → List Str} {A H : OF} {cyc : List Str}
end
end Q

set_option Elab.async false
set_option linter.all false
set_option maxRecDepth 100000
set_option maxHeartbeats 4000000
namespace Q
open PySem PySem.Spec PyProof.Rows L2
/-! ### cycles of steps -/
def cyF (step : OF) : Nat → List Str → Option Str → List Str × Option Str
  | 0, acc, o => (acc, o)
  | _ + 1, acc, none => (acc, none)
  | n + 1, acc, some a => if a ∈ acc then (acc, some a) else cyF step n (acc ++ [a]) (step a)
def itO (step : OF) (s : Str) : Nat → Option Str
  | 0 => some s
  | n + 1 => (itO step s n).bind step
structure OrbI (step : OF) (s : Str) (acc : List Str) (o : Option Str) : Prop where
  at_ : ∀ i, i < acc.length → acc[i]? = itO step s i
  nx : o = itO step s acc.length
  nd : acc.Nodup
  ne : 0 < acc.length
theorem cyF_spec {step : OF} {s : Str} {xs : List Str} (hx : ∀ i a, itO step s i = some a → a ∈ xs) : ∀ {n : Nat} {acc : List Str} {o : Option Str}, OrbI step s acc o → xs.length < n + acc.length → OrbI step s (cyF step n acc o).1 (cyF step n acc o).2 ∧ ((cyF step n acc o).2 = none ∨ ∃ a ∈ (cyF step n acc o).1, (cyF step n acc o).2 = some a)
  | 0, acc, o, h, hf => by
    exfalso
    have := nodup_len h.nd (ys := xs) fun a ma => by
      obtain ⟨i, hi⟩ := List.mem_iff_getElem?.mp ma
      have hl := (List.getElem?_eq_some_iff.mp hi).1
      exact hx i a (by rw [← h.at_ i hl]; exact hi)
    omega
  | n + 1, acc, none, h, _ => ⟨h, .inl rfl⟩
  | n + 1, acc, some a, h, hf => by
    unfold cyF
    split
    · rename_i ma
      exact ⟨h, .inr ⟨a, ma, rfl⟩⟩
    · rename_i ma
      refine cyF_spec hx ⟨fun i hi => ?_, ?_, ?_, by rw [List.length_append]; exact Nat.lt_of_lt_of_le h.ne (Nat.le_add_right _ _)⟩ (by rw [List.length_append, List.length_singleton]; omega)
      · rw [List.length_append, List.length_singleton] at hi
        by_cases hl : i < acc.length
        · rw [List.getElem?_append_left hl]
          exact h.at_ i hl
        · have e : i = acc.length := by omega
          subst e
          rw [List.getElem?_append_right (Nat.le_refl _), Nat.sub_self, ← h.nx]
          rfl
      · rw [List.length_append, List.length_singleton]
        show step a = (itO step s acc.length).bind step
        rw [← h.nx]
        rfl
      · rw [List.nodup_append]
        exact ⟨h.nd, by simp, fun x mx y my e => ma (by
          have := List.mem_singleton.mp my
          rw [← this, ← e]
          exact mx)⟩
theorem OrbI.init {step : OF} {s : Str} : OrbI step s [s] (step s) := ⟨fun i hi => by
  have : i = 0 := by simpa using hi
  subst this
  rfl, rfl, by simp, by simp⟩
theorem nd_at {l : List Str} (nd : l.Nodup) {i j : Nat} {a : Str} (h1 : l[i]? = some a) (h2 : l[j]? = some a) : i = j := by
  obtain ⟨l1, e1⟩ := List.getElem?_eq_some_iff.mp h1
  obtain ⟨l2, e2⟩ := List.getElem?_eq_some_iff.mp h2
  have := nd.idxOf_getElem i l1
  rw [e1] at this
  have h3 := nd.idxOf_getElem j l2
  rw [e2] at h3
  omega
theorem OrbI.cyc {step : OF} {s : Str} {acc : List Str} (h : OrbI step s acc (some s)) : CycP step acc ∧ s ∈ acc := by
  have a0 : acc[0]? = some s := h.at_ 0 h.ne
  have stp : ∀ {i : Nat} {a : Str}, acc[i]? = some a → step a = itO step s (i + 1) := fun {i a} hi => by
    have hl := (List.getElem?_eq_some_iff.mp hi).1
    show _ = (itO step s i).bind step
    rw [← h.at_ i hl, hi]
    rfl
  have lst : itO step s acc.length = some s := h.nx.symm
  have nxt : ∀ {i : Nat} {a : Str}, acc[i]? = some a → (i + 1 < acc.length ∧ step a = acc[i + 1]?) ∨ (i + 1 = acc.length ∧ step a = some s) := fun {i a} hi => by
    have hl := (List.getElem?_eq_some_iff.mp hi).1
    by_cases e : i + 1 < acc.length
    · exact .inl ⟨e, by rw [stp hi, h.at_ _ e]⟩
    · have e : i + 1 = acc.length := by omega
      exact .inr ⟨e, by rw [stp hi, e, lst]⟩
  have hpos := h.ne
  refine ⟨⟨h.nd, fun a ma => ?_, fun b mb => ?_, fun a ma b mb e => ?_, fun P ⟨a, ma, pa⟩ cl b mb => ?_⟩, List.mem_of_getElem? a0⟩
  · obtain ⟨i, hi⟩ := List.mem_iff_getElem?.mp ma
    rcases nxt hi with ⟨hl, e⟩ | ⟨_, e⟩
    · exact ⟨acc[i + 1], List.getElem_mem _, by rw [e]; exact List.getElem?_eq_getElem hl⟩
    · exact ⟨s, List.mem_of_getElem? a0, e⟩
  · obtain ⟨i, hi⟩ := List.mem_iff_getElem?.mp mb
    have hl := (List.getElem?_eq_some_iff.mp hi).1
    cases i with
    | zero =>
      rw [a0] at hi
      cases hi
      have hm : acc[acc.length - 1]? = some (acc[acc.length - 1]'(by omega)) := List.getElem?_eq_getElem _
      refine ⟨_, List.mem_of_getElem? hm, ?_⟩
      rcases nxt hm with ⟨hl, _⟩ | ⟨_, e⟩
      · omega
      · exact e
    | succ j =>
      have hm : acc[j]? = some (acc[j]'(by omega)) := List.getElem?_eq_getElem _
      refine ⟨_, List.mem_of_getElem? hm, ?_⟩
      rcases nxt hm with ⟨_, e⟩ | ⟨hl, _⟩
      · rw [e, hi]
      · omega
  · obtain ⟨i, hi⟩ := List.mem_iff_getElem?.mp ma
    obtain ⟨j, hj⟩ := List.mem_iff_getElem?.mp mb
    have key : i = j := by
      rcases nxt hi with ⟨l1, e1⟩ | ⟨l1, e1⟩ <;> rcases nxt hj with ⟨l2, e2⟩ | ⟨l2, e2⟩
      · rw [e1, e2, List.getElem?_eq_getElem l2] at e
        have := nd_at h.nd e (List.getElem?_eq_getElem l2)
        omega
      · rw [e1, e2] at e
        have := nd_at h.nd e a0
        omega
      · rw [e1, e2] at e
        have := nd_at h.nd e.symm a0
        omega
      · omega
    subst key
    rw [hi] at hj
    exact Option.some.inj hj
  · have down : ∀ (j i : Nat), i ≤ j → ∀ {x y : Str}, acc[i]? = some x → acc[j]? = some y → P y → P x := by
      intro j
      induction j with
      | zero =>
        intro i hi x y hx hy py
        have : i = 0 := by omega
        subst this
        rw [hx] at hy
        cases hy
        exact py
      | succ j ih =>
        intro i hi x y hx hy py
        by_cases e : i = j + 1
        · subst e
          rw [hx] at hy
          cases hy
          exact py
        · have hl := (List.getElem?_eq_some_iff.mp hy).1
          have hm : acc[j]? = some (acc[j]'(by omega)) := List.getElem?_eq_getElem _
          refine ih i (by omega) hx hm (cl _ (List.mem_of_getElem? hm) y (List.mem_of_getElem? hy) ?_ py)
          rcases nxt hm with ⟨_, e⟩ | ⟨hl, _⟩
          · rw [e, hy]
          · omega
    obtain ⟨i, hi⟩ := List.mem_iff_getElem?.mp ma
    obtain ⟨j, hj⟩ := List.mem_iff_getElem?.mp mb
    have p0 : P s := down i 0 (Nat.zero_le _) a0 hi pa
    have hm : acc[acc.length - 1]? = some (acc[acc.length - 1]'(by omega)) := List.getElem?_eq_getElem _
    have pm := cl _ (List.mem_of_getElem? hm) s (List.mem_of_getElem? a0) (by
      rcases nxt hm with ⟨hl, _⟩ | ⟨_, e⟩
      · omega
      · exact e) p0
    have hl := (List.getElem?_eq_some_iff.mp hj).1
    exact down (acc.length - 1) j (by omega) hj hm pm
/-! ### where two would rather have each other, a cycle can be passed on -/
section
variable {xs : List Str} {f : Str → List Str} {A H : OF}
variable {cyc : List Str}
end
end Q

set_option Elab.async false
set_option linter.all false
set_option maxRecDepth 100000
set_option maxHeartbeats 4000000
namespace Q
open PySem PySem.Spec PyProof.Rows L2
/-! ### all ask until nobody asks any more: plain theory -/
structure AskI (xs : List Str) (f : Str → List Str) (A H : OF) (n : Str → Nat) (free : List Str) : Prop where
  inv : ∀ a ∈ xs, ∀ b ∈ xs, A a = some b ↔ H b = some a
  at_ : ∀ a ∈ xs, ∀ b, A a = some b → ∃ k, n a = k + 1 ∧ (f a)[k]? = some b
  oh : ∀ b ∈ xs, ∀ a, H b = some a → a ∈ xs
  ref : ∀ a ∈ xs, ∀ j b, j < n a → (f a)[j]? = some b → A a = some b ∨ ∃ c, H b = some c ∧ (f b).idxOf c < (f b).idxOf a
  fr : ∀ a ∈ xs, A a = none → a ∈ free ∨ (f a).length ≤ n a
  fi : ∀ a ∈ free, a ∈ xs ∧ A a = none
  nd : free.Nodup
  nl : ∀ a ∈ xs, n a ≤ (f a).length
  opt : ∀ A' H', SM xs f A' H' → ∀ a ∈ xs, ∀ j b, j < n a → (f a)[j]? = some b → A a ≠ some b → A' a ≠ some b
section
variable {xs : List Str} {f : Str → List Str} {A H : OF} {n : Str → Nat} {fr : List Str} {a b : Str}
theorem AskI.init {ys : List Str} (nd : ys.Nodup) (h : ∀ x, x ∈ ys ↔ x ∈ xs) : AskI xs f (fun _ => none) (fun _ => none) (fun _ => 0) ys :=
  ⟨fun _ _ _ _ => ⟨fun z => (nomatch z), fun z => (nomatch z)⟩, fun _ _ _ z => (nomatch z), fun _ _ _ z => (nomatch z), fun _ _ _ _ z => absurd z (Nat.not_lt_zero _), fun a ma _ => .inl ((h a).mpr ma), fun a ma => ⟨(h a).mp ma, rfl⟩, nd, fun _ _ => Nat.zero_le _, fun _ _ _ _ _ _ _ z => absurd z (Nat.not_lt_zero _)⟩
end
end Q

set_option Elab.async false
set_option linter.all false
set_option maxRecDepth 100000
set_option maxHeartbeats 4000000
namespace Q
open PySem PySem.Spec PyProof.Rows L2
/-! ### halves, rings, plain halves: plain theory -/
structure PermF (xs : List Str) (x y : Str → Str) : Prop where
  inx : ∀ a ∈ xs, x a ∈ xs
  iny : ∀ a ∈ xs, y a ∈ xs
  yx : ∀ a ∈ xs, y (x a) = a
  xy : ∀ a ∈ xs, x (y a) = a
structure HalfF (xs : List Str) (f : Str → List Str) (x y : Str → Str) : Prop where
  pm : PermF xs x y
  op : ∀ a ∈ xs, x a ≠ a → x a ∈ f a
  ord : ∀ a ∈ xs, x a ≠ y a → (f a).idxOf (x a) ≤ (f a).idxOf (y a)
  nq : ∀ a ∈ xs, ∀ b ∈ f a, (y a = a ∨ (f a).idxOf b < (f a).idxOf (y a)) → (y b = b ∨ (f b).idxOf a < (f b).idxOf (y b)) → False
def oG (A : OF) : Str → Str := fun a => (A a).getD a
/-! ### rings -/
def sO (x : Str → Str) : OF := fun a => some (x a)
def ringL (x : Str → Str) (s : Str) : List Str := (cyF (sO x) 17 [s] (some (x s))).1
section
variable {xs : List Str} {x y : Str → Str}
theorem PermF.inj (h : PermF xs x y) {a b : Str} (ma : a ∈ xs) (mb : b ∈ xs) (e : x a = x b) : a = b := by
  rw [← h.yx a ma, e, h.yx b mb]
theorem PermF.orb (h : PermF xs x y) {s : Str} (ms : s ∈ xs) : ∀ n, ∃ a ∈ xs, itO (sO x) s n = some a
  | 0 => ⟨s, ms, rfl⟩
  | n + 1 => by
    obtain ⟨a, ma, e⟩ := h.orb ms n
    refine ⟨x a, h.inx a ma, ?_⟩
    show (itO (sO x) s n).bind (sO x) = _
    rw [e]
    rfl
theorem PermF.back (h : PermF xs x y) {s : Str} (ms : s ∈ xs) {m i : Nat} (e : itO (sO x) s (m + 1) = itO (sO x) s (i + 1)) : itO (sO x) s m = itO (sO x) s i := by
  obtain ⟨a, ma, ea⟩ := h.orb ms m
  obtain ⟨b, mb, eb⟩ := h.orb ms i
  have e : (itO (sO x) s m).bind (sO x) = (itO (sO x) s i).bind (sO x) := e
  rw [ea, eb] at e
  have e : some (x a) = some (x b) := e
  rw [ea, eb, h.inj ma mb (Option.some.inj e)]
/-- what comes again is the first one -/
theorem OrbI.again (h : PermF xs x y) {s : Str} (ms : s ∈ xs) {acc : List Str} {a : Str} (o : OrbI (sO x) s acc (some a)) (ma : a ∈ acc) : a = s := by
  obtain ⟨i, hi⟩ := List.mem_iff_getElem?.mp ma
  have hl := (List.getElem?_eq_some_iff.mp hi).1
  have hn := o.ne
  cases i with
  | zero =>
    have := o.at_ 0 hn
    rw [hi] at this
    exact Option.some.inj this
  | succ j =>
    exfalso
    have h1 : itO (sO x) s ((acc.length - 1) + 1) = itO (sO x) s (j + 1) := by
      rw [show (acc.length - 1) + 1 = acc.length by omega, ← o.nx, ← o.at_ _ hl, hi]
    have h2 := h.back ms h1
    rw [← o.at_ _ (by omega), ← o.at_ _ (by omega)] at h2
    have h3 : acc[j]? = some (acc[j]'(by omega)) := List.getElem?_eq_getElem _
    have := nd_at o.nd (h2.trans h3) h3
    omega
theorem OrbI.snoc {s : Str} {acc : List Str} {a : Str} (o : OrbI (sO x) s acc (some a)) (ma : a ∉ acc) : OrbI (sO x) s (acc ++ [a]) (some (x a)) := by
  refine ⟨fun i hi => ?_, ?_, ?_, by rw [List.length_append]; exact Nat.lt_of_lt_of_le o.ne (Nat.le_add_right _ _)⟩
  · rw [List.length_append, List.length_singleton] at hi
    by_cases hl : i < acc.length
    · rw [List.getElem?_append_left hl]
      exact o.at_ i hl
    · have e : i = acc.length := by omega
      subst e
      rw [List.getElem?_append_right (Nat.le_refl _), Nat.sub_self, ← o.nx]
      rfl
  · rw [List.length_append, List.length_singleton]
    show some (x a) = (itO (sO x) s acc.length).bind (sO x)
    rw [← o.nx]
    rfl
  · rw [List.nodup_append]
    exact ⟨o.nd, by simp, fun z mz w mw e => ma (by
      have := List.mem_singleton.mp mw
      rw [← this, ← e]
      exact mz)⟩
theorem OrbI.uniq {s : Str} {acc acc' : List Str} (o : OrbI (sO x) s acc (some s)) (o' : OrbI (sO x) s acc' (some s)) : acc = acc' := by
  have le : ∀ {acc acc' : List Str}, OrbI (sO x) s acc (some s) → OrbI (sO x) s acc' (some s) → acc'.length ≤ acc.length := fun {acc acc'} o o' => Nat.le_of_not_lt fun lt => by
    have h1 := o'.at_ acc.length lt
    rw [← o.nx] at h1
    have := nd_at o'.nd h1 (o'.at_ 0 o'.ne)
    have := o.ne
    omega
  have hl : acc.length = acc'.length := Nat.le_antisymm (le o' o) (le o o')
  refine List.ext_getElem? fun i => ?_
  by_cases hi : i < acc.length
  · rw [o.at_ i hi, o'.at_ i (by omega)]
  · rw [List.getElem?_eq_none (by omega), List.getElem?_eq_none (by omega)]
theorem OrbI.inxs (h : PermF xs x y) {s : Str} (ms : s ∈ xs) {acc : List Str} {q : Option Str} (o : OrbI (sO x) s acc q) : ∀ a ∈ acc, a ∈ xs := fun a ma => by
  obtain ⟨i, hi⟩ := List.mem_iff_getElem?.mp ma
  obtain ⟨b, mb, eb⟩ := h.orb ms i
  rw [← o.at_ i (List.getElem?_eq_some_iff.mp hi).1, hi] at eb
  cases eb
  exact mb
theorem ring_orb (h : PermF xs x y) (hl : xs.length ≤ 16) {s : Str} (ms : s ∈ xs) : OrbI (sO x) s (ringL x s) (some s) := by
  have hx : ∀ i a, itO (sO x) s i = some a → a ∈ xs := fun i a e => by
    obtain ⟨b, mb, eb⟩ := h.orb ms i
    rw [e] at eb
    cases eb
    exact mb
  obtain ⟨o, e⟩ := cyF_spec hx (n := 17) (OrbI.init (step := sO x) (s := s)) (by simp; omega)
  rcases e with e | ⟨a, ma, e⟩
  · exfalso
    rw [e] at o
    obtain ⟨b, _, eb⟩ := h.orb ms (cyF (sO x) 17 [s] (sO x s)).1.length
    rw [← o.nx] at eb
    cases eb
  · rw [e] at o
    have := o.again h ms ma
    subst this
    exact o
theorem ring_cyc (h : PermF xs x y) (hl : xs.length ≤ 16) {s : Str} (ms : s ∈ xs) : CycP (sO x) (ringL x s) ∧ s ∈ ringL x s := (ring_orb h hl ms).cyc
theorem ring_in (h : PermF xs x y) (hl : xs.length ≤ 16) {s : Str} (ms : s ∈ xs) : ∀ a ∈ ringL x s, a ∈ xs := (ring_orb h hl ms).inxs h ms
/-- the next one, the one before, are in the same ring -/
theorem ring_nx (h : PermF xs x y) (hl : xs.length ≤ 16) {s a : Str} (ms : s ∈ xs) (ma : a ∈ ringL x s) : x a ∈ ringL x s := by
  obtain ⟨b, mb, e⟩ := (ring_cyc h hl ms).1.nx a ma
  have e : some (x a) = some b := e
  rw [Option.some.inj e]
  exact mb
theorem ring_pv (h : PermF xs x y) (hl : xs.length ≤ 16) {s a : Str} (ms : s ∈ xs) (ma : a ∈ ringL x s) : y a ∈ ringL x s := by
  obtain ⟨b, mb, e⟩ := (ring_cyc h hl ms).1.pv a ma
  have e : some (x b) = some a := e
  rw [← Option.some.inj e, h.yx b (ring_in h hl ms b mb)]
  exact mb
/-- a ring of one of its people has the same people -/
theorem ring_same (h : PermF xs x y) (hl : xs.length ≤ 16) {s a : Str} (ms : s ∈ xs) (ma : a ∈ ringL x s) : ∀ b, b ∈ ringL x a ↔ b ∈ ringL x s := by
  have sub : ∀ {s a : Str}, s ∈ xs → a ∈ ringL x s → ∀ b ∈ ringL x a, b ∈ ringL x s := fun {s a} ms ma => by
    have mx := ring_in h hl ms a ma
    refine (ring_cyc h hl mx).1.ind (fun b => b ∈ ringL x s) ⟨a, (ring_cyc h hl mx).2, ma⟩ fun u mu v mv e hv => ?_
    have e : some (x u) = some v := e
    have := ring_pv h hl ms hv
    rw [← Option.some.inj e, h.yx u (ring_in h hl mx u mu)] at this
    exact this
  have back : s ∈ ringL x a := by
    have mx := ring_in h hl ms a ma
    have := (ring_cyc h hl ms).1.ind (fun b => s ∈ ringL x b) ⟨s, (ring_cyc h hl ms).2, (ring_cyc h hl ms).2⟩ (fun u mu v mv e hv => by
      have e : some (x u) = some v := e
      have mux := ring_in h hl ms u mu
      have mvx := ring_in h hl ms v mv
      exact sub mux (by rw [← Option.some.inj e]; exact ring_nx h hl mux (ring_cyc h hl mux).2) s hv) a ma
    exact this
  exact fun b => ⟨sub ms ma b, sub (ring_in h hl ms a ma) back b⟩
theorem ring_lenEq (h : PermF xs x y) (hl : xs.length ≤ 16) {s a : Str} (ms : s ∈ xs) (ma : a ∈ ringL x s) : (ringL x a).length = (ringL x s).length := by
  have mx := ring_in h hl ms a ma
  exact Nat.le_antisymm (nodup_len (ring_orb h hl mx).nd fun b mb => (ring_same h hl ms ma b).mp mb) (nodup_len (ring_orb h hl ms).nd fun b mb => (ring_same h hl ms ma b).mpr mb)
/-! ### all rings -/
def ringsF (x : Str → Str) : List Str → List Str → List (List Str)
  | [], _ => []
  | s :: r, seen => if s ∈ seen then ringsF x r seen else ringL x s :: ringsF x r (seen ++ ringL x s)
def ringsA (x : Str → Str) (xs : List Str) : List (List Str) := ringsF x (sortS xs) []
/-- what was seen is closed -/
def Clo (x : Str → Str) (xs seen : List Str) : Prop := ∀ s ∈ xs, s ∈ seen → ∀ b ∈ ringL x s, b ∈ seen
theorem Clo.add (h : PermF xs x y) (hl : xs.length ≤ 16) {seen : List Str} (c : Clo x xs seen) {s : Str} (ms : s ∈ xs) : Clo x xs (seen ++ ringL x s) := fun t mt m b mb => by
  rcases List.mem_append.mp m with m | m
  · exact List.mem_append_left _ (c t mt m b mb)
  · exact List.mem_append_right _ ((ring_same h hl ms m b).mp mb)
theorem ringsF_spec (h : PermF xs x y) (hl : xs.length ≤ 16) : ∀ {l seen : List Str}, (∀ s ∈ l, s ∈ xs) → Clo x xs seen →
    (∀ r ∈ ringsF x l seen, ∃ s ∈ l, r = ringL x s ∧ ∀ b ∈ r, b ∉ seen) ∧ (∀ s ∈ l, s ∈ seen ∨ ∃ r ∈ ringsF x l seen, s ∈ r) ∧ (ringsF x l seen).Pairwise fun r t => ∀ a ∈ r, a ∉ t
  | [], _, _, _ => ⟨fun _ z => (nomatch z), fun _ z => (nomatch z), List.Pairwise.nil⟩
  | s :: l, seen, hx, c => by
    have ms := hx s List.mem_cons_self
    have hx2 : ∀ t ∈ l, t ∈ xs := fun t mt => hx t (List.mem_cons_of_mem _ mt)
    unfold ringsF
    split
    · rename_i m
      obtain ⟨h1, h2, h3⟩ := ringsF_spec h hl hx2 c
      refine ⟨fun r mr => ?_, fun t mt => ?_, h3⟩
      · obtain ⟨t, mt, e⟩ := h1 r mr
        exact ⟨t, List.mem_cons_of_mem _ mt, e⟩
      · rcases List.mem_cons.mp mt with rfl | mt
        · exact .inl m
        · exact h2 t mt
    · rename_i m
      obtain ⟨h1, h2, h3⟩ := ringsF_spec h hl hx2 (c.add h hl ms)
      refine ⟨fun r mr => ?_, fun t mt => ?_, ?_⟩
      · rcases List.mem_cons.mp mr with rfl | mr
        · refine ⟨s, List.mem_cons_self, rfl, fun b mb hb => m ?_⟩
          exact c b (ring_in h hl ms b mb) hb s ((ring_same h hl ms mb s).mpr (ring_cyc h hl ms).2)
        · obtain ⟨t, mt, e, hn⟩ := h1 r mr
          exact ⟨t, List.mem_cons_of_mem _ mt, e, fun b mb hb => hn b mb (List.mem_append_left _ hb)⟩
      · rcases List.mem_cons.mp mt with rfl | mt
        · exact .inr ⟨_, List.mem_cons_self, (ring_cyc h hl ms).2⟩
        · rcases h2 t mt with w | ⟨r, mr, w⟩
          · rcases List.mem_append.mp w with w | w
            · exact .inl w
            · exact .inr ⟨_, List.mem_cons_self, w⟩
          · exact .inr ⟨r, List.mem_cons_of_mem _ mr, w⟩
      · rw [List.pairwise_cons]
        refine ⟨fun r mr a ma har => ?_, h3⟩
        obtain ⟨t, mt, e, hn⟩ := h1 r mr
        exact hn a har (List.mem_append_right _ ma)
theorem Clo.nil : Clo x xs [] := fun _ _ z => (nomatch z)
theorem ringsA_of (h : PermF xs x y) (hl : xs.length ≤ 16) {r : List Str} (mr : r ∈ ringsA x xs) : ∃ s ∈ xs, r = ringL x s := by
  obtain ⟨s, ms, e, _⟩ := (ringsF_spec h hl (fun s ms => mem_sortS.mp ms) Clo.nil).1 r mr
  exact ⟨s, mem_sortS.mp ms, e⟩
theorem ringsA_ex (h : PermF xs x y) (hl : xs.length ≤ 16) {a : Str} (ma : a ∈ xs) : ∃ r ∈ ringsA x xs, a ∈ r := by
  rcases (ringsF_spec h hl (l := sortS xs) (fun s ms => mem_sortS.mp ms) Clo.nil).2.1 a (mem_sortS.mpr ma) with w | w
  · cases w
  · exact w
theorem ringsA_pw (h : PermF xs x y) (hl : xs.length ≤ 16) : (ringsA x xs).Pairwise fun r t => ∀ a ∈ r, a ∉ t := (ringsF_spec h hl (fun s ms => mem_sortS.mp ms) Clo.nil).2.2
/-! ### even rings of four or more are split -/
def ev4 (r : List Str) : Bool := decide (4 ≤ r.length) && decide (r.length % 2 = 0)
def xr1 (i : Nat) : Nat := if i % 2 = 0 then i + 1 else i - 1
def splitR (r : List Str) (a : Str) : Str := r.getD (xr1 (r.idxOf a)) a
def plS (y : Str → Str) (r : List Str) : Str → Str := fun a => if ev4 r = true ∧ a ∈ r then splitR r a else y a
def plF (x : Str → Str) (xs : List Str) : Str → Str := (ringsA x xs).foldl plS x
theorem plS_fold_out : ∀ {rs : List (List Str)} {y : Str → Str} {a : Str}, (∀ r ∈ rs, a ∉ r) → (rs.foldl plS y) a = y a
  | [], _, _, _ => rfl
  | r :: rs, y, a, h => by
    rw [List.foldl_cons, plS_fold_out fun t mt => h t (List.mem_cons_of_mem _ mt)]
    unfold plS
    rw [if_neg fun z => h r List.mem_cons_self z.2]
theorem plS_fold_in : ∀ {rs : List (List Str)} {y : Str → Str} {a : Str} {r : List Str}, rs.Pairwise (fun r t => ∀ a ∈ r, a ∉ t) → r ∈ rs → a ∈ r → (rs.foldl plS y) a = if ev4 r = true then splitR r a else y a
  | [], _, _, _, _, h, _ => nomatch h
  | t :: rs, y, a, r, pw, mr, ma => by
    rw [List.pairwise_cons] at pw
    rw [List.foldl_cons]
    by_cases hat : a ∈ t
    · have e : r = t := by
        rcases List.mem_cons.mp mr with e | mr
        · exact e
        · exact absurd ma (pw.1 r mr a hat)
      subst e
      rw [plS_fold_out fun u mu => pw.1 u mu a ma]
      show (if ev4 r = true ∧ a ∈ r then splitR r a else y a) = _
      by_cases h4 : ev4 r = true
      · rw [if_pos ⟨h4, ma⟩, if_pos h4]
      · rw [if_neg (fun z => h4 z.1 : ¬ (ev4 r = true ∧ a ∈ r)), if_neg h4]
    · have mr : r ∈ rs := by
        rcases List.mem_cons.mp mr with e | mr
        · subst e; exact absurd ma hat
        · exact mr
      rw [plS_fold_in pw.2 mr ma]
      have e : plS y t a = y a := if_neg fun z => hat z.2
      rw [e]
theorem plF_at (h : PermF xs x y) (hl : xs.length ≤ 16) {a : Str} (ma : a ∈ xs) : ∃ s ∈ xs, a ∈ ringL x s ∧ plF x xs a = if ev4 (ringL x s) = true then splitR (ringL x s) a else x a := by
  obtain ⟨r, mr, har⟩ := ringsA_ex h hl ma
  obtain ⟨s, ms, rfl⟩ := ringsA_of h hl mr
  exact ⟨s, ms, har, plS_fold_in (ringsA_pw h hl) mr har⟩
/-- within a split ring: the next one or the one before, and back -/
theorem split_in (h : PermF xs x y) (hl : xs.length ≤ 16) {s a : Str} (ms : s ∈ xs) (ma : a ∈ ringL x s) (h4 : ev4 (ringL x s) = true) :
    splitR (ringL x s) a ∈ ringL x s ∧ splitR (ringL x s) (splitR (ringL x s) a) = a ∧ (splitR (ringL x s) a = x a ∨ splitR (ringL x s) a = y a) ∧ splitR (ringL x s) a ≠ a := by
  have o := ring_orb h hl ms
  obtain ⟨l4, l2⟩ := Bool.and_eq_true_iff.mp h4
  have l4 := of_decide_eq_true l4
  have l2 := of_decide_eq_true l2
  have hin := ring_in h hl ms
  generalize ringL x s = r at o ma l4 l2 hin
  have hi := get_idx ma
  have hil := List.idxOf_lt_length_of_mem ma
  have nxt : ∀ {i : Nat} {u v : Str}, r[i]? = some u → r[i + 1]? = some v → x u = v := fun {i u v} hu hv => by
    have l1 := (List.getElem?_eq_some_iff.mp hu).1
    have l2 := (List.getElem?_eq_some_iff.mp hv).1
    have e1 := o.at_ _ l1
    have e2 := o.at_ _ l2
    rw [hu] at e1
    rw [hv] at e2
    have e2 : some v = (itO (sO x) s i).bind (sO x) := e2
    rw [← e1] at e2
    exact (Option.some.inj e2).symm
  generalize hg : r.idxOf a = i at hi hil
  have key : ∀ {j : Nat} {u : Str}, r[j]? = some u → splitR r u = r.getD (xr1 j) u := fun {j u} hu => by
    unfold splitR
    obtain ⟨hj, e⟩ := List.getElem?_eq_some_iff.mp hu
    have : r.idxOf u = j := by rw [← e, o.nd.idxOf_getElem]
    rw [this]
  have gd : ∀ {j : Nat} {u v : Str}, r[j]? = some v → r.getD j u = v := fun {j u v} hv => by
    rw [List.getD_eq_getElem?_getD, hv]
    rfl
  by_cases hp : i % 2 = 0
  · have hj : i + 1 < r.length := by omega
    have hb : r[i + 1]? = some r[i + 1] := List.getElem?_eq_getElem hj
    have e1 : splitR r a = r[i + 1] := by rw [key hi, xr1, if_pos hp, gd hb]
    have e2 : splitR r r[i + 1] = a := by
      rw [key hb, xr1, if_neg (by omega), show i + 1 - 1 = i by omega, gd hi]
    rw [e1]
    refine ⟨List.getElem_mem _, e2, .inl (nxt hi hb).symm, fun z => ?_⟩
    rw [z] at hb
    have := nd_at o.nd hb hi
    omega
  · have hj : i - 1 < r.length := by omega
    have hb : r[i - 1]? = some r[i - 1] := List.getElem?_eq_getElem hj
    have e1 : splitR r a = r[i - 1] := by rw [key hi, xr1, if_neg hp, gd hb]
    have e2 : splitR r r[i - 1] = a := by
      rw [key hb, xr1, if_pos (by omega), gd (by rw [show i - 1 + 1 = i by omega]; exact hi)]
    have hxb : x r[i - 1] = a := nxt hb (by rw [show i - 1 + 1 = i by omega]; exact hi)
    rw [e1]
    refine ⟨List.getElem_mem _, e2, .inr ?_, fun z => ?_⟩
    · rw [← hxb, h.yx _ (hin _ (List.getElem_mem _))]
    · rw [z] at hb
      have := nd_at o.nd hb hi
      omega
end
/-- what stands in a plain half: as in the half, or two by two -/
theorem HalfF.plain {xs : List Str} {f : Str → List Str} {x y : Str → Str} (mu : Mut xs f) (h : HalfF xs f x y) : ∃ z', HalfF xs f (plF x xs) z' ∧ ∀ a ∈ xs, plF x xs (plF x xs a) = a ∨ (ringL (plF x xs) a).length % 2 = 1 := by
  have hl := mu.few
  have pm := h.pm
  let z := plF x xs
  let E : Str → Prop := fun a => ev4 (ringL x a) = true
  have evE : ∀ {s a : Str}, s ∈ xs → a ∈ ringL x s → ev4 (ringL x a) = ev4 (ringL x s) := fun {s a} ms ma => by
    unfold ev4
    rw [ring_lenEq pm hl ms ma]
  have hz : ∀ {a : Str}, a ∈ xs → (ev4 (ringL x a) = true ∧ z a ∈ xs ∧ ev4 (ringL x (z a)) = true ∧ z (z a) = a ∧ (z a = x a ∨ z a = y a) ∧ z a ≠ a) ∨ (ev4 (ringL x a) = false ∧ z a = x a) := fun {a} ma => by
    obtain ⟨s, ms, has, e⟩ := plF_at pm hl ma
    have he := evE ms has
    cases h4 : ev4 (ringL x s) with
    | false =>
      rw [h4, if_neg (by decide)] at e
      exact .inr ⟨by rw [he, h4], e⟩
    | true =>
      rw [h4, if_pos rfl] at e
      obtain ⟨q1, q2, q3, q4⟩ := split_in pm hl ms has h4
      have e0 : z a = splitR (ringL x s) a := e
      have mz : z a ∈ ringL x s := by rw [e0]; exact q1
      have mzx := ring_in pm hl ms _ mz
      obtain ⟨t, mt, hat, e'⟩ := plF_at pm hl mzx
      have : ev4 (ringL x t) = true := by rw [← evE mt hat, evE ms mz, h4]
      have hzz : z (z a) = splitR (ringL x s) (z a) := by
        obtain ⟨r, mr, har⟩ := ringsA_ex pm hl ma
        have e1 := plS_fold_in (y := x) (ringsA_pw pm hl) mr har
        obtain ⟨s', ms', rfl⟩ := ringsA_of pm hl mr
        have h4' : ev4 (ringL x s') = true := by rw [← evE ms' har, he, h4]
        obtain ⟨p1, p2, _, _⟩ := split_in pm hl ms' har h4'
        rw [if_pos h4'] at e1
        have e1 : z a = splitR (ringL x s') a := e1
        have e2 := plS_fold_in (y := x) (ringsA_pw pm hl) mr (show z a ∈ ringL x s' by rw [e1]; exact p1)
        rw [if_pos h4'] at e2
        have e2 : z (z a) = splitR (ringL x s') (z a) := e2
        rw [e2, e1, p2, ← e1, e0, q2]
      refine .inl ⟨by rw [he, h4], mzx, by rw [evE ms mz, h4], ?_, ?_, ?_⟩
      · rw [hzz, e0, q2]
      · rw [e0]; exact q3
      · rw [e0]; exact q4
  let z' : Str → Str := fun a => if ev4 (ringL x a) = true then z a else y a
  have zE : ∀ {a : Str}, ev4 (ringL x a) = true → z' a = z a := fun e => if_pos e
  have zO : ∀ {a : Str}, ev4 (ringL x a) = false → z' a = y a := fun e => if_neg (by rw [e]; decide)
  have evx : ∀ {a : Str}, a ∈ xs → ev4 (ringL x (x a)) = ev4 (ringL x a) := fun ma => evE ma (ring_nx pm hl ma (ring_cyc pm hl ma).2)
  have evy : ∀ {a : Str}, a ∈ xs → ev4 (ringL x (y a)) = ev4 (ringL x a) := fun ma => evE ma (ring_pv pm hl ma (ring_cyc pm hl ma).2)
  have better : ∀ {a b : Str}, a ∈ xs → (z' a = a ∨ (f a).idxOf b < (f a).idxOf (z' a)) → (y a = a ∨ (f a).idxOf b < (f a).idxOf (y a)) := fun {a b} ma hb => by
    rcases hz ma with ⟨e, _, _, _, q, ne⟩ | ⟨e, _⟩
    · rw [zE e] at hb
      rcases hb with hb | hb
      · exact absurd hb ne
      · rcases q with q | q
        · rw [q] at hb
          by_cases w : x a = y a
          · rw [w] at hb; exact .inr hb
          · exact .inr (Nat.lt_of_lt_of_le hb (h.ord a ma w))
        · rw [q] at hb; exact .inr hb
    · rw [zO e] at hb
      exact hb
  have pz : PermF xs z z' := by
    refine ⟨fun a ma => ?_, fun a ma => ?_, fun a ma => ?_, fun a ma => ?_⟩
    · rcases hz ma with ⟨_, m, _⟩ | ⟨_, e⟩
      · exact m
      · rw [e]
        exact pm.inx a ma
    · rcases hz ma with ⟨e, m, _⟩ | ⟨e, _⟩
      · rw [zE e]; exact m
      · rw [zO e]; exact pm.iny a ma
    · rcases hz ma with ⟨e, m, e2, zz, _⟩ | ⟨e, q⟩
      · rw [zE e2]
        exact zz
      · rw [q, zO (by rw [evx ma]; exact e), pm.yx a ma]
    · rcases hz ma with ⟨e, m, e2, zz, _⟩ | ⟨e, q⟩
      · rw [zE e]; exact zz
      · rw [zO e]
        rcases hz (pm.iny a ma) with ⟨e3, _⟩ | ⟨_, q3⟩
        · rw [evy ma, e] at e3; cases e3
        · rw [q3, pm.xy a ma]
  refine ⟨z', ⟨pz, fun a ma ne => ?_, fun a ma ne => ?_, fun a ma b mb h1 h2 => ?_⟩, fun a ma => ?_⟩
  · rcases hz ma with ⟨e, m, e2, zz, q, ne2⟩ | ⟨e, q⟩
    · show z a ∈ f a
      rcases q with q | q
      · rw [q] at ne2 ⊢
        exact h.op a ma ne2
      · rw [q] at ne2 ⊢
        have := h.op (y a) (pm.iny a ma) (by rw [pm.xy a ma]; exact Ne.symm ne2)
        rw [pm.xy a ma] at this
        exact (mu.fi (y a) (pm.iny a ma) a this).2
    · have ne : z a ≠ a := ne
      show z a ∈ f a
      rw [q] at ne ⊢
      exact h.op a ma ne
  · rcases hz ma with ⟨e, _⟩ | ⟨e, q⟩
    · exact absurd (zE e).symm ne
    · have ne : z a ≠ z' a := ne
      show (f a).idxOf (z a) ≤ (f a).idxOf (z' a)
      rw [q, zO e] at ne ⊢
      exact h.ord a ma ne
  · exact h.nq a ma b mb (better ma h1) (better (mu.fi a ma b mb).1 h2)
  · rcases hz ma with ⟨_, _, _, zz, _⟩ | ⟨e, q⟩
    · exact .inl zz
    · have hall : ∀ b ∈ ringL x a, z b = x b := fun b mb => by
        rcases hz (ring_in pm hl ma b mb) with ⟨e3, _⟩ | ⟨_, q3⟩
        · rw [evE ma mb, e] at e3; cases e3
        · exact q3
      have o := ring_orb pm hl ma
      have it : ∀ n, itO (sO z) a n = itO (sO x) a n := fun n => by
        induction n with
        | zero => rfl
        | succ n ih =>
          show (itO (sO z) a n).bind (sO z) = (itO (sO x) a n).bind (sO x)
          rw [ih]
          obtain ⟨b, mb, eb⟩ := pm.orb ma n
          rw [eb]
          show some (z b) = some (x b)
          have hb : b ∈ ringL x a := by
            have key : ∀ n, ∀ b, itO (sO x) a n = some b → b ∈ ringL x a := fun n => by
              induction n with
              | zero => intro b e; cases e; exact (ring_cyc pm hl ma).2
              | succ n ih =>
                intro b e
                obtain ⟨c, mc, ec⟩ := pm.orb ma n
                have e : (itO (sO x) a n).bind (sO x) = some b := e
                rw [ec] at e
                have e : some (x c) = some b := e
                rw [← Option.some.inj e]
                exact ring_nx pm hl ma (ih c ec)
            exact key n b eb
          rw [hall b hb]
      have oz : OrbI (sO z) a (ringL x a) (some a) := ⟨fun i hi => by rw [it]; exact o.at_ i hi, by rw [it]; exact o.nx, o.nd, o.ne⟩
      cases hev : decide ((ringL x a).length % 2 = 0) with
      | false =>
        have hodd : (ringL x a).length % 2 = 1 := by
          have := of_decide_eq_false hev
          omega
        have := oz.uniq (ring_orb pz hl ma)
        exact .inr (by show (ringL z a).length % 2 = 1; rw [← this]; exact hodd)
      | true =>
        have h2 : (ringL x a).length % 2 = 0 := of_decide_eq_true hev
        have hlt : (ringL x a).length < 4 := by
          refine Nat.lt_of_not_le fun z4 => ?_
          have : ev4 (ringL x a) = true := Bool.and_eq_true_iff.mpr ⟨decide_eq_true z4, hev⟩
          rw [e] at this
          cases this
        have hp := o.ne
        have e2 : (ringL x a).length = 2 := by omega
        left
        show z (z a) = a
        have h1 : itO (sO z) a 2 = some a := by rw [← e2]; exact oz.nx.symm
        exact Option.some.inj h1
end Q

set_option Elab.async false
set_option linter.all false
set_option maxRecDepth 100000
set_option maxHeartbeats 4000000
namespace Q
open PySem PySem.Spec PyProof.Rows L2
/-! ### the seats as functions: asking, passing on, the half that is found -/
structure AskS where
  A : OF
  H : OF
  n : Str → Nat
  free : List Str
def AskS.Ok (xs : List Str) (f : Str → List Str) (s : AskS) : Prop := AskI xs f s.A s.H s.n s.free
/-! ### passing on -/
end Q

set_option Elab.async false
set_option linter.all false
set_option maxRecDepth 100000
set_option maxHeartbeats 4000000
namespace Q
open PySem PySem.Spec PyProof.Rows L2
/-! ### dicts with told keys; while -/
/-! ### the first one behind who would take a -/
/-! ### a cycle from somebody on -/
end Q

set_option Elab.async false
set_option linter.all false
set_option maxRecDepth 100000
set_option maxHeartbeats 4000000
namespace Q
open PySem PySem.Spec PyProof.Rows L2
/-! ### walks over a dict: a comprehension; a dict that is locked already -/
/-! ### is everybody in order -/
end Q

set_option Elab.async false
set_option linter.all false
set_option maxRecDepth 100000
set_option maxHeartbeats 4000000
namespace Q
open PySem PySem.Spec PyProof.Rows L2
/-! ### all ask until nobody asks any more -/
end Q

set_option Elab.async false
set_option linter.all false
set_option maxRecDepth 100000
set_option maxHeartbeats 4000000
namespace Q
open PySem PySem.Spec PyProof.Rows L2
/-! ### one cycle is passed on -/
end Q

set_option Elab.async false
set_option linter.all false
set_option maxRecDepth 100000
set_option maxHeartbeats 4000000
namespace Q
open PySem PySem.Spec PyProof.Rows L2
/-! ### rings, plain halves, the half that is found -/
end Q

set_option Elab.async false
set_option linter.all false
set_option maxRecDepth 100000
set_option maxHeartbeats 4000000
namespace Q
open PySem PySem.Spec PyProof.Rows L2
/-! ### even rings are split -/
end Q

set_option Elab.async false
set_option linter.all false
set_option maxRecDepth 100000
set_option maxHeartbeats 4000000
namespace Q
open PySem PySem.Spec PyProof.Rows L2
/-! ### the half that is found -/
/-! ### a calm dealing, or none -/
end Q

set_option Elab.async false
set_option linter.all false
set_option maxRecDepth 100000
set_option maxHeartbeats 4000000
namespace Q
open PySem PySem.Spec PyProof.Rows L2
/-! ### values that may be halves: plain facts -/
theorem perm_of_len {α : Type} [DecidableEq α] : ∀ {l l' : List α}, l.Nodup → (∀ x ∈ l, x ∈ l') → l'.length = l.length → l.Perm l'
  | [], l', _, _, h => by
    have : l' = [] := List.length_eq_zero_iff.mp h
    rw [this]
  | x :: r, l', nd, hin, h => by
    rw [List.nodup_cons] at nd
    have mx := hin x List.mem_cons_self
    have ih : r.Perm (l'.erase x) := perm_of_len nd.2 (fun y my => (List.mem_erase_of_ne fun (e : y = x) => nd.1 (by rw [← e]; exact my)).mpr (hin y (List.mem_cons_of_mem _ my))) (by
      rw [List.length_erase_of_mem mx, h, List.length_cons]
      omega)
    exact (ih.cons x).trans (List.perm_cons_erase mx).symm
def valS (d : D) (a : Str) : Str := match vald d a with
  | .str b => b
  | _ => ""
structure HasF (xs : List Str) (d : D) : Prop where
  sk : sameKeys d xs = true
  st : ∀ a ∈ xs, vald d a = .str (valS d a) ∧ valS d a ∈ xs
  nd : (xs.map (valS d)).Nodup
/-- the one before -/
def befF (xs : List Str) (x : Str → Str) (b : Str) : Str := (xs.find? fun a => decide (x a = b)).getD b
theorem permF_of {xs : List Str} {x : Str → Str} (nd : xs.Nodup) (hin : ∀ a ∈ xs, x a ∈ xs) (ndx : (xs.map x).Nodup) : PermF xs x (befF xs x) := by
  have inj : ∀ {a b : Str}, a ∈ xs → b ∈ xs → x a = x b → a = b := fun {a b} ma mb e => by
    obtain ⟨i, hi⟩ := List.mem_iff_getElem?.mp ma
    obtain ⟨j, hj⟩ := List.mem_iff_getElem?.mp mb
    have h1 : (xs.map x)[i]? = some (x a) := by rw [List.getElem?_map, hi]; rfl
    have h2 : (xs.map x)[j]? = some (x a) := by rw [List.getElem?_map, hj, e]; rfl
    have := nd_at ndx h1 h2
    subst this
    rw [hi] at hj
    exact Option.some.inj hj
  have fnd : ∀ {a : Str}, a ∈ xs → befF xs x (x a) = a := fun {a} ma => by
    unfold befF
    cases e : xs.find? fun c => decide (x c = x a) with
    | none =>
      have := List.find?_eq_none.mp e a ma
      rw [decide_eq_true rfl] at this
      exact absurd rfl this
    | some c =>
      have h0 := List.find?_some e
      have h1 := of_decide_eq_true h0
      exact inj (List.mem_of_find?_eq_some e) ma h1
  have pe := perm_of_len ndx (fun y my => by
    obtain ⟨a, ma, rfl⟩ := List.mem_map.mp my
    exact hin a ma) (List.length_map _).symm
  have sur : ∀ b ∈ xs, ∃ a ∈ xs, x a = b := fun b mb => by
    obtain ⟨a, ma, e⟩ := List.mem_map.mp (pe.mem_iff.mpr mb)
    exact ⟨a, ma, e⟩
  refine ⟨hin, fun b mb => ?_, fun a ma => fnd ma, fun b mb => ?_⟩
  · obtain ⟨a, ma, rfl⟩ := sur b mb
    rw [fnd ma]
    exact ma
  · obtain ⟨a, ma, rfl⟩ := sur b mb
    rw [fnd ma]
theorem HasF.perm {xs : List Str} {d : D} (nd : xs.Nodup) (h : HasF xs d) : PermF xs (valS d) (befF xs (valS d)) := permF_of nd (fun a ma => (h.st a ma).2) h.nd
/-! ### dicts of next ones -/
end Q

set_option Elab.async false
set_option linter.all false
set_option maxRecDepth 100000
set_option maxHeartbeats 4000000
namespace Q
open PySem PySem.Spec PyProof.Rows L2
/-! ### is it a half, by the law -/
end Q

set_option Elab.async false
set_option linter.all false
set_option maxRecDepth 100000
set_option maxHeartbeats 4000000
namespace Q
open PySem PySem.Spec PyProof.Rows L2
/-! ### keys of tuples -/
def keyOf (B : Hp) (v : V) : List Str := match v with
  | .ref t => (match B t with
    | some (.tup xs) => xs.map fun | .str x => x | _ => ""
    | _ => [])
  | _ => []
theorem keyOf_eq {B : Hp} {t : Addr} {k : List Str} (h : B t = some (.tup (k.map V.str))) : keyOf B (.ref t) = k := by
  simp only [keyOf, h, List.map_map]
  have : ((fun | V.str x => x | _ => "") ∘ V.str : Str → Str) = id := rfl
  rw [this, List.map_id]
theorem TRs.keys {B : Hp} : ∀ {vs : List V} {ks : List (List Str)}, TRs B vs ks → vs.map (keyOf B) = ks
  | _, _, .nil => rfl
  | _, _, .cons h r => by rw [List.map_cons, keyOf_eq h, TRs.keys r]
theorem TRs.of {B : Hp} : ∀ {vs : List V}, (∀ v ∈ vs, ∃ t, v = .ref t ∧ B t = some (.tup ((keyOf B v).map V.str))) → TRs B vs (vs.map (keyOf B))
  | [], _ => .nil
  | v :: r, h => by
    obtain ⟨t, rfl, e⟩ := h v List.mem_cons_self
    rw [List.map_cons]
    exact .cons e (TRs.of fun u m => h u (List.mem_cons_of_mem _ m))
/-! ### rings and lots, by the law -/
section
variable {xs : List Str} {x y : Str → Str}
end
end Q

set_option Elab.async false
set_option linter.all false
set_option maxRecDepth 100000
set_option maxHeartbeats 4000000
namespace Q
open PySem PySem.Spec PyProof.Rows L2
/-! ### lots -/
/-! ### what follows for plain halves -/
end Q

set_option Elab.async false
set_option linter.all false
set_option maxRecDepth 100000
set_option maxHeartbeats 4000000
namespace Q
open PySem PySem.Spec PyProof.Rows L2
/-! ### halves of a group; dealings that are halves -/
theorem PermF.few {xs : List Str} {x y : Str → Str} (h : PermF xs x y) {f : Str → List Str} (mu : Mut xs f) : ∀ a ∈ xs, (x a).length ≤ 1000000 := fun a ma => okName_len (mu.nm _ (h.inx a ma))
end Q

set_option Elab.async false
set_option linter.all false
set_option maxRecDepth 100000
set_option maxHeartbeats 4000000
namespace Q
open PySem PySem.Spec PyProof.Rows L2
/-! ### halves by the program: has_form, fault, is_half -/
theorem all_find {α : Type} {l : List α} {p : α → Bool} : l.all p = true ↔ l.find? (fun a => !p a) = none := by
  rw [List.all_eq_true, List.find?_eq_none]
  exact ⟨fun h a ma z => (by rw [h a ma] at z; cases z), fun h a ma => by
    have := h a ma
    cases e : p a with
    | true => rfl
    | false => rw [e] at this; exact absurd rfl this⟩
end Q

set_option Elab.async false
set_option linter.all false
set_option maxRecDepth 100000
set_option maxHeartbeats 4000000
namespace Q
open PySem PySem.Spec PyProof.Rows L2
/-! ### all halves have the same odd lots -/
def rkA (f : Str → List Str) (a b : Str) : Nat := if b = a then 1000 else (f a).idxOf b
section
variable {xs : List Str} {f : Str → List Str} {x y x' y' : Str → Str}
theorem PermF.symm (h : PermF xs x y) : PermF xs y x := ⟨h.iny, h.inx, h.xy, h.yx⟩
theorem HalfF.opy (mu : Mut xs f) (h : HalfF xs f x y) {a : Str} (ma : a ∈ xs) (ne : y a ≠ a) : y a ∈ f a := by
  have := h.op (y a) (h.pm.iny a ma) (by rw [h.pm.xy a ma]; exact Ne.symm ne)
  rw [h.pm.xy a ma] at this
  exact (mu.fi (y a) (h.pm.iny a ma) a this).2
theorem rk_idx (mu : Mut xs f) {a b : Str} (ma : a ∈ xs) (mb : b ∈ f a) : rkA f a b = (f a).idxOf b := by
  unfold rkA
  rw [if_neg fun e => mu.fs a ma (by rw [e] at mb; exact mb)]
theorem HalfF.iny' (mu : Mut xs f) (h : HalfF xs f x y) {a : Str} (ma : a ∈ xs) : y a = a ∨ y a ∈ f a := by
  by_cases e : y a = a
  · exact .inl e
  · exact .inr (h.opy mu ma e)
theorem HalfF.le (mu : Mut xs f) (h : HalfF xs f x y) {a : Str} (ma : a ∈ xs) : rkA f a (x a) ≤ rkA f a (y a) := by
  by_cases e : x a = y a
  · rw [e]; exact Nat.le_refl _
  · have hx : x a ≠ a := fun w => e (by
      have := h.pm.yx a ma
      rw [w] at this
      rw [w, this])
    have hy : y a ≠ a := fun w => e (by
      have := h.pm.xy a ma
      rw [w] at this
      rw [w, this])
    rw [rk_idx mu ma (h.op a ma hx), rk_idx mu ma (h.opy mu ma hy)]
    exact h.ord a ma e
theorem HalfF.no (mu : Mut xs f) (h : HalfF xs f x y) {a b : Str} (ma : a ∈ xs) (mb : b ∈ f a) (h1 : rkA f a b < rkA f a (y a)) : rkA f b (y b) ≤ rkA f b a := by
  obtain ⟨mbx, mab⟩ := mu.fi a ma b mb
  refine Nat.le_of_not_lt fun h2 => ?_
  have key : ∀ {a b : Str}, a ∈ xs → b ∈ f a → rkA f a b < rkA f a (y a) → (y a = a ∨ (f a).idxOf b < (f a).idxOf (y a)) := fun {a b} ma mb hl => by
    rcases h.iny' mu ma with e | e
    · exact .inl e
    · rw [rk_idx mu ma mb, rk_idx mu ma e] at hl
      exact .inr hl
  exact h.nq a ma b mb (key ma mb h1) (key mbx mab h2)
end
end Q

set_option Elab.async false
set_option linter.all false
set_option maxRecDepth 100000
set_option maxHeartbeats 4000000
namespace Q
open PySem PySem.Spec PyProof.Rows L2
/-! ### the half of a dealing -/
theorem oG_none {m : OF} {a : Str} (h : m a = none) : oG m a = a := by unfold oG; rw [h]; rfl
theorem oG_some {m : OF} {a b : Str} (h : m a = some b) : oG m a = b := by unfold oG; rw [h]; rfl
theorem Deal.perm {xs : List Str} {f : Str → List Str} {d : D} (dl : Deal xs f d) (mu : Mut xs f) : PermF xs (oG (part d)) (oG (part d)) := by
  have two : ∀ a ∈ xs, oG (part d) a ∈ xs ∧ oG (part d) (oG (part d) a) = a := fun a ma => by
    cases e : part d a with
    | none => rw [oG_none e]; exact ⟨ma, oG_none e⟩
    | some b =>
      have mt := dl.mate ma e
      rw [oG_some e]
      exact ⟨(mu.fi a ma b mt.1).1, oG_some mt.2⟩
  exact ⟨fun a ma => (two a ma).1, fun a ma => (two a ma).1, fun a ma => (two a ma).2, fun a ma => (two a ma).2⟩
end Q

set_option Elab.async false
set_option linter.all false
set_option maxRecDepth 100000
set_option maxHeartbeats 4000000
namespace Q
open PySem PySem.Spec PyProof.Rows L2
/-! ### calm dealings and halves -/
/-! ### those who stay -/
end Q

set_option Elab.async false
set_option linter.all false
set_option maxRecDepth 100000
set_option maxHeartbeats 4000000
namespace Q
open PySem PySem.Spec PyProof.Rows L2
/-! ### k40 to k49: groups with odd rings, those who stay -/
end Q

set_option Elab.async false
set_option linter.all false
set_option maxRecDepth 100000
set_option maxHeartbeats 4000000
namespace Q
open PySem PySem.Spec PyProof.Rows L2
/-! ### lots, odd, alone -/
end Q

set_option Elab.async false
set_option linter.all false
set_option maxRecDepth 100000
set_option maxHeartbeats 4000000
namespace Q
open PySem PySem.Spec PyProof.Rows L2
/-! ### a dict in a list of dicts, by == -/
section
open PySem.SeqAt
open AutoSeq1 (wpAny_loadPart')
open MeetsSeq MeetsSeq2 MeetsSeq3 SeqRoads2
variable {prog : Program} {w : World}
end
section
variable {X : Cx} {pins : List (Addr × Obj)} {σ : L2.St} {H : Hp} {s : Shared}
end
end Q

set_option Elab.async false
set_option linter.all false
set_option maxRecDepth 100000
set_option maxHeartbeats 4000000
namespace Q
open PySem PySem.Spec PyProof.Rows L2
/-! ### the lots of a calm dealing -/
/-- a search's dealing -/
theorem RepM.deal {xs ks : List Str} {op : Str → List Str} {ds : List (Key × D)} {m : PM} (rm : RepM ds m) (ok : PMOk xs op m) (fl : FullP xs m) (mu : Mut xs op) (hk : ds.map (·.1) = ks.map Sum.inr) (pe : ks.Perm xs) : Deal xs op (.dct ds) := by
  have hv : ∀ {a : Str} {v : Option Str}, m a = some v → vald (.dct ds) a = optD v := fun {a v} e => vald_of (by rw [rm a, e]; rfl)
  refine ⟨?_, fun a ma => ?_⟩
  · unfold sameKeys
    dsimp only
    have := congrArg List.length hk
    rw [List.length_map, List.length_map] at this
    rw [decide_eq_true (by rw [this, pe.length_eq]), Bool.true_and, List.all_eq_true]
    intro a ma
    obtain ⟨v, e⟩ := fl a ma
    rw [rm a, e]
    rfl
  · obtain ⟨v, e⟩ := fl a ma
    rw [hv e]
    cases v with
    | none => exact .inl rfl
    | some b =>
      obtain ⟨z1, z2⟩ := ok.mu2 a b e
      exact .inr ⟨b, rfl, z1, hv z2⟩
theorem RepM.calm {xs ks : List Str} {op : Str → List Str} {ds : List (Key × D)} {m : PM} (rm : RepM ds m) (mm : m ∈ calms xs op) (mu : Mut xs op) (hk : ds.map (·.1) = ks.map Sum.inr) (pe : ks.Perm xs) : isCalm xs op (.dct ds) = true := by
  obtain ⟨ok, fl, hc⟩ := calms_mem mu mm
  unfold isCalm
  rw [isDeal_true.mpr (rm.deal ok fl mu hk pe), quars_calm mu rm ok fl, hc]
  rfl
end Q

set_option Elab.async false
set_option linter.all false
set_option maxRecDepth 100000
set_option maxHeartbeats 4000000
namespace Q
open PySem PySem.Spec PyProof.Rows L2
/-! ### who leaves: one of each odd ring -/
section
variable {xs : List Str} {z z' : Str → Str}
end
end Q

set_option Elab.async false
set_option linter.all false
set_option maxRecDepth 100000
set_option maxHeartbeats 4000000
namespace Q
open PySem PySem.Spec PyProof.Rows L2
/-! ### x is not True (of a bool) -/
end Q

set_option Elab.async false
set_option linter.all false
set_option maxRecDepth 100000
set_option maxHeartbeats 4000000
namespace Q
open PySem PySem.Spec PyProof.Rows L2
/-! ### the dict of open people stands still -/
end Q

set_option Elab.async false
set_option linter.all false
set_option maxRecDepth 100000
set_option maxHeartbeats 4000000
namespace Q
open PySem PySem.Spec PyProof.Rows L2
/-! ### some of the odd rings lose one: the half of the rest -/
section
variable {xs C : List Str} {f : Str → List Str} {z z' : Str → Str}
end
end Q

set_option Elab.async false
set_option linter.all false
set_option maxRecDepth 100000
set_option maxHeartbeats 4000000
namespace Q
open PySem PySem.Spec PyProof.Rows L2
/-! ### some of the odd lots are kept -/
theorem notin_takeL {α : Type} {l : List α} {i : Nat} {x : α} (nd : l.Nodup) (h : l[i]? = some x) : x ∉ l.take i := fun m => by
  obtain ⟨j, hj, e⟩ := List.mem_take_iff_getElem.mp m
  obtain ⟨hi, e2⟩ := List.getElem?_eq_some_iff.mp h
  have := (List.nodup_iff_pairwise_ne.mp nd)
  have := List.pairwise_iff_getElem.mp this j i (by omega) hi (by omega)
  exact this (by rw [e, e2])
def keepB (C : List Str) (l : List Str) : Bool := C.all fun c => !decide (c ∈ l)
theorem keepB_true {C l : List Str} : keepB C l = true ↔ ∀ c ∈ C, c ∉ l := by
  unfold keepB
  rw [List.all_eq_true]
  exact ⟨fun h c mc m => (by have := h c mc; rw [decide_eq_true m] at this; cases this), fun h c mc => by rw [decide_eq_false (h c mc)]; rfl⟩
/-- what was chosen of the first lots -/
structure Chosen (ls : List (List Str)) (j : Nat) (C : List Str) (kept : List (List Str)) : Prop where
  of : ∀ c ∈ C, ∃ l ∈ ls.take j, c ∈ l
  kp : kept = (ls.take j).filter (keepB C)
  nd : C.Nodup
  one : ∀ c ∈ C, ∀ d ∈ C, ∀ l ∈ ls, c ∈ l → d ∈ l → d = c
theorem Chosen.nil {ls : List (List Str)} : Chosen ls 0 [] [] := ⟨fun _ z => (nomatch z), rfl, List.nodup_nil, fun _ z => (nomatch z)⟩
section
variable {ls : List (List Str)} {j : Nat} {C : List Str} {kept : List (List Str)} {l : List Str}
theorem Chosen.fresh (h : Chosen ls j C kept) (hd : ∀ l ∈ ls, ∀ k ∈ ls, ∀ c, c ∈ l → c ∈ k → l = k) (nd : ls.Nodup) (hl : ls[j]? = some l) : ∀ c ∈ C, c ∉ l := fun c mc m => by
  obtain ⟨k, mk, hk⟩ := h.of c mc
  have e := hd k (List.mem_of_mem_take mk) l (List.mem_of_getElem? hl) c hk m
  rw [e] at mk
  exact notin_takeL nd hl mk
theorem Chosen.keep (h : Chosen ls j C kept) (hd : ∀ l ∈ ls, ∀ k ∈ ls, ∀ c, c ∈ l → c ∈ k → l = k) (nd : ls.Nodup) (hl : ls[j]? = some l) : Chosen ls (j + 1) C (kept ++ [l]) := by
  refine ⟨fun c mc => ?_, ?_, h.nd, h.one⟩
  · obtain ⟨k, mk, hk⟩ := h.of c mc
    exact ⟨k, by rw [take_snoc hl]; exact List.mem_append_left _ mk, hk⟩
  · rw [take_snoc hl, List.filter_append, ← h.kp, List.filter_cons_of_pos (keepB_true.mpr (h.fresh hd nd hl))]
    rfl
theorem Chosen.drop (h : Chosen ls j C kept) (hd : ∀ l ∈ ls, ∀ k ∈ ls, ∀ c, c ∈ l → c ∈ k → l = k) (nd : ls.Nodup) (hl : ls[j]? = some l) {a : Str} (ma : a ∈ l) : Chosen ls (j + 1) (C ++ [a]) kept := by
  have fr := h.fresh hd nd hl
  have ml := List.mem_of_getElem? hl
  refine ⟨fun c mc => ?_, ?_, ?_, fun c mc d md k mk h1 h2 => ?_⟩
  · rw [take_snoc hl]
    rcases List.mem_append.mp mc with mc | mc
    · obtain ⟨k, mk, hk⟩ := h.of c mc
      exact ⟨k, List.mem_append_left _ mk, hk⟩
    · rw [List.mem_singleton.mp mc]
      exact ⟨l, by simp, ma⟩
  · rw [take_snoc hl, List.filter_append, List.filter_cons_of_neg (fun w => keepB_true.mp w a (by simp) ma), List.filter_nil, List.append_nil, h.kp]
    refine List.filter_congr fun k mk => ?_
    rw [Bool.eq_iff_iff, keepB_true, keepB_true]
    refine ⟨fun w c mc => ?_, fun w c mc => w c (List.mem_append_left _ mc)⟩
    rcases List.mem_append.mp mc with mc | mc
    · exact w c mc
    · intro m
      rw [List.mem_singleton.mp mc] at m
      have e := hd k (List.mem_of_mem_take mk) l ml a m ma
      rw [e] at mk
      exact notin_takeL nd hl mk
  · rw [List.nodup_append]
    exact ⟨h.nd, by simp, fun c mc d md e => fr c mc (by rw [e, List.mem_singleton.mp md]; exact ma)⟩
  · rcases List.mem_append.mp mc with mc | mc
    · rcases List.mem_append.mp md with md | md
      · exact h.one c mc d md k mk h1 h2
      · rw [List.mem_singleton.mp md] at h2
        have e := hd k mk l ml a h2 ma
        rw [e] at h1
        exact absurd h1 (fr c mc)
    · have ec := List.mem_singleton.mp mc
      rw [ec] at h1 ⊢
      have e := hd k mk l ml a h1 ma
      rcases List.mem_append.mp md with md | md
      · rw [e] at h2
        exact absurd h2 (fr d md)
      · exact List.mem_singleton.mp md
end
section
variable {xs : List Str} {f : Str → List Str} {z z' : Str → Str} {C D : List Str} {kept : List (List Str)}
end
end Q

set_option Elab.async false
set_option linter.all false
set_option maxRecDepth 100000
set_option maxHeartbeats 4000000
namespace Q
open PySem PySem.Spec PyProof.Rows L2
/-! ### one of each odd lot leaves: everybody else is dealt -/
section
variable {xs : List Str} {f : Str → List Str} {z z' : Str → Str}
end
section
variable {xs : List Str} {f : Str → List Str} {z z' zr zr' : Str → Str}
end
end Q

set_option Elab.async false
set_option linter.all false
set_option maxRecDepth 100000
set_option maxHeartbeats 4000000
namespace Q
open PySem PySem.Spec PyProof.Rows L2
/-! ### when one person leaves, the odd lots change by one lot -/
section
variable {xs : List Str} {f : Str → List Str} {z z' w w' : Str → Str}
/-- one lot goes or comes -/
def OneLot (L M : List (List Str)) : Prop := (∃ l ∈ L, M = L.filter fun k => !decide (k = l)) ∨ (∃ l ∈ M, L = M.filter fun k => !decide (k = l))
theorem OneLot.symm {L M : List (List Str)} (h : OneLot L M) : OneLot M L := Or.symm h
end
end Q

set_option Elab.async false
set_option linter.all false
set_option maxRecDepth 100000
set_option maxHeartbeats 4000000
namespace Q
open PySem PySem.Spec PyProof.Rows L2
/-! ### x not in a list, by == of nested data -/
end Q

set_option Elab.async false
set_option linter.all false
set_option maxRecDepth 100000
set_option maxHeartbeats 4000000
namespace Q
open PySem PySem.Spec PyProof.Rows L2
/-! ### difference, change, changes -/
theorem OneLot.ex {L M : List (List Str)} (h : OneLot L M) (hall : ∀ l ∈ L, l ∈ M) : ∃ l ∈ M, l ∉ L := by
  rcases h with ⟨l, ml, e⟩ | ⟨l, ml, e⟩
  · have := hall l ml
    rw [e] at this
    have := (List.mem_filter.mp this).2
    simp at this
  · refine ⟨l, ml, fun m => ?_⟩
    rw [e] at m
    have := (List.mem_filter.mp m).2
    simp at this
end Q

set_option Elab.async false
set_option linter.all false
set_option maxRecDepth 100000
set_option maxHeartbeats 4000000
namespace Q
open PySem PySem.Spec PyProof.Rows L2
/-! ### what is the same as itself -/
end Q

set_option Elab.async false
set_option linter.all false
set_option maxRecDepth 100000
set_option maxHeartbeats 4000000
namespace Q
open PySem PySem.Spec PyProof.Rows L2
/-! ### the law's own comparison, where a group may stand in it -/
end Q

set_option Elab.async false
set_option linter.all false
set_option maxRecDepth 100000
set_option maxHeartbeats 4000000
namespace Q
open PySem PySem.Spec PyProof.Rows L2
/-! ### isinstance of a caught error, with or without fields -/
end Q

set_option Elab.async false
set_option linter.all false
set_option maxRecDepth 100000
set_option maxHeartbeats 4000000
namespace Q
open PySem PySem.Spec PyProof.Rows L2
end Q

set_option Elab.async false
set_option linter.all false
set_option maxRecDepth 100000
set_option maxHeartbeats 4000000
namespace Q
open PySem PySem.Spec PyProof.Rows L2
/-! ### a def called with keywords, or without those that have a default -/
section
variable {X : Cx} {k j n : Nat} {x : Str} {ps ks : List Str} {dvs : List V} {sp : Sp} {W : WX} {p pos : Pos} {e : Expr} {es : List Expr} {kws : List Keyword} {t tq : TA}
end
section
variable {K : PySem.W.Frag} {σ : L2.St} {H : Hp} {Q : VK} {tl tq : TA} {W : WX} {n j : Nat} {sp : Sp} {dvs : List V}
end
end Q

set_option Elab.async false
set_option linter.all false
set_option maxRecDepth 100000
set_option maxHeartbeats 4000000
namespace Q
open PySem PySem.Spec PyProof.Rows L2
/-! ### live groups -/
section
variable {S : List Addr} {B0 H0 B H B' H' : Hp} {M N N' L : List (Addr × HO)}
theorem HS.ownL (hN : ∀ q ∈ N, B q.1 = none ∧ H q.1 = some q.2) (nd : (N.map (·.1)).Nodup) (c : HS [] B H B' H' L) : HS (N.map (·.1)) B H B' H' (N ++ L) := by
  refine ⟨c.bb, c.bh, fun b u _ n2 e => c.fr b u (by simp) n2 e, fun q m => ?_, ?_⟩
  · rcases List.mem_append.mp m with m | m
    · obtain ⟨h1, h2⟩ := hN q m
      obtain ⟨h3, h4⟩ := c.fr q.1 q.2 (by simp) h1 h2
      exact ⟨h3, h4, .inr (List.mem_map.mpr ⟨q, m, rfl⟩)⟩
    · obtain ⟨x, y, z⟩ := c.mu q m
      exact ⟨x, y, .inl (z.resolve_right (by simp))⟩
  · rw [List.map_append, List.nodup_append]
    refine ⟨nd, c.nd, fun a ha b hb e => ?_⟩
    obtain ⟨q, mq, rfl⟩ := List.mem_map.mp ha
    obtain ⟨r, mr, rfl⟩ := List.mem_map.mp hb
    have z := (c.mu r mr).2.2.resolve_right (by simp)
    rw [← e, (hN q mq).2] at z
    cases z
end
def rf (nw pa kn : Addr) : List (Str × V) := [("now", .ref nw), ("past", .ref pa), ("known", .ref kn)]
/-- what of a round may change -/
def rM (K : PySem.W.Frag) (p dx nw pa kn : Addr) (ps : List V) : List (Addr × HO) := [(p, .ins (He.ga K "Round") dx (rf nw pa kn)), (pa, .lst ps)]
structure RSt (K : PySem.W.Frag) (B H : Hp) (p dx nw pa kn : Addr) (ps : List V) : Prop where
  b1 : B p = none
  h1 : H p = some (.ins (He.ga K "Round") dx (rf nw pa kn))
  b2 : B pa = none
  h2 : H pa = some (.lst ps)
  ne : p ≠ pa
theorem RSt.start {K : PySem.W.Frag} {B H B' H' : Hp} {L : List (Addr × HO)} {p dx nw pa kn : Addr} {ps : List V} (r : RSt K B H p dx nw pa kn ps) (c : HS [] B H B' H' L) : HS [p, pa] B H B' H' (rM K p dx nw pa kn ps ++ L) :=
  HS.ownL (N := rM K p dx nw pa kn ps) (fun q m => by
    simp only [rM, List.mem_cons, List.not_mem_nil, or_false] at m
    rcases m with rfl | rfl
    · exact ⟨r.b1, r.h1⟩
    · exact ⟨r.b2, r.h2⟩) (by simp [rM, r.ne]) c
theorem HS.rst {K : PySem.W.Frag} {S : List Addr} {B0 H0 B H : Hp} {M : List (Addr × HO)} {p dx nw pa kn : Addr} {ps : List V} (h : HS S B0 H0 B H (rM K p dx nw pa kn ps ++ M)) : RSt K B H p dx nw pa kn ps := by
  have h1 := h.mu (p, .ins (He.ga K "Round") dx (rf nw pa kn)) (by simp [rM])
  have h2 := h.mu (pa, .lst ps) (by simp [rM])
  have nd := h.nd
  simp only [rM, List.cons_append, List.nil_append, List.map_cons, List.nodup_cons, List.mem_cons, not_or] at nd
  exact ⟨h1.1, h1.2.1, h2.1, h2.2.1, nd.1.1⟩
/-- what the groups of a round are -/
def GRs (K : PySem.W.Frag) (B : Hp) (ps : List V) (Gs : List Grp) : Prop := ps.length = Gs.length ∧ ∀ (j : Nat) (v : V), ps[j]? = some v → ∃ t G, v = .ref t ∧ Gs[j]? = some G ∧ GAt K B t G
theorem GRs.mono {K : PySem.W.Frag} {B B' : Hp} {ps : List V} {Gs : List Grp} (s : Same B B') (h : GRs K B ps Gs) : GRs K B' ps Gs := ⟨h.1, fun j v e => by
  obtain ⟨t, G, h1, h2, h3⟩ := h.2 j v e
  exact ⟨t, G, h1, h2, h3.mono s⟩⟩
theorem GRs.nil {K : PySem.W.Frag} {B : Hp} : GRs K B [] [] := ⟨rfl, fun j v e => by cases j <;> cases e⟩
theorem GRs.snoc {K : PySem.W.Frag} {B : Hp} {ps : List V} {Gs : List Grp} {t : Addr} {G : Grp} (h : GRs K B ps Gs) (g : GAt K B t G) : GRs K B (ps ++ [.ref t]) (Gs ++ [G]) := by
  obtain ⟨hl, ha⟩ := h
  refine ⟨by rw [List.length_append, List.length_append, hl]; rfl, fun j v hv => ?_⟩
  by_cases q : j < ps.length
  · rw [List.getElem?_append_left q] at hv
    obtain ⟨t', G', h1, h2, h3⟩ := ha j v hv
    exact ⟨t', G', h1, by rw [List.getElem?_append_left (by omega)]; exact h2, h3⟩
  · have hj := (List.getElem?_eq_some_iff.mp hv).1
    rw [List.length_append, List.length_singleton] at hj
    have : j = ps.length := by omega
    subst this
    rw [List.getElem?_append_right (Nat.le_refl _), Nat.sub_self] at hv
    have hv : V.ref t = v := Option.some.inj hv
    exact ⟨t, G, hv.symm, by rw [List.getElem?_append_right (by omega), hl, Nat.sub_self]; rfl, g⟩
/-- the odd lots that a round remembers -/
def KnAt (B : Hp) (kn : Addr) (L : List (List Str)) : Prop := ∃ rows, B kn = some (.lst rows) ∧ TRs B rows L
theorem KnAt.mono {B B' : Hp} {kn : Addr} {L : List (List Str)} (s : Same B B') (h : KnAt B kn L) : KnAt B' kn L := let ⟨r, h1, h2⟩ := h; ⟨r, s _ _ h1, h2.mono s⟩
end Q

set_option Elab.async false
set_option linter.all false
set_option maxRecDepth 100000
set_option maxHeartbeats 4000000
namespace Q
open PySem PySem.Spec PyProof.Rows L2
/-! ### the deeds and the questions of a round -/
theorem RSt.keep {K : PySem.W.Frag} {B H B' H' : Hp} {L : List (Addr × HO)} {p dx nw pa kn : Addr} {ps : List V} (r : RSt K B H p dx nw pa kn ps) (c : HS [] B H B' H' L) : RSt K B' H' p dx nw pa kn ps := (r.start c).rst
end Q

set_option Elab.async false
set_option linter.all false
set_option maxRecDepth 100000
set_option maxHeartbeats 4000000
namespace Q
open PySem PySem.Spec PyProof.Rows L2
/-! ### places that a law draws -/
/-! ### the next group that a law draws -/
inductive StepK (K : PySem.W.Frag) (B : Hp) (xs : List Str) (ws : Str → List Str) : Str → Str → Addr → List Str → (Str → List Str) → Prop
  | join {x : Str} {sp : Addr} {ds : List (Key × D)} {ws' : Str → List Str} : okName x = true → x ∉ xs → xs.length ≤ 15 → Rep K B (.ref sp) (.dct ds) → ds.length < 64 → badSpots xs ws (.dct ds) = none → (∀ a ∈ xs, ws' a = insW (.dct ds) x ws a) → RowOk xs x (ws' x) → StepK K B xs ws "join" x sp (xs ++ [x]) ws'
  | leave {x : Str} {sp : Addr} {ws' : Str → List Str} : x ∈ xs → (∀ y ∈ xs, y ≠ x → ws' y = (ws y).filter fun b => !decide (b = x)) → StepK K B xs ws "leave" x sp (xs.filter fun y => !decide (y = x)) ws'
  | wish {x : Str} {sp : Addr} {row : List Str} {ws' : Str → List Str} : x ∈ xs → RowOk xs x row → (∀ y ∈ xs, ws' y = updW ws x row y) → StepK K B xs ws "wish" x sp xs ws'
  | group {x : Str} {sp : Addr} {xs' : List Str} {ws' : Str → List Str} : xs'.Perm xs → x ∈ xs → StepK K B xs ws "group" x sp xs' ws'
theorem StepK.mono {K : PySem.W.Frag} {B B' : Hp} {xs : List Str} {ws : Str → List Str} {kind who : Str} {sp : Addr} {xs' : List Str} {ws' : Str → List Str} (s : Same B B') (h : StepK K B xs ws kind who sp xs' ws') : StepK K B' xs ws kind who sp xs' ws' := by
  cases h with
  | join h1 h2 h3 h4 h5 h6 h7 h8 => exact .join h1 h2 h3 (h4.mono s) h5 h6 h7 h8
  | leave h1 h2 => exact .leave h1 h2
  | wish h1 h2 h3 => exact .wish h1 h2 h3
  | group h1 h2 => exact .group h1 h2
end Q

set_option Elab.async false
set_option linter.all false
set_option maxRecDepth 100000
set_option maxHeartbeats 4000000
namespace Q
open PySem PySem.Spec PyProof.Rows L2
/-! ### a deed as the law draws it -/
/-- the group is that of these people and wishes -/
def Is (G : Grp) (xs : List Str) (ws : Str → List Str) : Prop := G.names = xs ∧ ∀ y ∈ xs, G.wish y = ws y
end Q

set_option Elab.async false
set_option linter.all false
set_option maxRecDepth 100000
set_option maxHeartbeats 4000000
namespace Q
open PySem PySem.Spec PyProof.Rows L2
/-! ### a live group beside the law's own list of what it was -/
structure Sd where
  p : Addr
  dx : Addr
  nw : Addr
  pa : Addr
  kn : Addr
  la : Addr
  ps : List V
  rows : List V
/-- a row of the law's list, and the group that stood then -/
def PRow (K : PySem.W.Frag) (B : Hp) (v u : V) : Prop := ∃ T n w xs done kv ws t G, v = .ref T ∧ u = .ref t ∧ B T = some (.tup [.ref n, .ref w]) ∧ B n = some (.lst (xs.map V.str)) ∧ B w = some (.dK kv) ∧ WAt B done kv ws ∧ Drawn xs done ws ∧ xs.length ≤ 16 ∧ GAt K B t G ∧ Is G xs ws
theorem PRow.mono {K : PySem.W.Frag} {B B' : Hp} {v u : V} (s : Same B B') : PRow K B v u → PRow K B' v u
  | ⟨T, n, w, xs, done, kv, ws, t, G, h1, h2, h3, h4, h5, h6, h7, h8, h9, h10⟩ => ⟨T, n, w, xs, done, kv, ws, t, G, h1, h2, s _ _ h3, s _ _ h4, s _ _ h5, h6.mono s, h7, h8, h9.mono s, h10⟩
structure Sd.Ok (K : PySem.W.Frag) (B : Hp) (s : Sd) : Prop where
  len : s.rows.length = s.ps.length + 1
  row : ∀ (j : Nat) (v u : V), s.rows[j]? = some v → (s.ps ++ [.ref s.nw])[j]? = some u → PRow K B v u
theorem Sd.Ok.mono {K : PySem.W.Frag} {B B' : Hp} {s : Sd} (h : s.Ok K B) (sb : Same B B') : s.Ok K B' := ⟨h.len, fun j v u h1 h2 => (h.row j v u h1 h2).mono sb⟩
theorem Sd.Ok.push {K : PySem.W.Frag} {B : Hp} {s : Sd} (h : s.Ok K B) {q : Addr} {v : V} (r : PRow K B v (.ref q)) : ({ s with nw := q, ps := s.ps ++ [.ref s.nw], rows := s.rows ++ [v] } : Sd).Ok K B := by
  have hl := h.len
  refine ⟨by show (s.rows ++ [v]).length = (s.ps ++ [V.ref s.nw]).length + 1; simp; omega, fun j v' u h1 h2 => ?_⟩
  have h1 : (s.rows ++ [v])[j]? = some v' := h1
  have h2 : ((s.ps ++ [.ref s.nw]) ++ [.ref q])[j]? = some u := h2
  by_cases hj : j < s.rows.length
  · rw [List.getElem?_append_left hj] at h1
    rw [List.getElem?_append_left (by simp; omega)] at h2
    exact h.row j v' u h1 h2
  · have hj2 : j = s.rows.length := by
      have := (List.getElem?_eq_some_iff.mp h1).1
      simp at this
      omega
    subst hj2
    rw [List.getElem?_append_right (by omega)] at h1
    rw [List.getElem?_append_right (by simp; omega)] at h2
    simp at h1
    simp [hl] at h2
    rw [← h1, ← h2]
    exact r
end Q
set_option Elab.async false
set_option linter.all false
set_option maxRecDepth 100000
set_option maxHeartbeats 4000000
namespace Q
open PySem PySem.Spec PyProof.Rows L2
/-! ### try with several clauses, some without a name -/
abbrev ClauseM := Value × Option Nat × (Addr → Value → Option Addr → TS)
section
variable {X : Cx} {body : List Stmt} {hd0 : ExceptHandler} {hds : List ExceptHandler} {cs : List ClauseM} {pos : Pos} {tb : WX → TS} {Wout : WX}
end
end Q

set_option Elab.async false
set_option linter.all false
set_option maxRecDepth 100000
set_option maxHeartbeats 4000000
namespace Q
open PySem PySem.Spec PyProof.Rows L2
/-! ### a row of pairs in a list of such rows -/
/-! ### the rows tell the calm dealings -/
end Q

set_option Elab.async false
set_option linter.all false
set_option maxRecDepth 100000
set_option maxHeartbeats 4000000
namespace Q
open PySem PySem.Spec PyProof.Rows L2
/-! ### a thing that may change stands still for a call, also one that was handed in -/
theorem HS.freezeA {S : List Addr} {B0 H0 B H : Hp} {x : Addr} {o : HO} {M : List (Addr × HO)} (h : HS S B0 H0 B H ((x, o) :: M)) : HS S B0 H0 (upd B x o) H M ∧ Same B (upd B x o) := by
  obtain ⟨hB, hH, hs⟩ := h.mu (x, o) List.mem_cons_self
  dsimp only at hB hH hs
  have nd := h.nd
  rw [List.map_cons, List.nodup_cons] at nd
  have sB : Same B (upd B x o) := fun b u e => by rw [upd_ne (ne_of_none e hB)]; exact e
  refine ⟨⟨h.bb.trans sB, fun b u e => ?_, fun b u n1 n2 e => ?_, fun q m => ?_, nd.2⟩, sB⟩
  · by_cases z : b = x
    · subst z; rw [upd_same] at e; cases e; exact hH
    · rw [upd_ne z] at e; exact h.bh _ _ e
  · obtain ⟨a1, a2⟩ := h.fr b u n1 n2 e
    refine ⟨?_, a2⟩
    have : b ≠ x := fun z => by
      subst z
      rcases hs with k | k
      · rw [k] at e; cases e
      · exact n1 k
    rw [upd_ne this]; exact a1
  · obtain ⟨a1, a2, a3⟩ := h.mu q (List.mem_cons_of_mem _ m)
    have : q.1 ≠ x := fun e => nd.1 (List.mem_map.mpr ⟨q, m, e⟩)
    exact ⟨by rw [upd_ne this]; exact a1, a2, a3⟩
theorem HS.thawA {S : List Addr} {B0 H0 B H : Hp} {M : List (Addr × HO)} {x : Addr} {o : HO} (h : HS S B0 H0 B H M) (e : B x = some o) (h0 : H0 x = none ∨ x ∈ S) (hb : B0 x = none) : HS S B0 H0 (del B x) H ((x, o) :: M) := by
  have nm : ∀ q ∈ M, q.1 ≠ x := fun q mq z => by
    have := (h.mu q mq).1
    rw [z, e] at this
    cases this
  refine ⟨same_delR h.bb hb, fun b u eb => ?_, fun b u n1 n2 e2 => ?_, fun q mq => ?_, ?_⟩
  · by_cases z : b = x
    · rw [z, del_same] at eb; cases eb
    · rw [del_ne z] at eb; exact h.bh _ _ eb
  · have ne : b ≠ x := fun z => by
      subst z
      rcases h0 with k | k
      · rw [k] at e2; cases e2
      · exact n1 k
    obtain ⟨a1, a2⟩ := h.fr b u n1 n2 e2
    exact ⟨by rw [del_ne ne]; exact a1, a2⟩
  · rcases List.mem_cons.mp mq with rfl | mq
    · exact ⟨del_same, h.bh _ _ e, h0⟩
    · obtain ⟨a1, a2, a3⟩ := h.mu q mq
      exact ⟨by rw [del_ne (nm q mq)]; exact a1, a2, a3⟩
  · rw [List.map_cons, List.nodup_cons]
    refine ⟨fun z => ?_, h.nd⟩
    obtain ⟨q, mq, eq⟩ := List.mem_map.mp z
    exact nm q mq eq
end Q

set_option Elab.async false
set_option linter.all false
set_option maxRecDepth 100000
set_option maxHeartbeats 4000000
namespace Q
open PySem PySem.Spec PyProof.Rows L2
end Q

set_option Elab.async false
set_option linter.all false
set_option maxRecDepth 100000
set_option maxHeartbeats 4000000
namespace Q
open PySem PySem.Spec PyProof.Rows L2
local macro_rules | `(tactic| walk_at "bf") => `(tactic| first | assumption | (refine' bstep (by assumption) ?r; case r => walk_at "bf") | fail)
local macro_rules | `(tactic| walk_at "rp") => `(tactic| first | assumption | exact Rep.int _ | exact Rep.bl _ | exact Rep.non | (refine' Rep.mono (by assumption) ?r; case r => walk_at "rp") | fail)
local macro_rules | `(tactic| walk_at "hf") => `(tactic| first | assumption | exact HS.up (by assumption) (by walk_at "bf") | exact HS.get (by assumption) List.mem_cons_self | exact HS.get (by assumption) (List.mem_cons_of_mem _ List.mem_cons_self) | exact HS.get (by assumption) (List.mem_cons_of_mem _ (List.mem_cons_of_mem _ List.mem_cons_self)) | exact HS.get (by assumption) (List.mem_cons_of_mem _ (List.mem_cons_of_mem _ (List.mem_cons_of_mem _ List.mem_cons_self))) | fail)
local macro_rules | `(tactic| walk_at "sl") => `(tactic| first | assumption | exact SqL.of (by walk_at "hf") | fail)
local macro_rules | `(tactic| walk_at "st") => `(tactic| first | assumption | exact SqT.of (by walk_at "hf") | fail)
local macro_rules | `(tactic| walk_at "sz") => `(tactic| first | assumption | (refine small_le ?_; first | assumption | omega | (simp; done) | (simp; omega)) | fail)
/-! ### wishes whose rows are known to be new: they may change again -/
def WNew (H : Hp) (kvs : List (Key × V)) : Prop := (kvs.map (·.2)).Nodup ∧ ∀ kv ∈ kvs, ∃ a, kv.2 = .ref a ∧ H a = none
structure WRowsN (H B : Hp) (names done : List Str) (kvs : List (Key × V)) : Prop where
  rows : WRows B names done kvs
  new : WNew H kvs
theorem WRowsN.nil {H B : Hp} {names : List Str} : WRowsN H B names [] [] := ⟨.nil, List.nodup_nil, fun _ z => (nomatch z)⟩
theorem WRowsN.mono {H B B' : Hp} {names done : List Str} {kvs : List (Key × V)} (s : Same B B') (h : WRowsN H B names done kvs) : WRowsN H B' names done kvs := ⟨h.rows.mono s, h.new⟩
theorem WRowsN.len {H B : Hp} {names done : List Str} {kvs : List (Key × V)} (h : WRowsN H B names done kvs) : kvs.length = done.length := h.rows.len
theorem WRowsN.snoc {H B B' : Hp} {names done : List Str} {kvs : List (Key × V)} {x : Str} {a : Addr} {row : List Str} (h : WRowsN H B names done kvs) (hx : x ∉ done) (n0 : H a = none) (nb : B a = none) (s : Same B B') (e : B' a = some (.lst (row.map V.str))) (ok : RowOk names x row) : WRowsN H B' names (done ++ [x]) (putK kvs (.inr x) (.ref a)) := by
  refine ⟨(h.rows.mono s).snoc hx e ok, ?_, ?_⟩
  all_goals rw [putK_new (valV_none_keys (by
    rw [h.rows.keys]
    intro z
    obtain ⟨y, hy, q⟩ := List.mem_map.mp z
    have := Sum.inr.inj q
    subst this
    exact hx hy))]
  · rw [List.map_append, List.nodup_append]
    refine ⟨h.new.1, by simp, fun u hu v hv e => ?_⟩
    have hv : v = .ref a := by simpa using hv
    subst hv
    subst e
    obtain ⟨kv, mkv, ekv⟩ := List.mem_map.mp hu
    obtain ⟨al, h1, h2, h3⟩ := h.rows
    rw [h2] at mkv
    unfold zipK at mkv
    obtain ⟨q, mq, rfl⟩ := List.mem_map.mp mkv
    obtain ⟨j, hj⟩ := List.mem_iff_getElem?.mp mq
    rw [List.getElem?_zip_eq_some] at hj
    obtain ⟨row', r1, _⟩ := h3 j q.1 q.2 hj.1 hj.2
    have : q.2 = a := by injection ekv
    rw [this, nb] at r1
    cases r1
  · intro kv m
    rcases List.mem_append.mp m with m | m
    · exact h.new.2 kv m
    · rw [List.mem_singleton.mp m]; exact ⟨a, rfl, n0⟩
end Q

set_option Elab.async false
set_option linter.all false
set_option maxRecDepth 100000
set_option maxHeartbeats 4000000
namespace Q
open PySem PySem.Spec PyProof.Rows L2
local macro_rules | `(tactic| walk_at "bf") => `(tactic| first | assumption | (refine' bstep (by assumption) ?r; case r => walk_at "bf") | fail)
local macro_rules | `(tactic| walk_at "rp") => `(tactic| first | assumption | exact Rep.int _ | exact Rep.bl _ | exact Rep.non | (refine' Rep.mono (by assumption) ?r; case r => walk_at "rp") | fail)
local macro_rules | `(tactic| walk_at "hf") => `(tactic| first | assumption | exact HS.up (by assumption) (by walk_at "bf") | exact HS.get (by assumption) List.mem_cons_self | exact HS.get (by assumption) (List.mem_cons_of_mem _ List.mem_cons_self) | exact HS.get (by assumption) (List.mem_cons_of_mem _ (List.mem_cons_of_mem _ List.mem_cons_self)) | exact HS.get (by assumption) (List.mem_cons_of_mem _ (List.mem_cons_of_mem _ (List.mem_cons_of_mem _ List.mem_cons_self))) | fail)
local macro_rules | `(tactic| walk_at "sl") => `(tactic| first | assumption | exact SqL.of (by walk_at "hf") | fail)
local macro_rules | `(tactic| walk_at "st") => `(tactic| first | assumption | exact SqT.of (by walk_at "hf") | fail)
local macro_rules | `(tactic| walk_at "sz") => `(tactic| first | assumption | (refine small_le ?_; first | assumption | omega | (simp; done) | (simp; omega)) | fail)
/-! ### wishes of two sides -/
end Q

set_option Elab.async false
set_option linter.all false
set_option maxRecDepth 100000
set_option maxHeartbeats 4000000
namespace Q
open PySem PySem.Spec PyProof.Rows L2
/-! ### things that may change stand still for a while -/
theorem HS.lendL {S : List Addr} {B0 H0 : Hp} {M : List (Addr × HO)} : ∀ {N : List (Addr × HO)} {B H : Hp}, HS S B0 H0 B H (N ++ M) → ∃ B1, HS S B0 H0 B1 H M ∧ Same B B1 ∧ (∀ q ∈ N, B1 q.1 = some q.2) ∧ ∀ {B2 H2 : Hp} {M2 : List (Addr × HO)}, Same B1 B2 → HS S B0 H0 B2 H2 M2 → ∃ B3, HS S B0 H0 B3 H2 (N ++ M2) ∧ Same B B3 ∧ ∀ b, b ∉ N.map (·.1) → B3 b = B2 b
  | [], B, H, h => ⟨B, h, Same.refl _, fun _ z => (nomatch z), fun {B2 H2 M2} s h2 => ⟨B2, h2, s, fun _ _ => rfl⟩⟩
  | (x, o) :: N, B, H, h => by
    obtain ⟨hx1, hx2, hx3⟩ := h.mu (x, o) List.mem_cons_self
    dsimp only at hx1 hx2 hx3
    have hb : B0 x = none := by
      cases e : B0 x with
      | none => rfl
      | some u => have := h.bb _ _ e; rw [hx1] at this; cases this
    have nd := h.nd
    rw [List.cons_append, List.map_cons, List.nodup_cons] at nd
    obtain ⟨h1, s1⟩ := HS.freezeA (x := x) (o := o) h
    obtain ⟨B1, h2, s2, e2, back⟩ := HS.lendL h1
    refine ⟨B1, h2, s1.trans s2, fun q mq => ?_, fun {B2 H2 M2} s3 h3 => ?_⟩
    · rcases List.mem_cons.mp mq with rfl | mq
      · exact s2 _ _ upd_same
      · exact e2 q mq
    · obtain ⟨B3, h4, s4, e4⟩ := back s3 h3
      refine ⟨del B3 x, h4.thawA (s4 _ _ upd_same) hx3 hb, same_delR (s1.trans s4) hx1, fun b hbn => ?_⟩
      rw [List.map_cons, List.mem_cons, not_or] at hbn
      rw [del_ne hbn.1, e4 b hbn.2]
/-! ### one person more -/
end Q

set_option Elab.async false
set_option linter.all false
set_option maxRecDepth 100000
set_option maxHeartbeats 4000000
namespace Q
open PySem PySem.Spec PyProof.Rows L2
/-! ### list.remove of a text -/
end Q

set_option Elab.async false
set_option linter.all false
set_option maxRecDepth 100000
set_option maxHeartbeats 4000000
namespace Q
open PySem PySem.Spec PyProof.Rows L2
/-! ### names and wishes that a def may change -/
def Own (B H : Hp) (N : List (Addr × HO)) : Prop := (∀ q ∈ N, B q.1 = none ∧ H q.1 = some q.2) ∧ (N.map (·.1)).Nodup
theorem HS.own {S : List Addr} {B0 H0 B H : Hp} {N M : List (Addr × HO)} (h : HS S B0 H0 B H (N ++ M)) : Own B H N := by
  refine ⟨fun q mq => ⟨(h.mu q (List.mem_append_left _ mq)).1, (h.mu q (List.mem_append_left _ mq)).2.1⟩, ?_⟩
  have nd := h.nd
  rw [List.map_append, List.nodup_append] at nd
  exact nd.1
theorem Own.start {B H : Hp} {N : List (Addr × HO)} (o : Own B H N) (sB : Same B H) : HS (N.map (·.1)) B H B H N := by
  have h := HS.ownL o.1 o.2 (HS.start sB)
  rw [List.append_nil] at h
  exact h
end Q

set_option Elab.async false
set_option linter.all false
set_option maxRecDepth 100000
set_option maxHeartbeats 4000000
namespace Q
open PySem PySem.Spec PyProof.Rows L2
/-! ### two people exchange a name -/
end Q

set_option Elab.async false
set_option linter.all false
set_option maxRecDepth 100000
set_option maxHeartbeats 4000000
namespace Q
open PySem PySem.Spec PyProof.Rows L2
/-! ### one person more -/
end Q

set_option Elab.async false
set_option linter.all false
set_option maxRecDepth 100000
set_option maxHeartbeats 4000000
namespace Q
open PySem PySem.Spec PyProof.Rows L2
/-! ### sorted of a tuple of tuples of texts -/
end Q

set_option Elab.async false
set_option linter.all false
set_option maxRecDepth 100000
set_option maxHeartbeats 4000000
namespace Q
open PySem PySem.Spec PyProof.Rows L2
/-! ### C(e, .., k = v) of a class with keyword-only parameters, and without them -/
section
variable {X : Cx} {k j n : Nat} {x : Str} {ps ks : List Str} {dvs : List V} {sp : Sp} {W : WX} {p pos : Pos} {e : Expr} {es : List Expr} {kws : List Keyword} {t tq : TA}
end
/-! ### an instance called by its own __call__ -/
section
variable {X : Cx} {k j i : Nat} {c x : Str} {ps : List Str} {sp : Sp} {W : WX} {p pos : Pos} {e : Expr} {es : List Expr} {t : TA}
end
/-! ### x + y by one's own __add__, both of one class -/
section
variable {K : PySem.W.Frag} {σ : L2.St} {H : Hp} {Q : VK} {tl tq : TA} {W : WX} {n j i : Nat} {sp : Sp} {dvs : List V} {C a : Addr}
end
end Q

set_option Elab.async false
set_option linter.all false
set_option maxRecDepth 100000
set_option maxHeartbeats 4000000
namespace Q
open PySem PySem.Spec PyProof.Rows L2
/-! ### texts: split, endswith -/
end Q

set_option Elab.async false
set_option linter.all false
set_option maxRecDepth 100000
set_option maxHeartbeats 4000000
namespace Q
open PySem PySem.Spec PyProof.Rows L2
/-! ### a group read from its lines -/
end Q

set_option Elab.async false
set_option linter.all false
set_option maxRecDepth 100000
set_option maxHeartbeats 4000000
namespace Q
open PySem PySem.Spec PyProof.Rows L2
/-! ### lines and words, put together and taken apart -/
section
open TL
end
end Q

set_option Elab.async false
set_option linter.all false
set_option maxRecDepth 100000
set_option maxHeartbeats 4000000
namespace Q
open PySem PySem.Spec PyProof.Rows L2
/-! ### a group written -/
/-! ### the law's own lines -/
end Q

set_option Elab.async false
set_option linter.all false
set_option maxRecDepth 100000
set_option maxHeartbeats 4000000
namespace Q
open PySem PySem.Spec PyProof.Rows L2
/-! ### what is written is read back -/
section
variable {names : List Str} {ws : Str → List Str} (hok : ∀ a ∈ names, okName a = true) (nd : names.Nodup) (hl : names.length ≤ 16) (hr : ∀ a ∈ names, RowOk names a (ws a))
end
end Q

set_option Elab.async false
set_option linter.all false
set_option maxRecDepth 100000
set_option maxHeartbeats 4000000
namespace Q
open PySem PySem.Spec PyProof.Rows L2
/-! ### rows that are spoilt -/
theorem all_set {l : List Str} {j k : Nat} {w : Str} (h : ∀ r ∈ l, r.length ≤ k) (hw : w.length ≤ k) : ∀ r ∈ l.set j w, r.length ≤ k := fun r m => by
  rcases List.mem_or_eq_of_mem_set m with m | e
  · exact h r m
  · rw [e]; exact hw
theorem all_ins {l : List Str} {j k : Nat} {w : Str} (h : ∀ r ∈ l, r.length ≤ k) (hw : w.length ≤ k) : ∀ r ∈ l.take j ++ [w] ++ l.drop j, r.length ≤ k := fun r m => by
  rcases List.mem_append.mp m with m | m
  · rcases List.mem_append.mp m with m | m
    · exact h r (List.mem_of_mem_take m)
    · rw [List.mem_singleton.mp m]; exact hw
  · exact h r (List.mem_of_mem_drop m)
end Q

set_option Elab.async false
set_option linter.all false
set_option maxRecDepth 100000
set_option maxHeartbeats 4000000
namespace Q
open PySem PySem.Spec PyProof.Rows L2
/-! ### rows of names and lists, as data -/
end Q

set_option Elab.async false
set_option linter.all false
set_option maxRecDepth 100000
set_option maxHeartbeats 4000000
namespace Q
open PySem PySem.Spec PyProof.Rows L2
/-! ### the law's own reading of lines -/
end Q

set_option Elab.async false
set_option linter.all false
set_option maxRecDepth 100000
set_option maxHeartbeats 4000000
namespace Q
open PySem PySem.Spec PyProof.Rows L2
/-! ### the rows of a dealing -/
end Q

set_option Elab.async false
set_option linter.all false
set_option maxRecDepth 100000
set_option maxHeartbeats 4000000
namespace Q
open PySem PySem.Spec PyProof.Rows L2
/-! ### a dealing read from its lines -/
open Classical in
section
variable {xs : List Str} {op : Str → List Str} {m : Str → Option Str}
end
end Q

set_option Elab.async false
set_option linter.all false
set_option maxRecDepth 100000
set_option maxHeartbeats 4000000
namespace Q
open PySem PySem.Spec PyProof.Rows L2
/-! ### read_dealing -/
end Q

set_option Elab.async false
set_option linter.all false
set_option maxRecDepth 100000
set_option maxHeartbeats 4000000
namespace Q
open PySem PySem.Spec PyProof.Rows L2
/-! ### k32: dicts that are handed out -/
/-- a dict that tells each person's partner -/
structure PD (kvs : List (Key × V)) (xs : List Str) (f : Str → Option Str) : Prop where
  len : kvs.length = xs.length
  val : ∀ p ∈ kvs, ∃ a ∈ xs, p.1 = .inr a ∧ p.2 = optV (f a)
  at_ : ∀ a ∈ xs, valV kvs (.inr a) = some (optV (f a))
theorem PD.deal {K : PySem.W.Frag} {xs : List Str} {op : Str → List Str} {kv : List (Key × V)} {ds : List (Key × D)} {f : Str → Option Str} (scl : SclK K kv ds) (dl : Deal xs op (.dct ds)) (st : StrK ds 16) (nd : xs.Nodup) (h : ∀ a ∈ xs, part (.dct ds) a = f a) : PD kv xs f := by
  obtain ⟨ks, hk, pe, scd⟩ := dl.keys nd st
  have hkv : kv.map (·.1) = ks.map Sum.inr := by rw [(scl fun _ => none).keysE]; exact hk
  have hks : ks.Nodup := pe.nodup_iff.mpr nd
  have hnd : (kv.map (·.1)).Nodup := by rw [hkv]; exact List.pairwise_map.mpr (hks.imp fun {a b} ne z => ne (Sum.inr.inj z))
  have hat : ∀ a ∈ xs, valV kv (.inr a) = some (optV (f a)) := fun a ma => by
    have hin : (dval ds (.inr a)).isSome = true := dval_inK (by rw [hk]; exact List.mem_map.mpr ⟨a, pe.mem_iff.mpr ma, rfl⟩)
    obtain ⟨v, ev, rv⟩ := vald_get (scl fun _ => none) hin
    rw [ev, ← h a ma]
    obtain ⟨dv, hdv⟩ := Option.isSome_iff_exists.mp hin
    have evd : vald (.dct ds) a = dv := vald_of hdv
    rw [evd] at rv
    unfold part
    rw [evd]
    rcases scd a _ hdv with z | ⟨b, z⟩
    · rw [z] at rv ⊢; cases rv; rfl
    · rw [z] at rv ⊢; cases rv; rfl
  refine ⟨?_, fun p mp => ?_, hat⟩
  · have := congrArg List.length hkv
    rw [List.length_map, List.length_map] at this
    rw [this, pe.length_eq]
  · have mk : p.1 ∈ kv.map (·.1) := List.mem_map.mpr ⟨p, mp, rfl⟩
    rw [hkv] at mk
    obtain ⟨a, ma, ea⟩ := List.mem_map.mp mk
    have mx := pe.mem_iff.mp ma
    have h1 := valV_of_mem hnd (k := p.1) (v := p.2) mp
    rw [← ea, hat a mx] at h1
    exact ⟨a, mx, ea.symm, (Option.some.inj h1).symm⟩
/-- what the two copies of a turn hold -/
def RowD (B : Hp) (G : Grp) (f : Str → Option Str) (v : V) : Prop := ∃ (c u1 u2 u3 : Addr) (k1 k2 k3 : List (Key × V)), v = .ref c ∧ B c = some (.lst [.ref u1, .ref u2, .ref u3]) ∧ B u1 = some (.dK k1) ∧ B u2 = some (.dK k2) ∧ B u3 = some (.dK k3) ∧ PD k1 G.names (fun a => some (((f a).getD a))) ∧ PD k2 G.names f ∧ PD k3 G.names f
theorem RowD.mono {B B' : Hp} {G : Grp} {f : Str → Option Str} {v : V} (s : Same B B') (h : RowD B G f v) : RowD B' G f v := by
  obtain ⟨c, u1, u2, u3, k1, k2, k3, e, h0, h1, h2, h3, r⟩ := h
  exact ⟨c, u1, u2, u3, k1, k2, k3, e, s _ _ h0, s _ _ h1, s _ _ h2, s _ _ h3, r⟩
end Q

set_option Elab.async false
set_option linter.all false
set_option maxRecDepth 100000
set_option maxHeartbeats 4000000
namespace Q
open PySem PySem.Spec PyProof.Rows L2
/-! ### k32: what the groups must show -/
end Q

set_option Elab.async false
set_option linter.all false
set_option maxRecDepth 100000
set_option maxHeartbeats 4000000
namespace Q
open PySem PySem.Spec PyProof.Rows L2
/-! ### k32: what the groups show -/
def Shown (K : PySem.W.Frag) (B : Hp) (t m : Addr) : Prop := ∃ G v, GAt K B t G ∧ B m = some (.lst v) ∧ MRs B v (rowsOf G.names G.wish)
theorem Shown.mono {K : PySem.W.Frag} {B B' : Hp} {t m : Addr} (s : Same B B') : Shown K B t m → Shown K B' t m
  | ⟨G, v, g, e, r⟩ => ⟨G, v, g.mono s, s _ _ e, r.mono s⟩
end Q
set_option Elab.async false
set_option linter.all false
set_option maxRecDepth 100000
set_option maxHeartbeats 4000000
namespace Q
open PySem PySem.Spec PyProof.Rows L2
local macro_rules | `(tactic| walk_at "bf") => `(tactic| first | assumption | (refine' bstep (by assumption) ?r; case r => walk_at "bf") | fail)
local macro_rules | `(tactic| walk_at "rp") => `(tactic| first | assumption | exact Rep.int _ | exact Rep.bl _ | exact Rep.non | (refine' Rep.mono (by assumption) ?r; case r => walk_at "rp") | fail)
local macro_rules | `(tactic| walk_at "hf") => `(tactic| first | assumption | exact HS.up (by assumption) (by walk_at "bf") | exact HS.get (by assumption) List.mem_cons_self | exact HS.get (by assumption) (List.mem_cons_of_mem _ List.mem_cons_self) | exact HS.get (by assumption) (List.mem_cons_of_mem _ (List.mem_cons_of_mem _ List.mem_cons_self)) | exact HS.get (by assumption) (List.mem_cons_of_mem _ (List.mem_cons_of_mem _ (List.mem_cons_of_mem _ List.mem_cons_self))) | fail)
local macro_rules | `(tactic| walk_at "sl") => `(tactic| first | assumption | exact SqL.of (by walk_at "hf") | fail)
local macro_rules | `(tactic| walk_at "st") => `(tactic| first | assumption | exact SqT.of (by walk_at "hf") | fail)
local macro_rules | `(tactic| walk_at "sz") => `(tactic| first | assumption | (refine small_le ?_; first | assumption | omega | (simp; done) | (simp; omega)) | fail)
/-! ### k32: what is lent to a call and changes later -/
theorem HS.borrow {S : List Addr} {B0 H0 B H : Hp} {M : List (Addr × HO)} {x : Addr} {o : HO} (h : HS S B0 H0 B H M) (b0 : B0 x = none) (h0 : H0 x = some o) (hx : x ∉ S) : ∃ B1, HS S (upd B0 x o) H0 B1 H M ∧ Same B B1 ∧ B1 x = some o ∧ ∀ {B2 H2 : Hp} {N : List (Addr × HO)}, Same B1 B2 → HS S (upd B0 x o) H0 B2 H2 N → ∃ B3, HS S B0 H0 B3 H2 N ∧ Same B B3 := by
  obtain ⟨bn, hn⟩ := h.fr x o hx b0 h0
  refine ⟨upd B x o, ⟨fun b u e => ?_, fun b u e => ?_, fun b u n1 n2 e2 => ?_, fun q mq => ?_, h.nd⟩, fun b u e => by rw [upd_ne (ne_of_none e bn)]; exact e, upd_same, fun {B2 H2 N} s2 h2 => ?_⟩
  · by_cases z : b = x
    · subst z; rw [upd_same] at e ⊢; exact e
    · rw [upd_ne z] at e ⊢; exact h.bb _ _ e
  · by_cases z : b = x
    · subst z; rw [upd_same] at e; cases e; exact hn
    · rw [upd_ne z] at e; exact h.bh _ _ e
  · by_cases z : b = x
    · rw [z, upd_same] at n2; cases n2
    · rw [upd_ne z] at n2
      obtain ⟨a1, a2⟩ := h.fr b u n1 n2 e2
      exact ⟨by rw [upd_ne z]; exact a1, a2⟩
  · obtain ⟨a1, a2, a3⟩ := h.mu q mq
    have z : q.1 ≠ x := fun e => by
      rcases a3 with a3 | a3
      · rw [e, h0] at a3; cases a3
      · exact hx (e ▸ a3)
    exact ⟨by rw [upd_ne z]; exact a1, a2, a3⟩
  · have e := s2 x o upd_same
    have s0 : Same B B2 := fun b u e => s2 _ _ (by rw [upd_ne (ne_of_none e bn)]; exact e)
    refine ⟨del B2 x, ⟨same_delR (h.bb.trans s0) b0, fun b u eb => ?_, fun b u n1 n2 e2 => ?_, fun q mq => ?_, h2.nd⟩, same_delR s0 bn⟩
    · by_cases z : b = x
      · subst z; rw [del_same] at eb; cases eb
      · rw [del_ne z] at eb; exact h2.bh _ _ eb
    · by_cases z : b = x
      · subst z
        rw [h0] at e2
        cases e2
        exact ⟨del_same, h2.bh _ _ e⟩
      · obtain ⟨a1, a2⟩ := h2.fr b u n1 (by rw [upd_ne z]; exact n2) e2
        exact ⟨by rw [del_ne z]; exact a1, a2⟩
    · obtain ⟨a1, a2, a3⟩ := h2.mu q mq
      have z : q.1 ≠ x := fun z => by rw [z, e] at a1; cases a1
      exact ⟨by rw [del_ne z]; exact a1, a2, a3⟩
/-- what is lent: unchanged, and not part of what stands -/
structure Lent (B H : Hp) (x : Addr) (o : HO) : Prop where
  b : B x = none
  h : H x = some o
theorem HS.lent {S : List Addr} {B0 H0 B H : Hp} {M : List (Addr × HO)} {x : Addr} {o : HO} (h : HS S B0 H0 B H M) (l : Lent B0 H0 x o) (hx : x ∉ S) : Lent B H x o := by
  obtain ⟨a1, a2⟩ := h.fr x o hx l.b l.h
  exact ⟨a1, a2⟩
end Q
set_option Elab.async false
set_option linter.all false
set_option maxRecDepth 100000
set_option maxHeartbeats 4000000
namespace Q
open PySem PySem.Spec PyProof.Rows L2
/-! ### a loop over an object of one's own class whose __iter__ gives a list's iterator: the iterator stays tracked -/
section
variable {prog : Program} {w : World} {A : Around} {E : Value → Shared → Prop} {s : Shared} {it l : Addr} {i : Nat} {items : Array Value}
theorem nxO_item {x : Value} {Q : Option Value → Shared → Prop} (ho : s.heap.get? it = some (GNX.itObj l i)) (hl : s.heap.IsList l items) (hx : items[i]? = some x)
    (hQ : ∀ h', h'.get? it = some (GNX.itObj l (i + 1)) → Heap.SameBut it s.heap h' → Q (some x) { s with heap := h' }) : wpAny (model prog w) A (pyNext (.ref it)) Q E s := by
  have hT : s.TypeIs (.ref it) "list_iterator" := ⟨_, ho, rfl⟩
  unfold pyNext
  refine wpAny_bind (wpAny_attempt (wpAny_callSpecial?_slot (name := Str.ofString "__next__") hT slot_listiter_next
    (wpAny_call_entry slot_listiter_next hT entry_listiter_next ?_ (args_listiter_next _))))
  refine wpAny_mono (GNX.next_item (Q := fun v s' => v = x ∧ Q (some x) s') ho hl hx fun h' e' sb => ⟨rfl, hQ h' e' sb⟩) (fun fin s' hq => ?_) fun _ _ z => z
  obtain ⟨v, e, ev, q⟩ := hq
  subst ev
  exact ⟨v, e, wpAny_pure q⟩
theorem nxO_end {Q : Option Value → Shared → Prop} (hh : A.handled = none) (ho : s.heap.get? it = some (GNX.itObj l i)) (hl : s.heap.IsList l items) (hx : items[i]? = none)
    (hQ : ∀ h1 h', h1.get? it = some (GNX.itEnd i) → Heap.SameBut it s.heap h1 → (∀ b o, h1.get? b = some o → h'.get? b = some o) → Q none { s with heap := h' }) : wpAny (model prog w) A (pyNext (.ref it)) Q E s := by
  have hT : s.TypeIs (.ref it) "list_iterator" := ⟨_, ho, rfl⟩
  unfold pyNext
  refine wpAny_bind (wpAny_attempt (wpAny_callSpecial?_slot (name := Str.ofString "__next__") hT slot_listiter_next
    (wpAny_call_entry slot_listiter_next hT entry_listiter_next ?_ (args_listiter_next _))))
  refine wpAny_mono (GNX.next_end (A := A) (Q := fun _ _ => False) hh ho hl hx fun h1 h' e vs e1 sb k ne he hv => ?_) (fun fin s' ⟨_, _, z⟩ => z.elim) fun _ _ z => z
  refine wpAny_bind (wpAny_isInstance (T := "StopIteration") (U := "StopIteration") (b := true) ⟨_, he, rfl⟩ (by first | rfl | kernel_rfl) ?_)
  rw [if_pos rfl]
  exact wpAny_pure (hQ h1 h' e1 sb k)
end
def tForO (K : PySem.W.Frag) (C : Addr) (sp : Sp) (W : WX) (ta : TE) (g : TG) (tb : TS) : TS := fun D σ H => ta σ H fun x H1 => ∃ a dx fs, x = .ref a ∧ H1 a = some (.ins C dx fs) ∧ sp [.ref a] H1 (fun v H2 => ∃ it l, v = .ref it ∧ H2 it = some (ItO l it 0) ∧
  ∃ W' : Nat → Nat → L2.St → Hp → Prop, (∃ m, W' 0 m σ H2) ∧ ∀ i m σ H, W' i m σ H → ∃ xs, H it = some (ItO l it i) ∧ SqL K H l xs ∧
    ((xs[i]? = none ∧ D.nx σ (upd H it (ItE it i))) ∨ (∃ y, xs[i]? = some y ∧ ∃ N : L2.St → Hp → Prop, (∀ σ' H', N σ' H' → ∃ m', m' < m ∧ W' (i + 1) m' σ' H') ∧ g y σ (upd H it (ItO l it (i + 1))) fun σ2 H2 => tb { D with nx := N, ct := N, bk := D.nx } σ2 H2))) fun c d H' => W c d σ H'
section
variable {X : Cx} {k j : Nat} {c : Str} {ps : List Str} {sp : Sp} {W : WX} {o tg : Expr} {ta : TE} {pos : Pos} {body : List Stmt} {g : TG} {tb : TS}
theorem ps_forO (F : Mt X.prog X.w X.K X.mg X.base k c "__iter__" ps sp) (hr : Room j X.A) (hj : k ≤ j) (tk : Takes X W) (hp : PassesOwn (model X.prog X.w) X.A X.env X.xe) (hc : X.calm = true) (he : PE X o ta) (hg : PG X tg g) (hb : PSs X body tb)
    (hs : ∀ x, foldedSetIterable o X.env x = pure x := by intro _; rfl) : PS X (.For tg o body [] pos) (tForO X.K (He.ga X.K c) sp W ta g tb) := by
  obtain ⟨f, fd, cl, hm, hbd, F⟩ := F
  refine ⟨fun pins s σ H D I h => ?_⟩
  refine wpAny_For (thn (he.run pins s σ H _ I h) fun v s1 hh => ?_) hs
  obtain ⟨x, H1, I1, rx, a, dx, fs, ex, ea, q⟩ := hh
  subst ex
  cases rx
  obtain ⟨mA, J, _⟩ := ins_get I1.hok ea
  obtain ⟨od, J, _⟩ := J.look
  obtain ⟨m, hF⟩ := I1.fr
  refine PySem.W.owit_iter hF I.ok.mod.kin J hm.at_ hm.fn ?_
  refine wpAny_mono (run_fnS (E := WE W) (us := [.ref a]) (vs := [.ref a]) F (hr.mono hj) hbd (passAt tk σ) I1 (.cons rfl .nil) q) (fun r s2 hh => ?_) fun _ _ z => z
  obtain ⟨z, H2, I2, rz, it, l, ez, eit, W', ⟨m0, w0⟩, turn⟩ := hh
  subst ez
  cases rz
  unfold PySem.W.OwitIt
  have eo := itO_get I2 eit
  have hT : s2.TypeIs (.ref it) "list_iterator" := ⟨_, eo, rfl⟩
  refine wpAny_specialOf (name := Str.ofString "__next__") hT slot_listiter_next.lookup ?_
  dsimp only
  refine codeAny_forLoop_any (fun n s' => ∃ i σ' H', Inv X pins σ' H' s' ∧ W' i n σ' H') ?_ m0 ⟨0, σ, H2, I2, w0⟩
  rintro n s3 ⟨i, σ3, H3, I3, w3⟩
  obtain ⟨xs, ei, el, alt⟩ := turn i n σ3 H3 w3
  have eo3 := itO_get I3 ei
  obtain ⟨its, rv, pl, hz⟩ := I3.list el
  have mu : L2.Mut (H3 it) := by rw [ei]; exact True.intro
  rcases alt with ⟨hn, qn⟩ | ⟨y, hy, N, hN, step⟩
  · refine wpAny_passesOwn hp (nxO_end (I3.ok.hd hc) eo3 pl.isList (by rw [List.getElem?_toArray]; exact rv.none_of hn) fun h1 h' e1 sb k => ?_)
    have I4 : Inv X pins σ3 (upd H3 it (ItE it i)) { s3 with heap := h1 } := I3.write (x := it) (e := it) (t' := s3.toks) mu (.inl rfl) (fun b o nb z => (sb.2 b nb).trans z) ⟨_, e1⟩ (itE_ok e1)
    exact wpAny_execs_nil ⟨σ3, _, I4.kept (t' := s3.toks) k, qn⟩
  · obtain ⟨u, hu, ru⟩ := rv.get hy
    refine wpAny_passesOwn hp (nxO_item eo3 pl.isList (by rw [List.getElem?_toArray]; exact hu) fun h' e' sb => ?_)
    have I4 : Inv X pins σ3 (upd H3 it (ItO l it (i + 1))) { s3 with heap := h' } := I3.write (x := it) (e := it) (t' := s3.toks) mu (.inl rfl) (fun b o nb z => (sb.2 b nb).trans z) ⟨_, e'⟩ (itO_ok e')
    refine wpAny_passesOwn hp (go_of (s := { s3 with heap := h' }) e' rfl rfl (by decide) ?_)
    refine wpAny_passesOwn hp (thn (hg.run _ _ σ3 _ y u _ I4 ru step) fun _ s6 ⟨σ6, H6, I6, q6⟩ => ?_)
    refine wpAny_passesOwn hp (thn (hb.run _ s6 σ6 H6 _ I6 q6) fun f s7 q7 => ?_)
    have again : ∀ {σ7 : L2.St} {H7 : Hp}, Inv X pins σ7 H7 s7 → N σ7 H7 → ∃ m, m < n ∧ ∃ i σ' H', Inv X pins σ' H' s7 ∧ W' i m σ' H' := fun {σ7 H7} I7 n7 => by
      obtain ⟨m', hm, w7⟩ := hN σ7 H7 n7
      exact ⟨m', hm, i + 1, σ7, H7, I7, w7⟩
    cases f with
    | next => obtain ⟨σ7, H7, I7, n7⟩ := q7; exact again I7 n7
    | cont => obtain ⟨σ7, H7, I7, n7⟩ := q7; exact again I7 n7
    | brk => obtain ⟨σ7, H7, I7, q7⟩ := q7; exact ⟨σ7, H7, I7, q7⟩
    | ret v => obtain ⟨x7, σ7, H7, I7, r7, q7⟩ := q7; exact ⟨x7, σ7, H7, I7, r7, q7⟩
end

end Q
set_option Elab.async false
set_option linter.all false
set_option maxRecDepth 100000
set_option maxHeartbeats 4000000
namespace Q
open PySem PySem.Spec PyProof.Rows L2
local macro_rules | `(tactic| walk_at "bf") => `(tactic| first | assumption | (refine' bstep (by assumption) ?r; case r => walk_at "bf") | fail)
local macro_rules | `(tactic| walk_at "rp") => `(tactic| first | assumption | exact Rep.int _ | exact Rep.bl _ | exact Rep.non | (refine' Rep.mono (by assumption) ?r; case r => walk_at "rp") | fail)
local macro_rules | `(tactic| walk_at "hf") => `(tactic| first | assumption | exact HS.up (by assumption) (by walk_at "bf") | exact HS.get (by assumption) List.mem_cons_self | exact HS.get (by assumption) (List.mem_cons_of_mem _ List.mem_cons_self) | exact HS.get (by assumption) (List.mem_cons_of_mem _ (List.mem_cons_of_mem _ List.mem_cons_self)) | exact HS.get (by assumption) (List.mem_cons_of_mem _ (List.mem_cons_of_mem _ (List.mem_cons_of_mem _ List.mem_cons_self))) | fail)
local macro_rules | `(tactic| walk_at "sl") => `(tactic| first | assumption | exact SqL.of (by walk_at "hf") | fail)
local macro_rules | `(tactic| walk_at "st") => `(tactic| first | assumption | exact SqT.of (by walk_at "hf") | fail)
local macro_rules | `(tactic| walk_at "sz") => `(tactic| first | assumption | (refine small_le ?_; first | assumption | omega | (simp; done) | (simp; omega)) | fail)
/-! ### k03: a group made of what is lent -/
theorem LentOf {S : List Addr} {B0 H0 B H : Hp} {M : List (Addr × HO)} {x : Addr} {o : HO} (l : Lent B0 H0 x o ∧ x ∉ S) (h : HS S B0 H0 B H M) : H x = some o := (h.lent l.1 l.2).h
theorem HS.borrowL {S : List Addr} {H0 H : Hp} {M : List (Addr × HO)} : ∀ {L : List (Addr × HO)} {B0 B : Hp}, HS S B0 H0 B H M → (∀ q ∈ L, Lent B0 H0 q.1 q.2 ∧ q.1 ∉ S) → (L.map (·.1)).Nodup → ∃ B0' B1, HS S B0' H0 B1 H M ∧ Same B B1 ∧ (∀ q ∈ L, B1 q.1 = some q.2) ∧ ∀ {B2 H2 : Hp} {N : List (Addr × HO)}, Same B1 B2 → HS S B0' H0 B2 H2 N → ∃ B3, HS S B0 H0 B3 H2 N ∧ Same B B3
  | [], B0, B, h, _, _ => ⟨B0, B, h, Same.refl _, fun q m => (nomatch m), fun {B2 H2 N} s h2 => ⟨B2, h2, s⟩⟩
  | (x, o) :: r, B0, B, h, hl, nd => by
    rw [List.map_cons, List.nodup_cons] at nd
    obtain ⟨l, nx⟩ := hl (x, o) List.mem_cons_self
    obtain ⟨B1, h1, s1, e1, back⟩ := h.borrow l.b l.h nx
    obtain ⟨B0', B2, h2, s2, e2, back2⟩ := HS.borrowL (L := r) h1 (fun q mq => by
      obtain ⟨lq, nq⟩ := hl q (List.mem_cons_of_mem _ mq)
      have ne : q.1 ≠ x := fun e => nd.1 (List.mem_map.mpr ⟨q, mq, e⟩)
      exact ⟨⟨by rw [upd_ne ne]; exact lq.b, lq.h⟩, nq⟩) nd.2
    refine ⟨B0', B2, h2, s1.trans s2, fun q mq => ?_, fun {B3 H3 N} s3 h3 => ?_⟩
    · rcases List.mem_cons.mp mq with rfl | mq
      · exact s2 _ _ e1
      · exact e2 q mq
    · obtain ⟨B4, h4, s4⟩ := back2 s3 h3
      exact back s4 h4
abbrev N_Group___init__03 : List Str := ["self", "people", "wishes", "person", "row", "other", "at"]
def t_Group___init__03 (K : PySem.W.Frag) (E : XK) : TS := (tSeq (tDrop (tCl (sp_check_people K) (WE0 E) (tCons (tVar 1) tNil)))
  (tSeq (tDrop (tCl (sp_check_wishes K) (WE0 E) (tCons (tVar 1) (tCons (tVar 2) tNil))))
  (tSeq (sFld K (tVar 0) (tCB (rListOf K) (tCons (tVar 1) tNil)) "names")
  (tSeq (sFld K (tVar 0) (tDc (iTup K (tVar 1)) (gName 3) tYes (tVar 3) (tCB (rListOf K) (tCons (tDGet (tVar 2) (tVar 3)) tNil)) [3]) "lists")
  (tSeq (sFld K (tVar 0) tDNewK "mutual")
  (tSeq (sFld K (tVar 0) tDNewK "places")
  (tFor (iTup K (tVar 1)) (gName 3) (tSeq (tAsg (tLc (iList K (tDGet (tVar 2) (tVar 3))) (gName 5) (tTest (tOp (rIn K false) (tVar 3) (tDGet (tVar 2) (tVar 5)))) (tVar 5) [5]) (gName 4))
  (tSeq (sDPut (tFld K (tVar 0) "mutual") (tVar 3) (tVar 4))
  (sDPut (tFld K (tVar 0) "places") (tVar 3) (tDc (iEnum K (tCons (tVar 4) tNil)) (gTup K 2 (gCons (gName 6) (gCons (gName 5) gNil))) tYes (tVar 5) (tVar 6) [6, 5])))))))))))
def sp_Group___init__03 (K : PySem.W.Frag) : Sp := fun vs H Q E => ∃ (p a aw : Addr) (B : Hp) (dx : Addr) (xs done : List Str) (f : Str → Addr) (ws : Str → List Str), vs = [.ref p, .ref a, .ref aw] ∧ Same B H ∧ B p = none ∧ H p = some (.ins (He.ga K "Group") dx []) ∧ B a = some (.tup (xs.map V.str)) ∧ (∀ q ∈ (aw, HO.dK (zipF done f)) :: lsF done f ws, Lent B H q.1 q.2 ∧ q.1 ∉ [p]) ∧ (((aw, HO.dK (zipF done f)) :: lsF done f ws).map (·.1)).Nodup ∧ Drawn xs done ws ∧ xs.length ≤ 16 ∧
  ∀ B' H' G, HS [p] B H B' H' [] → GAt K B' p G → G.names = xs → (∀ q ∈ xs, G.wish q = ws q) → Q .non H'
theorem pure_Group___init__03 {K : PySem.W.Frag} (gk : GK K) {vs : List V} {H : Hp} {Q : VK} {E : XK} (h : sp_Group___init__03 K vs H Q E) : t_Group___init__03 K E { nx := fun _ H' => Q .non H', rt := Q } (start N_Group___init__03 vs) H := by
  obtain ⟨p, a, aw, B, dx, xs, done, f, ws, rfl, sB, bp, hp, ea, hl, hnd, dr, xl, kk⟩ := h
  have hs := HS.startS sB bp hp
  obtain ⟨G, hG2, hGn, hw2⟩ := drawn_group dr xl
  have hG := mkGroup_ok hG2
  have hd : xs.Nodup := dr.nd
  have k : ∀ B' H', HS [p] B H B' H' [] → GAt K B' p G → Q .non H' := fun B' H' c g => kk B' H' G c g hGn hw2
  have ldk : Lent B H aw (.dK (zipF done f)) ∧ aw ∉ [p] := hl _ List.mem_cons_self
  have mdn : ∀ {q}, q ∈ xs → q ∈ done := fun m => dr.pe.mem_iff.mpr m
  have lrow : ∀ q ∈ xs, Lent B H (f q) (.lst ((G.wish q).map V.str)) ∧ f q ∉ [p] := fun q m => by
    rw [hw2 q m]
    exact hl (f q, .lst ((ws q).map V.str)) (List.mem_cons_of_mem _ (List.mem_map.mpr ⟨q, mdn m, rfl⟩))
  have hwv : ∀ q ∈ xs, valV (zipF done f) (.inr q) = some (.ref (f q)) := fun q m => zipF_val (mdn m)
  show t_Group___init__03 K E _ [some (.ref p), some (.ref a), some (.ref aw), none, none, none, none] H
  unfold t_Group___init__03
  ((with_reducible refine x_seq ?_); (with_reducible refine x_drop ?_); (with_reducible refine x_cl ?_); (with_reducible refine x_cons ?_); ((with_reducible refine' x_var ?z5h ?_); case z5h => rfl); (with_reducible refine x_nil ?_))
  refine use_check_people hs (rep_names ea dr.ok) (fun hbp B1 H1 sb1 hs1 => ?_) (fun i hi => ?_)
  case refine_2 =>
    exfalso
    simp only [mkGroup, hi] at hG2
    cases hG2
  ((with_reducible refine x_seq ?_); (with_reducible refine x_drop ?_); (with_reducible refine x_cl ?_); (with_reducible refine x_cons ?_); ((with_reducible refine' x_var ?z11h ?_); case z11h => rfl); (with_reducible refine x_cons ?_); ((with_reducible refine' x_var ?z13h ?_); case z13h => rfl); (with_reducible refine x_nil ?_))
  obtain ⟨B0', Bb, hsb, sbb, eb, back⟩ := hs1.borrowL hl hnd
  have hwb : WAt Bb done (zipF done f) ws := WAt.ofF fun q mq => eb (f q, .lst ((ws q).map V.str)) (List.mem_cons_of_mem _ (List.mem_map.mpr ⟨q, mq, rfl⟩))
  refine use_check_wishes hsb (sbb _ _ (sb1 _ _ ea)) xl (.dct (eb _ List.mem_cons_self) (hwb.repK (ret_lenW dr xl))) (fun hbw Bc Hc sbc hsc => ?_) (fun i hi => ?_)
  case refine_2 =>
    exfalso
    simp only [mkGroup, hbp, strL_map xs, D.asStrs, hi] at hG2
    cases hG2
  obtain ⟨B2, hs2, sb2⟩ := back sbc hsc
  ((with_reducible refine x_seq ?_); (with_reducible refine x_sfldU ?_); (with_reducible refine x_cb ?_); (with_reducible refine x_cons ?_); ((with_reducible refine' x_var ?z19h ?_); case z19h => rfl); (with_reducible refine x_nil ?_); ((with_reducible refine' x_listT ?z21h ?_); case z21h => walk_at "st"))
  refine new_F hs2 (fun n B3 H3 hs3 sb3 en _ => ?_)
  ((with_reducible refine' x_var ?z22h ?_); case z22h => rfl)
  refine x_sfld hs3 gk.cl gk.nn (by decide) (fun H4 hs4 => ?_)
  ((with_reducible refine x_seq ?_); (with_reducible refine x_sfldU ?_); (with_reducible refine x_dc ?_); (with_reducible refine x_iTup ?_); ((with_reducible refine' x_var ?z27h ?_); case z27h => rfl))
  refine ⟨a, rfl, ⟨_, by walk_at "st"⟩, fun l hl' => ?_⟩
  rw [pf1] at hs4
  refine d_tup (α := List Addr) (Mf := fun _ => [(p, .ins (He.ga K "Group") dx [("names", .ref n)])]) (P := fun i al acc B1 => al.length = i ∧ acc = zipK (xs.take i) al ∧ ∀ (j : Nat) q b, xs[j]? = some q → al[j]? = some b → LAt B1 G.wish q b)
    (s0 := []) hs4 hl' (by walk_at "bf") ⟨rfl, rfl, by simp⟩ (fun i x al acc B5 H5 hi hil hacc sb5 hs5 pp => ?_) (fun al acc B5 H5 sb5 hs5 hacc pp => ?_)
  · obtain ⟨q, hq, rfl⟩ := strs_get hi
    obtain ⟨hal, hac, hR⟩ := pp
    have hqm : q ∈ xs := List.mem_of_getElem? hq
    have hb1 := hwv q hqm
    have hb2 := LentOf (lrow q hqm) hs5
    have haw := LentOf ldk hs5
    ((with_reducible refine x_gname ?_); try simp only [List.set_cons_zero, List.set_cons_succ])
    refine ⟨rfl, ?_⟩
    ((with_reducible refine x_yes ?_); (with_reducible refine x_tt _ _ ?_); ((with_reducible refine' x_var ?z31h ?_); case z31h => rfl); (with_reducible refine x_cb ?_); (with_reducible refine x_cons ?_); (with_reducible refine x_dget ?_); ((with_reducible refine' x_var ?z35h ?_); case z35h => rfl); ((with_reducible refine' x_var ?z36h ?_); case z36h => rfl); ((with_reducible refine' x_dgS ?z37h ?z37h2 ?_); (case z37h => walk_at "hf"); (case z37h2 => assumption)); (with_reducible refine x_nil ?_); ((with_reducible refine' x_listL ?z39h ?_); case z39h => walk_at "sl"))
    refine new_F hs5 (fun c B6 H6 hs6 sb6 ec _ => ?_)
    refine d_keep (s := al ++ [c]) (sb5.trans sb6) hs6 hacc (by rw [List.length_map] at hil; omega) ⟨by simp [hal], ?_, all_put hq hal hR ec fun q' b z => sb6 _ _ z⟩
    rw [hac]
    exact zipK_put hd hq hal
  · obtain ⟨hal, hac, hR⟩ := pp
    rw [List.length_map] at hal hac
    rw [List.take_length] at hac
    subst hac
    ((with_reducible refine' x_var ?z40h ?_); case z40h => rfl)
    refine x_sfld hs5.swap gk.cl gk.nl (by simp) (fun H6 hs6 => ?_)
    rw [pf2] at hs6
    obtain ⟨hs7, sb7⟩ := hs6.swap.still (by simpa using hs5.ne01)
    have el : upd B5 l (.dK (zipK xs al)) l = some (.dK (zipK xs al)) := upd_same
    have hR7 : ∀ (j : Nat) q b, xs[j]? = some q → al[j]? = some b → LAt (upd B5 l (.dK (zipK xs al))) G.wish q b := fun j q b h1 h2 => sb7 _ _ (hR j q b h1 h2)
    generalize upd B5 l (.dK (zipK xs al)) = B7 at hs7 sb7 el hR7
    have hDl : DAt B7 l xs (LAt B7 G.wish) := ⟨al, hal, el, hR7⟩
    have sb5' := sb5
    ((with_reducible refine x_seq ?_); (with_reducible refine x_sfldU ?_); (with_reducible refine x_dnew ?_))
    refine new_M hs7 (fun m H8 hs8 _ => ?_)
    ((with_reducible refine' x_var ?z44h ?_); case z44h => rfl)
    refine x_sfld hs8.swap gk.cl gk.nm (by simp) (fun H9 hs9 => ?_)
    rw [pf3] at hs9
    ((with_reducible refine x_seq ?_); (with_reducible refine x_sfldU ?_); (with_reducible refine x_dnew ?_))
    refine new_M hs9 (fun q H10 hs10 _ => ?_)
    ((with_reducible refine' x_var ?z48h ?_); case z48h => rfl)
    refine x_sfld hs10.swap gk.cl gk.np (by simp) (fun H11 hs11 => ?_)
    rw [pf4] at hs11
    have hs11 : HS [p] B H B7 H11 [(p, .ins (He.ga K "Group") dx (gf n l m q)), (m, .dK []), (q, .dK [])] := by
      refine hs11.perm ?_
      exact List.Perm.cons _ (List.Perm.swap _ _ _)
    ((with_reducible refine x_for ?_); (with_reducible refine x_iTup ?_); ((with_reducible refine' x_var ?z51h ?_); case z51h => rfl))
    refine ⟨a, rfl, ⟨_, by walk_at "st"⟩, ?_⟩
    refine l_tup (α := (List Addr × List Addr) × (Option V × Option V)) (σf := fun s => [some (.ref p), some (.ref a), some (.ref aw), s.2.1, s.2.2, none, none])
      (Mf := fun s => [(p, .ins (He.ga K "Group") dx (gf n l m q)), (m, .dK (zipK (xs.take s.1.1.length) s.1.1)), (q, .dK (zipK (xs.take s.1.2.length) s.1.2))])
      (P := fun i s B1 => s.1.1.length = i ∧ s.1.2.length = i ∧ (∀ (j : Nat) x b, xs[j]? = some x → s.1.1[j]? = some b → LAt B1 G.open x b) ∧ (∀ (j : Nat) x b, xs[j]? = some x → s.1.2[j]? = some b → PAt B1 G.open x b))
      (s0 := (([], []), (none, none))) hs11 (by walk_at "bf") ⟨rfl, rfl, by simp, by simp⟩ (fun i x s B1 H1 hi sb1 hs1 pp => ?_) (fun s B1 H1 sb1 hs1 pp => ?_)
    · obtain ⟨⟨am, ap⟩, s2, s3⟩ := s
      obtain ⟨ham, hap, hRm, hRp⟩ := pp
      dsimp only at ham hap hRm hRp hs1 ⊢
      obtain ⟨x, hx, rfl⟩ := strs_get hi
      have hil : i < xs.length := (List.getElem?_eq_some_iff.mp hx).1
      have hxm : x ∈ xs := List.mem_of_getElem? hx
      have hb1 := hwv x hxm
      have hb2 := LentOf (lrow x hxm) hs1
      have haw := LentOf ldk hs1
      have hwlen : (G.wish x).length ≤ 16 := by
        have h1 := hG.wn x (by rw [hGn]; exact hxm)
        have h2 := hG.wi x (by rw [hGn]; exact hxm)
        have := nodup_len h1 h2
        have := hG.few
        omega
      (((with_reducible refine x_gname ?_); try simp only [List.set_cons_zero, List.set_cons_succ]); (with_reducible refine x_seq ?_); (with_reducible refine x_asg ?_); (with_reducible refine x_lc ?_); (with_reducible refine x_iList ?_); (with_reducible refine x_dget ?_); ((with_reducible refine' x_var ?z58h ?_); case z58h => rfl); ((with_reducible refine' x_var ?z59h ?_); case z59h => rfl); ((with_reducible refine' x_dgS ?z60h ?z60h2 ?_); (case z60h => walk_at "hf"); (case z60h2 => assumption)))
      refine ⟨f x, rfl, ⟨_, by walk_at "sl"⟩, fun r hr => ?_⟩
      obtain ⟨Bz0, Bz, hsz, sbz, ez, backz⟩ := hs1.borrowL hl hnd
      have ezr : ∀ q ∈ xs, Bz (f q) = some (.lst ((G.wish q).map V.str)) := fun q m => by
        rw [hw2 q m]
        exact ez (f q, .lst ((ws q).map V.str)) (List.mem_cons_of_mem _ (List.mem_map.mpr ⟨q, mdn m, rfl⟩))
      refine c_list (α := Unit) (Mf := fun _ => [(p, .ins (He.ga K "Group") dx (gf n l m q)), (m, .dK (zipK (xs.take am.length) am)), (q, .dK (zipK (xs.take ap.length) ap))])
        (P := fun i _ acc _ => acc = (((G.wish x).take i).filter fun c => decide (x ∈ G.wish c)).map V.str) (s0 := ()) hsz hr (ezr x hxm) rfl (fun j y _ acc B2 H2 hj hacc sb2 hs2 pp => ?_) (fun _ acc B2 H2 sb2 hs2 hacc pp => ?_)
      · obtain ⟨y, hy, rfl⟩ := strs_get hj
        have hjl : j < (G.wish x).length := (List.getElem?_eq_some_iff.mp hy).1
        have hym : y ∈ xs := by rw [← hGn]; exact hG.wi x (by rw [hGn]; exact hxm) y (List.mem_of_getElem? hy)
        have hc1 := hwv y hym
        have hc2 := hs2.up (sb2 _ _ (ezr y hym))
        have haw2 := hs2.up (sb2 _ _ (ez _ List.mem_cons_self))
        ((with_reducible refine x_gname ?_); try simp only [List.set_cons_zero, List.set_cons_succ])
        refine ⟨rfl, ?_⟩
        ((with_reducible refine x_test ?_); (with_reducible refine x_op ?_); ((with_reducible refine' x_var ?z64h ?_); case z64h => rfl); (with_reducible refine x_dget ?_); ((with_reducible refine' x_var ?z66h ?_); case z66h => rfl); ((with_reducible refine' x_var ?z67h ?_); case z67h => rfl); ((with_reducible refine' x_dgS ?z68h ?z68h2 ?_); (case z68h => walk_at "hf"); (case z68h2 => assumption)); ((with_reducible refine' x_inLS ?z69h ?_); case z69h => walk_at "sl"); (with_reducible refine x_exb ?_))
        refine x_ite (fun h => ?_) (fun h => ?_)
        · ((with_reducible refine' x_var ?z71h ?_); case z71h => rfl)
          refine c_keep (s := ()) sb2 hs2 hacc (by omega) ?_
          rw [filter_take _ hy, if_pos h, pp]
          simp
        · refine c_left (s := ()) sb2 hs2 hacc ?_
          rw [filter_take _ hy, if_neg (by rw [h]; decide), pp]
      · rw [List.length_map, List.take_length] at pp
        have pp : acc = (G.open x).map V.str := pp
        subst pp
        obtain ⟨B2b, hs2, sb2⟩ := backz sb2 hs2
        obtain ⟨hs3, sb3⟩ := hs2.still (by simpa using hs2.ne01)
        have er : upd B2b r (.lst ((G.open x).map V.str)) r = some (.lst ((G.open x).map V.str)) := upd_same
        generalize upd B2b r (.lst ((G.open x).map V.str)) = B3 at hs3 sb3 er
        (((with_reducible refine x_gname ?_); try simp only [List.set_cons_zero, List.set_cons_succ]); (with_reducible refine x_seq ?_); (with_reducible refine x_dputU ?_); ((with_reducible refine' x_var ?z75h ?_); case z75h => rfl); (with_reducible refine x_fldU ?_); ((with_reducible refine' x_var ?z77h ?_); case z77h => rfl))
        refine x_fld (hs3.get List.mem_cons_self) gk.cl gk.nm (gf_mutual n l m q) ?_
        ((with_reducible refine' x_var ?z78h ?_); case z78h => rfl)
        refine x_dput hs3.swap (by have := zipK_len (xs.take am.length) am; rw [List.length_take] at this; omega) (fun H4 hs4 => ?_)
        have hs4 := hs4.swap
        ((with_reducible refine x_dputU ?_); (with_reducible refine x_dc ?_); (with_reducible refine x_iEnum ?_); (with_reducible refine x_cons ?_); ((with_reducible refine' x_var ?z83h ?_); case z83h => rfl); (with_reducible refine x_nil ?_))
        refine ⟨r, _, rfl, by walk_at "sl", fun dd hdd => ?_⟩
        have hop : (G.open x).length ≤ 16 := by
          have : (G.open x).length ≤ (G.wish x).length := List.length_filter_le _ _
          omega
        refine d_enum (α := Unit) (Mf := fun _ => [(p, .ins (He.ga K "Group") dx (gf n l m q)), (m, .dK (putK (zipK (xs.take am.length) am) (.inr x) (.ref r))), (q, .dK (zipK (xs.take ap.length) ap))])
          (P := fun i _ acc _ => acc = enumK ((G.open x).take i)) (s0 := ()) hs4 hdd (by walk_at "bf") rfl (fun _ _ _ _ _ z _ => z) (fun j y _ acc T B5 H5 hj hjl hacc sb5 hs5 pp hT => ?_) (fun _ acc B5 H5 sb5 hs5 hacc pp => ?_)
        · obtain ⟨y, hy, rfl⟩ := strs_get hj
          (((with_reducible refine' x_gtup ?z85h ?z85h2 ?_); (case z85h => walk_at "st"); (case z85h2 => rfl)); (with_reducible refine x_gcons ?_); ((with_reducible refine x_gname ?_); try simp only [List.set_cons_zero, List.set_cons_succ]); (with_reducible refine x_gcons ?_); ((with_reducible refine x_gname ?_); try simp only [List.set_cons_zero, List.set_cons_succ]); (with_reducible refine x_gnil ?_))
          refine ⟨rfl, ?_⟩
          ((with_reducible refine x_yes ?_); (with_reducible refine x_tt _ _ ?_); ((with_reducible refine' x_var ?z93h ?_); case z93h => rfl); ((with_reducible refine' x_var ?z94h ?_); case z94h => rfl))
          refine d_keep (s := ()) sb5 hs5 hacc (by rw [List.length_map] at hjl; omega) ?_
          rw [pp, enumK_take hy]
          refine putK_new (valV_none_keys ?_)
          rw [enumK_keys]
          intro z
          obtain ⟨y', hy', e⟩ := List.mem_map.mp z
          have e := Sum.inr.inj e
          subst e
          obtain ⟨j', hj', e⟩ := List.mem_take_iff_getElem.mp hy'
          have h1 : (G.open x)[j']? = some y' := by rw [← e]; simp
          have hnd : (G.open x).Nodup := (hG.wn x (by rw [hGn]; exact hxm)).filter _
          have := nodup_ix hnd h1 hy
          omega
        · rw [List.length_map, List.take_length] at pp
          subst pp
          have hdp : dd ≠ p := hs5.ne01
          obtain ⟨hs6, sb6⟩ := hs5.still (by simpa using hdp)
          have ed : upd B5 dd (.dK (enumK (G.open x))) dd = some (.dK (enumK (G.open x))) := upd_same
          generalize upd B5 dd (.dK (enumK (G.open x))) = B6 at hs6 sb6 ed
          ((with_reducible refine x_fldU ?_); ((with_reducible refine' x_var ?z96h ?_); case z96h => rfl))
          refine x_fld (hs6.get List.mem_cons_self) gk.cl gk.np (gf_places n l m q) ?_
          ((with_reducible refine' x_var ?z97h ?_); case z97h => rfl)
          refine x_dput hs6.rot3 (by have := zipK_len (xs.take ap.length) ap; rw [List.length_take] at this; omega) (fun H7 hs7 => ?_)
          have hs7 := hs7.unrot3
          have sb36 : Same B3 B6 := sb5.trans sb6
          have sb16 : Same B1 B6 := (sb2.trans sb3).trans sb36
          refine ⟨((am ++ [r], ap ++ [dd]), (some _, some _)), B6, rfl, sb1.trans sb16, ?_, by simp [ham], by simp [hap], all_put hx ham hRm (sb36 _ _ er) fun _ _ z => sb16 _ _ z, all_put hx hap hRp ed fun _ _ z => sb16 _ _ z⟩
          dsimp only
          have e1 := zipK_put (c := r) hd hx ham
          have e2 := zipK_put (c := dd) hd hx hap
          rw [List.length_append, List.length_append, ham, hap]
          rw [ham, hap] at hs7
          rw [e1, e2] at hs7
          exact hs7
    · obtain ⟨⟨am, ap⟩, s2, s3⟩ := s
      obtain ⟨ham, hap, hRm, hRp⟩ := pp
      dsimp only at ham hap hRm hRp hs1 ⊢
      rw [List.length_map] at ham hap
      rw [ham, hap, List.take_length] at hs1
      have hs2 := hs1.rot3
      obtain ⟨hs3, sb3⟩ := hs2.still (by simpa using hs2.ne01)
      have eq_ : upd B1 q (.dK (zipK xs ap)) q = some (.dK (zipK xs ap)) := upd_same
      generalize upd B1 q (.dK (zipK xs ap)) = B3 at hs3 sb3 eq_
      have hs4 := hs3.swap
      obtain ⟨hs5, sb5⟩ := hs4.still (by simpa using hs4.ne01)
      have em : upd B3 m (.dK (zipK xs am)) m = some (.dK (zipK xs am)) := upd_same
      generalize upd B3 m (.dK (zipK xs am)) = B5 at hs5 sb5 em
      have hpp := hs5.get List.mem_cons_self
      have bpp := (hs5.mu _ List.mem_cons_self).1
      dsimp only at hpp bpp
      have sB6 : Same B5 (upd B5 p (.ins (He.ga K "Group") dx (gf n l m q))) := fun b u e => by rw [upd_ne (ne_of_none e bpp)]; exact e
      have ep : upd B5 p (.ins (He.ga K "Group") dx (gf n l m q)) p = some (.ins (He.ga K "Group") dx (gf n l m q)) := upd_same
      have hs6 : HS [p] B H (upd B5 p (.ins (He.ga K "Group") dx (gf n l m q))) H1 [] := by
        refine ⟨hs5.bb.trans sB6, fun b u e => ?_, fun b u n1 n2 e => ?_, fun _ z => (nomatch z), List.nodup_nil⟩
        · by_cases z : b = p
          · subst z; rw [upd_same] at e; cases e; exact hpp
          · rw [upd_ne z] at e; exact hs5.bh _ _ e
        · obtain ⟨h1, h2⟩ := hs5.fr b u n1 n2 e
          exact ⟨by rw [upd_ne (by simpa using n1)]; exact h1, h2⟩
      generalize upd B5 p (.ins (He.ga K "Group") dx (gf n l m q)) = B6 at sB6 ep hs6
      have s76 : Same B7 B6 := ((sb1.trans sb3).trans sb5).trans sB6
      have s16 : Same B1 B6 := (sb3.trans sb5).trans sB6
      refine k B6 H1 hs6 ⟨⟨dx, n, l, m, q, ep, ?_, ?_, ⟨am, by rw [hGn]; exact ham, ?_, fun j x b h1 h2 => s16 _ _ (hRm j x b (by rw [← hGn]; exact h1) h2)⟩, ⟨ap, by rw [hGn]; exact hap, ?_, fun j x b h1 h2 => s16 _ _ (hRp j x b (by rw [← hGn]; exact h1) h2)⟩⟩, hG⟩
      · rw [hGn]; exact s76 _ _ (sb7 _ _ (sb5' _ _ en))
      · rw [hGn]; exact hDl.mono s76 fun _ _ z => s76 _ _ z
      · rw [hGn]; exact sB6 _ _ em
      · rw [hGn]; exact sB6 _ _ (sb5 _ _ eq_)
theorem use_Group03 {K : PySem.W.Frag} {S : List Addr} {B0 H0 B H : Hp} {M : List (Addr × HO)} {Q : VK} {W : WX} {σ : L2.St} {a aw : Addr} {xs done : List Str} {f : Str → Addr} {ws : Str → List Str} (hs : HS S B0 H0 B H M) (ea : B a = some (.tup (xs.map V.str))) (hm : ∀ q ∈ (aw, HO.dK (zipF done f)) :: lsF done f ws, q ∈ M) (nd : (((aw, HO.dK (zipF done f)) :: lsF done f ws).map (·.1)).Nodup) (dr : Drawn xs done ws) (xl : xs.length ≤ 16)
    (k : ∀ B' H' g G, Same B B' → HS S B0 H0 B' H' M → GAt K B' g G → G.names = xs → (∀ q ∈ xs, G.wish q = ws q) → Q (.ref g) H') : Mkd (He.ga K "Group") (sp_Group___init__03 K) W σ Q [.ref a, .ref aw] H := by
  intro x dx hx hd hne
  have sB : Same B (upd (upd H dx (.own x)) x (.ins (He.ga K "Group") dx [])) := fun b o e => by
    have e' := hs.bh _ _ e
    rw [upd_ne (ne_of_none e' hx), upd_ne (ne_of_none e' hd)]; exact e'
  refine ⟨x, a, aw, B, dx, xs, done, f, ws, rfl, sB, same_none hs.bh hx, upd_same, ea, fun q mq => ?_, nd, dr, xl, fun B' H' G c g h1 h2 => ⟨rfl, k B' H' x G c.bb (hs.made hx hd c) g h1 h2⟩⟩
  obtain ⟨b1, e1, _⟩ := hs.mu q (hm q mq)
  have n1 : q.1 ≠ x := ne_of_none e1 hx
  exact ⟨⟨b1, by rw [upd_ne n1, upd_ne (ne_of_none e1 hd)]; exact e1⟩, by simpa using n1⟩
abbrev N_Group___iter__ : List Str := ["self"]
def t_Group___iter__ (K : PySem.W.Frag) (E : XK) : TS := (tRet (tCB (rIter K) (tCons (tFld K (tVar 0) "names") tNil)))
def sp_Group___iter__ (K : PySem.W.Frag) : Sp := fun vs H Q E => ∃ (p : Addr) (B : Hp) (G : Grp), vs = [.ref p] ∧ Same B H ∧ GAt K B p G ∧ ∀ it l, B l = some (.lst (G.names.map V.str)) → H it = none → Q (.ref it) (upd H it (ItO l it 0))
theorem pure_Group___iter__ {K : PySem.W.Frag} (gk : GK K) {vs : List V} {H : Hp} {Q : VK} {E : XK} (h : sp_Group___iter__ K vs H Q E) : t_Group___iter__ K E { nx := fun _ H' => Q .non H', rt := Q } (start N_Group___iter__ vs) H := by
  obtain ⟨p, B, G, rfl, sB, g, k⟩ := h
  have hs := HS.start sB
  obtain ⟨⟨dx, n, l, m, q, h1, h2, _⟩, _⟩ := id g
  show t_Group___iter__ K E _ [some (.ref p)] H
  unfold t_Group___iter__
  refine x_ret (x_cb (x_cons (x_fldU (x_var rfl (x_fld (hs.up h1) gk.cl gk.nn (gf_names n l m q) (x_nil ?_))))))
  exact ⟨n, _, rfl, SqL.of (hs.up h2), fun it hn => k it n h2 hn⟩
/-! ### rows that change -/
def lsV (rs : List Str) (f : Str → Addr) (g : Str → List V) : List (Addr × HO) := rs.map fun p => (f p, .lst (g p))
theorem lsV_out {rs : List Str} {f : Str → Addr} {g : Str → List V} {y : Str} (m : y ∈ rs) : (lsV rs f g).Perm ((f y, HO.lst (g y)) :: lsV (rs.erase y) f g) := (List.perm_cons_erase m).map _
theorem lsV_in {rs : List Str} {f : Str → Addr} {g : Str → List V} {y : Str} {r : List V} (m : y ∈ rs) (nd : rs.Nodup) : ((f y, HO.lst r) :: lsV (rs.erase y) f g).Perm (lsV rs f (updW g y r)) := by
  have h := (lsV_out (f := f) (g := updW g y r) m).symm
  rw [updW_eq] at h
  have e : lsV (rs.erase y) f (updW g y r) = lsV (rs.erase y) f g := List.map_congr_left fun z mz => by
    have : z ≠ y := fun e => by subst e; exact absurd mz (nd.not_mem_erase)
    rw [updW_ne this]
  rw [e] at h
  exact h

end Q
set_option Elab.async false
set_option linter.all false
set_option maxRecDepth 100000
set_option maxHeartbeats 4000000
namespace Q
open PySem PySem.Spec PyProof.Rows L2
local macro_rules | `(tactic| walk_at "bf") => `(tactic| first | assumption | (refine' bstep (by assumption) ?r; case r => walk_at "bf") | fail)
local macro_rules | `(tactic| walk_at "rp") => `(tactic| first | assumption | exact Rep.int _ | exact Rep.bl _ | exact Rep.non | (refine' Rep.mono (by assumption) ?r; case r => walk_at "rp") | fail)
local macro_rules | `(tactic| walk_at "hf") => `(tactic| first | assumption | exact HS.up (by assumption) (by walk_at "bf") | exact HS.get (by assumption) List.mem_cons_self | exact HS.get (by assumption) (List.mem_cons_of_mem _ List.mem_cons_self) | exact HS.get (by assumption) (List.mem_cons_of_mem _ (List.mem_cons_of_mem _ List.mem_cons_self)) | exact HS.get (by assumption) (List.mem_cons_of_mem _ (List.mem_cons_of_mem _ (List.mem_cons_of_mem _ List.mem_cons_self))) | fail)
local macro_rules | `(tactic| walk_at "sl") => `(tactic| first | assumption | exact SqL.of (by walk_at "hf") | fail)
local macro_rules | `(tactic| walk_at "st") => `(tactic| first | assumption | exact SqT.of (by walk_at "hf") | fail)
local macro_rules | `(tactic| walk_at "sz") => `(tactic| first | assumption | (refine small_le ?_; first | assumption | omega | (simp; done) | (simp; omega)) | fail)
abbrev N_law : List Str := ["_law_script", "_law_state", "_law_model_here", "_law_handed", "_law_before", "_law_group_here", "_law_a", "_law_met", "_law_mutual_here", "_law_names_here", "_law_wishes_here"]
def t_law (K : PySem.W.Frag) (E : XK) : TS := (tSeq (tAsg (tCl (sp__law_cell K) (WE0 E) (tCons (tVar 0) (tCons (tC (.int 0)) tNil))) (gName 1))
  (tSeq (tAsg (tCl (sp__law_group K) (WE0 E) (tCons (tVar 1) (tCons (tC (.int 16)) tNil))) (gTup K 2 (gCons (gName 9) (gCons (gName 10) gNil))))
  (tSeq (tAsg (tCl (sp__law_model K) (WE0 E) (tCons (tVar 9) (tCons (tVar 10) tNil))) (gName 2))
  (tSeq (tAsg (tCl (sp__law_turned K) (WE0 E) (tCons (tCl (sp__law_copy K) (WE0 E) (tCons (tVar 10) tNil)) tNil)) (gName 3))
  (tSeq (tAsg (tCl (sp__law_copy K) (WE0 E) (tCons (tVar 3) tNil)) (gName 4))
  (tSeq (tAsg (tMk (He.ga K "Group") (sp_Group___init__03 K) (WE0 E) (tCons (tCB (rTupOf K) (tCons (tVar 9) tNil)) (tCons (tVar 3) tNil))) (gName 5))
  (tSeq (tIfS (tOr (tTest (tOp (rNeE K) (tVar 3) (tVar 4))) (tNot (tB (tCl (sp__law_row K) (WE0 E) (tCons (tCl (sp__law_shows K) (WE0 E) (tCons (tVar 5) tNil)) (tCons (tVar 2) tNil)))))) (tRet (tC (.bl false))) tNext)
  (tSeq (tFor (iList K (tVar 9)) (gName 6) (tSeq (tDrop (tBM K "list" rAppend (tDGet (tVar 3) (tVar 6)) (tCons (tC (.str "nobody")) tNil)))
  (tDrop (tBM0 K "list" rReverse (tDGet (tVar 3) (tVar 6))))))
  (tSeq (sDPut (tVar 3) (tC (.str "nobody")) (tLst tNil))
  (tSeq (tDrop (tBM K "list" rAppend (tMt (He.ga K "Group") "people" (sp_Group_people K) (WE0 E) (tVar 5) tNil) (tCons (tC (.str "nobody")) tNil)))
  (tSeq (tDrop (tBM0 K "list" rReverse (tMt (He.ga K "Group") "people" (sp_Group_people K) (WE0 E) (tVar 5) tNil)))
  (tSeq (tFor (iList K (tVar 9)) (gName 6) (tSeq (tDrop (tBM K "list" rInsert (tMt (He.ga K "Group") "wishes" (sp_Group_wishes K) (WE0 E) (tVar 5) (tCons (tVar 6) tNil)) (tCons (tC (.int 0)) (tCons (tC (.str "nobody")) tNil))))
  (tSeq (tDrop (tBM K "list" rInsert (tMt (He.ga K "Group") "open_to" (sp_Group_open_to K) (WE0 E) (tVar 5) (tCons (tVar 6) tNil)) (tCons (tC (.int 0)) (tCons (tC (.str "nobody")) tNil))))
  (tDrop (tBM K "list" rInsert (tGetG (He.ga K "Group") (sp_Group___getitem__ K) (WE0 E) (tVar 5) (tVar 6)) (tCons (tC (.int 0)) (tCons (tC (.str "nobody")) tNil)))))))
  (tSeq (tDrop (tBM K "list" rAppend (tMt (He.ga K "Group") "pairs" (sp_Group_pairs K) (WE0 E) (tVar 5) tNil) (tCons (tTup (tCons (tC (.str "no")) (tCons (tC (.str "nobody")) tNil))) tNil)))
  (tSeq (tIfS (tOr (tNot (tB (tCl (sp__law_is_integer K) (WE0 E) (tCons (tCB (rLenO (He.ga K "Group") (sp_Group___len__ K)) (tCons (tVar 5) tNil)) tNil)))) (tTest (tOp rNe (tCB (rLenO (He.ga K "Group") (sp_Group___len__ K)) (tCons (tVar 5) tNil)) (tCB (rLenA K) (tCons (tVar 9) tNil))))) (tRet (tC (.bl false))) tNext)
  (tSeq (tAsg (tLst tNil) (gName 7))
  (tSeq (tForO K (He.ga K "Group") (sp_Group___iter__ K) (WE0 E) (tVar 5) (gName 6) (tDrop (tBM K "list" rAppend (tVar 7) (tCons (tVar 6) tNil))))
  (tSeq (tIfS (tOr (tTest (tOp (rNeD K) (tVar 7) (tVar 9))) (tNot (tB (tCl (sp__law_row K) (WE0 E) (tCons (tMt (He.ga K "Group") "people" (sp_Group_people K) (WE0 E) (tVar 5) tNil) (tCons (tVar 9) tNil)))))) (tRet (tC (.bl false))) tNext)
  (tSeq (tAsg (tCl (sp__law_mutual K) (WE0 E) (tCons (tVar 9) (tCons (tVar 10) tNil))) (gName 8))
  (tSeq (tFor (iList K (tVar 9)) (gName 6) (tIfS (tOr (tNot (tB (tCl (sp__law_row K) (WE0 E) (tCons (tMt (He.ga K "Group") "open_to" (sp_Group_open_to K) (WE0 E) (tVar 5) (tCons (tVar 6) tNil)) (tCons (tDGet (tVar 8) (tVar 6)) tNil))))) (tNot (tB (tCl (sp__law_row K) (WE0 E) (tCons (tGetG (He.ga K "Group") (sp_Group___getitem__ K) (WE0 E) (tVar 5) (tVar 6)) (tCons (tDGet (tVar 8) (tVar 6)) tNil)))))) (tRet (tC (.bl false))) tNext))
  (tRet (tAndV (tCl (sp__law_row K) (WE0 E) (tCons (tMt (He.ga K "Group") "pairs" (sp_Group_pairs K) (WE0 E) (tVar 5) tNil) (tCons (tCl (sp__law_pairs K) (WE0 E) (tCons (tVar 8) tNil)) tNil))) (tCl (sp__law_row K) (WE0 E) (tCons (tCl (sp__law_shows K) (WE0 E) (tCons (tVar 5) tNil)) (tCons (tVar 2) tNil))))))))))))))))))))))))
theorem eqw_rows {K : PySem.W.Frag} {H : Hp} {a c : Addr} {rs : List Str} {f1 f2 : Str → Addr} {ws : Str → List Str} (nd : rs.Nodup) (ha : H a = some (.dK (zipF rs f1))) (hc : H c = some (.dK (zipF rs f2))) (h1 : ∀ q ∈ rs, H (f1 q) = some (.lst ((ws q).map V.str))) (h2 : ∀ q ∈ rs, H (f2 q) = some (.lst ((ws q).map V.str))) : EqW K H 2 (.ref a) (.ref c) true := by
  have := eqw_dict (K := K) (H := H) (a := a) (c := c) (f := ws) (g := ws) (al := rs.map f1) (bl := rs.map f2) (xs := rs) (ys := rs) (by simp) (by simp) nd (by rw [zipK_map]; exact ha) (by rw [zipK_map]; exact hc) (fun j p a e1 e2 => by
    rw [List.getElem?_map, e1] at e2
    cases e2
    exact h1 p (List.mem_of_getElem? e1)) (fun j p a e1 e2 => by
    rw [List.getElem?_map, e1] at e2
    cases e2
    exact h2 p (List.mem_of_getElem? e1))
  rw [show (decide (rs.length = rs.length) && rs.all fun p => decide (p ∈ rs) && decide (ws p = ws p)) = true by simp] at this
  exact this
theorem x_getG03 {C : Addr} {sp : Sp} {W : WX} {ta ti : TE} {σ : L2.St} {H : Hp} {Q : VK} (h : ta σ H fun x H1 => ti σ H1 fun y H2 => ∃ a dx fs, x = .ref a ∧ H2 a = some (.ins C dx fs) ∧ sp [x, y] H2 Q fun c d H' => W c d σ H') : tGetG C sp W ta ti σ H Q := h
theorem ne_strs03 {K : PySem.W.Frag} {H : Hp} {Q : VK} {p q : Addr} {xs : List Str} (hp : H p = some (.lst (xs.map V.str))) (hq : H q = some (.lst (xs.map V.str))) (h1 : ∀ x ∈ xs, PyData.strOk x = true) (h : Q (.bl false) H) : rNeD K (.ref p) (.ref q) H Q :=
  ⟨_, _, .lst (SqL.of hp) (dp_strs xs), .lst (SqL.of hq) (dp_strs xs), shaped_strs h1, shaped_strs h1, by simp only [PyData.eqv, eqv_strs, decide_true, Bool.not_true]; exact h⟩
theorem x_forO {K : PySem.W.Frag} {C : Addr} {sp : Sp} {W : WX} {ta : TE} {g : TG} {tb : TS} {D : Ends} {σ : L2.St} {H : Hp} (h : ta σ H fun x H1 => ∃ a dx fs, x = .ref a ∧ H1 a = some (.ins C dx fs) ∧ sp [.ref a] H1 (fun v H2 => ∃ it l, v = .ref it ∧ H2 it = some (ItO l it 0) ∧
  ∃ W' : Nat → Nat → L2.St → Hp → Prop, (∃ m, W' 0 m σ H2) ∧ ∀ i m σ H, W' i m σ H → ∃ xs, H it = some (ItO l it i) ∧ SqL K H l xs ∧
    ((xs[i]? = none ∧ D.nx σ (upd H it (ItE it i))) ∨ (∃ y, xs[i]? = some y ∧ ∃ N : L2.St → Hp → Prop, (∀ σ' H', N σ' H' → ∃ m', m' < m ∧ W' (i + 1) m' σ' H') ∧ g y σ (upd H it (ItO l it (i + 1))) fun σ2 H2 => tb { D with nx := N, ct := N, bk := D.nx } σ2 H2))) fun c d H' => W c d σ H') : tForO K C sp W ta g tb D σ H := h
theorem pure_law {K : PySem.W.Frag} (gk : GK K) {vs : List V} {H : Hp} {Q : VK} {E : XK} (h : spLaw K vs H Q E) : t_law K E { nx := fun _ H' => Q .non H', rt := Q } (start N_law vs) H := by
  obtain ⟨sc, ns, rfl, _, hS, k⟩ := h
  have hs := HS.start (Same.refl H)
  show t_law K E _ [some (.ref sc), none, none, none, none, none, none, none, none, none, none] H
  unfold t_law
  refine x_seq (x_asg (x_cl (x_cons (x_var rfl (x_cons (x_c (x_nil ?_)))))))
  refine use_cell (j := 0) hs hS (fun B1 H1 p a1 b1 sb1 hs1 hv1 => ?_)
  refine x_gname ?_
  dsimp only [List.set]
  ((with_reducible refine x_seq ?_); (with_reducible refine x_asg ?_); (with_reducible refine x_cl ?_); (with_reducible refine x_cons ?_); ((with_reducible refine' x_var ?z5h ?_); case z5h => rfl); (with_reducible refine x_cons ?_); (with_reducible refine x_c ?_); (with_reducible refine x_nil ?_))
  refine use_group (top := 16) hs1 hv1 (by decide) (fun B2 H2 a2 b2 T n w xs kvs done ws sb2 hs2 hv2 eT en hxl dr hw => ?_)
  (((with_reducible refine' x_gtup ?z9h ?z9h2 ?_); (case z9h => walk_at "st"); (case z9h2 => rfl)); (with_reducible refine x_gcons ?_); ((with_reducible refine x_gname ?_); try simp only [List.set_cons_zero, List.set_cons_succ]); (with_reducible refine x_gcons ?_); ((with_reducible refine x_gname ?_); try simp only [List.set_cons_zero, List.set_cons_succ]); (with_reducible refine x_gnil ?_); (with_reducible refine x_seq ?_); (with_reducible refine x_asg ?_); (with_reducible refine x_cl ?_); (with_reducible refine x_cons ?_); ((with_reducible refine' x_var ?z19h ?_); case z19h => rfl); (with_reducible refine x_cons ?_); ((with_reducible refine' x_var ?z21h ?_); case z21h => rfl); (with_reducible refine x_nil ?_))
  obtain ⟨B3, hs3, sb3, ew⟩ := hs2.swap.still0
  have hs3 := hs3.drop
  have en := sb3 _ _ en
  have hw := hw.mono sb3
  have ndd : done.Nodup := dr.pe.nodup_iff.mpr dr.nd
  have hdl := dr.pe.length_eq
  clear hs1 hs2 eT
  refine ⟨n, w, xs, done, kvs, ws, B3, rfl, hs3.bh, en, ew, hw, ndd, fun x m => dr.pe.mem_iff.mpr m, by omega, fun B4 H4 md mv c4 mr4 => ?_⟩
  have hs4 := hs3.callN c4
  obtain ⟨B5, hs5, sb5, emd⟩ := hs4.still0
  have s35 : Same B3 B5 := c4.bb.trans sb5
  have mr5 := mr4.mono sb5
  refine x_gname ?_
  dsimp only [List.set]
  refine x_seq (x_asg (x_cl (x_cons (x_cl (x_cons (x_var rfl (x_nil ?_)))))))
  refine use_copyB hs5 (s35 _ _ ew) (hw.mono s35) ndd (by omega) (fun B6 H6 c f sb6 hs6 => ?_)
  obtain ⟨B7, hs7, sb7, ec⟩ := hs6.still0
  refine x_nil ?_
  refine use_turned hs7 ec ndd (by omega) (fun B8 H8 T rs sb8 hs8 pe8 => ?_)
  have dr8 : Drawn xs rs ws := ⟨dr.nd, dr.ok, pe8.trans dr.pe, dr.row⟩
  have ndr : rs.Nodup := dr8.pe.nodup_iff.mpr dr8.nd
  have hrl := dr8.pe.length_eq
  have hs8 : HS [] H H B8 H8 ((T, .dK (zipF rs f)) :: lsF rs f ws) := by
    have hs8 : HS [] H H B8 H8 ((T, .dK (zipF rs f)) :: lsF done f ws) := by simpa using hs8
    exact hs8.perm ((lsF_perm (f := f) (ws := ws) pe8.symm).cons _)
  have s58 := (sb6.trans sb7).trans sb8
  refine x_gname ?_
  dsimp only [List.set]
  -- the second copy
  obtain ⟨B9, hs9, sb9, e9, back⟩ := HS.lendL (N := (T, .dK (zipF rs f)) :: lsF rs f ws) (M := []) (by rw [List.append_nil]; exact hs8)
  have hw9 : WAt B9 rs (zipF rs f) ws := WAt.ofF fun q mq => e9 (f q, .lst ((ws q).map V.str)) (List.mem_cons_of_mem _ (List.mem_map.mpr ⟨q, mq, rfl⟩))
  refine x_seq (x_asg (x_cl (x_cons (x_var rfl (x_nil ?_)))))
  refine use_copyB hs9 (e9 _ List.mem_cons_self) hw9 ndr (by omega) (fun B10 H10 c2 f2 sb10 hs10 => ?_)
  rw [List.append_nil] at hs10
  obtain ⟨B11, hs11, sb11, _⟩ := back sb10 hs10
  have hs11 : HS [] H H B11 H10 (((c2, HO.dK (zipF rs f2)) :: lsF rs f2 ws) ++ ((T, HO.dK (zipF rs f)) :: lsF rs f ws)) := hs11.perm List.perm_append_comm
  obtain ⟨B12, hs12, sb12, e12⟩ := hs11.stillLS (fun q _ => by simp)
  refine x_gname ?_
  dsimp only [List.set]
  have s512 := (s58.trans sb11).trans sb12
  have en12 := (s35.trans s512) _ _ en
  -- the group
  refine x_seq (x_asg (x_mk (x_cons (x_cb (x_cons (x_var rfl (x_nil ?_)))))))
  refine x_tupL (SqL.of (hs12.up en12)) ?_
  refine new_F hs12 (fun tp B13 H13 hs13 sb13 etp _ => ?_)
  refine x_cons (x_var rfl (x_nil ?_))
  refine use_Group03 hs13 etp (fun q mq => mq) hs13.nd dr8 hxl (fun B14 H14 g G sb14 hs14 gat hgn hgw => ?_)
  refine x_gname ?_
  dsimp only [List.set]
  have s14 := (s512.trans sb13).trans sb14
  have gok := gat.2
  have hopn : ∀ a ∈ xs, G.open a = opn ws a := fun a ma => by
    unfold Grp.open opn
    rw [hgw a ma]
    refine List.filter_congr fun b mb => ?_
    rw [hgw b ((dr.row a ma).2.2 b mb)]
  have sk : ∀ x ∈ xs, PyData.strOk x = true := fun x mx => okName_strOk (dr.ok x mx)
  -- nothing was changed
  refine x_seq (x_if (x_or (x_test (x_op (x_var rfl (x_var rfl ?_))))))
  have mem2 : ∀ q ∈ rs, (f2 q, HO.lst ((ws q).map V.str)) ∈ lsF rs f2 ws := fun q mq => List.mem_map.mpr ⟨q, mq, rfl⟩
  have mem1 : ∀ q ∈ rs, (f q, HO.lst ((ws q).map V.str)) ∈ (T, HO.dK (zipF rs f)) :: lsF rs f ws := fun q mq => List.mem_cons_of_mem _ (List.mem_map.mpr ⟨q, mq, rfl⟩)
  have up12 : ∀ {a : Addr} {o : HO}, B12 a = some o → H14 a = some o := fun e => hs14.up (sb14 _ _ (sb13 _ _ e))
  refine ⟨2, true, by decide, eqw_rows ndr (hs14.get List.mem_cons_self) (up12 (e12 _ List.mem_cons_self)) (fun q mq => hs14.get (mem1 q mq)) (fun q mq => up12 (e12 _ (List.mem_cons_of_mem _ (mem2 q mq)))), ?_⟩
  refine x_exb (x_iteF rfl ?_)
  refine x_not (x_tB (x_cl (x_cons (x_cl (x_cons (x_var rfl (x_nil ?_)))))))
  refine use_shows hs14 gat (fun B15 H15 l15 v15 sb15 hs15 mr15 => ?_)
  have hshow : rowsOf G.names G.wish = rowsOf xs ws := by
    rw [hgn]
    exact rowsOf_congr hgw
  have okw : ∀ x ∈ xs, ∀ y ∈ ws x, okName y = true := fun x mx y my => dr.ok y ((dr.row x mx).2.2 y my)
  rw [hshow] at mr15
  refine x_cons (x_var rfl (x_nil ?_))
  have s515 := s14.trans sb15
  refine row_same hs15.bh (hs15.get List.mem_cons_self) (hs15.up (s515 _ _ emd)) mr15 (mr5.mono s515) dr.ok okw ?_
  refine x_exb (x_iteF rfl (x_next ?_))
  dsimp only
  have hs15 := hs15.drop
  -- what was handed changes
  have hs15 : HS [] H H B15 H15 ((T, .dK (zipF rs f)) :: lsV rs f fun q => (ws q).map V.str) := hs15
  have s315 := s35.trans s515
  have en15 := s315 _ _ en
  refine x_seq (x_for (x_iList (x_var rfl ⟨n, rfl, ⟨_, SqL.of (hs15.up en15)⟩, ?_⟩)))
  refine l_list (α := (Str → List V) × Option V) (σf := fun z => [some (.ref sc), some (.ref p), some (.ref md), some (.ref T), some (.ref c2), some (.ref g), z.2, none, none, some (.ref n), some (.ref w)]) (Mf := fun z => (T, .dK (zipF rs f)) :: lsV rs f z.1) (P := fun i z _ => ∀ q ∈ rs, (z.1 q).length ≤ 16 + i) (s0 := (fun q => (ws q).map V.str, none)) hs15 en15 (fun q mq => by
    have := dr.row q (dr8.pe.mem_iff.mp mq)
    have := this.len
    rw [List.length_map]
    omega) (fun i v z B16 H16 hi sb16 hs16 pp => ?_) (fun z B16 H16 sb16 hs16 pp => ?_)
  · obtain ⟨gz, z6⟩ := z
    dsimp only at hs16 pp ⊢
    obtain ⟨a, ha, rfl⟩ := strs_get hi
    have hil := (List.getElem?_eq_some_iff.mp ha).1
    have ma : a ∈ rs := dr8.pe.mem_iff.mpr (List.mem_of_getElem? ha)
    refine x_gname ?_
    dsimp only [List.set]
    have hs17 : HS [] H H B16 H16 ((f a, .lst (gz a)) :: (T, .dK (zipF rs f)) :: lsV (rs.erase a) f gz) := hs16.perm (((lsV_out ma).cons _).trans (List.Perm.swap _ _ _))
    refine x_seq (x_drop (x_bm (x_dget (x_var rfl (x_var rfl ?_)))))
    refine x_dgS (hs16.get List.mem_cons_self) (zipF_val ma) ?_
    refine x_tyL (SqL.of (hs17.get List.mem_cons_self)) (x_cons (x_c (x_nil ?_)))
    refine x_append hs17 (by have := pp a ma; omega) (fun H18 hs18 => ?_)
    dsimp only
    refine x_drop (x_bm0 (x_dget (x_var rfl (x_var rfl ?_))))
    refine x_dgS (hs18.get (List.mem_cons_of_mem _ List.mem_cons_self)) (zipF_val ma) ?_
    refine x_tyL (SqL.of (hs18.get List.mem_cons_self)) ?_
    refine x_reverse hs18 (fun H19 hs19 => ?_)
    refine ⟨(updW gz a (gz a ++ [V.str "nobody"]).reverse, some _), B16, rfl, sb16, hs19.perm ((List.Perm.swap _ _ _).trans ((lsV_in ma ndr).cons _)), fun q mq => ?_⟩
    dsimp only
    have := pp q mq
    by_cases e : q = a
    · subst e
      rw [updW_eq, List.length_reverse, List.length_append, List.length_singleton]
      omega
    · rw [updW_ne e]
      omega
  obtain ⟨gz, z6⟩ := z
  dsimp only at hs16 pp ⊢
  refine x_seq (x_dputU (x_lst (x_nil (x_newL (by simp) ?_))))
  refine new_F hs16 (fun l0 B17 H17 hs17 sb17 _ _ => ?_)
  refine x_var rfl (x_c ?_)
  refine x_dput hs17 (by unfold zipF; rw [List.length_map]; omega) (fun H18 hs18 => ?_)
  dsimp only
  have hs18 := hs18.all
  have s1517 := sb16.trans sb17
  have g17 := (gat.mono sb15).mono s1517
  obtain ⟨dxg, ng, lg, mg, qg, hg17⟩ := g17.ins
  -- lists that are returned
  refine x_seq (x_drop (x_bm (x_mtU (x_var rfl ?_))))
  refine x_mt (hs18.up hg17) (gf_no (by decide +kernel)) (x_nil ?_)
  refine use_people hs18 g17 (fun B19 H19 l19 sb19 hs19 => ?_)
  refine x_tyL (SqL.of (hs19.get List.mem_cons_self)) (x_cons (x_c (x_nil ?_)))
  refine x_append hs19 (by rw [List.length_map, hgn]; omega) (fun H20 hs20 => ?_)
  dsimp only
  have hs20 := hs20.all
  have g19 := g17.mono sb19
  refine x_seq (x_drop (x_bm0 (x_mtU (x_var rfl ?_))))
  refine x_mt (hs20.up (sb19 _ _ hg17)) (gf_no (by decide +kernel)) (x_nil ?_)
  refine use_people hs20 g19 (fun B21 H21 l21 sb21 hs21 => ?_)
  refine x_tyL (SqL.of (hs21.get List.mem_cons_self)) ?_
  refine x_reverse hs21 (fun H22 hs22 => ?_)
  dsimp only
  have hs22 := hs22.all
  have g21 := g19.mono sb21
  have hg21 := (sb19.trans sb21) _ _ hg17
  have s321 := s315.trans (s1517.trans (sb19.trans sb21))
  have en21 := s321 _ _ en
  have hhas : ∀ a ∈ xs, G.has (.str a) = true := fun a ma => decide_eq_true (by rw [hgn]; exact ma)
  have lena : ∀ a ∈ xs, a.length ≤ 1000000 := fun a ma => okName_len (dr.ok a ma)
  refine x_seq (x_for (x_iList (x_var rfl ⟨n, rfl, ⟨_, SqL.of (hs22.up en21)⟩, ?_⟩)))
  refine l_list (α := Option V) (σf := fun z => [some (.ref sc), some (.ref p), some (.ref md), some (.ref T), some (.ref c2), some (.ref g), z, none, none, some (.ref n), some (.ref w)]) (Mf := fun _ => []) (P := fun _ _ _ => True) (s0 := z6) hs22 en21 trivial (fun i v z B23 H23 hi sb23 hs23 _ => ?_) (fun z B23 H23 sb23 hs23 _ => ?_)
  · obtain ⟨a, ha, rfl⟩ := strs_get hi
    have ma := List.mem_of_getElem? ha
    have mag : a ∈ G.names := by rw [hgn]; exact ma
    refine x_gname ?_
    dsimp only [List.set]
    have g23 := g21.mono sb23
    refine x_seq (x_drop (x_bm (x_mtU (x_var rfl ?_))))
    refine x_mt (hs23.up (sb23 _ _ hg21)) (gf_no (by decide +kernel)) (x_cons (x_var rfl (x_nil ?_)))
    refine use_wishes hs23 g23 (.str (lena a ma)) (fun x ex mx B24 H24 l24 sb24 hs24 => ?_) (fun h => by rw [hhas a ma] at h; cases h)
    cases ex
    refine x_tyL (SqL.of (hs24.get List.mem_cons_self)) (x_cons (x_c (x_cons (x_c (x_nil ?_)))))
    refine x_insert (i := 0) hs24 (by have := gok.wlen mag; rw [List.length_map]; omega) (Nat.zero_le _) (fun H25 hs25 => ?_)
    dsimp only
    have hs25 := hs25.all
    have g24 := g23.mono sb24
    have s24 := sb23.trans sb24
    refine x_seq (x_drop (x_bm (x_mtU (x_var rfl ?_))))
    refine x_mt (hs25.up (s24 _ _ hg21)) (gf_no (by decide +kernel)) (x_cons (x_var rfl (x_nil ?_)))
    refine use_open_to hs25 g24 (.str (lena a ma)) (fun x ex mx B26 H26 l26 sb26 hs26 => ?_) (fun h => by rw [hhas a ma] at h; cases h)
    cases ex
    refine x_tyL (SqL.of (hs26.get List.mem_cons_self)) (x_cons (x_c (x_cons (x_c (x_nil ?_)))))
    refine x_insert (i := 0) hs26 (by have := gok.olen mag; rw [List.length_map]; omega) (Nat.zero_le _) (fun H27 hs27 => ?_)
    dsimp only
    have hs27 := hs27.all
    have g26 := g24.mono sb26
    have s26 := s24.trans sb26
    refine x_drop (x_bm (x_getG03 (x_var rfl (x_var rfl ⟨g, dxg, _, rfl, hs27.up (s26 _ _ hg21), ?_⟩))))
    refine use_open_to hs27 g26 (.str (lena a ma)) (fun x ex mx B28 H28 l28 sb28 hs28 => ?_) (fun h => by rw [hhas a ma] at h; cases h)
    cases ex
    refine x_tyL (SqL.of (hs28.get List.mem_cons_self)) (x_cons (x_c (x_cons (x_c (x_nil ?_)))))
    refine x_insert (i := 0) hs28 (by have := gok.olen mag; rw [List.length_map]; omega) (Nat.zero_le _) (fun H29 hs29 => ?_)
    exact ⟨some (.str a), B28, rfl, s26.trans sb28, hs29.all, trivial⟩
  have g23 := g21.mono sb23
  have mu := gok.mut
  have hpl : G.pairs.length ≤ 256 := prsOf_lenM mu
  refine x_seq (x_drop (x_bm (x_mtU (x_var rfl ?_))))
  refine x_mt (hs23.up (sb23 _ _ hg21)) (gf_no (by decide +kernel)) (x_nil ?_)
  refine use_pairs hs23 g23 (fun B24 H24 l24 v24 sb24 hs24 tr24 => ?_)
  refine x_tyL (SqL.of (hs24.get List.mem_cons_self)) (x_cons (x_tup (x_cons (x_c (x_cons (x_c (x_nil (x_newT (by simp) ?_))))))))
  refine new_F hs24 (fun tt B25 H25 hs25 sb25 _ _ => ?_)
  refine x_nil ?_
  refine x_append hs25 (by have := tr24.len; omega) (fun H26 hs26 => ?_)
  dsimp only
  have hs26 := hs26.all
  have s2325 := (sb23.trans sb24).trans sb25
  have g25 := g21.mono s2325
  have en25 := s2325 _ _ en21
  -- how many
  refine x_seq (x_if (x_or (x_not (x_tB (x_cl (x_cons (x_cb (x_cons (x_var rfl (x_nil ?_)))))))))) 
  refine use_len hs26 g25 (fun B27 H27 sb27 hs27 => ?_)
  refine x_nil ⟨_, B27, _, rfl, hs27.bh, .int _, fun B28 H28 v28 c28 e28 => ?_⟩
  subst e28
  have hs28 := hs27.call c28
  refine x_exb (x_iteF rfl ?_)
  refine x_test (x_op (x_cb (x_cons (x_var rfl (x_nil ?_)))))
  have g28 := (g25.mono sb27).mono c28.bb
  refine use_len hs28 g28 (fun B29 H29 sb29 hs29 => ?_)
  have s2529 := (sb27.trans c28.bb).trans sb29
  have en29 := s2529 _ _ en25
  have g29 := g25.mono s2529
  refine x_cb (x_cons (x_var rfl (x_nil ?_)))
  refine x_lenL (SqL.of (hs29.up en29)) ?_
  rw [List.length_map, hgn]
  refine x_ne rfl (x_exb ?_)
  rw [decide_eq_true rfl]
  refine x_iteF rfl (x_next ?_)
  dsimp only
  -- the group itself is walked through
  refine x_seq (x_asg (x_lst (x_nil (x_newL (by simp) ?_))))
  refine new_M hs29 (fun mt H30 hs30 _ => ?_)
  refine x_gname ?_
  dsimp only [List.set]
  have hg29 := (s2325.trans s2529) _ _ hg21
  refine x_seq (x_forO (x_var rfl ⟨g, dxg, _, rfl, hs30.up hg29, ?_⟩))
  refine ⟨g, B29, G, rfl, hs30.bh, g29, fun it l el hit => ?_⟩
  have hs31 := hs30.new (o := ItO l it 0) hit
  rw [hgn] at el
  refine ⟨it, l, rfl, upd_same, fun i m σ H' => m = xs.length - i ∧ i ≤ xs.length ∧ ∃ z, HS [] H H B29 H' [(it, ItO l it i), (mt, .lst ((xs.take i).map V.str))] ∧ σ = [some (.ref sc), some (.ref p), some (.ref md), some (.ref T), some (.ref c2), some (.ref g), z, some (.ref mt), none, some (.ref n), some (.ref w)], ⟨_, rfl, Nat.zero_le _, z, hs31, rfl⟩, ?_⟩
  rintro i m σ H' ⟨rfl, hi, zz, hsi, rfl⟩
  refine ⟨xs.map V.str, hsi.get List.mem_cons_self, SqL.of (hsi.up el), ?_⟩
  by_cases hlt : i < xs.length
  · have hxi : xs[i]? = some xs[i] := List.getElem?_eq_getElem hlt
    generalize xs[i] = a at hxi
    refine .inr ⟨.str a, by rw [List.getElem?_map, hxi]; rfl, fun σ' H' => (xs.length - (i + 1) = xs.length - (i + 1) ∧ i + 1 ≤ xs.length ∧ ∃ z, HS [] H H B29 H' [(it, ItO l it (i + 1)), (mt, .lst ((xs.take (i + 1)).map V.str))] ∧ σ' = [some (.ref sc), some (.ref p), some (.ref md), some (.ref T), some (.ref c2), some (.ref g), z, some (.ref mt), none, some (.ref n), some (.ref w)]), fun σ' H' h => ⟨xs.length - (i + 1), by omega, h⟩, ?_⟩
    have hsu := hsi.set0 (o' := ItO l it (i + 1))
    refine x_gname ?_
    dsimp only [List.set]
    refine x_drop (x_bm (x_var rfl ?_))
    refine x_tyL (SqL.of (hsu.get (p := mt) (o := .lst ((xs.take i).map V.str)) (by simp))) (x_cons (x_var rfl (x_nil ?_)))
    refine x_append hsu.swap (by rw [List.length_map, List.length_take]; omega) (fun H32 hs32 => ?_)
    refine ⟨rfl, hlt, some (.str a), ?_, rfl⟩
    rw [take_snoc hxi, List.map_append]
    exact hs32.swap
  have hie : i = xs.length := by omega
  subst hie
  refine .inl ⟨by rw [List.getElem?_eq_none]; rw [List.length_map]; exact Nat.le_refl _, ?_⟩
  have hsu := (hsi.set0 (o' := ItE it xs.length)).drop
  rw [List.take_length] at hsu
  generalize upd H' it (ItE it xs.length) = H33 at hsu
  dsimp only
  obtain ⟨B34, hs34, sb34, emt⟩ := hsu.still0
  have g34 := g29.mono sb34
  have en34 := sb34 _ _ en29
  have s334 := s321.trans (s2325.trans (s2529.trans sb34))
  have hg34 := sb34 _ _ hg29
  refine x_seq (x_if (x_or (x_test (x_op (x_var rfl (x_var rfl ?_))))))
  refine ne_strs03 (hs34.up emt) (hs34.up en34) sk ?_
  refine x_exb (x_iteF rfl ?_)
  refine x_not (x_tB (x_cl (x_cons (x_mtU (x_var rfl ?_)))))
  refine x_mt (hs34.up hg34) (gf_no (by decide +kernel)) (x_nil ?_)
  refine use_people hs34 g34 (fun B35 H35 l35 sb35 hs35 => ?_)
  refine x_cons (x_var rfl (x_nil ?_))
  rw [hgn] at hs35
  refine row_strs hs35.bh (hs35.get List.mem_cons_self) (hs35.up (sb35 _ _ en34)) sk sk ?_
  rw [decide_eq_true rfl]
  refine x_exb (x_iteF rfl (x_next ?_))
  dsimp only
  have hs35 := hs35.all
  have s335 := s334.trans sb35
  -- who is open to whom
  refine x_seq (x_asg (x_cl (x_cons (x_var rfl (x_cons (x_var rfl (x_nil ?_)))))))
  refine ⟨n, w, xs, done, kvs, ws, B35, rfl, hs35.bh, s335 _ _ en, s335 _ _ ew, hw.mono s335, dr, by omega, fun B36 H36 mm kvm c36 hwm => ?_⟩
  have hs36 := hs35.callN c36
  obtain ⟨B37, hs37, sb37, em⟩ := hs36.still0
  have hwm := hwm.mono sb37
  have s3537 : Same B35 B37 := c36.bb.trans sb37
  have s337 := s335.trans s3537
  have g37 := (g34.mono sb35).mono s3537
  have hg37 := (sb35.trans s3537) _ _ hg34
  have en37 := s337 _ _ en
  refine x_gname ?_
  dsimp only [List.set]
  have sko : ∀ a ∈ xs, ∀ y ∈ G.open a, PyData.strOk y = true := fun a ma y my => okName_strOk (gok.nm y (gok.oin (by rw [hgn]; exact ma) my))
  refine x_seq (x_for (x_iList (x_var rfl ⟨n, rfl, ⟨_, SqL.of (hs37.up en37)⟩, ?_⟩)))
  refine l_list (α := Option V) (σf := fun z => [some (.ref sc), some (.ref p), some (.ref md), some (.ref T), some (.ref c2), some (.ref g), z, some (.ref mt), some (.ref mm), some (.ref n), some (.ref w)]) (Mf := fun _ => []) (P := fun _ _ _ => True) (s0 := zz) hs37 en37 trivial (fun i v z B38 H38 hi sb38 hs38 _ => ?_) (fun z B38 H38 sb38 hs38 _ => ?_)
  · obtain ⟨a, ha, rfl⟩ := strs_get hi
    have ma := List.mem_of_getElem? ha
    refine x_gname ?_
    dsimp only [List.set]
    have g38 := g37.mono sb38
    obtain ⟨la, eva, ela⟩ := hwm.get dr.nd ma
    rw [← hopn a ma] at ela
    refine x_if (x_or (x_not (x_tB (x_cl (x_cons (x_mtU (x_var rfl ?_)))))))
    refine x_mt (hs38.up (sb38 _ _ hg37)) (gf_no (by decide +kernel)) (x_cons (x_var rfl (x_nil ?_)))
    refine use_open_to hs38 g38 (.str (lena a ma)) (fun x ex mx B39 H39 l39 sb39 hs39 => ?_) (fun h => by rw [hhas a ma] at h; cases h)
    cases ex
    have s39 := sb38.trans sb39
    refine x_cons (x_dget (x_var rfl (x_var rfl (x_dgS (hs39.up (s39 _ _ em)) eva (x_nil ?_)))))
    refine row_strs hs39.bh (hs39.get List.mem_cons_self) (hs39.up (s39 _ _ ela)) (sko a ma) (sko a ma) ?_
    rw [decide_eq_true rfl]
    refine x_exb (x_iteF rfl ?_)
    have hs39 := hs39.all
    have g39 := g38.mono sb39
    refine x_not (x_tB (x_cl (x_cons (x_getG03 (x_var rfl (x_var rfl ⟨g, dxg, _, rfl, hs39.up (s39 _ _ hg37), ?_⟩))))))
    refine use_open_to hs39 g39 (.str (lena a ma)) (fun x ex mx B40 H40 l40 sb40 hs40 => ?_) (fun h => by rw [hhas a ma] at h; cases h)
    cases ex
    have s40 := s39.trans sb40
    refine x_cons (x_dget (x_var rfl (x_var rfl (x_dgS (hs40.up (s40 _ _ em)) eva (x_nil ?_)))))
    refine row_strs hs40.bh (hs40.get List.mem_cons_self) (hs40.up (s40 _ _ ela)) (sko a ma) (sko a ma) ?_
    rw [decide_eq_true rfl]
    refine x_exb (x_iteF rfl (x_next ?_))
    exact ⟨some (.str a), B40, rfl, s40, hs40.all, trivial⟩
  have g38 := g37.mono sb38
  have prs : G.pairs = prsOf xs (opn ws) := prsOf_group hgn hopn
  refine x_ret (x_andV (x_cl (x_cons (x_mtU (x_var rfl ?_)))))
  refine x_mt (hs38.up (sb38 _ _ hg37)) (gf_no (by decide +kernel)) (x_nil ?_)
  refine use_pairs hs38 g38 (fun B39 H39 l39 v39 sb39 hs39 tr39 => ?_)
  refine x_cons (x_cl (x_cons (x_var rfl (x_nil ?_))))
  have s39 := sb38.trans sb39
  refine ⟨mm, kvm, xs, opn ws, B39, rfl, hs39.bh, s39 _ _ em, hwm.mono s39, dr.nd, by omega, fun a ma => by
    rw [← hopn a ma]
    have := gok.olen (x := a) (by rw [hgn]; exact ma)
    omega, fun B40 H40 l40 v40 c40 tr40 => ?_⟩
  have hs40 := hs39.callN c40
  have hskp : ∀ k ∈ prsOf xs (opn ws), ∀ y ∈ k, PyData.strOk y = true := fun k mk y my => by
    obtain ⟨u, v, rfl, mu1, mv1, _⟩ := prsOf_get mk
    rw [← hopn u mu1] at mv1
    rcases List.mem_cons.mp my with rfl | my
    · exact sk _ mu1
    · rw [List.mem_singleton.mp my]
      exact sko u mu1 v mv1
  rw [prs] at tr39
  refine x_nil ?_
  refine row_tups hs40.bh (hs40.get (List.mem_cons_of_mem _ List.mem_cons_self)) (hs40.get List.mem_cons_self) (tr39.mono c40.bb) tr40 hskp hskp ?_
  rw [decide_eq_true rfl]
  refine ⟨true, rfl, ?_⟩
  rw [if_pos rfl]
  have hs40 := hs40.all
  have s40 : Same B37 B40 := s39.trans c40.bb
  refine x_cl (x_cons (x_cl (x_cons (x_var rfl (x_nil ?_)))))
  refine use_shows hs40 (g37.mono s40) (fun B41 H41 l41 v41 sb41 hs41 mr41 => ?_)
  rw [hshow] at mr41
  refine x_cons (x_var rfl (x_nil ?_))
  have s5 : Same B5 B41 := s515.trans (s1517.trans ((sb19.trans sb21).trans (s2325.trans (s2529.trans (sb34.trans (sb35.trans (s3537.trans (s40.trans sb41))))))))
  refine row_same hs41.bh (hs41.get List.mem_cons_self) (hs41.up (s5 _ _ emd)) mr41 (mr5.mono s5) dr.ok okw ?_
  exact k _
end Q

set_option Elab.async false
set_option linter.all false
set_option maxRecDepth 100000
set_option maxHeartbeats 0
/-! ### each def keeps its promise -/
namespace Hd
open PySem PySem.Spec PyProof.Rows L2 Q
structure Top (K : PySem.W.Frag) (mg : Str → Option Value) : Prop where
  f_abs : mg "abs" = none
  f_bool : mg "bool" = none
  f_dict : mg "dict" = none
  f_enumerate : mg "enumerate" = none
  f_int : mg "int" = none
  f_isinstance : mg "isinstance" = none
  f_iter : mg "iter" = none
  f_len : mg "len" = none
  f_list : mg "list" = none
  f_min : mg "min" = none
  f_range : mg "range" = none
  f_reversed : mg "reversed" = none
  f_sorted : mg "sorted" = none
  f_str : mg "str" = none
  f_tuple : mg "tuple" = none
  k_LETTERS : ∃ t, mg "LETTERS" = some (.str "abcdefghijklmnopqrstuvwxyz" t)
  k_MOST_PEOPLE : ∃ t, mg "MOST_PEOPLE" = some (.int 16 t)
  g_BadPeople : mg "BadPeople" = some (.ref (He.ga K "BadPeople"))
  g_BadWishes : mg "BadWishes" = some (.ref (He.ga K "BadWishes"))
  g_Group : mg "Group" = some (.ref (He.ga K "Group"))
  g_NoPerson : mg "NoPerson" = some (.ref (He.ga K "NoPerson"))
  g_QuietError : mg "QuietError" = some (.ref (He.ga K "QuietError"))
  g__law_cell : mg "_law_cell" = some (.ref (He.ga K "_law_cell"))
  g__law_copy : mg "_law_copy" = some (.ref (He.ga K "_law_copy"))
  g__law_take : mg "_law_take" = some (.ref (He.ga K "_law_take"))
  g__law_name : mg "_law_name" = some (.ref (He.ga K "_law_name"))
  g__law_names : mg "_law_names" = some (.ref (He.ga K "_law_names"))
  g__law_mixed : mg "_law_mixed" = some (.ref (He.ga K "_law_mixed"))
  g__law_others : mg "_law_others" = some (.ref (He.ga K "_law_others"))
  g__law_block_wishes : mg "_law_block_wishes" = some (.ref (He.ga K "_law_block_wishes"))
  g__law_plain_wishes : mg "_law_plain_wishes" = some (.ref (He.ga K "_law_plain_wishes"))
  g__law_side_wishes : mg "_law_side_wishes" = some (.ref (He.ga K "_law_side_wishes"))
  g__law_wishes : mg "_law_wishes" = some (.ref (He.ga K "_law_wishes"))
  g__law_group : mg "_law_group" = some (.ref (He.ga K "_law_group"))
  g__law_is_integer : mg "_law_is_integer" = some (.ref (He.ga K "_law_is_integer"))
  g__law_model : mg "_law_model" = some (.ref (He.ga K "_law_model"))
  g__law_mutual : mg "_law_mutual" = some (.ref (He.ga K "_law_mutual"))
  g__law_pairs : mg "_law_pairs" = some (.ref (He.ga K "_law_pairs"))
  g__law_row : mg "_law_row" = some (.ref (He.ga K "_law_row"))
  g__law_shows : mg "_law_shows" = some (.ref (He.ga K "_law_shows"))
  g__law_turned : mg "_law_turned" = some (.ref (He.ga K "_law_turned"))
  g_is_name : mg "is_name" = some (.ref (He.ga K "is_name"))
  g_check_people : mg "check_people" = some (.ref (He.ga K "check_people"))
  g_fits_wishes : mg "fits_wishes" = some (.ref (He.ga K "fits_wishes"))
  g_same_keys : mg "same_keys" = some (.ref (He.ga K "same_keys"))
  g_check_wishes : mg "check_wishes" = some (.ref (He.ga K "check_wishes"))
  g_law : mg "law" = some (.ref (He.ga K "law"))
  qi : qInitB K "QuietError" = true
  na_BadPeople_index : PySem.W.findIn K (.ref (He.ga K "BadPeople")) "index" = some none
  na_BadWishes_person : PySem.W.findIn K (.ref (He.ga K "BadWishes")) "person" = some none
  na_NoPerson_value : PySem.W.findIn K (.ref (He.ga K "NoPerson")) "value" = some none
  ox_BadPeople : OexC K (He.ga K "BadPeople")
  mi_BadPeople : Meth K (He.ga K "BadPeople") "__init__" (He.ma K (He.ga K "BadPeople") "__init__")
  ti_BadPeople : PySem.W.typeIn K (.ref (He.ma K (He.ga K "BadPeople") "__init__")) = some (.type "function")
  ox_BadWishes : OexC K (He.ga K "BadWishes")
  mi_BadWishes : Meth K (He.ga K "BadWishes") "__init__" (He.ma K (He.ga K "BadWishes") "__init__")
  ti_BadWishes : PySem.W.typeIn K (.ref (He.ma K (He.ga K "BadWishes") "__init__")) = some (.type "function")
  ox_NoPerson : OexC K (He.ga K "NoPerson")
  mi_NoPerson : Meth K (He.ga K "NoPerson") "__init__" (He.ma K (He.ga K "NoPerson") "__init__")
  ti_NoPerson : PySem.W.typeIn K (.ref (He.ma K (He.ga K "NoPerson") "__init__")) = some (.type "function")
  me_Group_people : Meth K (He.ga K "Group") "people" (He.ma K (He.ga K "Group") "people")
  me_Group_check : Meth K (He.ga K "Group") "check" (He.ma K (He.ga K "Group") "check")
  me_Group_wishes : Meth K (He.ga K "Group") "wishes" (He.ma K (He.ga K "Group") "wishes")
  me_Group___getitem__ : Meth K (He.ga K "Group") "__getitem__" (He.ma K (He.ga K "Group") "__getitem__")
  me_Group___iter__ : Meth K (He.ga K "Group") "__iter__" (He.ma K (He.ga K "Group") "__iter__")
  me_Group___len__ : Meth K (He.ga K "Group") "__len__" (He.ma K (He.ga K "Group") "__len__")
  me_Group_open_to : Meth K (He.ga K "Group") "open_to" (He.ma K (He.ga K "Group") "open_to")
  me_Group_pairs : Meth K (He.ga K "Group") "pairs" (He.ma K (He.ga K "Group") "pairs")
  mk_Group : Mk K (He.ga K "Group") (He.ma K (He.ga K "Group") "__init__")
  gk : GK K
local macro_rules | `(tactic| walk_at "L") => `(tactic| first | exact Or.inl rfl | exact Or.inr rfl)
theorem tpC {P : Program} {w : World} {K : PySem.W.Frag} {mg : Str → Option Value} {base : Heap} {N : List Str} {q : Str} {sc : Scope} {f : Addr} {cdv : Value} {A : Around} {outer : List Env} {s : Shared} {H : Hp} {E : XK} : Takes (cxOf (L2.CX P w) P w K mg base N q sc f cdv A outer s H E) (WE0 E) ∧ PassesOwn (model P w) (cxOf (L2.CX P w) P w K mg base N q sc f cdv A outer s H E).A (cxOf (L2.CX P w) P w K mg base N q sc f cdv A outer s H E).env (cxOf (L2.CX P w) P w K mg base N q sc f cdv A outer s H E).xe := ⟨takes_of rfl rfl rfl rfl, passes_of rfl⟩
section
variable {P : Program} {w : World} {K : PySem.W.Frag} {mg : Str → Option Value} {base : Heap} {f : Addr} {fd : FuncData}
abbrev n__law_cell : List Str := ["_law_script", "_law_k", "_law_number", "_law_seed"]
theorem sc__law_cell : FnScope n__law_cell ["_law_script", "_law_k"] (defScope s__law_cell) := ⟨rfl, rfl, rfl, by decide +kernel, rfl, by decide +kernel, by decide +kernel⟩
theorem ok__law_cell (T : Top K mg)  (F : FunD K "_law_cell" "_law_cell" (defArgs s__law_cell) (defBody s__law_cell) (defScope s__law_cell) [] [] f fd) : FnOk P w K mg base (L2.CX P w) 1 f fd ["_law_script", "_law_k"] (sp__law_cell K) := by
  have sc := sc__law_cell
  refine F.ok sc (fun vs H Q E h => ?_) (fun cdv A outer s H vs Q E hr h => ⟨t__law_cell K E, ?_, pure__law_cell h⟩)
  · first | (obtain ⟨_, _, _, _, rfl, _⟩ := h; rfl)
  · obtain ⟨tk, po⟩ := @tpC P w K mg base n__law_cell "_law_cell" (defScope s__law_cell) f cdv A outer s H E
    exact (pss_cons (ps_set (i := 2) sc.nd rfl (by walk_at "L") pe_int)
      (pss_cons (ps_if (pt_cmpR oLtI (pv 1) (pe_callB cLenA (by rfl) T.f_len PySem.boot_len (pa_cons (pv 0) pa_nil)) (nomark _)) (pss_one (ps_set (i := 2) sc.nd rfl (by walk_at "L") (pe_callB cAbs (by rfl) T.f_abs (by decide +kernel) (pa_cons (pe_ix ix_list (pv 0) (pv 1) (fun _ _ => rfl)) pa_nil)))) pss_nil)
      (pss_cons (ps_set (i := 3) sc.nd rfl (by walk_at "L") (pe_op oModI (pe_callTy cInt1 (by rfl) T.f_int (by decide +kernel) (pa_cons (pe_op oAddI (pe_op oAddI (pe_op oAddI (pv 2) (pe_op oMulI pe_int (pv 1))) (pe_op oMulI pe_int (pe_callB (cMin2 rfl) (by rfl) T.f_min (by decide +kernel) (pa_cons (pe_callB cLenA (by rfl) T.f_len PySem.boot_len (pa_cons (pv 0) pa_nil)) (pa_cons pe_int pa_nil))))) pe_int) pa_nil)) pe_int))
      (pss_cons (ps_set (i := 3) sc.nd rfl (by walk_at "L") (pe_op oModI (pe_callTy cInt1 (by rfl) T.f_int (by decide +kernel) (pa_cons (pe_op oAddI (pe_op oAddI (pe_op oMulI (pe_op oMulI (pv 3) (pv 3)) (pv 3)) (pe_op oMulI pe_int (pv 3))) pe_int) pa_nil)) pe_int))
      (pss_cons (ps_if (pt_cmpR oLtI (pv 2) (pe_op oPowI pe_int pe_int) (nomark _)) (pss_one (ps_ret (pe_lst (pa_cons pe_int (pa_cons (pv 3) pa_nil))))) pss_nil)
      (pss_one (ps_ret (pe_lst (pa_cons (pv 2) (pa_cons (pv 3) pa_nil))))))))))
abbrev n__law_copy : List Str := ["_law_wishes_here", "_law_copy_here", "_law_a"]
theorem sc__law_copy : FnScope n__law_copy ["_law_wishes_here"] (defScope s__law_copy) := ⟨rfl, rfl, rfl, by decide +kernel, rfl, by decide +kernel, by decide +kernel⟩
theorem ok__law_copy (T : Top K mg)  (F : FunD K "_law_copy" "_law_copy" (defArgs s__law_copy) (defBody s__law_copy) (defScope s__law_copy) [] [] f fd) : FnOk P w K mg base (L2.CX P w) 1 f fd ["_law_wishes_here"] (sp__law_copy K) := by
  have sc := sc__law_copy
  refine F.ok sc (fun vs H Q E h => ?_) (fun cdv A outer s H vs Q E hr h => ⟨t__law_copy K E, ?_, pure__law_copy h⟩)
  · first | (obtain ⟨_, _, _, _, _, rfl, _⟩ := h; rfl)
  · obtain ⟨tk, po⟩ := @tpC P w K mg base n__law_copy "_law_copy" (defScope s__law_copy) f cdv A outer s H E
    exact (pss_cons (ps_set (i := 1) sc.nd rfl (by walk_at "L") pe_dnewK)
      (pss_cons (ps_lock (ps_for po rfl (pi_keys (pv 0)) (pg_name (i := 2) sc.nd rfl (by walk_at "L")) (pss_one (ps_dput (hu_of hr) (pv 1) (pv 2) (pe_callTy cListOf (by rfl) T.f_list (by decide +kernel) (pa_cons (pe_dget (hu_of hr) (pv 0) (pv 2) (fun _ _ => rfl)) pa_nil)) rfl))))
      (pss_one (ps_ret (pv 1)))))
abbrev n__law_take : List Str := ["_law_state", "_law_many", "_law_mixed_here", "_law_digit"]
theorem sc__law_take : FnScope n__law_take ["_law_state", "_law_many"] (defScope s__law_take) := ⟨rfl, rfl, rfl, by decide +kernel, rfl, by decide +kernel, by decide +kernel⟩
theorem ok__law_take (T : Top K mg)  (F : FunD K "_law_take" "_law_take" (defArgs s__law_take) (defBody s__law_take) (defScope s__law_take) [] [] f fd) : FnOk P w K mg base (L2.CX P w) 1 f fd ["_law_state", "_law_many"] (sp__law_take K) := by
  have sc := sc__law_take
  refine F.ok sc (fun vs H Q E h => ?_) (fun cdv A outer s H vs Q E hr h => ⟨t__law_take K E, ?_, pure__law_take h⟩)
  · first | (obtain ⟨_, _, _, _, _, rfl, _⟩ := h; rfl)
  · obtain ⟨tk, po⟩ := @tpC P w K mg base n__law_take "_law_take" (defScope s__law_take) f cdv A outer s H E
    exact (pss_cons (ps_if (pt_cmpR oGtI (pe_ix ix_list (pv 0) pe_int (fun _ _ => rfl)) pe_int (nomark _)) (pss_cons (ps_set (i := 3) sc.nd rfl (by walk_at "L") (pe_op oModI (pe_callTy cInt1 (by rfl) T.f_int (by decide +kernel) (pa_cons (pe_ix ix_list (pv 0) pe_int (fun _ _ => rfl)) pa_nil)) (pv 1)))
      (pss_cons (ps_asg (pe_op oDivI (pe_callTy cInt1 (by rfl) T.f_int (by decide +kernel) (pa_cons (pe_ix ix_list (pv 0) pe_int (fun _ _ => rfl)) pa_nil)) (pv 1)) (pg_sub (pv 0) pe_int set_list))
      (pss_one (ps_ret (pv 3))))) pss_nil)
      (pss_cons (ps_asg (pe_op oModI (pe_callTy cInt1 (by rfl) T.f_int (by decide +kernel) (pa_cons (pe_op oAddI (pe_op oMulI (pe_ix ix_list (pv 0) pe_int (fun _ _ => rfl)) pe_int) pe_int) pa_nil)) pe_int) (pg_sub (pv 0) pe_int set_list))
      (pss_cons (ps_set (i := 2) sc.nd rfl (by walk_at "L") (pe_op oModI (pe_callTy cInt1 (by rfl) T.f_int (by decide +kernel) (pa_cons (pe_op oMulI (pe_ix ix_list (pv 0) pe_int (fun _ _ => rfl)) (pe_op oAddI (pe_op oDivI (pe_ix ix_list (pv 0) pe_int (fun _ _ => rfl)) pe_int) pe_int)) pa_nil)) pe_int))
      (pss_one (ps_ret (pe_op oModI (pe_callTy cInt1 (by rfl) T.f_int (by decide +kernel) (pa_cons (pe_op oDivI (pv 2) pe_int) pa_nil)) (pv 1)))))))
abbrev n__law_name : List Str := ["_law_state", "_law_taken", "_law_letters", "_law_size", "_law_name_here", "_law_last", "_law_k", "_law_other"]
theorem sc__law_name : FnScope n__law_name ["_law_state", "_law_taken"] (defScope s__law_name) := ⟨rfl, rfl, rfl, by decide +kernel, rfl, by decide +kernel, by decide +kernel⟩
theorem ok__law_name (T : Top K mg) (F__law_take : Fn P w K mg base 1 "_law_take" ["_law_state", "_law_many"] (sp__law_take K)) (F : FunD K "_law_name" "_law_name" (defArgs s__law_name) (defBody s__law_name) (defScope s__law_name) [] [] f fd) : FnOk P w K mg base (L2.CX P w) 2 f fd ["_law_state", "_law_taken"] (sp__law_name K) := by
  have sc := sc__law_name
  refine F.ok sc (fun vs H Q E h => ?_) (fun cdv A outer s H vs Q E hr h => ⟨t__law_name K E, ?_, pure__law_name h⟩)
  · first | (obtain ⟨_, _, _, _, _, _, rfl, _⟩ := h; rfl)
  · obtain ⟨tk, po⟩ := @tpC P w K mg base n__law_name "_law_name" (defScope s__law_name) f cdv A outer s H E
    exact (pss_cons (ps_set (i := 2) sc.nd rfl (by walk_at "L") pe_str)
      (pss_cons (ps_set (i := 3) sc.nd rfl (by walk_at "L") (pe_op oAddI pe_int (pe_cl F__law_take hr (by decide) tk (pa_cons (pv 0) (pa_cons pe_int pa_nil)))))
      (pss_cons (ps_set (i := 4) sc.nd rfl (by walk_at "L") (pe_join pe_str (pe_lc (own := [("_law_k", 6)]) (g := (gName 6)) (tt := tYes) rfl sc.nd (pi_range1 (by rfl) T.f_range (pa_cons (pv 3) pa_nil)) (blkOk_by (own := [("_law_k", 6)]) (N := n__law_name) (sc := defScope (s__law_name)) (by decide +kernel)) (fun _ _ _ _ _ => (pg_name (i := 6) sc.nd rfl (by walk_at "L"))) (fun _ _ _ _ _ => pts_nil) (fun _ _ _ _ _ => (pe_ix ix_str (pv 2) (pe_cl F__law_take hr (by decide) takes0 (pa_cons (pv 0) (pa_cons pe_int pa_nil))) (fun _ _ => rfl))))))
      (pss_cons (ps_if (pt_cmpR op_notIn_seq (pv 4) (pv 1) (by rfl)) (pss_one (ps_ret (pv 4))) pss_nil)
      (pss_cons (ps_set (i := 5) sc.nd rfl (by walk_at "L") (pe_cl F__law_take hr (by decide) tk (pa_cons (pv 0) (pa_cons pe_int pa_nil))))
      (pss_cons (ps_for po rfl (pi_range1 (by rfl) T.f_range (pa_cons pe_int pa_nil)) (pg_name (i := 6) sc.nd rfl (by walk_at "L")) (pss_cons (ps_set (i := 7) sc.nd rfl (by walk_at "L") (pe_op oAddS (pe_slice sl_str (pv 4) po_none (po_some pe_int)) (pe_ix ix_str (pv 2) (pe_op oModI (pe_callTy cInt1 (by rfl) T.f_int (by decide +kernel) (pa_cons (pe_op oAddI (pv 5) (pv 6)) pa_nil)) pe_int) (fun _ _ => rfl))))
      (pss_one (ps_if (pt_cmpR op_notIn_seq (pv 7) (pv 1) (by rfl)) (pss_one (ps_ret (pv 7))) pss_nil))))
      (pss_one (ps_ret pe_str))))))))
abbrev n__law_names : List Str := ["_law_state", "_law_many", "_law_names_here", "_law_k"]
theorem sc__law_names : FnScope n__law_names ["_law_state", "_law_many"] (defScope s__law_names) := ⟨rfl, rfl, rfl, by decide +kernel, rfl, by decide +kernel, by decide +kernel⟩
theorem ok__law_names (T : Top K mg) (F__law_name : Fn P w K mg base 2 "_law_name" ["_law_state", "_law_taken"] (sp__law_name K)) (F : FunD K "_law_names" "_law_names" (defArgs s__law_names) (defBody s__law_names) (defScope s__law_names) [] [] f fd) : FnOk P w K mg base (L2.CX P w) 3 f fd ["_law_state", "_law_many"] (sp__law_names K) := by
  have sc := sc__law_names
  refine F.ok sc (fun vs H Q E h => ?_) (fun cdv A outer s H vs Q E hr h => ⟨t__law_names K E, ?_, pure__law_names h⟩)
  · first | (obtain ⟨_, _, _, _, _, rfl, _⟩ := h; rfl)
  · obtain ⟨tk, po⟩ := @tpC P w K mg base n__law_names "_law_names" (defScope s__law_names) f cdv A outer s H E
    exact (pss_cons (ps_set (i := 2) sc.nd rfl (by walk_at "L") (pe_lst pa_nil))
      (pss_cons (ps_for po rfl (pi_range1 (by rfl) T.f_range (pa_cons (pv 1) pa_nil)) (pg_name (i := 3) sc.nd rfl (by walk_at "L")) (pss_one (ps_expr (pe_bm PySem.F.plainAttrs_list PySem.F.slot_list_append PySem.F.type_list_append mt_append (pv 2) (pa_cons (pe_cl F__law_name hr (by decide) tk (pa_cons (pv 0) (pa_cons (pv 2) pa_nil))) pa_nil)))))
      (pss_one (ps_ret (pv 2)))))
abbrev n__law_mixed : List Str := ["_law_state", "_law_items", "_law_pool", "_law_row_here", "_law_k"]
theorem sc__law_mixed : FnScope n__law_mixed ["_law_state", "_law_items"] (defScope s__law_mixed) := ⟨rfl, rfl, rfl, by decide +kernel, rfl, by decide +kernel, by decide +kernel⟩
theorem ok__law_mixed (T : Top K mg) (F__law_take : Fn P w K mg base 1 "_law_take" ["_law_state", "_law_many"] (sp__law_take K)) (F : FunD K "_law_mixed" "_law_mixed" (defArgs s__law_mixed) (defBody s__law_mixed) (defScope s__law_mixed) [] [] f fd) : FnOk P w K mg base (L2.CX P w) 2 f fd ["_law_state", "_law_items"] (sp__law_mixed K) := by
  have sc := sc__law_mixed
  refine F.ok sc (fun vs H Q E h => ?_) (fun cdv A outer s H vs Q E hr h => ⟨t__law_mixed K E, ?_, pure__law_mixed h⟩)
  · first | (obtain ⟨_, _, _, _, _, _, rfl, _⟩ := h; rfl)
  · obtain ⟨tk, po⟩ := @tpC P w K mg base n__law_mixed "_law_mixed" (defScope s__law_mixed) f cdv A outer s H E
    exact (pss_cons (ps_set (i := 2) sc.nd rfl (by walk_at "L") (pe_callTy cListOf (by rfl) T.f_list (by decide +kernel) (pa_cons (pv 1) pa_nil)))
      (pss_cons (ps_set (i := 3) sc.nd rfl (by walk_at "L") (pe_lst pa_nil))
      (pss_cons (ps_for po rfl (pi_range1 (by rfl) T.f_range (pa_cons (pe_callB cLenA (by rfl) T.f_len PySem.boot_len (pa_cons (pv 1) pa_nil)) pa_nil)) (pg_name (i := 4) sc.nd rfl (by walk_at "L")) (pss_one (ps_expr (pe_bm PySem.F.plainAttrs_list PySem.F.slot_list_append PySem.F.type_list_append mt_append (pv 3) (pa_cons (pe_bm PySem.F.plainAttrs_list PySem.F.slot_list_pop PySem.F.type_list_pop mt_popAt (pv 2) (pa_cons (pe_cl F__law_take hr (by decide) tk (pa_cons (pv 0) (pa_cons (pe_callB cLenA (by rfl) T.f_len PySem.boot_len (pa_cons (pv 2) pa_nil)) pa_nil))) pa_nil)) pa_nil)))))
      (pss_one (ps_ret (pv 3))))))
abbrev n__law_others : List Str := ["_law_names_here", "_law_a", "_law_b"]
theorem sc__law_others : FnScope n__law_others ["_law_names_here", "_law_a"] (defScope s__law_others) := ⟨rfl, rfl, rfl, by decide +kernel, rfl, by decide +kernel, by decide +kernel⟩
theorem ok__law_others (T : Top K mg)  (F : FunD K "_law_others" "_law_others" (defArgs s__law_others) (defBody s__law_others) (defScope s__law_others) [] [] f fd) : FnOk P w K mg base (L2.CX P w) 1 f fd ["_law_names_here", "_law_a"] (sp__law_others K) := by
  have sc := sc__law_others
  refine F.ok sc (fun vs H Q E h => ?_) (fun cdv A outer s H vs Q E hr h => ⟨t__law_others K E, ?_, pure__law_others h⟩)
  · first | (obtain ⟨_, _, _, _, rfl, _⟩ := h; rfl)
  · obtain ⟨tk, po⟩ := @tpC P w K mg base n__law_others "_law_others" (defScope s__law_others) f cdv A outer s H E
    exact (pss_one (ps_ret (pe_lc (own := [("_law_b", 2)]) (g := (gName 2)) (tt := (tTest (tOp rNe (tVar 2) (tVar 1)))) rfl sc.nd (pi_list (pv 0)) (blkOk_by (own := [("_law_b", 2)]) (N := n__law_others) (sc := defScope (s__law_others)) (by decide +kernel)) (fun _ _ _ _ _ => (pg_name (i := 2) sc.nd rfl (by walk_at "L"))) (fun _ _ _ _ _ => (pts_one (pt_cmpR op_ne (pv 2) (pv 1) (nomark _)))) (fun _ _ _ _ _ => (pv 2)))))
abbrev n__law_block_wishes : List Str := ["_law_state", "_law_names_here", "_law_order", "_law_wishes_here", "_law_at", "_law_turn", "_law_size", "_law_block", "_law_k", "_law_ring", "_law_head", "_law_tail", "_law_b"]
theorem sc__law_block_wishes : FnScope n__law_block_wishes ["_law_state", "_law_names_here"] (defScope s__law_block_wishes) := ⟨rfl, rfl, rfl, by decide +kernel, rfl, by decide +kernel, by decide +kernel⟩
theorem ok__law_block_wishes (T : Top K mg) (F__law_mixed : Fn P w K mg base 2 "_law_mixed" ["_law_state", "_law_items"] (sp__law_mixed K)) (F__law_others : Fn P w K mg base 1 "_law_others" ["_law_names_here", "_law_a"] (sp__law_others K)) (F__law_take : Fn P w K mg base 1 "_law_take" ["_law_state", "_law_many"] (sp__law_take K)) (F : FunD K "_law_block_wishes" "_law_block_wishes" (defArgs s__law_block_wishes) (defBody s__law_block_wishes) (defScope s__law_block_wishes) [] [] f fd) : FnOk P w K mg base (L2.CX P w) 3 f fd ["_law_state", "_law_names_here"] (sp__law_block_wishes K) := by
  have sc := sc__law_block_wishes
  refine F.ok sc (fun vs H Q E h => ?_) (fun cdv A outer s H vs Q E hr h => ⟨t__law_block_wishes K E, ?_, pure__law_block_wishes h⟩)
  · first | (obtain ⟨_, _, rfl, _⟩ := h; rfl)
  · obtain ⟨tk, po⟩ := @tpC P w K mg base n__law_block_wishes "_law_block_wishes" (defScope s__law_block_wishes) f cdv A outer s H E
    exact (pss_cons (ps_set (i := 2) sc.nd rfl (by walk_at "L") (pe_cl F__law_mixed hr (by decide) tk (pa_cons (pv 0) (pa_cons (pv 1) pa_nil))))
      (pss_cons (ps_set (i := 3) sc.nd rfl (by walk_at "L") pe_dnewK)
      (pss_cons (ps_set (i := 4) sc.nd rfl (by walk_at "L") pe_int)
      (pss_cons (ps_for po rfl (pi_range1 (by rfl) T.f_range (pa_cons (pe_callB cLenA (by rfl) T.f_len PySem.boot_len (pa_cons (pv 2) pa_nil)) pa_nil)) (pg_name (i := 5) sc.nd rfl (by walk_at "L")) (pss_cons (ps_set (i := 6) sc.nd rfl (by walk_at "L") (pe_op oAddI pe_int (pe_cl F__law_take hr (by decide) tk (pa_cons (pv 0) (pa_cons pe_int pa_nil)))))
      (pss_cons (ps_set (i := 7) sc.nd rfl (by walk_at "L") (pe_slice sl_list (pv 2) (po_some (pv 4)) (po_some (pe_op oAddI (pv 4) (pv 6)))))
      (pss_cons (ps_aug (i := 4) sc.nd rfl (by walk_at "L") (pv 6) ip_add)
      (pss_one (ps_for po rfl (pi_range1 (by rfl) T.f_range (pa_cons (pe_callB cLenA (by rfl) T.f_len PySem.boot_len (pa_cons (pv 7) pa_nil)) pa_nil)) (pg_name (i := 8) sc.nd rfl (by walk_at "L")) (pss_cons (ps_set (i := 9) sc.nd rfl (by walk_at "L") (pe_op op_cat (pe_slice sl_list (pv 7) (po_some (pe_op oAddI (pv 8) pe_int)) po_none) (pe_slice sl_list (pv 7) po_none (po_some (pv 8)))))
      (pss_cons (ps_set (i := 10) sc.nd rfl (by walk_at "L") (pe_slice sl_list (pv 9) po_none (po_some pe_int)))
      (pss_cons (ps_if (pt_cmpR oGtI (pe_callB cLenA (by rfl) T.f_len PySem.boot_len (pa_cons (pv 9) pa_nil)) pe_int (nomark _)) (pss_one (ps_set (i := 10) sc.nd rfl (by walk_at "L") (pe_lst (pa_cons (pe_ix ix_list (pv 9) pe_int (fun _ _ => rfl)) (pa_cons (pe_ix ix_list (pv 9) (pe_un un_neg pe_int) (fun _ _ => rfl)) pa_nil))))) pss_nil)
      (pss_cons (ps_set (i := 11) sc.nd rfl (by walk_at "L") (pe_cl F__law_mixed hr (by decide) tk (pa_cons (pv 0) (pa_cons (pe_lc (own := [("_law_b", 12)]) (g := (gName 12)) (tt := (tTest (tOp (rIn K true) (tVar 12) (tVar 10)))) rfl sc.nd (pi_list (pe_cl F__law_others hr (by decide) tk (pa_cons (pv 1) (pa_cons (pe_ix ix_list (pv 7) (pv 8) (fun _ _ => rfl)) pa_nil)))) (blkOk_by (own := [("_law_b", 12)]) (N := n__law_block_wishes) (sc := defScope (s__law_block_wishes)) (by decide +kernel)) (fun _ _ _ _ _ => (pg_name (i := 12) sc.nd rfl (by walk_at "L"))) (fun _ _ _ _ _ => (pts_one (pt_cmpR op_notIn_seq (pv 12) (pv 10) (by rfl)))) (fun _ _ _ _ _ => (pv 12))) pa_nil))))
      (pss_cons (ps_set (i := 11) sc.nd rfl (by walk_at "L") (pe_slice sl_list (pv 11) po_none (po_some (pe_cl F__law_take hr (by decide) tk (pa_cons (pv 0) (pa_cons (pe_op oAddI (pe_callB cLenA (by rfl) T.f_len PySem.boot_len (pa_cons (pv 11) pa_nil)) pe_int) pa_nil))))))
      (pss_cons (ps_if (PW.pt (pw_and (pt_tr (pv 11)) (pw_and1 (pt_cmpR op_eq (pe_cl F__law_take hr (by decide) tk (pa_cons (pv 0) (pa_cons pe_int pa_nil))) pe_int (nomark _))))) (pss_cons (ps_set (i := 10) sc.nd rfl (by walk_at "L") (pe_op op_cat (pe_slice sl_list (pv 11) po_none (po_some pe_int)) (pv 10)))
      (pss_one (ps_set (i := 11) sc.nd rfl (by walk_at "L") (pe_slice sl_list (pv 11) (po_some pe_int) po_none)))) pss_nil)
      (pss_one (ps_dput (hu_of hr) (pv 3) (pe_ix ix_list (pv 7) (pv 8) (fun _ _ => rfl)) (pe_op op_cat (pv 10) (pv 11)) rfl))))))))))))))
      (pss_one (ps_ret (pv 3)))))))
abbrev n__law_plain_wishes : List Str := ["_law_state", "_law_names_here", "_law_mode", "_law_order", "_law_wishes_here", "_law_k", "_law_others_here", "_law_b"]
theorem sc__law_plain_wishes : FnScope n__law_plain_wishes ["_law_state", "_law_names_here", "_law_mode"] (defScope s__law_plain_wishes) := ⟨rfl, rfl, rfl, by decide +kernel, rfl, by decide +kernel, by decide +kernel⟩
theorem ok__law_plain_wishes (T : Top K mg) (F__law_mixed : Fn P w K mg base 2 "_law_mixed" ["_law_state", "_law_items"] (sp__law_mixed K)) (F__law_take : Fn P w K mg base 1 "_law_take" ["_law_state", "_law_many"] (sp__law_take K)) (F : FunD K "_law_plain_wishes" "_law_plain_wishes" (defArgs s__law_plain_wishes) (defBody s__law_plain_wishes) (defScope s__law_plain_wishes) [] [] f fd) : FnOk P w K mg base (L2.CX P w) 3 f fd ["_law_state", "_law_names_here", "_law_mode"] (sp__law_plain_wishes K) := by
  have sc := sc__law_plain_wishes
  refine F.ok sc (fun vs H Q E h => ?_) (fun cdv A outer s H vs Q E hr h => ⟨t__law_plain_wishes K E, ?_, pure__law_plain_wishes h⟩)
  · first | (obtain ⟨_, _, _, rfl, _⟩ := h; rfl)
  · obtain ⟨tk, po⟩ := @tpC P w K mg base n__law_plain_wishes "_law_plain_wishes" (defScope s__law_plain_wishes) f cdv A outer s H E
    exact (pss_cons (ps_set (i := 3) sc.nd rfl (by walk_at "L") (pe_cl F__law_mixed hr (by decide) tk (pa_cons (pv 0) (pa_cons (pv 1) pa_nil))))
      (pss_cons (ps_set (i := 4) sc.nd rfl (by walk_at "L") pe_dnewK)
      (pss_cons (ps_for po rfl (pi_range1 (by rfl) T.f_range (pa_cons (pe_callB cLenA (by rfl) T.f_len PySem.boot_len (pa_cons (pv 3) pa_nil)) pa_nil)) (pg_name (i := 5) sc.nd rfl (by walk_at "L")) (pss_cons (ps_set (i := 6) sc.nd rfl (by walk_at "L") (pe_op op_cat (pe_slice sl_list (pv 3) (po_some (pe_op oAddI (pv 5) pe_int)) po_none) (pe_slice sl_list (pv 3) po_none (po_some (pv 5)))))
      (pss_cons (ps_if (pt_cmpR op_eq (pv 2) pe_int (nomark _)) (pss_one (ps_setLc (i := 6) (own := [("_law_b", 7)]) (g := (gName 7)) (tt := (tTest (tOp rNe (tVar 7) (tOp (rIxL K) (tVar 3) (tVar 5))))) rfl sc.nd rfl rfl (sw_true rfl rfl rfl (by decide +kernel)) (pi_list (pv 3)) (blkOk_by (own := [("_law_b", 7)]) (N := n__law_plain_wishes) (sc := defScope (s__law_plain_wishes)) (by decide +kernel)) (fun _ _ _ _ _ => (pg_name (i := 7) sc.nd rfl (by walk_at "L"))) (fun _ _ _ _ _ => (pts_one (pt_cmpR op_ne (pv 7) (pe_ix ix_list (pv 3) (pv 5) (fun _ _ => rfl)) (nomark _)))) (fun _ _ _ _ _ => (pv 7)))) pss_nil)
      (pss_cons (ps_if (pt_cmpR oGtI (pv 2) pe_int (nomark _)) (pss_one (ps_set (i := 6) sc.nd rfl (by walk_at "L") (pe_cl F__law_mixed hr (by decide) tk (pa_cons (pv 0) (pa_cons (pv 6) pa_nil))))) pss_nil)
      (pss_cons (ps_if (pt_cmpR op_eq (pv 2) pe_int (nomark _)) (pss_one (ps_set (i := 6) sc.nd rfl (by walk_at "L") (pe_slice sl_list (pv 6) po_none (po_some (pe_cl F__law_take hr (by decide) tk (pa_cons (pv 0) (pa_cons (pe_op oAddI (pe_callB cLenA (by rfl) T.f_len PySem.boot_len (pa_cons (pv 6) pa_nil)) pe_int) pa_nil))))))) pss_nil)
      (pss_cons (ps_if (pt_cmpR op_eq (pv 2) pe_int (nomark _)) (pss_one (ps_set (i := 6) sc.nd rfl (by walk_at "L") (pe_slice sl_list (pv 6) po_none (po_some (pe_cl F__law_take hr (by decide) tk (pa_cons (pv 0) (pa_cons pe_int pa_nil))))))) pss_nil)
      (pss_one (ps_dput (hu_of hr) (pv 4) (pe_ix ix_list (pv 3) (pv 5) (fun _ _ => rfl)) (pv 6) rfl))))))))
      (pss_one (ps_ret (pv 4))))))
abbrev n__law_side_wishes : List Str := ["_law_state", "_law_names_here", "_law_order", "_law_left", "_law_right", "_law_turned_here", "_law_wishes_here", "_law_k"]
theorem sc__law_side_wishes : FnScope n__law_side_wishes ["_law_state", "_law_names_here"] (defScope s__law_side_wishes) := ⟨rfl, rfl, rfl, by decide +kernel, rfl, by decide +kernel, by decide +kernel⟩
theorem ok__law_side_wishes (T : Top K mg) (F__law_mixed : Fn P w K mg base 2 "_law_mixed" ["_law_state", "_law_items"] (sp__law_mixed K)) (F__law_take : Fn P w K mg base 1 "_law_take" ["_law_state", "_law_many"] (sp__law_take K)) (F : FunD K "_law_side_wishes" "_law_side_wishes" (defArgs s__law_side_wishes) (defBody s__law_side_wishes) (defScope s__law_side_wishes) [] [] f fd) : FnOk P w K mg base (L2.CX P w) 3 f fd ["_law_state", "_law_names_here"] (sp__law_side_wishes K) := by
  have sc := sc__law_side_wishes
  refine F.ok sc (fun vs H Q E h => ?_) (fun cdv A outer s H vs Q E hr h => ⟨t__law_side_wishes K E, ?_, pure__law_side_wishes h⟩)
  · first | (obtain ⟨_, _, rfl, _⟩ := h; rfl)
  · obtain ⟨tk, po⟩ := @tpC P w K mg base n__law_side_wishes "_law_side_wishes" (defScope s__law_side_wishes) f cdv A outer s H E
    exact (pss_cons (ps_set (i := 2) sc.nd rfl (by walk_at "L") (pe_cl F__law_mixed hr (by decide) tk (pa_cons (pv 0) (pa_cons (pv 1) pa_nil))))
      (pss_cons (ps_set (i := 3) sc.nd rfl (by walk_at "L") (pe_slice sl_list (pv 2) po_none (po_some (pe_op oDivI (pe_callB cLenA (by rfl) T.f_len PySem.boot_len (pa_cons (pv 2) pa_nil)) pe_int))))
      (pss_cons (ps_set (i := 4) sc.nd rfl (by walk_at "L") (pe_slice sl_list (pv 2) (po_some (pe_op oDivI (pe_callB cLenA (by rfl) T.f_len PySem.boot_len (pa_cons (pv 2) pa_nil)) pe_int)) po_none))
      (pss_cons (ps_set (i := 5) sc.nd rfl (by walk_at "L") (pe_cl F__law_take hr (by decide) tk (pa_cons (pv 0) (pa_cons pe_int pa_nil))))
      (pss_cons (ps_set (i := 6) sc.nd rfl (by walk_at "L") pe_dnewK)
      (pss_cons (ps_for po rfl (pi_range1 (by rfl) T.f_range (pa_cons (pe_callB cLenA (by rfl) T.f_len PySem.boot_len (pa_cons (pv 3) pa_nil)) pa_nil)) (pg_name (i := 7) sc.nd rfl (by walk_at "L")) (pss_cons (ps_dput (hu_of hr) (pv 6) (pe_ix ix_list (pv 3) (pv 7) (fun _ _ => rfl)) (pe_op op_cat (pe_slice sl_list (pv 4) (po_some (pv 7)) po_none) (pe_slice sl_list (pv 4) po_none (po_some (pv 7)))) rfl)
      (pss_one (ps_if (pt_cmpR op_eq (pv 5) pe_int (nomark _)) (pss_one (ps_dput (hu_of hr) (pv 6) (pe_ix ix_list (pv 3) (pv 7) (fun _ _ => rfl)) (pe_cl F__law_mixed hr (by decide) tk (pa_cons (pv 0) (pa_cons (pv 4) pa_nil))) rfl)) pss_nil))))
      (pss_cons (ps_for po rfl (pi_range1 (by rfl) T.f_range (pa_cons (pe_callB cLenA (by rfl) T.f_len PySem.boot_len (pa_cons (pv 4) pa_nil)) pa_nil)) (pg_name (i := 7) sc.nd rfl (by walk_at "L")) (pss_cons (ps_dput (hu_of hr) (pv 6) (pe_ix ix_list (pv 4) (pv 7) (fun _ _ => rfl)) (pe_op op_cat (pe_slice sl_list (pv 3) (po_some (pe_op oAddI (pv 7) pe_int)) po_none) (pe_slice sl_list (pv 3) po_none (po_some (pe_op oAddI (pv 7) pe_int)))) rfl)
      (pss_one (ps_if (pt_cmpR op_eq (pv 5) pe_int (nomark _)) (pss_one (ps_dput (hu_of hr) (pv 6) (pe_ix ix_list (pv 4) (pv 7) (fun _ _ => rfl)) (pe_cl F__law_mixed hr (by decide) tk (pa_cons (pv 0) (pa_cons (pv 3) pa_nil))) rfl)) pss_nil))))
      (pss_one (ps_ret (pv 6))))))))))
abbrev n__law_wishes : List Str := ["_law_state", "_law_names_here", "_law_mode"]
theorem sc__law_wishes : FnScope n__law_wishes ["_law_state", "_law_names_here"] (defScope s__law_wishes) := ⟨rfl, rfl, rfl, by decide +kernel, rfl, by decide +kernel, by decide +kernel⟩
theorem ok__law_wishes (T : Top K mg) (F__law_block_wishes : Fn P w K mg base 3 "_law_block_wishes" ["_law_state", "_law_names_here"] (sp__law_block_wishes K)) (F__law_plain_wishes : Fn P w K mg base 3 "_law_plain_wishes" ["_law_state", "_law_names_here", "_law_mode"] (sp__law_plain_wishes K)) (F__law_side_wishes : Fn P w K mg base 3 "_law_side_wishes" ["_law_state", "_law_names_here"] (sp__law_side_wishes K)) (F__law_take : Fn P w K mg base 1 "_law_take" ["_law_state", "_law_many"] (sp__law_take K)) (F : FunD K "_law_wishes" "_law_wishes" (defArgs s__law_wishes) (defBody s__law_wishes) (defScope s__law_wishes) [] [] f fd) : FnOk P w K mg base (L2.CX P w) 4 f fd ["_law_state", "_law_names_here"] (sp__law_wishes K) := by
  have sc := sc__law_wishes
  refine F.ok sc (fun vs H Q E h => ?_) (fun cdv A outer s H vs Q E hr h => ⟨t__law_wishes K E, ?_, pure__law_wishes h⟩)
  · first | (obtain ⟨_, _, rfl, _⟩ := h; rfl)
  · obtain ⟨tk, po⟩ := @tpC P w K mg base n__law_wishes "_law_wishes" (defScope s__law_wishes) f cdv A outer s H E
    exact (pss_cons (ps_set (i := 2) sc.nd rfl (by walk_at "L") (pe_cl F__law_take hr (by decide) tk (pa_cons (pv 0) (pa_cons pe_int pa_nil))))
      (pss_cons (ps_if (pt_cmpR oGtI (pv 2) pe_int (nomark _)) (pss_one (ps_ret (pe_cl F__law_block_wishes hr (by decide) tk (pa_cons (pv 0) (pa_cons (pv 1) pa_nil))))) pss_nil)
      (pss_cons (ps_if (pt_cmpR oGtI (pv 2) pe_int (nomark _)) (pss_one (ps_ret (pe_cl F__law_side_wishes hr (by decide) tk (pa_cons (pv 0) (pa_cons (pv 1) pa_nil))))) pss_nil)
      (pss_one (ps_ret (pe_cl F__law_plain_wishes hr (by decide) tk (pa_cons (pv 0) (pa_cons (pv 1) (pa_cons (pv 2) pa_nil)))))))))
abbrev n__law_group : List Str := ["_law_state", "_law_top", "_law_names_here", "_law_wishes_here"]
theorem sc__law_group : FnScope n__law_group ["_law_state", "_law_top"] (defScope s__law_group) := ⟨rfl, rfl, rfl, by decide +kernel, rfl, by decide +kernel, by decide +kernel⟩
theorem ok__law_group (T : Top K mg) (F__law_names : Fn P w K mg base 3 "_law_names" ["_law_state", "_law_many"] (sp__law_names K)) (F__law_take : Fn P w K mg base 1 "_law_take" ["_law_state", "_law_many"] (sp__law_take K)) (F__law_wishes : Fn P w K mg base 4 "_law_wishes" ["_law_state", "_law_names_here"] (sp__law_wishes K)) (F : FunD K "_law_group" "_law_group" (defArgs s__law_group) (defBody s__law_group) (defScope s__law_group) [] [] f fd) : FnOk P w K mg base (L2.CX P w) 5 f fd ["_law_state", "_law_top"] (sp__law_group K) := by
  have sc := sc__law_group
  refine F.ok sc (fun vs H Q E h => ?_) (fun cdv A outer s H vs Q E hr h => ⟨t__law_group K E, ?_, pure__law_group h⟩)
  · first | (obtain ⟨_, _, _, _, _, rfl, _⟩ := h; rfl)
  · obtain ⟨tk, po⟩ := @tpC P w K mg base n__law_group "_law_group" (defScope s__law_group) f cdv A outer s H E
    exact (pss_cons (ps_set (i := 2) sc.nd rfl (by walk_at "L") (pe_cl F__law_names hr (by decide) tk (pa_cons (pv 0) (pa_cons (pe_cl F__law_take hr (by decide) tk (pa_cons (pv 0) (pa_cons (pe_op oAddI (pv 1) pe_int) pa_nil))) pa_nil))))
      (pss_cons (ps_set (i := 3) sc.nd rfl (by walk_at "L") (pe_cl F__law_wishes hr (by decide) tk (pa_cons (pv 0) (pa_cons (pv 2) pa_nil))))
      (pss_one (ps_ret (pe_tup (pa_cons (pv 2) (pa_cons (pv 3) pa_nil)))))))
abbrev n__law_is_integer : List Str := ["_law_actual"]
theorem sc__law_is_integer : FnScope n__law_is_integer ["_law_actual"] (defScope s__law_is_integer) := ⟨rfl, rfl, rfl, by decide +kernel, rfl, by decide +kernel, by decide +kernel⟩
theorem ok__law_is_integer (T : Top K mg)  (F : FunD K "_law_is_integer" "_law_is_integer" (defArgs s__law_is_integer) (defBody s__law_is_integer) (defScope s__law_is_integer) [] [] f fd) : FnOk P w K mg base (L2.CX P w) 1 f fd ["_law_actual"] (sp__law_is_integer K) := by
  have sc := sc__law_is_integer
  refine F.ok sc (fun vs H Q E h => ?_) (fun cdv A outer s H vs Q E hr h => ⟨t__law_is_integer K E, ?_, pure__law_is_integer h⟩)
  · first | (obtain ⟨_, _, _, rfl, _⟩ := h; rfl)
  · obtain ⟨tk, po⟩ := @tpC P w K mg base n__law_is_integer "_law_is_integer" (defScope s__law_is_integer) f cdv A outer s H E
    exact (pss_one (ps_ret (pe_and (pe_callB call_isi (by rfl) T.f_isinstance (by decide +kernel) (pa_cons (pv 0) (pa_cons (pe_bltn (v := .ty "int") rfl T.f_int (by decide +kernel) rfl) pa_nil))) (pe_one (pe_not (pe_callB call_isi (by rfl) T.f_isinstance (by decide +kernel) (pa_cons (pv 0) (pa_cons (pe_bltn (v := .ty "bool") rfl T.f_bool (by decide +kernel) rfl) pa_nil))))))))
abbrev n__law_model : List Str := ["_law_names_here", "_law_wishes_here", "_law_rows", "_law_a"]
theorem sc__law_model : FnScope n__law_model ["_law_names_here", "_law_wishes_here"] (defScope s__law_model) := ⟨rfl, rfl, rfl, by decide +kernel, rfl, by decide +kernel, by decide +kernel⟩
theorem ok__law_model (T : Top K mg)  (F : FunD K "_law_model" "_law_model" (defArgs s__law_model) (defBody s__law_model) (defScope s__law_model) [] [] f fd) : FnOk P w K mg base (L2.CX P w) 1 f fd ["_law_names_here", "_law_wishes_here"] (sp__law_model K) := by
  have sc := sc__law_model
  refine F.ok sc (fun vs H Q E h => ?_) (fun cdv A outer s H vs Q E hr h => ⟨t__law_model K E, ?_, pure__law_model h⟩)
  · first | (obtain ⟨_, _, _, _, _, _, _, rfl, _⟩ := h; rfl)
  · obtain ⟨tk, po⟩ := @tpC P w K mg base n__law_model "_law_model" (defScope s__law_model) f cdv A outer s H E
    exact (pss_cons (ps_set (i := 2) sc.nd rfl (by walk_at "L") (pe_lst pa_nil))
      (pss_cons (ps_for po rfl (pi_list (pv 0)) (pg_name (i := 3) sc.nd rfl (by walk_at "L")) (pss_one (ps_expr (pe_bm PySem.F.plainAttrs_list PySem.F.slot_list_append PySem.F.type_list_append mt_append (pv 2) (pa_cons (pe_tup (pa_cons (pv 3) (pa_cons (pe_callTy cListOf (by rfl) T.f_list (by decide +kernel) (pa_cons (pe_dget (hu_of hr) (pv 1) (pv 3) (fun _ _ => rfl)) pa_nil)) pa_nil))) pa_nil)))))
      (pss_one (ps_ret (pv 2)))))
abbrev n__law_mutual : List Str := ["_law_names_here", "_law_wishes_here", "_law_mutual_here", "_law_a", "_law_b"]
theorem sc__law_mutual : FnScope n__law_mutual ["_law_names_here", "_law_wishes_here"] (defScope s__law_mutual) := ⟨rfl, rfl, rfl, by decide +kernel, rfl, by decide +kernel, by decide +kernel⟩
theorem ok__law_mutual (T : Top K mg)  (F : FunD K "_law_mutual" "_law_mutual" (defArgs s__law_mutual) (defBody s__law_mutual) (defScope s__law_mutual) [] [] f fd) : FnOk P w K mg base (L2.CX P w) 1 f fd ["_law_names_here", "_law_wishes_here"] (sp__law_mutual K) := by
  have sc := sc__law_mutual
  refine F.ok sc (fun vs H Q E h => ?_) (fun cdv A outer s H vs Q E hr h => ⟨t__law_mutual K E, ?_, pure__law_mutual h⟩)
  · first | (obtain ⟨_, _, _, _, _, _, _, rfl, _⟩ := h; rfl)
  · obtain ⟨tk, po⟩ := @tpC P w K mg base n__law_mutual "_law_mutual" (defScope s__law_mutual) f cdv A outer s H E
    exact (pss_cons (ps_set (i := 2) sc.nd rfl (by walk_at "L") pe_dnewK)
      (pss_cons (ps_for po rfl (pi_list (pv 0)) (pg_name (i := 3) sc.nd rfl (by walk_at "L")) (pss_one (ps_dput (hu_of hr) (pv 2) (pv 3) (pe_lc (own := [("_law_b", 4)]) (g := (gName 4)) (tt := (tTest (tOp (rIn K false) (tVar 3) (tDGet (tVar 1) (tVar 4))))) rfl sc.nd (pi_list (pe_dget (hu_of hr) (pv 1) (pv 3) (fun _ _ => rfl))) (blkOk_by (own := [("_law_b", 4)]) (N := n__law_mutual) (sc := defScope (s__law_mutual)) (by decide +kernel)) (fun _ _ _ _ _ => (pg_name (i := 4) sc.nd rfl (by walk_at "L"))) (fun _ _ _ _ _ => (pts_one (pt_cmpR op_in_seq (pv 3) (pe_dget (hu_of hr) (pv 1) (pv 4) (fun _ _ => rfl)) (by rfl)))) (fun _ _ _ _ _ => (pv 4))) rfl)))
      (pss_one (ps_ret (pv 2)))))
abbrev n__law_pairs : List Str := ["_law_mutual_here", "_law_rows", "_law_a", "_law_b"]
theorem sc__law_pairs : FnScope n__law_pairs ["_law_mutual_here"] (defScope s__law_pairs) := ⟨rfl, rfl, rfl, by decide +kernel, rfl, by decide +kernel, by decide +kernel⟩
theorem ok__law_pairs (T : Top K mg)  (F : FunD K "_law_pairs" "_law_pairs" (defArgs s__law_pairs) (defBody s__law_pairs) (defScope s__law_pairs) [] [] f fd) : FnOk P w K mg base (L2.CX P w) 1 f fd ["_law_mutual_here"] (sp__law_pairs K) := by
  have sc := sc__law_pairs
  refine F.ok sc (fun vs H Q E h => ?_) (fun cdv A outer s H vs Q E hr h => ⟨t__law_pairs K E, ?_, pure__law_pairs h⟩)
  · first | (obtain ⟨_, _, _, _, _, rfl, _⟩ := h; rfl)
  · obtain ⟨tk, po⟩ := @tpC P w K mg base n__law_pairs "_law_pairs" (defScope s__law_pairs) f cdv A outer s H E
    exact (pss_cons (ps_set (i := 1) sc.nd rfl (by walk_at "L") (pe_lst pa_nil))
      (pss_cons (ps_for po rfl (pi_list (pe_callB cSortL (by rfl) T.f_sorted (by decide +kernel) (pa_cons (pe_callTy (call_list_dK rfl) (by rfl) T.f_list (by decide +kernel) (pa_cons (pv 0) pa_nil)) pa_nil))) (pg_name (i := 2) sc.nd rfl (by walk_at "L")) (pss_one (ps_for po rfl (pi_list (pe_callB cSortL (by rfl) T.f_sorted (by decide +kernel) (pa_cons (pe_dget (hu_of hr) (pv 0) (pv 2) (fun _ _ => rfl)) pa_nil))) (pg_name (i := 3) sc.nd rfl (by walk_at "L")) (pss_one (ps_if (pt_cmpR oLtS (pv 2) (pv 3) (nomark _)) (pss_one (ps_expr (pe_bm PySem.F.plainAttrs_list PySem.F.slot_list_append PySem.F.type_list_append mt_append (pv 1) (pa_cons (pe_tup (pa_cons (pv 2) (pa_cons (pv 3) pa_nil))) pa_nil)))) pss_nil)))))
      (pss_one (ps_ret (pv 1)))))
abbrev n__law_row : List Str := ["_law_actual", "_law_due"]
theorem sc__law_row : FnScope n__law_row ["_law_actual", "_law_due"] (defScope s__law_row) := ⟨rfl, rfl, rfl, by decide +kernel, rfl, by decide +kernel, by decide +kernel⟩
theorem ok__law_row (T : Top K mg)  (F : FunD K "_law_row" "_law_row" (defArgs s__law_row) (defBody s__law_row) (defScope s__law_row) [] [] f fd) : FnOk P w K mg base (L2.CX P w) 1 f fd ["_law_actual", "_law_due"] (sp__law_row K) := by
  have sc := sc__law_row
  refine F.ok sc (fun vs H Q E h => ?_) (fun cdv A outer s H vs Q E hr h => ⟨t__law_row K E, ?_, pure__law_row h⟩)
  · first | (obtain ⟨_, _, _, _, _, _, rfl, _⟩ := h; rfl)
  · obtain ⟨tk, po⟩ := @tpC P w K mg base n__law_row "_law_row" (defScope s__law_row) f cdv A outer s H E
    exact (pss_one (ps_ret (pe_and (pe_callB call_isi (by rfl) T.f_isinstance (by decide +kernel) (pa_cons (pv 0) (pa_cons (pe_bltn (v := .ty "list") rfl T.f_list (by decide +kernel) rfl) pa_nil))) (pe_one (pe_cmpR (op_eqD hr.units) (pv 0) (pv 1) (nomark _))))))
abbrev n_Group_people : List Str := ["self"]
theorem sc_Group_people : FnScope n_Group_people ["self"] (defScope s_Group_people) := ⟨rfl, rfl, rfl, by decide +kernel, rfl, by decide +kernel, by decide +kernel⟩
theorem ok_Group_people (T : Top K mg)  (F : FunD K "people" "Group.people" (defArgs s_Group_people) (defBody s_Group_people) (defScope s_Group_people) [] [] f fd) : FnOk P w K mg base (L2.CX P w) 1 f fd ["self"] (sp_Group_people K) := by
  have sc := sc_Group_people
  refine F.ok sc (fun vs H Q E h => ?_) (fun cdv A outer s H vs Q E hr h => ⟨t_Group_people K E, ?_, pure_Group_people T.gk h⟩)
  · first | (obtain ⟨_, _, _, rfl, _⟩ := h; rfl)
  · obtain ⟨tk, po⟩ := @tpC P w K mg base n_Group_people "Group.people" (defScope s_Group_people) f cdv A outer s H E
    exact (pss_one (ps_ret (pe_callTy cListOf (by rfl) T.f_list (by decide +kernel) (pa_cons (pe_fld (pv 0) rfl) pa_nil))))
abbrev n_NoPerson___init__ : List Str := ["self", "value"]
def t_NoPerson___init__ (K : PySem.W.Frag) (E : XK) : TS := (tSeq (tDrop (tVeI K (tCons (tVar 0) (tCons (tC (.str "the value is not a person of the group")) tNil))))
  (tOst K "value" (tVar 0) (tVar 1)))
theorem sc_NoPerson___init__ : FnScope n_NoPerson___init__ ["self", "value"] (defScope s_NoPerson___init__) := ⟨rfl, rfl, rfl, by decide +kernel, rfl, by decide +kernel, by decide +kernel⟩
theorem pure_NoPerson___init__ (T : Top K mg) {vs : List V} {H : Hp} {Q : VK} {E : XK} (h : (spI1 K (He.ga K "NoPerson") "value") vs H Q E) : t_NoPerson___init__ K E { nx := fun _ H' => Q .non H', rt := Q } (start n_NoPerson___init__ vs) H := by
  obtain ⟨a, v, rfl, ha, k⟩ := h
  show t_NoPerson___init__ K E _ [some (.ref a), some v] H
  exact xi1 T.ox_NoPerson T.na_NoPerson_value ha k
theorem ok_NoPerson___init__ (T : Top K mg)  (F : FunD K "__init__" "NoPerson.__init__" (defArgs s_NoPerson___init__) (defBody s_NoPerson___init__) (defScope s_NoPerson___init__) [] [] f fd) : FnOk P w K mg base (L2.CX P w) 1 f fd ["self", "value"] (spI1 K (He.ga K "NoPerson") "value") := by
  have sc := sc_NoPerson___init__
  refine F.ok sc (fun vs H Q E h => ?_) (fun cdv A outer s H vs Q E hr h => ⟨t_NoPerson___init__ K E, ?_, pure_NoPerson___init__ T h⟩)
  · first | (obtain ⟨_, _, rfl, _⟩ := h; rfl)
  · obtain ⟨tk, po⟩ := @tpC P w K mg base n_NoPerson___init__ "NoPerson.__init__" (defScope s_NoPerson___init__) f cdv A outer s H E
    exact (pss_cons (ps_expr (pe_qinit T.g_QuietError T.qi (pa_cons (pv 0) (pa_cons pe_str pa_nil))))
      (pss_one (ps_ost (pv 0) (pv 1))))
abbrev n_Group_check : List Str := ["self", "a"]
theorem sc_Group_check : FnScope n_Group_check ["self", "a"] (defScope s_Group_check) := ⟨rfl, rfl, rfl, by decide +kernel, rfl, by decide +kernel, by decide +kernel⟩
theorem ok_Group_check (T : Top K mg) (Z_NoPerson : ErC P w K mg base "NoPerson" ["self", "value"] (spI1 K (He.ga K "NoPerson") "value")) (F : FunD K "check" "Group.check" (defArgs s_Group_check) (defBody s_Group_check) (defScope s_Group_check) [] [] f fd) : FnOk P w K mg base (L2.CX P w) 3 f fd ["self", "a"] (sp_Group_check K) := by
  have sc := sc_Group_check
  refine F.ok sc (fun vs H Q E h => ?_) (fun cdv A outer s H vs Q E hr h => ⟨t_Group_check K E, ?_, pure_Group_check T.gk h⟩)
  · first | (obtain ⟨_, _, _, _, _, rfl, _⟩ := h; rfl)
  · obtain ⟨tk, po⟩ := @tpC P w K mg base n_Group_check "Group.check" (defScope s_Group_check) f cdv A outer s H E
    exact (pss_one (ps_if (PW.pt (pw_or (pt_not (pt_val (pe_callB call_isi (by rfl) T.f_isinstance (by decide +kernel) (pa_cons (pv 1) (pa_cons (pe_bltn (v := .ty "str") rfl T.f_str (by decide +kernel) rfl) pa_nil))))) (pw_or1 (pt_cmp (pc_dnotin (hu_of hr) (pv 1) (pe_fld (pv 0) rfl)))))) (pss_one (ps_rz1 Z_NoPerson hr (by decide) rfl tk (pv 1))) pss_nil))
abbrev n_Group_wishes : List Str := ["self", "a"]
theorem sc_Group_wishes : FnScope n_Group_wishes ["self", "a"] (defScope s_Group_wishes) := ⟨rfl, rfl, rfl, by decide +kernel, rfl, by decide +kernel, by decide +kernel⟩
theorem ok_Group_wishes (T : Top K mg) (M_Group_check : Mt P w K mg base 3 "Group" "check" ["self", "a"] (sp_Group_check K)) (F : FunD K "wishes" "Group.wishes" (defArgs s_Group_wishes) (defBody s_Group_wishes) (defScope s_Group_wishes) [] [] f fd) : FnOk P w K mg base (L2.CX P w) 4 f fd ["self", "a"] (sp_Group_wishes K) := by
  have sc := sc_Group_wishes
  refine F.ok sc (fun vs H Q E h => ?_) (fun cdv A outer s H vs Q E hr h => ⟨t_Group_wishes K E, ?_, pure_Group_wishes T.gk h⟩)
  · first | (obtain ⟨_, _, _, _, _, rfl, _⟩ := h; rfl)
  · obtain ⟨tk, po⟩ := @tpC P w K mg base n_Group_wishes "Group.wishes" (defScope s_Group_wishes) f cdv A outer s H E
    exact (pss_cons (ps_expr (pe_mt (c := "Group") M_Group_check hr (by decide) tk (pv 0) (pa_cons (pv 1) pa_nil)))
      (pss_one (ps_ret (pe_callTy cListOf (by rfl) T.f_list (by decide +kernel) (pa_cons (pe_dget (hu_of hr) (pe_fld (pv 0) rfl) (pv 1) (fun _ _ => rfl)) pa_nil)))))
abbrev n__law_shows : List Str := ["_law_group_here", "_law_rows", "_law_a"]
theorem sc__law_shows : FnScope n__law_shows ["_law_group_here"] (defScope s__law_shows) := ⟨rfl, rfl, rfl, by decide +kernel, rfl, by decide +kernel, by decide +kernel⟩
theorem ok__law_shows (T : Top K mg) (M_Group_people : Mt P w K mg base 1 "Group" "people" ["self"] (sp_Group_people K)) (M_Group_wishes : Mt P w K mg base 4 "Group" "wishes" ["self", "a"] (sp_Group_wishes K)) (F : FunD K "_law_shows" "_law_shows" (defArgs s__law_shows) (defBody s__law_shows) (defScope s__law_shows) [] [] f fd) : FnOk P w K mg base (L2.CX P w) 5 f fd ["_law_group_here"] (sp__law_shows K) := by
  have sc := sc__law_shows
  refine F.ok sc (fun vs H Q E h => ?_) (fun cdv A outer s H vs Q E hr h => ⟨t__law_shows K E, ?_, pure__law_shows h⟩)
  · first | (obtain ⟨_, _, _, rfl, _⟩ := h; rfl)
  · obtain ⟨tk, po⟩ := @tpC P w K mg base n__law_shows "_law_shows" (defScope s__law_shows) f cdv A outer s H E
    exact (pss_cons (ps_set (i := 1) sc.nd rfl (by walk_at "L") (pe_lst pa_nil))
      (pss_cons (ps_for po rfl (pi_list (pe_mt0 (c := "Group") M_Group_people hr (by decide) tk (pv 0))) (pg_name (i := 2) sc.nd rfl (by walk_at "L")) (pss_one (ps_expr (pe_bm PySem.F.plainAttrs_list PySem.F.slot_list_append PySem.F.type_list_append mt_append (pv 1) (pa_cons (pe_tup (pa_cons (pv 2) (pa_cons (pe_mt (c := "Group") M_Group_wishes hr (by decide) tk (pv 0) (pa_cons (pv 2) pa_nil)) pa_nil))) pa_nil)))))
      (pss_one (ps_ret (pv 1)))))
abbrev n__law_turned : List Str := ["_law_x", "_law_turned_here", "_law_a"]
theorem sc__law_turned : FnScope n__law_turned ["_law_x"] (defScope s__law_turned) := ⟨rfl, rfl, rfl, by decide +kernel, rfl, by decide +kernel, by decide +kernel⟩
theorem ok__law_turned (T : Top K mg)  (F : FunD K "_law_turned" "_law_turned" (defArgs s__law_turned) (defBody s__law_turned) (defScope s__law_turned) [] [] f fd) : FnOk P w K mg base (L2.CX P w) 1 f fd ["_law_x"] (sp__law_turned K) := by
  have sc := sc__law_turned
  refine F.ok sc (fun vs H Q E h => ?_) (fun cdv A outer s H vs Q E hr h => ⟨t__law_turned K E, ?_, pure__law_turned h⟩)
  · first | (obtain ⟨_, _, _, _, rfl, _⟩ := h; rfl)
  · obtain ⟨tk, po⟩ := @tpC P w K mg base n__law_turned "_law_turned" (defScope s__law_turned) f cdv A outer s H E
    exact (pss_cons (ps_set (i := 1) sc.nd rfl (by walk_at "L") pe_dnewK)
      (pss_cons (ps_for po rfl (pi_reversed (by rfl) T.f_reversed (pa_cons (pe_callB cSortL (by rfl) T.f_sorted (by decide +kernel) (pa_cons (pe_callTy (call_list_dK rfl) (by rfl) T.f_list (by decide +kernel) (pa_cons (pv 0) pa_nil)) pa_nil)) pa_nil)) (pg_name (i := 2) sc.nd rfl (by walk_at "L")) (pss_one (ps_dput (hu_of hr) (pv 1) (pv 2) (pe_dget (hu_of hr) (pv 0) (pv 2) (fun _ _ => rfl)) rfl)))
      (pss_one (ps_ret (pv 1)))))
abbrev n_Group___getitem__ : List Str := ["self", "a"]
theorem sc_Group___getitem__ : FnScope n_Group___getitem__ ["self", "a"] (defScope s_Group___getitem__) := ⟨rfl, rfl, rfl, by decide +kernel, rfl, by decide +kernel, by decide +kernel⟩
theorem ok_Group___getitem__ (T : Top K mg) (Z_NoPerson : ErC P w K mg base "NoPerson" ["self", "value"] (spI1 K (He.ga K "NoPerson") "value")) (F : FunD K "__getitem__" "Group.__getitem__" (defArgs s_Group___getitem__) (defBody s_Group___getitem__) (defScope s_Group___getitem__) [] [] f fd) : FnOk P w K mg base (L2.CX P w) 3 f fd ["self", "a"] (sp_Group___getitem__ K) := by
  have sc := sc_Group___getitem__
  refine F.ok sc (fun vs H Q E h => ?_) (fun cdv A outer s H vs Q E hr h => ⟨t_Group___getitem__ K E, ?_, pure_Group___getitem__ T.gk h⟩)
  · first | exact h.1 | (obtain ⟨rfl, _⟩ := h; rfl) | (obtain ⟨_, rfl, _⟩ := h; rfl) | (obtain ⟨_, _, rfl, _⟩ := h; rfl) | (obtain ⟨_, _, _, rfl, _⟩ := h; rfl) | (obtain ⟨_, _, _, _, rfl, _⟩ := h; rfl) | (obtain ⟨_, _, _, _, _, rfl, _⟩ := h; rfl) | (obtain ⟨_, _, _, _, _, _, rfl, _⟩ := h; rfl) | (obtain ⟨_, _, _, _, _, _, _, rfl, _⟩ := h; rfl) | (obtain ⟨_, _, _, _, _, _, _, _, rfl, _⟩ := h; rfl) | (obtain ⟨_, _, _, _, _, _, _, _, _, rfl, _⟩ := h; rfl) | (obtain ⟨_, _, _, _, _, _, _, _, _, _, rfl, _⟩ := h; rfl) | (obtain ⟨_, _, _, _, _, _, _, _, _, _, _, rfl, _⟩ := h; rfl) | (obtain ⟨_, _, _, _, _, _, _, _, _, _, _, _, rfl, _⟩ := h; rfl) | (obtain ⟨_, _, _, _, _, _, _, _, _, _, _, _, _, rfl, _⟩ := h; rfl) | (obtain ⟨_, _, _, _, _, _, _, _, _, _, _, _, _, _, rfl, _⟩ := h; rfl) | (obtain ⟨_, _, _, _, _, _, _, _, _, _, _, _, _, _, _, rfl, _⟩ := h; rfl) | (obtain ⟨_, _, _, _, _, _, _, _, _, _, _, _, _, _, _, _, rfl, _⟩ := h; rfl) | (obtain ⟨_, _, _, _, _, _, _, _, _, _, _, _, _, _, _, _, _, rfl, _⟩ := h; rfl) | (obtain ⟨_, _, _, _, _, _, _, _, _, _, _, _, _, _, _, _, _, _, rfl, _⟩ := h; rfl) | (obtain ⟨_, _, _, _, _, _, _, _, _, _, _, _, _, _, _, _, _, _, _, rfl, _⟩ := h; rfl) | (obtain ⟨_, _, _, _, _, _, _, _, _, _, _, _, _, _, _, _, _, _, _, _, rfl, _⟩ := h; rfl) | (obtain ⟨_, _, _, _, _, _, _, _, _, _, _, _, _, _, _, _, _, _, _, _, _, rfl, _⟩ := h; rfl) | (obtain ⟨_, _, _, _, _, _, _, _, _, _, _, _, _, _, _, _, _, _, _, _, _, _, rfl, _⟩ := h; rfl) | (obtain ⟨_, _, _, _, _, _, _, _, _, _, _, _, _, _, _, _, _, _, _, _, _, _, _, rfl, _⟩ := h; rfl) | (obtain ⟨_, _, _, _, _, _, _, _, _, _, _, _, _, _, _, _, _, _, _, _, _, _, _, _, rfl, _⟩ := h; rfl) | (obtain ⟨_, _, _, _, _, _, _, _, _, _, _, _, _, _, _, _, _, _, _, _, _, _, _, _, _, rfl, _⟩ := h; rfl)
  · obtain ⟨tk, po⟩ := @tpC P w K mg base n_Group___getitem__ "Group.__getitem__" (defScope s_Group___getitem__) f cdv A outer s H E
    exact (pss_cons (ps_if (PW.pt (pw_or (pt_not (pt_val (pe_callB call_isi (by rfl) T.f_isinstance (by decide +kernel) (pa_cons (pv 1) (pa_cons (pe_bltn (v := .ty "str") rfl T.f_str (by decide +kernel) rfl) pa_nil))))) (pw_or1 (pt_cmp (pc_dnotin (hu_of hr) (pv 1) (pe_fld (pv 0) rfl)))))) (pss_one (ps_rz1 Z_NoPerson hr (by decide) rfl tk (pv 1))) pss_nil)
      (pss_one (ps_ret (pe_callTy cListOf (by rfl) T.f_list (by decide +kernel) (pa_cons (pe_dget (hu_of hr) (pe_fld (pv 0) rfl) (pv 1) (fun _ _ => rfl)) pa_nil)))))
abbrev n_Group___iter__ : List Str := ["self"]
theorem sc_Group___iter__ : FnScope n_Group___iter__ ["self"] (defScope s_Group___iter__) := ⟨rfl, rfl, rfl, by decide +kernel, rfl, by decide +kernel, by decide +kernel⟩
theorem ok_Group___iter__ (T : Top K mg)  (F : FunD K "__iter__" "Group.__iter__" (defArgs s_Group___iter__) (defBody s_Group___iter__) (defScope s_Group___iter__) [] [] f fd) : FnOk P w K mg base (L2.CX P w) 1 f fd ["self"] (sp_Group___iter__ K) := by
  have sc := sc_Group___iter__
  refine F.ok sc (fun vs H Q E h => ?_) (fun cdv A outer s H vs Q E hr h => ⟨t_Group___iter__ K E, ?_, pure_Group___iter__ T.gk h⟩)
  · first | (obtain ⟨_, _, _, rfl, _⟩ := h; rfl)
  · obtain ⟨tk, po⟩ := @tpC P w K mg base n_Group___iter__ "Group.__iter__" (defScope s_Group___iter__) f cdv A outer s H E
    exact (pss_one (ps_ret (pe_callB call_iterL (by rfl) T.f_iter (by decide +kernel) (pa_cons (pe_fld (pv 0) rfl) pa_nil))))
abbrev n_Group___len__ : List Str := ["self"]
theorem sc_Group___len__ : FnScope n_Group___len__ ["self"] (defScope s_Group___len__) := ⟨rfl, rfl, rfl, by decide +kernel, rfl, by decide +kernel, by decide +kernel⟩
theorem ok_Group___len__ (T : Top K mg)  (F : FunD K "__len__" "Group.__len__" (defArgs s_Group___len__) (defBody s_Group___len__) (defScope s_Group___len__) [] [] f fd) : FnOk P w K mg base (L2.CX P w) 1 f fd ["self"] (sp_Group___len__ K) := by
  have sc := sc_Group___len__
  refine F.ok sc (fun vs H Q E h => ?_) (fun cdv A outer s H vs Q E hr h => ⟨t_Group___len__ K E, ?_, pure_Group___len__ T.gk h⟩)
  · first | (obtain ⟨_, _, _, rfl, _⟩ := h; rfl)
  · obtain ⟨tk, po⟩ := @tpC P w K mg base n_Group___len__ "Group.__len__" (defScope s_Group___len__) f cdv A outer s H E
    exact (pss_one (ps_ret (pe_callB cLenA (by rfl) T.f_len PySem.boot_len (pa_cons (pe_fld (pv 0) rfl) pa_nil))))
abbrev n_Group_open_to : List Str := ["self", "a"]
theorem sc_Group_open_to : FnScope n_Group_open_to ["self", "a"] (defScope s_Group_open_to) := ⟨rfl, rfl, rfl, by decide +kernel, rfl, by decide +kernel, by decide +kernel⟩
theorem ok_Group_open_to (T : Top K mg) (M_Group_check : Mt P w K mg base 3 "Group" "check" ["self", "a"] (sp_Group_check K)) (F : FunD K "open_to" "Group.open_to" (defArgs s_Group_open_to) (defBody s_Group_open_to) (defScope s_Group_open_to) [] [] f fd) : FnOk P w K mg base (L2.CX P w) 4 f fd ["self", "a"] (sp_Group_open_to K) := by
  have sc := sc_Group_open_to
  refine F.ok sc (fun vs H Q E h => ?_) (fun cdv A outer s H vs Q E hr h => ⟨t_Group_open_to K E, ?_, pure_Group_open_to T.gk h⟩)
  · first | (obtain ⟨_, _, _, _, _, rfl, _⟩ := h; rfl)
  · obtain ⟨tk, po⟩ := @tpC P w K mg base n_Group_open_to "Group.open_to" (defScope s_Group_open_to) f cdv A outer s H E
    exact (pss_cons (ps_expr (pe_mt (c := "Group") M_Group_check hr (by decide) tk (pv 0) (pa_cons (pv 1) pa_nil)))
      (pss_one (ps_ret (pe_callTy cListOf (by rfl) T.f_list (by decide +kernel) (pa_cons (pe_dget (hu_of hr) (pe_fld (pv 0) rfl) (pv 1) (fun _ _ => rfl)) pa_nil)))))
abbrev n_Group_pairs : List Str := ["self", "rows", "a", "b"]
theorem sc_Group_pairs : FnScope n_Group_pairs ["self"] (defScope s_Group_pairs) := ⟨rfl, rfl, rfl, by decide +kernel, rfl, by decide +kernel, by decide +kernel⟩
theorem ok_Group_pairs (T : Top K mg)  (F : FunD K "pairs" "Group.pairs" (defArgs s_Group_pairs) (defBody s_Group_pairs) (defScope s_Group_pairs) [] [] f fd) : FnOk P w K mg base (L2.CX P w) 1 f fd ["self"] (sp_Group_pairs K) := by
  have sc := sc_Group_pairs
  refine F.ok sc (fun vs H Q E h => ?_) (fun cdv A outer s H vs Q E hr h => ⟨t_Group_pairs K E, ?_, pure_Group_pairs T.gk h⟩)
  · first | (obtain ⟨_, _, _, rfl, _⟩ := h; rfl)
  · obtain ⟨tk, po⟩ := @tpC P w K mg base n_Group_pairs "Group.pairs" (defScope s_Group_pairs) f cdv A outer s H E
    exact (pss_cons (ps_set (i := 1) sc.nd rfl (by walk_at "L") (pe_lst pa_nil))
      (pss_cons (ps_for po rfl (pi_list (pe_callB cSortL (by rfl) T.f_sorted (by decide +kernel) (pa_cons (pe_fld (pv 0) rfl) pa_nil))) (pg_name (i := 2) sc.nd rfl (by walk_at "L")) (pss_one (ps_for po rfl (pi_list (pe_callB cSortL (by rfl) T.f_sorted (by decide +kernel) (pa_cons (pe_dget (hu_of hr) (pe_fld (pv 0) rfl) (pv 2) (fun _ _ => rfl)) pa_nil))) (pg_name (i := 3) sc.nd rfl (by walk_at "L")) (pss_one (ps_if (pt_cmpR oLtS (pv 2) (pv 3) (nomark _)) (pss_one (ps_expr (pe_bm PySem.F.plainAttrs_list PySem.F.slot_list_append PySem.F.type_list_append mt_append (pv 1) (pa_cons (pe_tup (pa_cons (pv 2) (pa_cons (pv 3) pa_nil))) pa_nil)))) pss_nil)))))
      (pss_one (ps_ret (pv 1)))))
abbrev n_is_name : List Str := ["value", "letter"]
theorem sc_is_name : FnScope n_is_name ["value"] (defScope s_is_name) := ⟨rfl, rfl, rfl, by decide +kernel, rfl, by decide +kernel, by decide +kernel⟩
theorem ok_is_name (T : Top K mg)  (F : FunD K "is_name" "is_name" (defArgs s_is_name) (defBody s_is_name) (defScope s_is_name) [] [] f fd) : FnOk P w K mg base (L2.CX P w) 1 f fd ["value"] (sp_is_name K) := by
  have sc := sc_is_name
  refine F.ok sc (fun vs H Q E h => ?_) (fun cdv A outer s H vs Q E hr h => ⟨t_is_name K E, ?_, pure_is_name h⟩)
  · first | (obtain ⟨_, _, _, rfl, _⟩ := h; rfl)
  · obtain ⟨tk, po⟩ := @tpC P w K mg base n_is_name "is_name" (defScope s_is_name) f cdv A outer s H E
    exact (pss_cons (ps_if (PW.pt (pw_or (pt_not (pt_val (pe_callB call_isi (by rfl) T.f_isinstance (by decide +kernel) (pa_cons (pv 0) (pa_cons (pe_bltn (v := .ty "str") rfl T.f_str (by decide +kernel) rfl) pa_nil))))) (pw_or (pt_cmpR oLtI (pe_callB cLenA (by rfl) T.f_len PySem.boot_len (pa_cons (pv 0) pa_nil)) pe_int (nomark _)) (pw_or1 (pt_cmpR oGtI (pe_callB cLenA (by rfl) T.f_len PySem.boot_len (pa_cons (pv 0) pa_nil)) pe_int (nomark _)))))) (pss_one (ps_ret pe_bl)) pss_nil)
      (pss_cons (ps_for po rfl (pi_str (pv 0)) (pg_name (i := 1) sc.nd rfl (by walk_at "L")) (pss_one (ps_if (pt_cmpR op_notInS (pv 1) (pe_glob rfl T.k_LETTERS.choose_spec ⟨_, rfl⟩) (by rfl)) (pss_one (ps_ret pe_bl)) pss_nil)))
      (pss_one (ps_ret pe_bl))))
abbrev n_BadPeople___init__ : List Str := ["self", "index"]
def t_BadPeople___init__ (K : PySem.W.Frag) (E : XK) : TS := (tSeq (tDrop (tVeI K (tCons (tVar 0) (tCons (tC (.str "the people are not a tuple of different names")) tNil))))
  (tOst K "index" (tVar 0) (tVar 1)))
theorem sc_BadPeople___init__ : FnScope n_BadPeople___init__ ["self", "index"] (defScope s_BadPeople___init__) := ⟨rfl, rfl, rfl, by decide +kernel, rfl, by decide +kernel, by decide +kernel⟩
theorem pure_BadPeople___init__ (T : Top K mg) {vs : List V} {H : Hp} {Q : VK} {E : XK} (h : (spI1 K (He.ga K "BadPeople") "index") vs H Q E) : t_BadPeople___init__ K E { nx := fun _ H' => Q .non H', rt := Q } (start n_BadPeople___init__ vs) H := by
  obtain ⟨a, v, rfl, ha, k⟩ := h
  show t_BadPeople___init__ K E _ [some (.ref a), some v] H
  exact xi1 T.ox_BadPeople T.na_BadPeople_index ha k
theorem ok_BadPeople___init__ (T : Top K mg)  (F : FunD K "__init__" "BadPeople.__init__" (defArgs s_BadPeople___init__) (defBody s_BadPeople___init__) (defScope s_BadPeople___init__) [] [] f fd) : FnOk P w K mg base (L2.CX P w) 1 f fd ["self", "index"] (spI1 K (He.ga K "BadPeople") "index") := by
  have sc := sc_BadPeople___init__
  refine F.ok sc (fun vs H Q E h => ?_) (fun cdv A outer s H vs Q E hr h => ⟨t_BadPeople___init__ K E, ?_, pure_BadPeople___init__ T h⟩)
  · first | (obtain ⟨_, _, rfl, _⟩ := h; rfl)
  · obtain ⟨tk, po⟩ := @tpC P w K mg base n_BadPeople___init__ "BadPeople.__init__" (defScope s_BadPeople___init__) f cdv A outer s H E
    exact (pss_cons (ps_expr (pe_qinit T.g_QuietError T.qi (pa_cons (pv 0) (pa_cons pe_str pa_nil))))
      (pss_one (ps_ost (pv 0) (pv 1))))
abbrev n_check_people : List Str := ["people", "seen", "index", "item"]
theorem sc_check_people : FnScope n_check_people ["people"] (defScope s_check_people) := ⟨rfl, rfl, rfl, by decide +kernel, rfl, by decide +kernel, by decide +kernel⟩
theorem ok_check_people (T : Top K mg) (F_is_name : Fn P w K mg base 1 "is_name" ["value"] (sp_is_name K)) (Z_BadPeople : ErC P w K mg base "BadPeople" ["self", "index"] (spI1 K (He.ga K "BadPeople") "index")) (F : FunD K "check_people" "check_people" (defArgs s_check_people) (defBody s_check_people) (defScope s_check_people) [] [] f fd) : FnOk P w K mg base (L2.CX P w) 3 f fd ["people"] (sp_check_people K) := by
  have sc := sc_check_people
  refine F.ok sc (fun vs H Q E h => ?_) (fun cdv A outer s H vs Q E hr h => ⟨t_check_people K E, ?_, pure_check_people h⟩)
  · first | (obtain ⟨_, _, _, rfl, _⟩ := h; rfl)
  · obtain ⟨tk, po⟩ := @tpC P w K mg base n_check_people "check_people" (defScope s_check_people) f cdv A outer s H E
    exact (pss_cons (ps_if (PW.pt (pw_or (pt_not (pt_val (pe_callB call_isi (by rfl) T.f_isinstance (by decide +kernel) (pa_cons (pv 0) (pa_cons (pe_bltn (v := .ty "tuple") rfl T.f_tuple (by decide +kernel) rfl) pa_nil))))) (pw_or1 (pt_cmpR oGtI (pe_callB cLenA (by rfl) T.f_len PySem.boot_len (pa_cons (pv 0) pa_nil)) (pe_glob rfl T.k_MOST_PEOPLE.choose_spec ⟨_, rfl⟩) (nomark _))))) (pss_one (ps_rz1 Z_BadPeople hr (by decide) rfl tk (pe_un un_neg pe_int))) pss_nil)
      (pss_cons (ps_set (i := 1) sc.nd rfl (by walk_at "L") (pe_lst pa_nil))
      (pss_one (ps_for po rfl (pi_enumT (by rfl) T.f_enumerate (pa_cons (pv 0) pa_nil)) (pg_tup rfl (pgs_cons (pg_name (i := 2) sc.nd rfl (by walk_at "L")) (pgs_cons (pg_name (i := 3) sc.nd rfl (by walk_at "L")) pgs_nil))) (pss_cons (ps_if (PW.pt (pw_or (pt_not (pt_val (pe_cl F_is_name hr (by decide) tk (pa_cons (pv 3) pa_nil)))) (pw_or1 (pt_cmpR op_in_seq (pv 3) (pv 1) (by rfl))))) (pss_one (ps_rz1 Z_BadPeople hr (by decide) rfl tk (pv 2))) pss_nil)
      (pss_one (ps_expr (pe_bm PySem.F.plainAttrs_list PySem.F.slot_list_append PySem.F.type_list_append mt_append (pv 1) (pa_cons (pv 3) pa_nil)))))))))
abbrev n_fits_wishes : List Str := ["value", "people", "person", "seen", "item"]
theorem sc_fits_wishes : FnScope n_fits_wishes ["value", "people", "person"] (defScope s_fits_wishes) := ⟨rfl, rfl, rfl, by decide +kernel, rfl, by decide +kernel, by decide +kernel⟩
theorem ok_fits_wishes (T : Top K mg)  (F : FunD K "fits_wishes" "fits_wishes" (defArgs s_fits_wishes) (defBody s_fits_wishes) (defScope s_fits_wishes) [] [] f fd) : FnOk P w K mg base (L2.CX P w) 1 f fd ["value", "people", "person"] (sp_fits_wishes K) := by
  have sc := sc_fits_wishes
  refine F.ok sc (fun vs H Q E h => ?_) (fun cdv A outer s H vs Q E hr h => ⟨t_fits_wishes K E, ?_, pure_fits_wishes h⟩)
  · first | (obtain ⟨_, _, _, _, _, _, rfl, _⟩ := h; rfl)
  · obtain ⟨tk, po⟩ := @tpC P w K mg base n_fits_wishes "fits_wishes" (defScope s_fits_wishes) f cdv A outer s H E
    exact (pss_cons (ps_if (pt_not (pt_val (pe_callB call_isi (by rfl) T.f_isinstance (by decide +kernel) (pa_cons (pv 0) (pa_cons (pe_bltn (v := .ty "list") rfl T.f_list (by decide +kernel) rfl) pa_nil))))) (pss_one (ps_ret pe_bl)) pss_nil)
      (pss_cons (ps_set (i := 3) sc.nd rfl (by walk_at "L") (pe_lst pa_nil))
      (pss_cons (ps_for po rfl (pi_list (pv 0)) (pg_name (i := 4) sc.nd rfl (by walk_at "L")) (pss_cons (ps_if (PW.pt (pw_or (pt_not (pt_val (pe_callB call_isi (by rfl) T.f_isinstance (by decide +kernel) (pa_cons (pv 4) (pa_cons (pe_bltn (v := .ty "str") rfl T.f_str (by decide +kernel) rfl) pa_nil))))) (pw_or (pt_cmpR op_eq (pv 4) (pv 2) (nomark _)) (pw_or (pt_cmpR op_notIn_seq (pv 4) (pv 1) (by rfl)) (pw_or1 (pt_cmpR op_in_seq (pv 4) (pv 3) (by rfl))))))) (pss_one (ps_ret pe_bl)) pss_nil)
      (pss_one (ps_expr (pe_bm PySem.F.plainAttrs_list PySem.F.slot_list_append PySem.F.type_list_append mt_append (pv 3) (pa_cons (pv 4) pa_nil))))))
      (pss_one (ps_ret pe_bl)))))
abbrev n_same_keys : List Str := ["value", "people", "person"]
theorem sc_same_keys : FnScope n_same_keys ["value", "people"] (defScope s_same_keys) := ⟨rfl, rfl, rfl, by decide +kernel, rfl, by decide +kernel, by decide +kernel⟩
theorem ok_same_keys (T : Top K mg)  (F : FunD K "same_keys" "same_keys" (defArgs s_same_keys) (defBody s_same_keys) (defScope s_same_keys) [] [] f fd) : FnOk P w K mg base (L2.CX P w) 1 f fd ["value", "people"] (sp_same_keys K) := by
  have sc := sc_same_keys
  refine F.ok sc (fun vs H Q E h => ?_) (fun cdv A outer s H vs Q E hr h => ⟨t_same_keys K E, ?_, pure_same_keys h⟩)
  · first | (obtain ⟨_, _, _, _, _, rfl, _⟩ := h; rfl)
  · obtain ⟨tk, po⟩ := @tpC P w K mg base n_same_keys "same_keys" (defScope s_same_keys) f cdv A outer s H E
    exact (pss_cons (ps_if (PW.pt (pw_or (pt_not (pt_val (pe_callB call_isi (by rfl) T.f_isinstance (by decide +kernel) (pa_cons (pv 0) (pa_cons (pe_bltn (v := .ty "dict") rfl T.f_dict (by decide +kernel) rfl) pa_nil))))) (pw_or1 (pt_cmpR op_ne (pe_callB cLenD (by rfl) T.f_len PySem.boot_len (pa_cons (pv 0) pa_nil)) (pe_callB cLenA (by rfl) T.f_len PySem.boot_len (pa_cons (pv 1) pa_nil)) (nomark _))))) (pss_one (ps_ret pe_bl)) pss_nil)
      (pss_cons (ps_for po rfl (pi_seq (pv 1)) (pg_name (i := 2) sc.nd rfl (by walk_at "L")) (pss_one (ps_if (pt_cmp (pc_dnotin (hu_of hr) (pv 2) (pv 0))) (pss_one (ps_ret pe_bl)) pss_nil)))
      (pss_one (ps_ret pe_bl))))
abbrev n_BadWishes___init__ : List Str := ["self", "person"]
def t_BadWishes___init__ (K : PySem.W.Frag) (E : XK) : TS := (tSeq (tDrop (tVeI K (tCons (tVar 0) (tCons (tC (.str "the wishes do not fit the people")) tNil))))
  (tOst K "person" (tVar 0) (tVar 1)))
theorem sc_BadWishes___init__ : FnScope n_BadWishes___init__ ["self", "person"] (defScope s_BadWishes___init__) := ⟨rfl, rfl, rfl, by decide +kernel, rfl, by decide +kernel, by decide +kernel⟩
theorem pure_BadWishes___init__ (T : Top K mg) {vs : List V} {H : Hp} {Q : VK} {E : XK} (h : (spI1 K (He.ga K "BadWishes") "person") vs H Q E) : t_BadWishes___init__ K E { nx := fun _ H' => Q .non H', rt := Q } (start n_BadWishes___init__ vs) H := by
  obtain ⟨a, v, rfl, ha, k⟩ := h
  show t_BadWishes___init__ K E _ [some (.ref a), some v] H
  exact xi1 T.ox_BadWishes T.na_BadWishes_person ha k
theorem ok_BadWishes___init__ (T : Top K mg)  (F : FunD K "__init__" "BadWishes.__init__" (defArgs s_BadWishes___init__) (defBody s_BadWishes___init__) (defScope s_BadWishes___init__) [] [] f fd) : FnOk P w K mg base (L2.CX P w) 1 f fd ["self", "person"] (spI1 K (He.ga K "BadWishes") "person") := by
  have sc := sc_BadWishes___init__
  refine F.ok sc (fun vs H Q E h => ?_) (fun cdv A outer s H vs Q E hr h => ⟨t_BadWishes___init__ K E, ?_, pure_BadWishes___init__ T h⟩)
  · first | (obtain ⟨_, _, rfl, _⟩ := h; rfl)
  · obtain ⟨tk, po⟩ := @tpC P w K mg base n_BadWishes___init__ "BadWishes.__init__" (defScope s_BadWishes___init__) f cdv A outer s H E
    exact (pss_cons (ps_expr (pe_qinit T.g_QuietError T.qi (pa_cons (pv 0) (pa_cons pe_str pa_nil))))
      (pss_one (ps_ost (pv 0) (pv 1))))
abbrev n_check_wishes : List Str := ["people", "wishes", "person"]
theorem sc_check_wishes : FnScope n_check_wishes ["people", "wishes"] (defScope s_check_wishes) := ⟨rfl, rfl, rfl, by decide +kernel, rfl, by decide +kernel, by decide +kernel⟩
theorem ok_check_wishes (T : Top K mg) (F_fits_wishes : Fn P w K mg base 1 "fits_wishes" ["value", "people", "person"] (sp_fits_wishes K)) (F_same_keys : Fn P w K mg base 1 "same_keys" ["value", "people"] (sp_same_keys K)) (Z_BadWishes : ErC P w K mg base "BadWishes" ["self", "person"] (spI1 K (He.ga K "BadWishes") "person")) (F : FunD K "check_wishes" "check_wishes" (defArgs s_check_wishes) (defBody s_check_wishes) (defScope s_check_wishes) [] [] f fd) : FnOk P w K mg base (L2.CX P w) 3 f fd ["people", "wishes"] (sp_check_wishes K) := by
  have sc := sc_check_wishes
  refine F.ok sc (fun vs H Q E h => ?_) (fun cdv A outer s H vs Q E hr h => ⟨t_check_wishes K E, ?_, pure_check_wishes h⟩)
  · first | (obtain ⟨_, _, _, _, _, rfl, _⟩ := h; rfl)
  · obtain ⟨tk, po⟩ := @tpC P w K mg base n_check_wishes "check_wishes" (defScope s_check_wishes) f cdv A outer s H E
    exact (pss_cons (ps_if (pt_not (pt_val (pe_cl F_same_keys hr (by decide) tk (pa_cons (pv 1) (pa_cons (pv 0) pa_nil))))) (pss_one (ps_rz1 Z_BadWishes hr (by decide) rfl tk pe_str)) pss_nil)
      (pss_one (ps_for po rfl (pi_list (pe_callB (cSortT rfl) (by rfl) T.f_sorted (by decide +kernel) (pa_cons (pv 0) pa_nil))) (pg_name (i := 2) sc.nd rfl (by walk_at "L")) (pss_one (ps_if (pt_not (pt_val (pe_cl F_fits_wishes hr (by decide) tk (pa_cons (pe_dget (hu_of hr) (pv 1) (pv 2) (fun _ _ => rfl)) (pa_cons (pv 0) (pa_cons (pv 2) pa_nil)))))) (pss_one (ps_rz1 Z_BadWishes hr (by decide) rfl tk (pv 2))) pss_nil)))))
abbrev n_Group___init__03 : List Str := ["self", "people", "wishes", "person", "row", "other", "at"]
theorem sc_Group___init__03 : FnScope n_Group___init__03 ["self", "people", "wishes"] (defScope s_Group___init__03) := ⟨rfl, rfl, rfl, by decide +kernel, rfl, by decide +kernel, by decide +kernel⟩
theorem ok_Group___init__03 (T : Top K mg) (F_check_people : Fn P w K mg base 3 "check_people" ["people"] (sp_check_people K)) (F_check_wishes : Fn P w K mg base 3 "check_wishes" ["people", "wishes"] (sp_check_wishes K)) (F : FunD K "__init__" "Group.__init__" (defArgs s_Group___init__03) (defBody s_Group___init__03) (defScope s_Group___init__03) [] [] f fd) : FnOk P w K mg base (L2.CX P w) 4 f fd ["self", "people", "wishes"] (sp_Group___init__03 K) := by
  have sc := sc_Group___init__03
  refine F.ok sc (fun vs H Q E h => ?_) (fun cdv A outer s H vs Q E hr h => ⟨t_Group___init__03 K E, ?_, pure_Group___init__03 T.gk h⟩)
  · first | (obtain ⟨_, _, _, _, _, _, _, _, _, rfl, _⟩ := h; rfl)
  · obtain ⟨tk, po⟩ := @tpC P w K mg base n_Group___init__03 "Group.__init__" (defScope s_Group___init__03) f cdv A outer s H E
    exact (pss_cons (ps_expr (pe_cl F_check_people hr (by decide) tk (pa_cons (pv 1) pa_nil)))
      (pss_cons (ps_expr (pe_cl F_check_wishes hr (by decide) tk (pa_cons (pv 1) (pa_cons (pv 2) pa_nil))))
      (pss_cons (ps_fld (pv 0) (pe_callTy cListOf (by rfl) T.f_list (by decide +kernel) (pa_cons (pv 1) pa_nil)) rfl)
      (pss_cons (ps_fld (pv 0) (pe_dc (own := [("person", 3)]) (g := (gName 3)) (tt := tYes) rfl sc.nd (pi_tup (pv 1)) (blkOk_by (own := [("person", 3)]) (N := n_Group___init__03) (sc := defScope (s_Group___init__03)) (by decide +kernel)) (fun _ _ _ _ _ => (pg_name (i := 3) sc.nd rfl (by walk_at "L"))) (fun _ _ _ _ _ => pts_nil) (fun _ _ _ _ _ => (pv 3)) (fun _ _ _ _ _ => (pe_callTy cListOf (by rfl) T.f_list (by decide +kernel) (pa_cons (pe_dget (hu_of hr) (pv 2) (pv 3) (fun _ _ => rfl)) pa_nil)))) rfl)
      (pss_cons (ps_fld (pv 0) pe_dnewK rfl)
      (pss_cons (ps_fld (pv 0) pe_dnewK rfl)
      (pss_one (ps_for po rfl (pi_tup (pv 1)) (pg_name (i := 3) sc.nd rfl (by walk_at "L")) (pss_cons (ps_setLc (i := 4) (own := [("other", 5)]) (g := (gName 5)) (tt := (tTest (tOp (rIn K false) (tVar 3) (tDGet (tVar 2) (tVar 5))))) rfl sc.nd rfl rfl (sw_true rfl rfl rfl (by decide +kernel)) (pi_list (pe_dget (hu_of hr) (pv 2) (pv 3) (fun _ _ => rfl))) (blkOk_by (own := [("other", 5)]) (N := n_Group___init__03) (sc := defScope (s_Group___init__03)) (by decide +kernel)) (fun _ _ _ _ _ => (pg_name (i := 5) sc.nd rfl (by walk_at "L"))) (fun _ _ _ _ _ => (pts_one (pt_cmpR op_in_seq (pv 3) (pe_dget (hu_of hr) (pv 2) (pv 5) (fun _ _ => rfl)) (by rfl)))) (fun _ _ _ _ _ => (pv 5)))
      (pss_cons (ps_dput (hu_of hr) (pe_fld (pv 0) rfl) (pv 3) (pv 4) rfl)
      (pss_one (ps_dput (hu_of hr) (pe_fld (pv 0) rfl) (pv 3) (pe_dc (own := [("at", 6), ("other", 5)]) (g := (gTup K 2 (gCons (gName 6) (gCons (gName 5) gNil)))) (tt := tYes) rfl sc.nd (pi_enum (by rfl) T.f_enumerate (pa_cons (pv 4) pa_nil)) (blkOk_by (own := [("at", 6), ("other", 5)]) (N := n_Group___init__03) (sc := defScope (s_Group___init__03)) (by decide +kernel)) (fun _ _ _ _ _ => (pg_tup rfl (pgs_cons (pg_name (i := 6) sc.nd rfl (by walk_at "L")) (pgs_cons (pg_name (i := 5) sc.nd rfl (by walk_at "L")) pgs_nil)))) (fun _ _ _ _ _ => pts_nil) (fun _ _ _ _ _ => (pv 5)) (fun _ _ _ _ _ => (pv 6))) rfl))))))))))))
abbrev n_law : List Str := ["_law_script", "_law_state", "_law_model_here", "_law_handed", "_law_before", "_law_group_here", "_law_a", "_law_met", "_law_mutual_here", "_law_names_here", "_law_wishes_here"]
theorem sc_law : FnScope n_law ["_law_script"] (defScope s_law) := ⟨rfl, rfl, rfl, by decide +kernel, rfl, by decide +kernel, by decide +kernel⟩
theorem ok_law (T : Top K mg) (F__law_cell : Fn P w K mg base 1 "_law_cell" ["_law_script", "_law_k"] (sp__law_cell K)) (F__law_copy : Fn P w K mg base 1 "_law_copy" ["_law_wishes_here"] (sp__law_copy K)) (F__law_group : Fn P w K mg base 5 "_law_group" ["_law_state", "_law_top"] (sp__law_group K)) (F__law_is_integer : Fn P w K mg base 1 "_law_is_integer" ["_law_actual"] (sp__law_is_integer K)) (F__law_model : Fn P w K mg base 1 "_law_model" ["_law_names_here", "_law_wishes_here"] (sp__law_model K)) (F__law_mutual : Fn P w K mg base 1 "_law_mutual" ["_law_names_here", "_law_wishes_here"] (sp__law_mutual K)) (F__law_pairs : Fn P w K mg base 1 "_law_pairs" ["_law_mutual_here"] (sp__law_pairs K)) (F__law_row : Fn P w K mg base 1 "_law_row" ["_law_actual", "_law_due"] (sp__law_row K)) (F__law_shows : Fn P w K mg base 5 "_law_shows" ["_law_group_here"] (sp__law_shows K)) (F__law_turned : Fn P w K mg base 1 "_law_turned" ["_law_x"] (sp__law_turned K)) (M_Group___getitem__ : MtI P w K mg base 3 "Group" "__getitem__" ["self", "a"] (sp_Group___getitem__ K)) (M_Group___iter__ : Mt P w K mg base 1 "Group" "__iter__" ["self"] (sp_Group___iter__ K)) (M_Group___len__ : Mt P w K mg base 1 "Group" "__len__" ["self"] (sp_Group___len__ K)) (M_Group_open_to : Mt P w K mg base 4 "Group" "open_to" ["self", "a"] (sp_Group_open_to K)) (M_Group_pairs : Mt P w K mg base 1 "Group" "pairs" ["self"] (sp_Group_pairs K)) (M_Group_people : Mt P w K mg base 1 "Group" "people" ["self"] (sp_Group_people K)) (M_Group_wishes : Mt P w K mg base 4 "Group" "wishes" ["self", "a"] (sp_Group_wishes K)) (X_Group : Mkr P w K mg base 4 "Group" ["self", "people", "wishes"] (sp_Group___init__03 K)) (F : FunD K "law" "law" (defArgs s_law) (defBody s_law) (defScope s_law) [] [] f fd) : FnOk P w K mg base (L2.CX P w) 6 f fd ["_law_script"] (spLaw K) := by
  have sc := sc_law
  refine F.ok sc (fun vs H Q E h => ?_) (fun cdv A outer s H vs Q E hr h => ⟨t_law K E, ?_, pure_law T.gk h⟩)
  · first | (obtain ⟨_, _, rfl, _⟩ := h; rfl)
  · obtain ⟨tk, po⟩ := @tpC P w K mg base n_law "law" (defScope s_law) f cdv A outer s H E
    exact (pss_cons (ps_set (i := 1) sc.nd rfl (by walk_at "L") (pe_cl F__law_cell hr (by decide) tk (pa_cons (pv 0) (pa_cons pe_int pa_nil))))
      (pss_cons (ps_asg (pe_cl F__law_group hr (by decide) tk (pa_cons (pv 1) (pa_cons pe_int pa_nil))) (pg_tup rfl (pgs_cons (pg_name (i := 9) sc.nd rfl (by walk_at "L")) (pgs_cons (pg_name (i := 10) sc.nd rfl (by walk_at "L")) pgs_nil))))
      (pss_cons (ps_set (i := 2) sc.nd rfl (by walk_at "L") (pe_cl F__law_model hr (by decide) tk (pa_cons (pv 9) (pa_cons (pv 10) pa_nil))))
      (pss_cons (ps_set (i := 3) sc.nd rfl (by walk_at "L") (pe_cl F__law_turned hr (by decide) tk (pa_cons (pe_cl F__law_copy hr (by decide) tk (pa_cons (pv 10) pa_nil)) pa_nil)))
      (pss_cons (ps_set (i := 4) sc.nd rfl (by walk_at "L") (pe_cl F__law_copy hr (by decide) tk (pa_cons (pv 3) pa_nil)))
      (pss_cons (ps_set (i := 5) sc.nd rfl (by walk_at "L") (pe_mk X_Group hr (by decide) tk (pa_cons (pe_callTy cTupOf (by rfl) T.f_tuple (by decide +kernel) (pa_cons (pv 9) pa_nil)) (pa_cons (pv 3) pa_nil))))
      (pss_cons (ps_if (PW.pt (pw_or (pt_cmpR (op_neE hr.units) (pv 3) (pv 4) (nomark _)) (pw_or1 (pt_not (pt_val (pe_cl F__law_row hr (by decide) tk (pa_cons (pe_cl F__law_shows hr (by decide) tk (pa_cons (pv 5) pa_nil)) (pa_cons (pv 2) pa_nil)))))))) (pss_one (ps_ret pe_bl)) pss_nil)
      (pss_cons (ps_for po rfl (pi_list (pv 9)) (pg_name (i := 6) sc.nd rfl (by walk_at "L")) (pss_cons (ps_expr (pe_bm PySem.F.plainAttrs_list PySem.F.slot_list_append PySem.F.type_list_append mt_append (pe_dget (hu_of hr) (pv 3) (pv 6) (fun _ _ => rfl)) (pa_cons pe_str pa_nil)))
      (pss_one (ps_expr (pe_bm0 PySem.F.plainAttrs_list PySem.F.slot_list_reverse PySem.F.type_list_reverse mt_reverse (pe_dget (hu_of hr) (pv 3) (pv 6) (fun _ _ => rfl)))))))
      (pss_cons (ps_dput (hu_of hr) (pv 3) pe_str (pe_lst pa_nil) rfl)
      (pss_cons (ps_expr (pe_bm PySem.F.plainAttrs_list PySem.F.slot_list_append PySem.F.type_list_append mt_append (pe_mt0 (c := "Group") M_Group_people hr (by decide) tk (pv 5)) (pa_cons pe_str pa_nil)))
      (pss_cons (ps_expr (pe_bm0 PySem.F.plainAttrs_list PySem.F.slot_list_reverse PySem.F.type_list_reverse mt_reverse (pe_mt0 (c := "Group") M_Group_people hr (by decide) tk (pv 5))))
      (pss_cons (ps_for po rfl (pi_list (pv 9)) (pg_name (i := 6) sc.nd rfl (by walk_at "L")) (pss_cons (ps_expr (pe_bm PySem.F.plainAttrs_list PySem.F.slot_list_insert PySem.F.type_list_insert mtInsert (pe_mt (c := "Group") M_Group_wishes hr (by decide) tk (pv 5) (pa_cons (pv 6) pa_nil)) (pa_cons pe_int (pa_cons pe_str pa_nil))))
      (pss_cons (ps_expr (pe_bm PySem.F.plainAttrs_list PySem.F.slot_list_insert PySem.F.type_list_insert mtInsert (pe_mt (c := "Group") M_Group_open_to hr (by decide) tk (pv 5) (pa_cons (pv 6) pa_nil)) (pa_cons pe_int (pa_cons pe_str pa_nil))))
      (pss_one (ps_expr (pe_bm PySem.F.plainAttrs_list PySem.F.slot_list_insert PySem.F.type_list_insert mtInsert (pe_getG M_Group___getitem__ hr (by decide) tk (pv 5) (pv 6)) (pa_cons pe_int (pa_cons pe_str pa_nil))))))))
      (pss_cons (ps_expr (pe_bm PySem.F.plainAttrs_list PySem.F.slot_list_append PySem.F.type_list_append mt_append (pe_mt0 (c := "Group") M_Group_pairs hr (by decide) tk (pv 5)) (pa_cons (pe_tup (pa_cons pe_str (pa_cons pe_str pa_nil))) pa_nil)))
      (pss_cons (ps_if (PW.pt (pw_or (pt_not (pt_val (pe_cl F__law_is_integer hr (by decide) tk (pa_cons (pe_callB (cLenO M_Group___len__ hr (by decide)) (by rfl) T.f_len PySem.boot_len (pa_cons (pv 5) pa_nil)) pa_nil)))) (pw_or1 (pt_cmpR op_ne (pe_callB (cLenO M_Group___len__ hr (by decide)) (by rfl) T.f_len PySem.boot_len (pa_cons (pv 5) pa_nil)) (pe_callB cLenA (by rfl) T.f_len PySem.boot_len (pa_cons (pv 9) pa_nil)) (nomark _))))) (pss_one (ps_ret pe_bl)) pss_nil)
      (pss_cons (ps_set (i := 7) sc.nd rfl (by walk_at "L") (pe_lst pa_nil))
      (pss_cons (ps_forO M_Group___iter__ hr (by decide) tk po rfl (pv 5) (pg_name (i := 6) sc.nd rfl (by walk_at "L")) (pss_one (ps_expr (pe_bm PySem.F.plainAttrs_list PySem.F.slot_list_append PySem.F.type_list_append mt_append (pv 7) (pa_cons (pv 6) pa_nil)))))
      (pss_cons (ps_if (PW.pt (pw_or (pt_cmpR (op_neD hr.units) (pv 7) (pv 9) (nomark _)) (pw_or1 (pt_not (pt_val (pe_cl F__law_row hr (by decide) tk (pa_cons (pe_mt0 (c := "Group") M_Group_people hr (by decide) tk (pv 5)) (pa_cons (pv 9) pa_nil)))))))) (pss_one (ps_ret pe_bl)) pss_nil)
      (pss_cons (ps_set (i := 8) sc.nd rfl (by walk_at "L") (pe_cl F__law_mutual hr (by decide) tk (pa_cons (pv 9) (pa_cons (pv 10) pa_nil))))
      (pss_cons (ps_for po rfl (pi_list (pv 9)) (pg_name (i := 6) sc.nd rfl (by walk_at "L")) (pss_one (ps_if (PW.pt (pw_or (pt_not (pt_val (pe_cl F__law_row hr (by decide) tk (pa_cons (pe_mt (c := "Group") M_Group_open_to hr (by decide) tk (pv 5) (pa_cons (pv 6) pa_nil)) (pa_cons (pe_dget (hu_of hr) (pv 8) (pv 6) (fun _ _ => rfl)) pa_nil))))) (pw_or1 (pt_not (pt_val (pe_cl F__law_row hr (by decide) tk (pa_cons (pe_getG M_Group___getitem__ hr (by decide) tk (pv 5) (pv 6)) (pa_cons (pe_dget (hu_of hr) (pv 8) (pv 6) (fun _ _ => rfl)) pa_nil)))))))) (pss_one (ps_ret pe_bl)) pss_nil)))
      (pss_one (ps_ret (pe_and (pe_cl F__law_row hr (by decide) tk (pa_cons (pe_mt0 (c := "Group") M_Group_pairs hr (by decide) tk (pv 5)) (pa_cons (pe_cl F__law_pairs hr (by decide) tk (pa_cons (pv 8) pa_nil)) pa_nil))) (pe_one (pe_cl F__law_row hr (by decide) tk (pa_cons (pe_cl F__law_shows hr (by decide) tk (pa_cons (pv 5) pa_nil)) (pa_cons (pv 2) pa_nil))))))))))))))))))))))))))
end
theorem facts {P : Program} {w : World} {K : PySem.W.Frag} {h : Heap} {mg : Str → Option Value} {f : Addr} (X : K.In h) (G : h.Ns mainGlobals mg) (hfa : mg ("law" : Str) = some (.ref f)) (c : SaysX ex fa fn K) :
    ∃ fd : FuncData, (∀ (s : Shared) (v : Value), BindsTo s fd ⟨[v], []⟩ [("_law_script", v)]) ∧ ∀ base : Heap, K.In base → base.Ns mainGlobals mg → FnOk P w K mg base (L2.CX P w) 6 f fd ["_law_script"] (spLaw K) := by
  have T : Top K mg := ⟨He.free_ok X G (c.two.fact 0 (f := He.Fa.free "abs") rfl),
    He.free_ok X G (c.two.fact 1 (f := He.Fa.free "bool") rfl),
    He.free_ok X G (c.two.fact 2 (f := He.Fa.free "dict") rfl),
    He.free_ok X G (c.two.fact 3 (f := He.Fa.free "enumerate") rfl),
    He.free_ok X G (c.two.fact 4 (f := He.Fa.free "int") rfl),
    He.free_ok X G (c.two.fact 5 (f := He.Fa.free "isinstance") rfl),
    He.free_ok X G (c.two.fact 6 (f := He.Fa.free "iter") rfl),
    He.free_ok X G (c.two.fact 7 (f := He.Fa.free "len") rfl),
    He.free_ok X G (c.two.fact 8 (f := He.Fa.free "list") rfl),
    He.free_ok X G (c.two.fact 9 (f := He.Fa.free "min") rfl),
    He.free_ok X G (c.two.fact 10 (f := He.Fa.free "range") rfl),
    He.free_ok X G (c.two.fact 11 (f := He.Fa.free "reversed") rfl),
    He.free_ok X G (c.two.fact 12 (f := He.Fa.free "sorted") rfl),
    He.free_ok X G (c.two.fact 13 (f := He.Fa.free "str") rfl),
    He.free_ok X G (c.two.fact 14 (f := He.Fa.free "tuple") rfl),
    He.str_ok X G (c.two.fact 15 (f := He.Fa.str "LETTERS" "abcdefghijklmnopqrstuvwxyz") rfl),
    He.int_ok X G (c.two.fact 16 (f := He.Fa.int "MOST_PEOPLE" 16) rfl),
    He.glo_ok X G (c.two.fact 17 (f := He.Fa.glo "BadPeople") rfl),
    He.glo_ok X G (c.two.fact 18 (f := He.Fa.glo "BadWishes") rfl),
    He.glo_ok X G (c.two.fact 19 (f := He.Fa.glo "Group") rfl),
    He.glo_ok X G (c.two.fact 20 (f := He.Fa.glo "NoPerson") rfl),
    He.glo_ok X G (c.two.fact 21 (f := He.Fa.glo "QuietError") rfl),
    He.glo_ok X G (c.two.fact 22 (f := He.Fa.glo "_law_cell") rfl),
    He.glo_ok X G (c.two.fact 23 (f := He.Fa.glo "_law_copy") rfl),
    He.glo_ok X G (c.two.fact 24 (f := He.Fa.glo "_law_take") rfl),
    He.glo_ok X G (c.two.fact 25 (f := He.Fa.glo "_law_name") rfl),
    He.glo_ok X G (c.two.fact 26 (f := He.Fa.glo "_law_names") rfl),
    He.glo_ok X G (c.two.fact 27 (f := He.Fa.glo "_law_mixed") rfl),
    He.glo_ok X G (c.two.fact 28 (f := He.Fa.glo "_law_others") rfl),
    He.glo_ok X G (c.two.fact 29 (f := He.Fa.glo "_law_block_wishes") rfl),
    He.glo_ok X G (c.two.fact 30 (f := He.Fa.glo "_law_plain_wishes") rfl),
    He.glo_ok X G (c.two.fact 31 (f := He.Fa.glo "_law_side_wishes") rfl),
    He.glo_ok X G (c.two.fact 32 (f := He.Fa.glo "_law_wishes") rfl),
    He.glo_ok X G (c.two.fact 33 (f := He.Fa.glo "_law_group") rfl),
    He.glo_ok X G (c.two.fact 34 (f := He.Fa.glo "_law_is_integer") rfl),
    He.glo_ok X G (c.two.fact 35 (f := He.Fa.glo "_law_model") rfl),
    He.glo_ok X G (c.two.fact 36 (f := He.Fa.glo "_law_mutual") rfl),
    He.glo_ok X G (c.two.fact 37 (f := He.Fa.glo "_law_pairs") rfl),
    He.glo_ok X G (c.two.fact 38 (f := He.Fa.glo "_law_row") rfl),
    He.glo_ok X G (c.two.fact 39 (f := He.Fa.glo "_law_shows") rfl),
    He.glo_ok X G (c.two.fact 40 (f := He.Fa.glo "_law_turned") rfl),
    He.glo_ok X G (c.two.fact 41 (f := He.Fa.glo "is_name") rfl),
    He.glo_ok X G (c.two.fact 42 (f := He.Fa.glo "check_people") rfl),
    He.glo_ok X G (c.two.fact 43 (f := He.Fa.glo "fits_wishes") rfl),
    He.glo_ok X G (c.two.fact 44 (f := He.Fa.glo "same_keys") rfl),
    He.glo_ok X G (c.two.fact 45 (f := He.Fa.glo "check_wishes") rfl),
    He.glo_ok X G (c.two.fact 46 (f := He.Fa.glo "law") rfl),
    c.ex 0 (b := (fun K => qInitB K "QuietError")) rfl,
    He.noat_ok (c.two.fact 47 (f := He.Fa.noat "BadPeople" "index") rfl),
    He.noat_ok (c.two.fact 48 (f := He.Fa.noat "BadWishes" "person") rfl),
    He.noat_ok (c.two.fact 49 (f := He.Fa.noat "NoPerson" "value") rfl),
    oexB_ok (c.ex 1 (b := (fun K => oexB K (He.ga K "BadPeople"))) rfl),
    He.meth_ok (c.two.fact 50 (f := He.Fa.meth "BadPeople" "__init__") rfl),
    of_decide_eq_true (c.ex 2 (b := (fun K => decide (PySem.W.typeIn K (.ref (He.ma K (He.ga K "BadPeople") "__init__")) = some (.type "function")))) rfl),
    oexB_ok (c.ex 3 (b := (fun K => oexB K (He.ga K "BadWishes"))) rfl),
    He.meth_ok (c.two.fact 51 (f := He.Fa.meth "BadWishes" "__init__") rfl),
    of_decide_eq_true (c.ex 4 (b := (fun K => decide (PySem.W.typeIn K (.ref (He.ma K (He.ga K "BadWishes") "__init__")) = some (.type "function")))) rfl),
    oexB_ok (c.ex 5 (b := (fun K => oexB K (He.ga K "NoPerson"))) rfl),
    He.meth_ok (c.two.fact 52 (f := He.Fa.meth "NoPerson" "__init__") rfl),
    of_decide_eq_true (c.ex 6 (b := (fun K => decide (PySem.W.typeIn K (.ref (He.ma K (He.ga K "NoPerson") "__init__")) = some (.type "function")))) rfl),
    He.meth_ok (c.two.fact 53 (f := He.Fa.meth "Group" "people") rfl),
    He.meth_ok (c.two.fact 54 (f := He.Fa.meth "Group" "check") rfl),
    He.meth_ok (c.two.fact 55 (f := He.Fa.meth "Group" "wishes") rfl),
    He.meth_ok (c.two.fact 56 (f := He.Fa.meth "Group" "__getitem__") rfl),
    He.meth_ok (c.two.fact 57 (f := He.Fa.meth "Group" "__iter__") rfl),
    He.meth_ok (c.two.fact 58 (f := He.Fa.meth "Group" "__len__") rfl),
    He.meth_ok (c.two.fact 59 (f := He.Fa.meth "Group" "open_to") rfl),
    He.meth_ok (c.two.fact 60 (f := He.Fa.meth "Group" "pairs") rfl),
    He.mkr_ok (c.two.fact 61 (f := He.Fa.mkr "Group") rfl),
    ⟨He.cls_ok (c.two.fact 62 (f := He.Fa.cls "Group") rfl), He.noat_ok (c.two.fact 63 (f := He.Fa.noat "Group" "names") rfl), He.noat_ok (c.two.fact 64 (f := He.Fa.noat "Group" "lists") rfl), He.noat_ok (c.two.fact 65 (f := He.Fa.noat "Group" "mutual") rfl), He.noat_ok (c.two.fact 66 (f := He.Fa.noat "Group" "places") rfl), insB_ok (He.cls_ok (c.two.fact 62 (f := He.Fa.cls "Group") rfl)) (c.ex 7 (b := (fun K => insB K (He.ga K "Group"))) rfl)⟩⟩
  obtain ⟨fd__law_cell, D__law_cell⟩ := c.two.def_ 0 (d := d__law_cell) rfl
  obtain ⟨fd__law_copy, D__law_copy⟩ := c.two.def_ 1 (d := d__law_copy) rfl
  obtain ⟨fd__law_take, D__law_take⟩ := c.two.def_ 2 (d := d__law_take) rfl
  obtain ⟨fd__law_name, D__law_name⟩ := c.two.def_ 3 (d := d__law_name) rfl
  obtain ⟨fd__law_names, D__law_names⟩ := c.two.def_ 4 (d := d__law_names) rfl
  obtain ⟨fd__law_mixed, D__law_mixed⟩ := c.two.def_ 5 (d := d__law_mixed) rfl
  obtain ⟨fd__law_others, D__law_others⟩ := c.two.def_ 6 (d := d__law_others) rfl
  obtain ⟨fd__law_block_wishes, D__law_block_wishes⟩ := c.two.def_ 7 (d := d__law_block_wishes) rfl
  obtain ⟨fd__law_plain_wishes, D__law_plain_wishes⟩ := c.two.def_ 8 (d := d__law_plain_wishes) rfl
  obtain ⟨fd__law_side_wishes, D__law_side_wishes⟩ := c.two.def_ 9 (d := d__law_side_wishes) rfl
  obtain ⟨fd__law_wishes, D__law_wishes⟩ := c.two.def_ 10 (d := d__law_wishes) rfl
  obtain ⟨fd__law_group, D__law_group⟩ := c.two.def_ 11 (d := d__law_group) rfl
  obtain ⟨fd__law_is_integer, D__law_is_integer⟩ := c.two.def_ 12 (d := d__law_is_integer) rfl
  obtain ⟨fd__law_model, D__law_model⟩ := c.two.def_ 13 (d := d__law_model) rfl
  obtain ⟨fd__law_mutual, D__law_mutual⟩ := c.two.def_ 14 (d := d__law_mutual) rfl
  obtain ⟨fd__law_pairs, D__law_pairs⟩ := c.two.def_ 15 (d := d__law_pairs) rfl
  obtain ⟨fd__law_row, D__law_row⟩ := c.two.def_ 16 (d := d__law_row) rfl
  obtain ⟨fd_Group_people, D_Group_people⟩ := c.two.def_ 17 (d := d_Group_people) rfl
  obtain ⟨fd_NoPerson___init__, D_NoPerson___init__⟩ := c.two.def_ 18 (d := d_NoPerson___init__) rfl
  obtain ⟨fd_Group_check, D_Group_check⟩ := c.two.def_ 19 (d := d_Group_check) rfl
  obtain ⟨fd_Group_wishes, D_Group_wishes⟩ := c.two.def_ 20 (d := d_Group_wishes) rfl
  obtain ⟨fd__law_shows, D__law_shows⟩ := c.two.def_ 21 (d := d__law_shows) rfl
  obtain ⟨fd__law_turned, D__law_turned⟩ := c.two.def_ 22 (d := d__law_turned) rfl
  obtain ⟨fd_Group___getitem__, D_Group___getitem__⟩ := c.two.def_ 23 (d := d_Group___getitem__) rfl
  obtain ⟨fd_Group___iter__, D_Group___iter__⟩ := c.two.def_ 24 (d := d_Group___iter__) rfl
  obtain ⟨fd_Group___len__, D_Group___len__⟩ := c.two.def_ 25 (d := d_Group___len__) rfl
  obtain ⟨fd_Group_open_to, D_Group_open_to⟩ := c.two.def_ 26 (d := d_Group_open_to) rfl
  obtain ⟨fd_Group_pairs, D_Group_pairs⟩ := c.two.def_ 27 (d := d_Group_pairs) rfl
  obtain ⟨fd_is_name, D_is_name⟩ := c.two.def_ 28 (d := d_is_name) rfl
  obtain ⟨fd_BadPeople___init__, D_BadPeople___init__⟩ := c.two.def_ 29 (d := d_BadPeople___init__) rfl
  obtain ⟨fd_check_people, D_check_people⟩ := c.two.def_ 30 (d := d_check_people) rfl
  obtain ⟨fd_fits_wishes, D_fits_wishes⟩ := c.two.def_ 31 (d := d_fits_wishes) rfl
  obtain ⟨fd_same_keys, D_same_keys⟩ := c.two.def_ 32 (d := d_same_keys) rfl
  obtain ⟨fd_BadWishes___init__, D_BadWishes___init__⟩ := c.two.def_ 33 (d := d_BadWishes___init__) rfl
  obtain ⟨fd_check_wishes, D_check_wishes⟩ := c.two.def_ 34 (d := d_check_wishes) rfl
  obtain ⟨fd_Group___init__03, D_Group___init__03⟩ := c.two.def_ 35 (d := d_Group___init__03) rfl
  obtain ⟨fd_law, D_law⟩ := c.two.def_ 36 (d := d_law) rfl
  have e := hfa.symm.trans T.g_law
  cases e
  have b := FunD.bindsA (ps := ["_law_script"]) D_law fun _ _ _ _ _ _ us hl => match us, hl with | [_], _ => rfl
  refine ⟨fd_law, fun s v => b s [v] rfl, fun base _ _ => ?_⟩
  have F__law_cell : Fn P w K mg base 1 "_law_cell" ["_law_script", "_law_k"] (sp__law_cell K) := ⟨_, _, T.g__law_cell, D__law_cell.kp, (FunD.bindsN (ps := ["_law_script", "_law_k"]) D__law_cell fun _ _ _ _ _ _ us hl => match us, hl with | [_, _], _ => rfl), (ok__law_cell T  D__law_cell)⟩
  have F__law_copy : Fn P w K mg base 1 "_law_copy" ["_law_wishes_here"] (sp__law_copy K) := ⟨_, _, T.g__law_copy, D__law_copy.kp, (FunD.bindsN (ps := ["_law_wishes_here"]) D__law_copy fun _ _ _ _ _ _ us hl => match us, hl with | [_], _ => rfl), (ok__law_copy T  D__law_copy)⟩
  have F__law_take : Fn P w K mg base 1 "_law_take" ["_law_state", "_law_many"] (sp__law_take K) := ⟨_, _, T.g__law_take, D__law_take.kp, (FunD.bindsN (ps := ["_law_state", "_law_many"]) D__law_take fun _ _ _ _ _ _ us hl => match us, hl with | [_, _], _ => rfl), (ok__law_take T  D__law_take)⟩
  have F__law_name : Fn P w K mg base 2 "_law_name" ["_law_state", "_law_taken"] (sp__law_name K) := ⟨_, _, T.g__law_name, D__law_name.kp, (FunD.bindsN (ps := ["_law_state", "_law_taken"]) D__law_name fun _ _ _ _ _ _ us hl => match us, hl with | [_, _], _ => rfl), (ok__law_name T F__law_take D__law_name)⟩
  have F__law_names : Fn P w K mg base 3 "_law_names" ["_law_state", "_law_many"] (sp__law_names K) := ⟨_, _, T.g__law_names, D__law_names.kp, (FunD.bindsN (ps := ["_law_state", "_law_many"]) D__law_names fun _ _ _ _ _ _ us hl => match us, hl with | [_, _], _ => rfl), (ok__law_names T F__law_name D__law_names)⟩
  have F__law_mixed : Fn P w K mg base 2 "_law_mixed" ["_law_state", "_law_items"] (sp__law_mixed K) := ⟨_, _, T.g__law_mixed, D__law_mixed.kp, (FunD.bindsN (ps := ["_law_state", "_law_items"]) D__law_mixed fun _ _ _ _ _ _ us hl => match us, hl with | [_, _], _ => rfl), (ok__law_mixed T F__law_take D__law_mixed)⟩
  have F__law_others : Fn P w K mg base 1 "_law_others" ["_law_names_here", "_law_a"] (sp__law_others K) := ⟨_, _, T.g__law_others, D__law_others.kp, (FunD.bindsN (ps := ["_law_names_here", "_law_a"]) D__law_others fun _ _ _ _ _ _ us hl => match us, hl with | [_, _], _ => rfl), (ok__law_others T  D__law_others)⟩
  have F__law_block_wishes : Fn P w K mg base 3 "_law_block_wishes" ["_law_state", "_law_names_here"] (sp__law_block_wishes K) := ⟨_, _, T.g__law_block_wishes, D__law_block_wishes.kp, (FunD.bindsN (ps := ["_law_state", "_law_names_here"]) D__law_block_wishes fun _ _ _ _ _ _ us hl => match us, hl with | [_, _], _ => rfl), (ok__law_block_wishes T F__law_mixed F__law_others F__law_take D__law_block_wishes)⟩
  have F__law_plain_wishes : Fn P w K mg base 3 "_law_plain_wishes" ["_law_state", "_law_names_here", "_law_mode"] (sp__law_plain_wishes K) := ⟨_, _, T.g__law_plain_wishes, D__law_plain_wishes.kp, (FunD.bindsN (ps := ["_law_state", "_law_names_here", "_law_mode"]) D__law_plain_wishes fun _ _ _ _ _ _ us hl => match us, hl with | [_, _, _], _ => rfl), (ok__law_plain_wishes T F__law_mixed F__law_take D__law_plain_wishes)⟩
  have F__law_side_wishes : Fn P w K mg base 3 "_law_side_wishes" ["_law_state", "_law_names_here"] (sp__law_side_wishes K) := ⟨_, _, T.g__law_side_wishes, D__law_side_wishes.kp, (FunD.bindsN (ps := ["_law_state", "_law_names_here"]) D__law_side_wishes fun _ _ _ _ _ _ us hl => match us, hl with | [_, _], _ => rfl), (ok__law_side_wishes T F__law_mixed F__law_take D__law_side_wishes)⟩
  have F__law_wishes : Fn P w K mg base 4 "_law_wishes" ["_law_state", "_law_names_here"] (sp__law_wishes K) := ⟨_, _, T.g__law_wishes, D__law_wishes.kp, (FunD.bindsN (ps := ["_law_state", "_law_names_here"]) D__law_wishes fun _ _ _ _ _ _ us hl => match us, hl with | [_, _], _ => rfl), (ok__law_wishes T F__law_block_wishes F__law_plain_wishes F__law_side_wishes F__law_take D__law_wishes)⟩
  have F__law_group : Fn P w K mg base 5 "_law_group" ["_law_state", "_law_top"] (sp__law_group K) := ⟨_, _, T.g__law_group, D__law_group.kp, (FunD.bindsN (ps := ["_law_state", "_law_top"]) D__law_group fun _ _ _ _ _ _ us hl => match us, hl with | [_, _], _ => rfl), (ok__law_group T F__law_names F__law_take F__law_wishes D__law_group)⟩
  have F__law_is_integer : Fn P w K mg base 1 "_law_is_integer" ["_law_actual"] (sp__law_is_integer K) := ⟨_, _, T.g__law_is_integer, D__law_is_integer.kp, (FunD.bindsN (ps := ["_law_actual"]) D__law_is_integer fun _ _ _ _ _ _ us hl => match us, hl with | [_], _ => rfl), (ok__law_is_integer T  D__law_is_integer)⟩
  have F__law_model : Fn P w K mg base 1 "_law_model" ["_law_names_here", "_law_wishes_here"] (sp__law_model K) := ⟨_, _, T.g__law_model, D__law_model.kp, (FunD.bindsN (ps := ["_law_names_here", "_law_wishes_here"]) D__law_model fun _ _ _ _ _ _ us hl => match us, hl with | [_, _], _ => rfl), (ok__law_model T  D__law_model)⟩
  have F__law_mutual : Fn P w K mg base 1 "_law_mutual" ["_law_names_here", "_law_wishes_here"] (sp__law_mutual K) := ⟨_, _, T.g__law_mutual, D__law_mutual.kp, (FunD.bindsN (ps := ["_law_names_here", "_law_wishes_here"]) D__law_mutual fun _ _ _ _ _ _ us hl => match us, hl with | [_, _], _ => rfl), (ok__law_mutual T  D__law_mutual)⟩
  have F__law_pairs : Fn P w K mg base 1 "_law_pairs" ["_law_mutual_here"] (sp__law_pairs K) := ⟨_, _, T.g__law_pairs, D__law_pairs.kp, (FunD.bindsN (ps := ["_law_mutual_here"]) D__law_pairs fun _ _ _ _ _ _ us hl => match us, hl with | [_], _ => rfl), (ok__law_pairs T  D__law_pairs)⟩
  have F__law_row : Fn P w K mg base 1 "_law_row" ["_law_actual", "_law_due"] (sp__law_row K) := ⟨_, _, T.g__law_row, D__law_row.kp, (FunD.bindsN (ps := ["_law_actual", "_law_due"]) D__law_row fun _ _ _ _ _ _ us hl => match us, hl with | [_, _], _ => rfl), (ok__law_row T  D__law_row)⟩
  have M_Group_people : Mt P w K mg base 1 "Group" "people" ["self"] (sp_Group_people K) := ⟨_, _, T.gk.cl, T.me_Group_people, (FunD.bindsN (ps := ["self"]) D_Group_people fun _ _ _ _ _ _ us hl => match us, hl with | [_], _ => rfl), (ok_Group_people T  D_Group_people)⟩
  have Z_NoPerson : ErC P w K mg base "NoPerson" ["self", "value"] (spI1 K (He.ga K "NoPerson") "value") := ⟨_, _, T.g_NoPerson, T.ox_NoPerson, T.mi_NoPerson.at_, T.ti_NoPerson, (FunD.bindsN (ps := ["self", "value"]) D_NoPerson___init__ fun _ _ _ _ _ _ us hl => match us, hl with | [_, _], _ => rfl), (ok_NoPerson___init__ T  D_NoPerson___init__)⟩
  have M_Group_check : Mt P w K mg base 3 "Group" "check" ["self", "a"] (sp_Group_check K) := ⟨_, _, T.gk.cl, T.me_Group_check, (FunD.bindsN (ps := ["self", "a"]) D_Group_check fun _ _ _ _ _ _ us hl => match us, hl with | [_, _], _ => rfl), (ok_Group_check T Z_NoPerson D_Group_check)⟩
  have M_Group_wishes : Mt P w K mg base 4 "Group" "wishes" ["self", "a"] (sp_Group_wishes K) := ⟨_, _, T.gk.cl, T.me_Group_wishes, (FunD.bindsN (ps := ["self", "a"]) D_Group_wishes fun _ _ _ _ _ _ us hl => match us, hl with | [_, _], _ => rfl), (ok_Group_wishes T M_Group_check D_Group_wishes)⟩
  have F__law_shows : Fn P w K mg base 5 "_law_shows" ["_law_group_here"] (sp__law_shows K) := ⟨_, _, T.g__law_shows, D__law_shows.kp, (FunD.bindsN (ps := ["_law_group_here"]) D__law_shows fun _ _ _ _ _ _ us hl => match us, hl with | [_], _ => rfl), (ok__law_shows T M_Group_people M_Group_wishes D__law_shows)⟩
  have F__law_turned : Fn P w K mg base 1 "_law_turned" ["_law_x"] (sp__law_turned K) := ⟨_, _, T.g__law_turned, D__law_turned.kp, (FunD.bindsN (ps := ["_law_x"]) D__law_turned fun _ _ _ _ _ _ us hl => match us, hl with | [_], _ => rfl), (ok__law_turned T  D__law_turned)⟩
  have M_Group___getitem__ : MtI P w K mg base 3 "Group" "__getitem__" ["self", "a"] (sp_Group___getitem__ K) := ⟨_, _, T.gk.cl, T.me_Group___getitem__, (FunD.bindsN (ps := ["self", "a"]) D_Group___getitem__ fun _ _ _ _ _ _ us hl => match us, hl with | [_, _], _ => rfl), (ok_Group___getitem__ T Z_NoPerson D_Group___getitem__), Q.FunD.fnIn D_Group___getitem__⟩
  have M_Group___iter__ : Mt P w K mg base 1 "Group" "__iter__" ["self"] (sp_Group___iter__ K) := ⟨_, _, T.gk.cl, T.me_Group___iter__, (FunD.bindsN (ps := ["self"]) D_Group___iter__ fun _ _ _ _ _ _ us hl => match us, hl with | [_], _ => rfl), (ok_Group___iter__ T  D_Group___iter__)⟩
  have M_Group___len__ : Mt P w K mg base 1 "Group" "__len__" ["self"] (sp_Group___len__ K) := ⟨_, _, T.gk.cl, T.me_Group___len__, (FunD.bindsN (ps := ["self"]) D_Group___len__ fun _ _ _ _ _ _ us hl => match us, hl with | [_], _ => rfl), (ok_Group___len__ T  D_Group___len__)⟩
  have M_Group_open_to : Mt P w K mg base 4 "Group" "open_to" ["self", "a"] (sp_Group_open_to K) := ⟨_, _, T.gk.cl, T.me_Group_open_to, (FunD.bindsN (ps := ["self", "a"]) D_Group_open_to fun _ _ _ _ _ _ us hl => match us, hl with | [_, _], _ => rfl), (ok_Group_open_to T M_Group_check D_Group_open_to)⟩
  have M_Group_pairs : Mt P w K mg base 1 "Group" "pairs" ["self"] (sp_Group_pairs K) := ⟨_, _, T.gk.cl, T.me_Group_pairs, (FunD.bindsN (ps := ["self"]) D_Group_pairs fun _ _ _ _ _ _ us hl => match us, hl with | [_], _ => rfl), (ok_Group_pairs T  D_Group_pairs)⟩
  have F_is_name : Fn P w K mg base 1 "is_name" ["value"] (sp_is_name K) := ⟨_, _, T.g_is_name, D_is_name.kp, (FunD.bindsN (ps := ["value"]) D_is_name fun _ _ _ _ _ _ us hl => match us, hl with | [_], _ => rfl), (ok_is_name T  D_is_name)⟩
  have Z_BadPeople : ErC P w K mg base "BadPeople" ["self", "index"] (spI1 K (He.ga K "BadPeople") "index") := ⟨_, _, T.g_BadPeople, T.ox_BadPeople, T.mi_BadPeople.at_, T.ti_BadPeople, (FunD.bindsN (ps := ["self", "index"]) D_BadPeople___init__ fun _ _ _ _ _ _ us hl => match us, hl with | [_, _], _ => rfl), (ok_BadPeople___init__ T  D_BadPeople___init__)⟩
  have F_check_people : Fn P w K mg base 3 "check_people" ["people"] (sp_check_people K) := ⟨_, _, T.g_check_people, D_check_people.kp, (FunD.bindsN (ps := ["people"]) D_check_people fun _ _ _ _ _ _ us hl => match us, hl with | [_], _ => rfl), (ok_check_people T F_is_name Z_BadPeople D_check_people)⟩
  have F_fits_wishes : Fn P w K mg base 1 "fits_wishes" ["value", "people", "person"] (sp_fits_wishes K) := ⟨_, _, T.g_fits_wishes, D_fits_wishes.kp, (FunD.bindsN (ps := ["value", "people", "person"]) D_fits_wishes fun _ _ _ _ _ _ us hl => match us, hl with | [_, _, _], _ => rfl), (ok_fits_wishes T  D_fits_wishes)⟩
  have F_same_keys : Fn P w K mg base 1 "same_keys" ["value", "people"] (sp_same_keys K) := ⟨_, _, T.g_same_keys, D_same_keys.kp, (FunD.bindsN (ps := ["value", "people"]) D_same_keys fun _ _ _ _ _ _ us hl => match us, hl with | [_, _], _ => rfl), (ok_same_keys T  D_same_keys)⟩
  have Z_BadWishes : ErC P w K mg base "BadWishes" ["self", "person"] (spI1 K (He.ga K "BadWishes") "person") := ⟨_, _, T.g_BadWishes, T.ox_BadWishes, T.mi_BadWishes.at_, T.ti_BadWishes, (FunD.bindsN (ps := ["self", "person"]) D_BadWishes___init__ fun _ _ _ _ _ _ us hl => match us, hl with | [_, _], _ => rfl), (ok_BadWishes___init__ T  D_BadWishes___init__)⟩
  have F_check_wishes : Fn P w K mg base 3 "check_wishes" ["people", "wishes"] (sp_check_wishes K) := ⟨_, _, T.g_check_wishes, D_check_wishes.kp, (FunD.bindsN (ps := ["people", "wishes"]) D_check_wishes fun _ _ _ _ _ _ us hl => match us, hl with | [_, _], _ => rfl), (ok_check_wishes T F_fits_wishes F_same_keys Z_BadWishes D_check_wishes)⟩
  have X_Group : Mkr P w K mg base 4 "Group" ["self", "people", "wishes"] (sp_Group___init__03 K) := ⟨_, _, T.g_Group, T.mk_Group, (FunD.bindsN (ps := ["self", "people", "wishes"]) D_Group___init__03 fun _ _ _ _ _ _ us hl => match us, hl with | [_, _, _], _ => rfl), (ok_Group___init__03 T F_check_people F_check_wishes D_Group___init__03)⟩
  exact (ok_law T F__law_cell F__law_copy F__law_group F__law_is_integer F__law_model F__law_mutual F__law_pairs F__law_row F__law_shows F__law_turned M_Group___getitem__ M_Group___iter__ M_Group___len__ M_Group_open_to M_Group_pairs M_Group_people M_Group_wishes X_Group D_law)
end Hd
open PySem PySem.W PySem.Calls PyProof.Rows
theorem PySem.Challenge.cw_quietpairs_k03_a_group_keeps_copies_holds : PySem.Challenge.rw_quietpairs_k03_a_group_keeps_copies.Holds := by
  w_on; o_law
  refine HandSHeadRun.head_any (r := OpenLaw.row PySem.Challenge.rw_quietpairs_k03_a_group_keeps_copies) (q := view (OpenLaw.row PySem.Challenge.rw_quietpairs_k03_a_group_keeps_copies).prog [35]) (H := Hd.hk) (ob := Hd.ob) (M := 20000) (loose := Hd.loose) (d := HandSHeadRun.topDef (OpenLaw.row PySem.Challenge.rw_quietpairs_k03_a_group_keeps_copies).prog 35) (kwd := []) Hd.ob_eq
    (by kernel_rfl) (fun s => by kernel_rfl) Hd.run (by kernel_rfl) (by kernel_rfl) (by kernel_rfl) (by rfl) (by first | assumption | decide +kernel) (by decide +kernel) ⟨rfl, rfl, rfl, rfl, rfl, by decide +kernel⟩ ?hw ?hc
  case hw => w_witness2
  case hc =>
    refine L2.walk_ofE (l := PySem.Challenge.rw_quietpairs_k03_a_group_keeps_copies) (n := 63) (k := 6) (x := "_law_script") (CX := Q.CXE (PySem.Challenge.rw_quietpairs_k03_a_group_keeps_copies).prog) rfl (by decide) (by kernel_rfl) ⟨rfl, by decide, by decide⟩ ?F Q.cxe_no
    intro w mg fa h Y G hmg0
    obtain ⟨K, KX, c⟩ := Y
    have hmg : mg ("law" : PySem.Str) = some (.ref fa) := by
      have e : (HandSHeadRun.topDef (OpenLaw.row PySem.Challenge.rw_quietpairs_k03_a_group_keeps_copies).prog 35).name = ("law" : PySem.Str) := by kernel_rfl
      rw [← e]
      exact hmg0
    obtain ⟨fd, hb, hF⟩ := Hd.facts (P := (PySem.Challenge.rw_quietpairs_k03_a_group_keeps_copies).prog) (w := w) KX G hmg c
    exact ⟨K, fd, Q.spLaw K, KX, hb, fun H a ns hl _ hS => ⟨a, ns, rfl, hl, hS, fun _ => rfl⟩, fun base h1 h2 => Q.fnok_cxe (hF base h1 h2)⟩
