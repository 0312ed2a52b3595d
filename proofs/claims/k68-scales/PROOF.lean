import PyProof.Rows.All
import Wide.All
import OpenK.AllK
import Wide.FinOn
import KE.KStateDown
import HandS.ForMost
import HandS.Exc
import HandS.TryOnly
import HandS.ExcOwn
import HandS.ExcInit
import HandS.ExcField
import HandS.More
import HandS.WordsExc
import HandS.IsInst
import HandS.Defaults
import HandS.DictComp
import HandS.Flow
import HandS.Head0
import HandS.Head1
import HandS.Head2
import HandS.HeadEnd
import HandS.HeadHook1
import HandS.HeadHook2
import HandS.Steps
import HandS.Walk
import HandS.Wide
import KE.GoesMore
import KE.GoesEnum
import PySem.Challenge.RW_quietpairs_k68_scales
import HandS.SortRule
import OpenK.KMeth
import OpenK.KOps
import HandS.OwnEq
import HandS.DeepEq
import HandS.TryMany
import KE.KEqDict
import PyProof.InstNe
import HandS.Conv
import HandS.Iter
import PyProof.EqKinds
import PyProof.FactsAll.subtypes_3
import PyProof.FactsAll.subtypes_4
import HandS.MakeKwOnly
import PyProof.NeKinds
import PyProof.FactsAll.dict_2
import PyProof.FactsAll.str_2
import PyProof.ExcBaseAll.ValueError
import HandS.TupLe
import HandS.Text
import HandS.Finally
import HandS.DictEq
import KE.KExcIs
import HandS.CallSlots
set_option Elab.async false
set_option linter.all false
set_option maxRecDepth 100000
set_option maxHeartbeats 4000000
namespace Q
open PySem PySem.Spec PyProof.Rows L2

/-! ### data as trees, and how a heap shows them -/
inductive D where
  | non | bl (b : Bool) | int (i : Int) | str (x : Str)
  | lst (xs : List D) | tup (xs : List D) | dct (kvs : List (Key × D)) | obj (a C : Addr)
/-- what the written part says of a class whose instances are asked by isinstance -/
structure InsK (K : PySem.W.Frag) (C : Addr) : Prop where
  cl : Cls K C
  ha : PySem.W.findIn K (.ref C) "__class__" = some (some (.builtin "object.__class__"))
  hn : PySem.W.specialIn K (.builtin "object.__class__") "__get__" = some (some (.builtin "getset_descriptor.__get__"))
  tk : PySem.W.takesIn K (.builtin "object.__class__") = some true
  mo : PySem.W.mroIn K C (.type "object") = some true
  no : ∀ T ∈ (["str", "int", "bool", "list", "tuple", "dict"] : List String), PySem.W.kitOne K (.ref C) (.type T) = some false
def insB (K : PySem.W.Frag) (C : Addr) : Bool := decide (PySem.W.findIn K (.ref C) "__class__" = some (some (.builtin "object.__class__"))) && (decide (PySem.W.specialIn K (.builtin "object.__class__") "__get__" = some (some (.builtin "getset_descriptor.__get__"))) &&
  (decide (PySem.W.takesIn K (.builtin "object.__class__") = some true) && (decide (PySem.W.mroIn K C (.type "object") = some true) && (["str", "int", "bool", "list", "tuple", "dict"] : List String).all fun T => decide (PySem.W.kitOne K (.ref C) (.type T) = some false))))
theorem insB_ok {K : PySem.W.Frag} {C : Addr} (c : Cls K C) (h : insB K C = true) : InsK K C := by
  obtain ⟨h1, h⟩ := Bool.and_eq_true_iff.mp h
  obtain ⟨h2, h⟩ := Bool.and_eq_true_iff.mp h
  obtain ⟨h3, h⟩ := Bool.and_eq_true_iff.mp h
  obtain ⟨h4, h5⟩ := Bool.and_eq_true_iff.mp h
  exact ⟨c, of_decide_eq_true h1, of_decide_eq_true h2, of_decide_eq_true h3, of_decide_eq_true h4, fun T m => of_decide_eq_true (List.all_eq_true.mp h5 T m)⟩
mutual
inductive Rep (K : PySem.W.Frag) (B : Hp) : V → D → Prop
  | non : Rep K B .non .non
  | bl (b : Bool) : Rep K B (.bl b) (.bl b)
  | int (i : Int) : Rep K B (.int i) (.int i)
  | str {x : Str} : x.length ≤ 1000000 → Rep K B (.str x) (.str x)
  | lst {a : Addr} {xs : List V} {ds : List D} : B a = some (.lst xs) → xs.length ≤ 100000 → Reps K B xs ds → Rep K B (.ref a) (.lst ds)
  | tup {a : Addr} {xs : List V} {ds : List D} : B a = some (.tup xs) → Reps K B xs ds → Rep K B (.ref a) (.tup ds)
  | dct {a : Addr} {xs : List (Key × V)} {ds : List (Key × D)} : B a = some (.dK xs) → RepK K B xs ds → Rep K B (.ref a) (.dct ds)
  | obj {a C dx : Addr} {fs : List (Str × V)} : B a = some (.ins C dx fs) → InsK K C → Rep K B (.ref a) (.obj a C)
inductive Reps (K : PySem.W.Frag) (B : Hp) : List V → List D → Prop
  | nil : Reps K B [] []
  | cons {v : V} {vs : List V} {d : D} {ds : List D} : Rep K B v d → Reps K B vs ds → Reps K B (v :: vs) (d :: ds)
inductive RepK (K : PySem.W.Frag) (B : Hp) : List (Key × V) → List (Key × D) → Prop
  | nil : RepK K B [] []
  | cons {k : Key} {v : V} {vs : List (Key × V)} {d : D} {ds : List (Key × D)} : Rep K B v d → RepK K B vs ds → RepK K B ((k, v) :: vs) ((k, d) :: ds)
end
section
variable {K : PySem.W.Frag}
mutual
theorem Rep.mono {B B' : Hp} (s : Same B B') : ∀ {v : V} {d : D}, Rep K B v d → Rep K B' v d
  | _, _, .non => .non
  | _, _, .bl b => .bl b
  | _, _, .int i => .int i
  | _, _, .str h => .str h
  | _, _, .lst h z r => .lst (s _ _ h) z (Reps.mono s r)
  | _, _, .tup h r => .tup (s _ _ h) (Reps.mono s r)
  | _, _, .dct h r => .dct (s _ _ h) (RepK.mono s r)
  | _, _, .obj h i => .obj (s _ _ h) i
theorem Reps.mono {B B' : Hp} (s : Same B B') : ∀ {v : List V} {d : List D}, Reps K B v d → Reps K B' v d
  | _, _, .nil => .nil
  | _, _, .cons h r => .cons (Rep.mono s h) (Reps.mono s r)
theorem RepK.mono {B B' : Hp} (s : Same B B') : ∀ {v : List (Key × V)} {d : List (Key × D)}, RepK K B v d → RepK K B' v d
  | _, _, .nil => .nil
  | _, _, .cons h r => .cons (Rep.mono s h) (RepK.mono s r)
end
theorem Reps.length {B : Hp} : ∀ {v : List V} {d : List D}, Reps K B v d → v.length = d.length
  | _, _, .nil => rfl
  | _, _, .cons _ r => by simp [Reps.length r]
theorem RepK.length {B : Hp} : ∀ {v : List (Key × V)} {d : List (Key × D)}, RepK K B v d → v.length = d.length
  | _, _, .nil => rfl
  | _, _, .cons _ r => by simp [RepK.length r]
theorem Reps.get {B : Hp} : ∀ {vs : List V} {ds : List D} {i : Nat} {v : V}, Reps K B vs ds → vs[i]? = some v → ∃ d, ds[i]? = some d ∧ Rep K B v d
  | _, _, _, _, .nil, e => by simp at e
  | _, _, 0, _, .cons h _, e => by simp at e; subst e; exact ⟨_, rfl, h⟩
  | _, _, i + 1, v, .cons _ r, e => by
    obtain ⟨d, h1, h2⟩ := Reps.get (i := i) (v := v) r (by simpa using e)
    exact ⟨d, by simpa using h1, h2⟩
theorem Reps.append {B : Hp} : ∀ {vs ws : List V} {ds es : List D}, Reps K B vs ds → Reps K B ws es → Reps K B (vs ++ ws) (ds ++ es)
  | _, _, _, _, .nil, s => s
  | _, _, _, _, .cons h r, s => .cons h (Reps.append r s)
theorem Reps.set {B : Hp} {v : V} {d : D} (h : Rep K B v d) : ∀ {vs : List V} {ds : List D} (i : Nat), Reps K B vs ds → Reps K B (vs.set i v) (ds.set i d)
  | _, _, _, .nil => .nil
  | _, _, 0, .cons _ r => .cons h r
  | _, _, i + 1, .cons q r => .cons q (Reps.set h i r)
def D.strs (xs : List Str) : D := .lst (xs.map .str)
end

/-! ### the frame: B what stands still, H what stands, M what may still change (its own things; S: handed in) -/
structure HS (S : List Addr) (B0 H0 B H : Hp) (M : List (Addr × HO)) : Prop where
  bb : Same B0 B
  bh : Same B H
  fr : ∀ b o, b ∉ S → B0 b = none → H0 b = some o → B b = none ∧ H b = some o
  mu : ∀ p ∈ M, B p.1 = none ∧ H p.1 = some p.2 ∧ (H0 p.1 = none ∨ p.1 ∈ S)
  nd : (M.map (·.1)).Nodup
section
variable {S : List Addr} {B0 H0 B H B' H' : Hp} {M M' : List (Addr × HO)} {p : Addr} {o o' : HO}
theorem HS.start (h : Same B H) : HS [] B H B H [] := ⟨Same.refl _, h, fun _ _ _ a b => ⟨a, b⟩, fun _ z => (nomatch z), List.nodup_nil⟩
theorem HS.startS (h : Same B H) (hb : B p = none) (hp : H p = some o) : HS [p] B H B H [(p, o)] :=
  ⟨Same.refl _, h, fun _ _ _ a b => ⟨a, b⟩, fun q z => by
    have e : q = (p, o) := by simpa using z
    subst e
    exact ⟨hb, hp, .inr (by simp)⟩, by simp⟩
theorem HS.get (h : HS S B0 H0 B H M) (m : (p, o) ∈ M) : H p = some o := (h.mu _ m).2.1
theorem HS.up (h : HS S B0 H0 B H M) {a : Addr} {u : HO} (e : B a = some u) : H a = some u := h.bh _ _ e
theorem HS.len {B0' : Hp} (h : HS S B0 H0 B H M) (s : Same B0' B0) : Same B0' B := s.trans h.bb
theorem same_none {A B : Hp} (s : Same A B) {a : Addr} (h : B a = none) : A a = none := Same.free s h
/-- a new thing that may change -/
theorem HS.new (h : HS S B0 H0 B H M) (hp : H p = none) : HS S B0 H0 B (upd H p o) ((p, o) :: M) := by
  have hB : B p = none := same_none h.bh hp
  refine ⟨h.bb, fun b u e => ?_, fun b u n1 n2 e => ?_, fun q m => ?_, ?_⟩
  · rw [upd_ne (ne_of_none (h.bh _ _ e) hp)]; exact h.bh _ _ e
  · obtain ⟨x, y⟩ := h.fr b u n1 n2 e
    exact ⟨x, by rw [upd_ne (ne_of_none y hp)]; exact y⟩
  · rcases List.mem_cons.mp m with rfl | m
    · refine ⟨hB, upd_same, ?_⟩
      by_cases hs : p ∈ S
      · exact .inr hs
      · left
        cases q : H0 p with
        | none => rfl
        | some u =>
          cases qb : B0 p with
          | some w => rw [h.bh _ _ (h.bb _ _ qb)] at hp; cases hp
          | none => rw [(h.fr p u hs qb q).2] at hp; cases hp
    · obtain ⟨x, y, z⟩ := h.mu q m
      exact ⟨x, by rw [upd_ne (ne_of_none y hp)]; exact y, z⟩
  · rw [List.map_cons, List.nodup_cons]
    refine ⟨fun z => ?_, h.nd⟩
    obtain ⟨q, m, e⟩ := List.mem_map.mp z
    obtain ⟨_, y, _⟩ := h.mu q m
    rw [e, hp] at y; cases y
/-- it is changed -/
def setM (p : Addr) (o : HO) : List (Addr × HO) → List (Addr × HO)
  | [] => []
  | (q, u) :: r => if q = p then (q, o) :: r else (q, u) :: setM p o r
theorem setM_map (p : Addr) (o : HO) : ∀ M : List (Addr × HO), (setM p o M).map (·.1) = M.map (·.1)
  | [] => rfl
  | (q, u) :: r => by
    unfold setM
    by_cases e : q = p
    · rw [if_pos e]; rfl
    · rw [if_neg e, List.map_cons, List.map_cons, setM_map p o r]
theorem mem_setM {p : Addr} {o : HO} {x : Addr × HO} : ∀ {M : List (Addr × HO)}, (M.map (·.1)).Nodup → x ∈ setM p o M → (x = (p, o) ∧ ∃ u, (p, u) ∈ M) ∨ (x.1 ≠ p ∧ x ∈ M)
  | [], _, h => nomatch h
  | (q, u) :: r, nd, h => by
    unfold setM at h
    rw [List.map_cons, List.nodup_cons] at nd
    by_cases e : q = p
    · rw [if_pos e] at h
      rcases List.mem_cons.mp h with rfl | h
      · exact .inl ⟨by rw [e], u, by rw [e]; exact List.mem_cons_self⟩
      · refine .inr ⟨fun z => nd.1 (List.mem_map.mpr ⟨x, h, z.trans e.symm⟩), List.mem_cons_of_mem _ h⟩
    · rw [if_neg e] at h
      rcases List.mem_cons.mp h with rfl | h
      · exact .inr ⟨e, List.mem_cons_self⟩
      · rcases mem_setM nd.2 h with ⟨a, u', b⟩ | ⟨a, b⟩
        · exact .inl ⟨a, u', List.mem_cons_of_mem _ b⟩
        · exact .inr ⟨a, List.mem_cons_of_mem _ b⟩
theorem HS.set (h : HS S B0 H0 B H M) (m : (p, o) ∈ M) : HS S B0 H0 B (upd H p o') (setM p o' M) := by
  obtain ⟨hB, hH, hs⟩ := h.mu _ m
  dsimp only at hB hH hs
  refine ⟨h.bb, fun b u e => ?_, fun b u n1 n2 e => ?_, fun q mq => ?_, by rw [setM_map]; exact h.nd⟩
  · rw [upd_ne (ne_of_none e hB)]; exact h.bh _ _ e
  · obtain ⟨x, y⟩ := h.fr b u n1 n2 e
    refine ⟨x, ?_⟩
    have : b ≠ p := fun z => by
      subst z
      rcases hs with k | k
      · rw [k] at e; cases e
      · exact n1 k
    rw [upd_ne this]; exact y
  · rcases mem_setM h.nd mq with ⟨rfl, _⟩ | ⟨a, b⟩
    · exact ⟨hB, upd_same, hs⟩
    · obtain ⟨x, y, z⟩ := h.mu q b
      exact ⟨x, by rw [upd_ne a]; exact y, z⟩
theorem HS.set0 (h : HS S B0 H0 B H ((p, o) :: M)) : HS S B0 H0 B (upd H p o') ((p, o') :: M) := by
  have q := h.set (o' := o') (p := p) (o := o) List.mem_cons_self
  unfold setM at q
  rw [if_pos rfl] at q
  exact q
/-- it stands still from now on -/
theorem HS.freeze (h : HS S B0 H0 B H ((p, o) :: M)) (h0 : H0 p = none) : HS S B0 H0 (upd B p o) H M ∧ Same B (upd B p o) := by
  obtain ⟨hB, hH, hs⟩ := h.mu (p, o) List.mem_cons_self
  dsimp only at hB hH hs
  have nd := h.nd
  rw [List.map_cons, List.nodup_cons] at nd
  have sB : Same B (upd B p o) := fun b u e => by rw [upd_ne (ne_of_none e hB)]; exact e
  refine ⟨⟨h.bb.trans sB, fun b u e => ?_, fun b u n1 n2 e => ?_, fun q m => ?_, nd.2⟩, sB⟩
  · by_cases z : b = p
    · subst z; rw [upd_same] at e; cases e; exact hH
    · rw [upd_ne z] at e; exact h.bh _ _ e
  · obtain ⟨x, y⟩ := h.fr b u n1 n2 e
    refine ⟨?_, y⟩
    have : b ≠ p := fun z => by subst z; rw [h0] at e; cases e
    rw [upd_ne this]; exact x
  · obtain ⟨x, y, z⟩ := h.mu q (List.mem_cons_of_mem _ m)
    have : q.1 ≠ p := fun e => nd.1 (List.mem_map.mpr ⟨q, m, e⟩)
    exact ⟨by rw [upd_ne this]; exact x, y, z⟩
theorem HS.drop (h : HS S B0 H0 B H ((p, o) :: M)) : HS S B0 H0 B H M :=
  ⟨h.bb, h.bh, h.fr, fun q m => h.mu q (List.mem_cons_of_mem _ m), by have nd := h.nd; rw [List.map_cons, List.nodup_cons] at nd; exact nd.2⟩
theorem HS.swap {q : Addr} {u : HO} (h : HS S B0 H0 B H ((p, o) :: (q, u) :: M)) : HS S B0 H0 B H ((q, u) :: (p, o) :: M) :=
  ⟨h.bb, h.bh, h.fr, fun x m => h.mu x (by
    rcases List.mem_cons.mp m with rfl | m
    · exact List.mem_cons_of_mem _ List.mem_cons_self
    · rcases List.mem_cons.mp m with rfl | m
      · exact List.mem_cons_self
      · exact List.mem_cons_of_mem _ (List.mem_cons_of_mem _ m)), by
    have nd := h.nd
    simp only [List.map_cons, List.nodup_cons, List.mem_cons, not_or] at nd ⊢
    exact ⟨⟨fun e => nd.1.1 e.symm, nd.2.1⟩, nd.1.2, nd.2.2⟩⟩
theorem HS.all (h : HS S B0 H0 B H M) : HS S B0 H0 B H [] := ⟨h.bb, h.bh, h.fr, fun _ z => (nomatch z), List.nodup_nil⟩
/-- a call that changes nothing that stood -/
theorem HS.call (h : HS S B0 H0 B H M) (c : HS [] B H B' H' []) : HS S B0 H0 B' H' M := by
  refine ⟨h.bb.trans c.bb, c.bh, fun b u n1 n2 e => ?_, fun q m => ?_, h.nd⟩
  · obtain ⟨x, y⟩ := h.fr b u n1 n2 e
    exact c.fr b u (by simp) x y
  · obtain ⟨x, y, z⟩ := h.mu q m
    obtain ⟨x', y'⟩ := c.fr q.1 q.2 (by simp) x y
    exact ⟨x', y', z⟩
/-- a call that changes the first of what may change -/
theorem HS.call1 (h : HS S B0 H0 B H ((p, o) :: M)) (c : HS [p] B H B' H' [(p, o')]) : HS S B0 H0 B' H' ((p, o') :: M) := by
  have nd := h.nd
  rw [List.map_cons, List.nodup_cons] at nd
  obtain ⟨hB, hH, hs⟩ := h.mu (p, o) List.mem_cons_self
  dsimp only at hB hH hs
  obtain ⟨c1, c2, _⟩ := c.mu (p, o') List.mem_cons_self
  dsimp only at c1 c2
  refine ⟨h.bb.trans c.bb, c.bh, fun b u n1 n2 e => ?_, fun q m => ?_, by rw [List.map_cons, List.nodup_cons]; exact nd⟩
  · obtain ⟨x, y⟩ := h.fr b u n1 n2 e
    have : b ≠ p := fun z => by
      subst z
      rcases hs with k | k
      · rw [k] at e; cases e
      · exact n1 k
    exact c.fr b u (by simpa using this) x y
  · rcases List.mem_cons.mp m with rfl | m
    · exact ⟨c1, c2, hs⟩
    · obtain ⟨x, y, z⟩ := h.mu q (List.mem_cons_of_mem _ m)
      have : q.1 ≠ p := fun e => nd.1 (List.mem_map.mpr ⟨q, m, e⟩)
      obtain ⟨x', y'⟩ := c.fr q.1 q.2 (by simpa using this) x y
      exact ⟨x', y', z⟩
end
/-- what a def promises where it comes back: R of the value in what stands still; where it raises: the class's name and the error's fields -/
def Ret (B H : Hp) (Qv : VK) (R : Hp → V → Prop) : Prop := ∀ B' H' v, HS [] B H B' H' [] → R B' v → Qv v H'
def Thr (K : PySem.W.Frag) (B H : Hp) (E : XK) (c : Str) (fs : List (Str × V)) : Prop := ∀ B' H' d, HS [] B H B' H' [] → B' d = none → H' d = some (.xd fs) → E (.ref (He.ga K c)) (some d) H'
def Thr0 (K : PySem.W.Frag) (B H : Hp) (E : XK) (c : Str) : Prop := ∀ B' H', HS [] B H B' H' [] → E (.ref (He.ga K c)) none H'
end Q

set_option Elab.async false
set_option linter.all false
set_option maxRecDepth 100000
set_option maxHeartbeats 4000000
namespace Q
open PySem PySem.Spec PyProof.Rows L2
/-! ### calls whose errors are wished for at the caller's slots -/
def tCl (sp : Sp) (W : WX) (t : TA) : TE := fun σ H Q => t σ H fun vs H1 => sp vs H1 Q fun c d H' => W c d σ H'
def tMt (C : Addr) (m : Str) (sp : Sp) (W : WX) (ta : TE) (t : TA) : TE := fun σ H Q => ta σ H fun x H1 => ∃ a dx fs, x = .ref a ∧ H1 a = some (.ins C dx fs) ∧ fs.lookup m = none ∧
  t σ H1 fun vs H2 => sp (x :: vs) H2 Q fun c d H' => W c d σ H'
def tMk (C : Addr) (sp : Sp) (W : WX) (t : TA) : TE := fun σ H Q => t σ H fun vs H1 => ∀ x dx, H1 x = none → H1 dx = none → dx ≠ x →
  sp (.ref x :: vs) (upd (upd H1 dx (.own x)) x (.ins C dx [])) (fun v H2 => v = .non ∧ Q (.ref x) H2) fun c d H' => W c d σ H'
/-- a def of the module by its name -/
def Fn (P : Program) (w : World) (K : PySem.W.Frag) (mg : Str → Option Value) (base : Heap) (k : Nat) (x : Str) (ps : List Str) (sp : Sp) : Prop :=
  ∃ f fd, mg x = some (.ref f) ∧ PySem.W.keepIn K (.ref f) = true ∧ Binds K fd ps [] ∧ FnOk P w K mg base (L2.CX P w) k f fd ps sp
/-- a method of a class of the module -/
def Mt (P : Program) (w : World) (K : PySem.W.Frag) (mg : Str → Option Value) (base : Heap) (k : Nat) (c m : Str) (ps : List Str) (sp : Sp) : Prop :=
  ∃ f fd, Cls K (He.ga K c) ∧ Meth K (He.ga K c) m f ∧ Binds K fd ps [] ∧ FnOk P w K mg base (L2.CX P w) k f fd ps sp
/-- a class that is made by its __init__ -/
def Mkr (P : Program) (w : World) (K : PySem.W.Frag) (mg : Str → Option Value) (base : Heap) (k : Nat) (c : Str) (ps : List Str) (sp : Sp) : Prop :=
  ∃ f fd, mg c = some (.ref (He.ga K c)) ∧ Mk K (He.ga K c) f ∧ Binds K fd ps [] ∧ FnOk P w K mg base (L2.CX P w) k f fd ps sp
section
variable {X : Cx} {k j : Nat} {c x m : Str} {ps : List Str} {sp : Sp} {W : WX} {p pos apos : Pos} {e o : Expr} {es : List Expr} {ta : TE} {t : TA}
theorem pe_cl (F : Fn X.prog X.w X.K X.mg X.base k x ps sp) (hr : Room j X.A) (hj : k ≤ j) (tk : Takes X W) (ha : PA X (e :: es) t) (hg : Gl X x := by rfl)
    (hdb : (x == ("__debug__" : Str)) = false := by decide) (he : starEach (e :: es) X.env = (false, eval e X.env) :: starEach es X.env := by rfl) (hpl : (backTo pos (starEach es X.env)).any (·.1) = false := by rfl) :
    PE X (.Call (.Name x p) (e :: es) [] pos) (tCl sp W t) := by
  obtain ⟨f, fd, hm, hk, hb, F⟩ := F
  exact pe_callS (E := WE W) F (hr.mono hj) hg hm hk hb (passAt tk) ha hdb he hpl
theorem pe_mt {pl : Sem Bool} (F : Mt X.prog X.w X.K X.mg X.base k c m ps sp) (hr : Room j X.A) (hj : k ≤ j) (tk : Takes X W) (he : PE X o ta) (ha : PA X (e :: es) t)
    (hst : starEach (e :: es) X.env = (false, eval e X.env) :: starEach es X.env := by rfl) (hpl : (backTo pos (starEach es X.env)).any (·.1) = false := by rfl)
    (ht : eval (.Call (.Attribute o m apos) (e :: es) [] pos) X.env = (do
      let ov ← eval o X.env
      standAt apos.atName
      let (f, first) ← holding [ov] (getMethod ov m pl)
      callWith pos f first (backTo pos (starEach (e :: es) X.env)) (backToKw pos (keywordEach [] X.env))) := by rfl) :
    PE X (.Call (.Attribute o m apos) (e :: es) [] pos) (tMt (He.ga X.K c) m sp W ta t) := by
  obtain ⟨f, fd, c, hm, hb, F⟩ := F
  refine ⟨fun pins s σ H Q I h => ?_⟩
  refine PySem.W.methodCall_KW (pl := pl) (thn (he.run pins s σ H _ I h) fun u s1 ⟨x, H1, I1, rx, a, dx, fs, ex, ea, l, q⟩ => ?_) ht
  subst ex
  obtain rfl : u = Value.ref a := rx
  refine getmeth_ok I1 ea c hm l ?_
  refine PySem.W.callWith_K (first := [.ref a]) (h₀ := X.base) I.ok.mod.kin hm.kp (thn (ha.run pos pins s1 σ H1 _ I1 q) fun us s2 ⟨vs, H2, I2, r, q2⟩ => ⟨I2.kIn, ?_⟩) hst hpl
  exact run_fnS (E := WE W) (us := .ref a :: us) (vs := .ref a :: vs) F (hr.mono hj) hb (passAt tk σ) I2 (.cons rfl r) q2
end
/-! ### errors of the package -/
def qInitB (K : PySem.W.Frag) (c : Str) : Bool := PySem.W.readsIn K (He.ga K c) (.type "type") && (decide (PySem.W.specialIn K (.ref (He.ga K c)) "__getattribute__" = some (some (.builtin "type.__getattribute__"))) &&
  (match PySem.W.findCls K (.ref (He.ga K c)) (.type "type") "__init__" with
    | some (.val (.builtin "ValueError.__init__")) => true
    | _ => false))
theorem qInitB_ok {K : PySem.W.Frag} {c : Str} (h : qInitB K c = true) : PySem.W.readsIn K (He.ga K c) (.type "type") = true ∧ PySem.W.specialIn K (.ref (He.ga K c)) "__getattribute__" = some (some (.builtin "type.__getattribute__")) ∧
    PySem.W.findCls K (.ref (He.ga K c)) (.type "type") "__init__" = some (.val (.builtin "ValueError.__init__")) := by
  obtain ⟨h1, h⟩ := Bool.and_eq_true_iff.mp h
  obtain ⟨h2, h3⟩ := Bool.and_eq_true_iff.mp h
  refine ⟨h1, of_decide_eq_true h2, ?_⟩
  split at h3
  · assumption
  · cases h3
section
variable {X : Cx} {e : Expr} {es : List Expr} {ta : TA} {p1 p2 pos : Pos} {c : Str}
theorem pe_qinit {pl : Sem Bool} (hm : X.mg c = some (.ref (He.ga X.K c))) (q : qInitB X.K c = true) (ha : PA X (e :: es) ta) (hg : Gl X c := by rfl) (hdb : (c == ("__debug__" : Str)) = false := by decide)
    (hc : eval (.Call (.Attribute (.Name c p1) "__init__" p2) (e :: es) [] pos) X.env = (do
      let ov ← eval (.Name c p1) X.env
      standAt p2.atName
      let (f, first) ← holding [ov] (getMethod ov "__init__" pl)
      callWith pos f first (backTo pos (starEach (e :: es) X.env)) (backToKw pos (keywordEach [] X.env))) := by rfl)
    (he : starEach (e :: es) X.env = (false, eval e X.env) :: starEach es X.env := by rfl) (hpl : (backTo pos (starEach es X.env)).any (·.1) = false := by rfl) :
    PE X (.Call (.Attribute (.Name c p1) "__init__" p2) (e :: es) [] pos) (tVeI X.K ta) := by
  obtain ⟨q1, q2, q3⟩ := qInitB_ok q
  refine ⟨fun pins s σ H Q I h => ?_⟩
  refine PySem.W.methodCall_KW (ld_glob I hg hm ?_ hdb) hc
  refine PySem.W.method_cls I.kIn q2 (PySem.W.cls_value I.kIn q1 q3 (by decide +kernel) ?_)
  show wpAny _ _ (callWith pos (Value.builtin "ValueError.__init__") [] (backTo pos (starEach (e :: es) X.env)) []) _ _ _
  refine PyProof.Rows.callWith_method1 (thn (ha.run pos pins _ σ H _ (I.tok _) h) fun us s1 ⟨vs, H1, I1, r1, a, C, ws, ev, hl, T, ea, q⟩ => ?_) he hpl
  subst ev
  cases r1 with
  | @cons _ u0 _ ur ra rw' =>
    obtain rfl : u0 = Value.ref a := ra
    have hlen : ur.length ≤ sizeLine := by
      rw [← Paired.length rw', sizeLine_eq]
      omega
    exact oinit_ok T I1 ea hlen fun s' J => ⟨.non, H1, J, rfl, q⟩
end
def oexB (K : PySem.W.Frag) (C : Addr) : Bool := (match K.lookup C with
  | some ⟨.type "type", _, .cls cd, sl⟩ => (match cd.mro, sl.toList with
    | .ref C' :: bm, [_, _, _, _, some (.builtin n), _] => C' == C && n == "ValueError.__new__" && !cd.hasDel && cd.hasDict && PySem.HandSPX.refsVE bm
    | _, _ => false)
  | _ => false) && (decide (PySem.W.findIn K (.ref C) "__setattr__" = some (some (.builtin "object.__setattr__"))) && (decide (PySem.W.subIn K (.ref C) (.type "BaseException") = some true) &&
    (decide (PySem.W.typeIn K (.ref C) = some (.type "type")) && PySem.W.keepIn K (.ref C))))
theorem oexB_ok {K : PySem.W.Frag} {C : Addr} (h : oexB K C = true) : OexC K C := by
  obtain ⟨q, h⟩ := Bool.and_eq_true_iff.mp h
  obtain ⟨h2, h⟩ := Bool.and_eq_true_iff.mp h
  obtain ⟨h3, h⟩ := Bool.and_eq_true_iff.mp h
  obtain ⟨h4, h5⟩ := Bool.and_eq_true_iff.mp h
  refine ⟨?_, of_decide_eq_true h2, of_decide_eq_true h3, of_decide_eq_true h4, h5⟩
  split at q
  · rename_i dd cd sl ho
    split at q
    · rename_i C' bm k0 k1 k2 k3 n k5 hm hs
      simp only [Bool.and_eq_true, beq_iff_eq, Bool.not_eq_true'] at q
      obtain ⟨⟨⟨⟨rfl, rfl⟩, hdel⟩, hdi⟩, ht⟩ := q
      obtain ⟨nm, bs, mro, ns, qn, hd, sn, sub, ab, col, del⟩ := cd
      dsimp only at hm hdel hdi
      subst hm hdel hdi
      have hsl : sl = #[k0, k1, k2, k3, some (.builtin "ValueError.__new__"), k5] := by
        obtain ⟨l⟩ := sl
        simp only at hs
        rw [hs]
      subst hsl
      exact ⟨nm, qn, ns, bs, bm, sn, sub, ab, col, dd, k0, k1, k2, k3, k5, ho, ht⟩
    · cases q
  · cases q
/-- what an __init__ of one field does; of two -/
def spI1 (K : PySem.W.Frag) (C : Addr) (f : Str) : Sp := fun vs H Q _ => ∃ a v, vs = [.ref a, v] ∧ H a = some (exo a C none) ∧ ∀ dx, H dx = none → dx ≠ a → Q .non (upd (upd H dx (exd dx [(f, v)])) a (exo a C (some dx)))
def spI2 (K : PySem.W.Frag) (C : Addr) (f g : Str) : Sp := fun vs H Q _ => ∃ a v u, vs = [.ref a, v, u] ∧ H a = some (exo a C none) ∧ ∀ dx, H dx = none → dx ≠ a → Q .non (upd (upd (upd H dx (exd dx [(f, v)])) a (exo a C (some dx))) dx (exd dx [(g, u), (f, v)]))
/-- an error class of the package with an __init__ -/
def ErC (P : Program) (w : World) (K : PySem.W.Frag) (mg : Str → Option Value) (base : Heap) (c : Str) (ps : List Str) (sp : Sp) : Prop :=
  ∃ f fd, mg c = some (.ref (He.ga K c)) ∧ OexC K (He.ga K c) ∧ PySem.W.findIn K (.ref (He.ga K c)) "__init__" = some (some (.ref f)) ∧ PySem.W.typeIn K (.ref f) = some (.type "function") ∧ Binds K fd ps [] ∧ FnOk P w K mg base (L2.CX P w) 1 f fd ps sp
/-- raise X(e); raise X(e, f) -/
def tRz1 (C : Addr) (f : Str) (te : TE) (W : WX) : TS := fun _ σ H => te σ H fun v H1 => ∀ d, H1 d = none → W (.ref C) (some d) σ (upd H1 d (.xd [(f, v)]))
def tRz2 (C : Addr) (f g : Str) (te tu : TE) (W : WX) : TS := fun _ σ H => te σ H fun v H1 => tu σ H1 fun u H2 => ∀ d, H2 d = none → W (.ref C) (some d) σ (upd H2 d (.xd [(g, u), (f, v)]))
theorem passNo {X : Cx} : Passes (L2.CX X.prog X.w) X (fun _ _ _ => False) := fun _ _ _ _ _ _ _ h => by
  obtain ⟨_, _, _, _, _, _, _, _, _, _, _, _, z⟩ := h
  exact z.elim
def tMono (te : TE) : TE := fun σ H Q => ∃ R : VK, te σ H R ∧ ∀ v H1, R v H1 → Q v H1
theorem pe_mono {X : Cx} {e : Expr} {te : TE} (h : PE X e te) : PE X e (tMono te) := ⟨fun pins s σ H Q I ⟨R, h1, h2⟩ => thn (h.run pins s σ H R I h1) fun _ _ ⟨v, H', I', r, q⟩ => ⟨v, H', I', r, h2 _ _ q⟩⟩
section
variable {X : Cx} {j : Nat} {W : WX} {x f g : Str} {ps : List Str} {e1 e2 : Expr} {te tu : TE} {p pos pos' : Pos}
theorem heap_rz {H : Hp} {a d C : Addr} {fs gs : List (Str × V)} (ha : H a = none) (hd : d ≠ a) :
    upd (del (upd (upd (upd H a (exo a C none)) d (exd d gs)) a (exo a C (some d))) a) d (.xd fs) = upd H d (.xd fs) := by
  funext b
  by_cases h1 : b = d
  · rw [h1, upd_same, upd_same]
  · rw [upd_ne h1, upd_ne h1]
    by_cases h2 : b = a
    · rw [h2, del_same, ha]
    · rw [del_ne h2, upd_ne h2, upd_ne h1, upd_ne h2]
theorem ps_rz1 (F : ErC X.prog X.w X.K X.mg X.base x ps (spI1 X.K (He.ga X.K x) f)) (hr : Room j X.A) (hj : 2 ≤ j) (hc : X.calm = true) (tk : Takes X W) (ha : PE X e1 te) (hg : Gl X x := by rfl)
    (hdb : (x == ("__debug__" : Str)) = false := by decide) (he : starEach (e1 :: []) X.env = (false, eval e1 X.env) :: starEach [] X.env := by rfl) (hpl : (backTo pos (starEach [] X.env)).any (·.1) = false := by rfl) :
    PS X (.Raise (some (.Call (.Name x p) [e1] [] pos)) none pos') (tRz1 (He.ga X.K x) f te W) := by
  obtain ⟨fI, fd, hm, T, iC, tI, hb, F⟩ := F
  have R := ps_raise (pos := pos') hc tk (pmk_oex (p := p) (pos := pos) T iC tI F (hr.mono hj) hb (.nil (F := RelV)) passNo hg hm (pa_cons (pe_mono ha) pa_nil he) hdb he hpl)
  refine ⟨fun pins s σ H Q I h => R.run pins s σ H Q I ?_⟩
  refine ⟨_, h, fun v H1 q => ⟨by simp, fun a na => ⟨a, v, rfl, upd_same, fun d hd da => ?_⟩⟩⟩
  have hd1 : H1 d = none := by rw [upd_ne da] at hd; exact hd
  refine ⟨rfl, d, _, upd_same, by rw [upd_ne da, upd_same], hd1, ?_⟩
  rw [heap_rz na da]
  exact q d hd1
end
end Q

set_option Elab.async false
set_option linter.all false
set_option maxRecDepth 100000
set_option maxHeartbeats 4000000
namespace Q
open PySem PySem.Spec PyProof.Rows L2
/-! ### operators by name -/
def rAddI : R2 := rI0 fun i j => .int (i + j)
def rSubI : R2 := rI0 fun i j => .int (i - j)
def rMulI : R2 := rI CMul fun i j => .int (i * j)
def rModI : R2 := rI (fun _ j => 0 < j) fun i j => .int (i % j)
/-- // by a positive divisor below 2 ^ 100 -/
def CDivB (_ j : Int) : Prop := 0 < j ∧ j < 1267650600228229401496703205376
def rDivI : R2 := rI CDivB fun i j => .int (i / j)
def rPowI : R2 := rI CPow fun i j => .int (i ^ j.toNat)
def rLtI : R2 := rI0 fun i j => .bl (decide (i < j))
def rLeI : R2 := rI0 fun i j => .bl (decide (i ≤ j))
def rGtI : R2 := rI0 fun i j => .bl (decide (j < i))
def rGeI : R2 := rI0 fun i j => .bl (decide (j ≤ i))
def rLtS : R2 := fun x y H Q => ∃ i j, x = .str i ∧ y = .str j ∧ Q (.bl (decide (i.cps.toList < j.cps.toList))) H
def rAddS : R2 := fun x y H Q => ∃ i j, x = .str i ∧ y = .str j ∧ i.length + j.length ≤ sizeLine ∧ Q (.str (i ++ j)) H
def rLenA (K : PySem.W.Frag) : List V → Hp → VK → Prop := fun xs H Q => ∃ x n, xs = [x] ∧ LenV K x H n ∧ Q (.int n) H
def rLenD : List V → Hp → VK → Prop := fun xs H Q => ∃ a kvs, xs = [V.ref a] ∧ H a = some (.dK kvs) ∧ Q (.int (kvs.length : Nat)) H
def rAbs : List V → Hp → VK → Prop := fun xs H Q => ∃ i, xs = [.int i] ∧ Q (.int (if i < 0 then -i else i)) H
def rMin2 : List V → Hp → VK → Prop := fun xs H Q => ∃ i j, xs = [.int i, .int j] ∧ Q (.int (if j < i then j else i)) H
def rMax2 : List V → Hp → VK → Prop := fun xs H Q => ∃ i j, xs = [.int i, .int j] ∧ Q (.int (if j > i then j else i)) H
def rInt1 : List V → Hp → VK → Prop := fun xs H Q => (∃ i, xs = [.int i] ∧ Q (.int i) H) ∨ ∃ k, xs = [.bl k] ∧ Q (.int (if k then 1 else 0)) H
def rListOf (K : PySem.W.Frag) : List V → Hp → VK → Prop := fun xs H Q => ∃ p ys, xs = [.ref p] ∧ (SqL K H p ys ∨ SqT K H p ys) ∧ ∀ l, H l = none → Q (.ref l) (upd H l (.lst ys))
def rTupOf (K : PySem.W.Frag) : List V → Hp → VK → Prop := fun xs H Q => ∃ p ys, xs = [.ref p] ∧ ((SqL K H p ys ∧ ∀ l, H l = none → Q (.ref l) (upd H l (.tup ys))) ∨ (SqT K H p ys ∧ Q (.ref p) H))
def tTr (K : PySem.W.Frag) (ta : TE) : TT := fun σ H Q => ta σ H fun x H' => ∃ k, TruV K x H' k ∧ Q k H'
def rJoin (K : PySem.W.Frag) : V → List V → Hp → VK → Prop := fun x xs H Q => ∃ a p, ∃ ys : List Str, x = .str a ∧ xs = [.ref p] ∧ (SqL K H p (ys.map V.str) ∨ SqT K H p (ys.map V.str)) ∧
      (ys.map (·.length)).sum + ys.length * a.length ≤ 16777216 ∧ Q (.str (Txt.join a ys)) H
section
variable {X : Cx}
theorem oAddI : OpR X (binaryOp .Add) rAddI := op_add
theorem oMulI : OpR X (binaryOp .Mult) rMulI := op_mul
theorem oModI : OpR X (binaryOp .Mod) rModI := op_mod
theorem oDivI : OpR X (binaryOp .FloorDiv) rDivI := fun pins s σ H x y v u Q I rx ry h => by
  obtain ⟨i, j, e1, e2, hc, q⟩ := h
  exact op_fdivW pins s σ H x y v u Q I rx ry ⟨i, j, e1, e2, wide_div (b := 100) hc.1 (by have := hc.1; have := hc.2; omega) (by decide) (by decide), q⟩
theorem oPowI : OpR X (binaryOp .Pow) rPowI := op_pow
theorem oLtI : OpR X (compareOp .Lt) rLtI := op_lt
theorem oGtI : OpR X (compareOp .Gt) rGtI := op_gt
theorem oGeI : OpR X (compareOp .GtE) rGeI := op_ge
theorem oAddS : OpR X (binaryOp .Add) rAddS := op_add_str
theorem cLenA : CallR X (.builtin "len") (rLenA X.K) := call_len
theorem cLenD : CallR X (.builtin "len") rLenD := call_lenD
theorem cAbs : CallR X (.builtin "abs") rAbs := call_abs
theorem cMin2 (hc : X.calm = true) : CallR X (.builtin "min") rMin2 := call_min2 hc
theorem cInt1 : CallR X (.type "int") rInt1 := call_int1
theorem cListOf : CallR X (.type "list") (rListOf X.K) := call_list_of
end
/-! ### one step of a reading -/
section
variable {K : PySem.W.Frag} {σ : L2.St} {H : Hp} {Q : VK} {Qb : Bool → Hp → Prop} {Qa : List V → Hp → Prop} {Qs : L2.St → Hp → Prop} {De : Ends} {t u : TS} {c c2 : TT} {te ta tb : TE} {tl tr : TA} {g : TG} {i : Nat} {v : V} {W : WX} {r : R2} {sp : Sp} {b : Bool} {m n : Int} {x y : Str} {p : Addr}
theorem x_seq (h : t { De with nx := u De } σ H) : tSeq t u De σ H := h
theorem x_next (h : De.nx σ H) : tNext De σ H := h
theorem x_asg (h : te σ H fun x H1 => g x σ H1 De.nx) : tAsg te g De σ H := h
theorem x_gname (h : Qs (σ.set i (some v)) H) : gName i v σ H Qs := h
theorem x_var (e : σ[i]? = some (some v)) (h : Q v H) : tVar i σ H Q := ⟨v, e, h⟩
theorem x_c (h : Q v H) : tC v σ H Q := h
theorem x_op (h : ta σ H fun x H1 => tb σ H1 fun y H2 => r x y H2 Q) : tOp r ta tb σ H Q := h
theorem x_ret (h : te σ H De.rt) : tRet te De σ H := h
theorem x_drop (h : te σ H fun _ H1 => De.nx σ H1) : tDrop te De σ H := h
theorem x_if (h : c σ H fun b H1 => if b = true then t De σ H1 else u De σ H1) : tIfS c t u De σ H := h
theorem x_and (h : c σ H fun b H1 => if b = true then c2 σ H1 Qb else Qb false H1) : tAnd c c2 σ H Qb := h
theorem x_or (h : c σ H fun b H1 => if b = true then Qb true H1 else c2 σ H1 Qb) : tOr c c2 σ H Qb := h
theorem x_not (h : c σ H fun b H1 => Qb (!b) H1) : tNot c σ H Qb := h
theorem x_andV (h : ta σ H fun x H1 => ∃ c, x = .bl c ∧ if c = true then tb σ H1 Q else Q (.bl false) H1) : tAndV ta tb σ H Q := h
theorem x_notV (h : ta σ H fun x H1 => ∃ c, x = .bl c ∧ Q (.bl (!c)) H1) : tNotV ta σ H Q := h
theorem x_test (h : te σ H fun x H1 => ∃ k, x = .bl k ∧ Qb k H1) : tTest te σ H Qb := h
theorem x_tB (h : te σ H fun x H1 => ∃ k, x = .bl k ∧ Qb k H1) : tB te σ H Qb := h
theorem x_exb {Qc : Bool → Prop} (h : Qc b) : ∃ k, V.bl b = .bl k ∧ Qc k := ⟨b, rfl, h⟩
theorem x_cb {rr : List V → Hp → VK → Prop} (h : tl σ H fun vs H1 => rr vs H1 Q) : tCB rr tl σ H Q := h
theorem x_cons (h : ta σ H fun x H1 => tr σ H1 fun xs H2 => Qa (x :: xs) H2) : tCons ta tr σ H Qa := h
theorem x_nil (h : Qa [] H) : tNil σ H Qa := h
theorem x_cl (h : tl σ H fun vs H1 => sp vs H1 Q fun c d H' => W c d σ H') : tCl sp W tl σ H Q := h
theorem x_isN (h : ta σ H fun x H1 => Q (.bl (decide (x = .non))) H1) : tIsN ta σ H Q := h
theorem x_addI (h : Q (.int (m + n)) H) : rAddI (.int m) (.int n) H Q := ⟨m, n, rfl, rfl, h⟩
theorem x_mulI (hc : CMul m n) (h : Q (.int (m * n)) H) : rMulI (.int m) (.int n) H Q := ⟨m, n, rfl, rfl, hc, h⟩
theorem x_modI (hc : 0 < n) (h : Q (.int (m % n)) H) : rModI (.int m) (.int n) H Q := ⟨m, n, rfl, rfl, hc, h⟩
theorem x_divI (hc : CDivB m n) (h : Q (.int (m / n)) H) : rDivI (.int m) (.int n) H Q := ⟨m, n, rfl, rfl, hc, h⟩
theorem x_powI (hc : CPow m n) (h : Q (.int (m ^ n.toNat)) H) : rPowI (.int m) (.int n) H Q := ⟨m, n, rfl, rfl, hc, h⟩
theorem x_ltI (h : Q (.bl (decide (m < n))) H) : rLtI (.int m) (.int n) H Q := ⟨m, n, rfl, rfl, h⟩
theorem x_gtI (h : Q (.bl (decide (n < m))) H) : rGtI (.int m) (.int n) H Q := ⟨m, n, rfl, rfl, h⟩
theorem x_geI (h : Q (.bl (decide (n ≤ m))) H) : rGeI (.int m) (.int n) H Q := ⟨m, n, rfl, rfl, h⟩
theorem x_addS (hl : x.length + y.length ≤ sizeLine) (h : Q (.str (x ++ y)) H) : rAddS (.str x) (.str y) H Q := ⟨x, y, rfl, rfl, hl, h⟩
theorem x_eq {a b : V} (hs : scal a b = true) (h : Q (.bl (decide (a = b))) H) : rEq a b H Q := ⟨hs, h⟩
theorem x_ne {a b : V} (hs : scal a b = true) (h : Q (.bl (!decide (a = b))) H) : rNe a b H Q := ⟨hs, h⟩
theorem x_lenS (hl : x.length ≤ sizeLine) (h : Q (.int (x.length : Nat)) H) : rLenA K [.str x] H Q := ⟨_, _, rfl, ⟨hl, rfl⟩, h⟩
theorem x_lenL {xs : List V} (hp : SqL K H p xs) (h : Q (.int (xs.length : Nat)) H) : rLenA K [.ref p] H Q := ⟨_, _, rfl, .inl ⟨_, hp, rfl⟩, h⟩
theorem x_lenT {xs : List V} (hp : SqT K H p xs) (h : Q (.int (xs.length : Nat)) H) : rLenA K [.ref p] H Q := ⟨_, _, rfl, .inr ⟨_, hp, rfl⟩, h⟩
theorem x_lenD {kvs : List (Key × V)} (hp : H p = some (.dK kvs)) (h : Q (.int (kvs.length : Nat)) H) : rLenD [.ref p] H Q := ⟨_, _, rfl, hp, h⟩
theorem x_abs (h : Q (.int (if m < 0 then -m else m)) H) : rAbs [.int m] H Q := ⟨m, rfl, h⟩
theorem x_min2 (h : Q (.int (if n < m then n else m)) H) : rMin2 [.int m, .int n] H Q := ⟨m, n, rfl, h⟩
theorem x_int1 (h : Q (.int m) H) : rInt1 [.int m] H Q := .inl ⟨m, rfl, h⟩
theorem x_tt (A B : Prop) (h : A) : if true = true then A else B := by rw [if_pos rfl]; exact h
theorem x_ff (A B : Prop) (h : B) : if false = true then A else B := by rw [if_neg (by decide)]; exact h
theorem x_ite {A B : Prop} (h1 : b = true → A) (h2 : b = false → B) : if b = true then A else B := by
  cases b with
  | true => rw [if_pos rfl]; exact h1 rfl
  | false => rw [if_neg (by decide)]; exact h2 rfl
theorem x_ixL {xs : List V} (hp : SqL K H p xs) (e : atI xs m = some v) (h : Q v H) : rIxL K (.ref p) (.int m) H Q := ⟨p, xs, m, v, rfl, rfl, hp, e, h⟩
theorem x_ixT {xs : List V} (hp : SqT K H p xs) (e : atI xs m = some v) (h : Q v H) : rIxT K (.ref p) (.int m) H Q := ⟨p, xs, m, v, rfl, rfl, hp, e, h⟩
theorem x_ixS {k : Nat} (hl : x.length ≤ sizeLine) (e : atI x.cps.toList m = some k) (h : Q (.str ⟨#[k]⟩) H) : rIxS (.str x) (.int m) H Q := ⟨x, m, k, rfl, rfl, hl, e, h⟩
theorem x_notInS {k : Nat} (h : Q (.bl (!decide (k ∈ y.cps.toList))) H) : rNotInS (.str ⟨#[k]⟩) (.str y) H Q := ⟨k, y, rfl, rfl, h⟩
theorem x_ninL {a : V} {xs : List V} (hp : SqL K H p xs) (f1 : flatV a = true) (f2 : xs.all flatV = true) (h : Q (.bl (!inV a xs)) H) : rIn K true a (.ref p) H Q := ⟨p, xs, rfl, .inl hp, f1, f2, h⟩
/-- a new thing at p -/
theorem x_new {S : List Addr} {B0 H0 B : Hp} {M : List (Addr × HO)} {Qp : Addr → Hp → Prop} {o : HO} (hs : HS S B0 H0 B H M) (h : ∀ p H', HS S B0 H0 B H' ((p, o) :: M) → H p = none → Qp p H') : ∀ p, H p = none → Qp p (upd H p o) :=
  fun p hp => h p _ (hs.new hp) hp
/-- a new thing that never changes (a tuple, or a list nobody changes) -/
theorem x_newF {S : List Addr} {B0 H0 B : Hp} {M : List (Addr × HO)} {Qp : Addr → Hp → Prop} {o : HO} (hs : HS S B0 H0 B H M) (h : ∀ p B' H', HS S B0 H0 B' H' M → Same B B' → B' p = some o → H p = none → Qp p H') : ∀ p, H p = none → Qp p (upd H p o) := fun p hp => by
  have h1 := hs.new (o := o) hp
  have h0 : H0 p = none ∨ p ∈ S := (h1.mu (p, o) List.mem_cons_self).2.2
  have nd := h1.nd
  have hB : B p = none := same_none hs.bh hp
  have sB : Same B (upd B p o) := fun b u e => by rw [upd_ne (ne_of_none e hB)]; exact e
  refine h p (upd B p o) _ ⟨hs.bb.trans sB, fun b u e => ?_, fun b u n1 n2 e => ?_, fun q m => ?_, hs.nd⟩ sB upd_same hp
  · by_cases z : b = p
    · subst z; rw [upd_same] at e; cases e; exact upd_same
    · rw [upd_ne z] at e ⊢; exact hs.bh _ _ e
  · obtain ⟨a1, a2⟩ := hs.fr b u n1 n2 e
    have nb : b ≠ p := ne_of_none a2 hp
    exact ⟨by rw [upd_ne nb]; exact a1, by rw [upd_ne nb]; exact a2⟩
  · obtain ⟨a1, a2, a3⟩ := hs.mu q m
    have nb : q.1 ≠ p := ne_of_none a2 hp
    exact ⟨by rw [upd_ne nb]; exact a1, by rw [upd_ne nb]; exact a2, a3⟩
end
/-! ### isinstance of any data -/
def D.isT : String → D → Bool
  | "str", .str _ => true
  | "int", .int _ => true
  | "int", .bl _ => true
  | "bool", .bl _ => true
  | "list", .lst _ => true
  | "tuple", .tup _ => true
  | "dict", .dct _ => true
  | _, _ => false
theorem x_isiD {K : PySem.W.Frag} {S : List Addr} {B0 H0 B H : Hp} {M : List (Addr × HO)} {Q : VK} {v : V} {d : D} {T : String} (hs : HS S B0 H0 B H M) (r : Rep K B v d) (hT : T ∈ (["str", "int", "bool", "list", "tuple", "dict"] : List String)) (h : Q (.bl (d.isT T)) H) :
    rIsi K [v, .ty T] H Q := by
  have go : ∀ {tv : String} {b : Bool}, TyX K H v (.type tv) → kitB tv T = some b → d.isT T = b → rIsi K [v, .ty T] H Q := fun {tv b} ty k e => ⟨v, .ty T, _, .type T, b, rfl, .ty T, ty, kit_ty k, by rw [← e]; exact h⟩
  simp only [List.mem_cons, List.not_mem_nil, or_false] at hT
  cases r with
  | non => rcases hT with rfl | rfl | rfl | rfl | rfl | rfl <;> first | exact go (b := false) (.base .non) (by decide +kernel) rfl | exact go (b := true) (.base .non) (by decide +kernel) rfl
  | bl b => rcases hT with rfl | rfl | rfl | rfl | rfl | rfl <;> first | exact go (b := false) (.base (.bl b)) (by decide +kernel) rfl | exact go (b := true) (.base (.bl b)) (by decide +kernel) rfl
  | int i => rcases hT with rfl | rfl | rfl | rfl | rfl | rfl <;> first | exact go (b := false) (.base (.int i)) (by decide +kernel) rfl | exact go (b := true) (.base (.int i)) (by decide +kernel) rfl
  | str _ => rcases hT with rfl | rfl | rfl | rfl | rfl | rfl <;> first | exact go (b := false) (.base (.str _)) (by decide +kernel) rfl | exact go (b := true) (.base (.str _)) (by decide +kernel) rfl
  | lst e _ _ => rcases hT with rfl | rfl | rfl | rfl | rfl | rfl <;> first | exact go (b := false) (.base (.lst (hs.up e))) (by decide +kernel) rfl | exact go (b := true) (.base (.lst (hs.up e))) (by decide +kernel) rfl
  | tup e _ => rcases hT with rfl | rfl | rfl | rfl | rfl | rfl <;> first | exact go (b := false) (.base (.tup (hs.up e))) (by decide +kernel) rfl | exact go (b := true) (.base (.tup (hs.up e))) (by decide +kernel) rfl
  | dct e _ => rcases hT with rfl | rfl | rfl | rfl | rfl | rfl <;> first | exact go (b := false) (.base (.dK (hs.up e))) (by decide +kernel) rfl | exact go (b := true) (.base (.dK (hs.up e))) (by decide +kernel) rfl
  | obj e i =>
    refine ⟨_, .ty T, _, .type T, false, rfl, .ty T, .base (.ins (hs.up e) i.cl i.ha i.hn i.tk i.mo), i.no T (by simp only [List.mem_cons, List.not_mem_nil, or_false]; exact hT), ?_⟩
    rcases hT with rfl | rfl | rfl | rfl | rfl | rfl <;> exact h
theorem bstep {B B' : Hp} {a : Addr} {o : HO} (s : Same B B') (e : B a = some o) : B' a = some o := s _ _ e
theorem small_le {n : Nat} (h : n ≤ 1000000) : n ≤ sizeLine := Nat.le_trans h (by rw [sizeLine_eq]; decide)
theorem small_lt {n : Nat} (h : n ≤ 1000000) : n < sizeLine := Nat.lt_of_le_of_lt h (by rw [sizeLine_eq]; decide)
end Q

set_option Elab.async false
set_option linter.all false
set_option maxRecDepth 100000
set_option maxHeartbeats 4000000
namespace Q
open PySem PySem.Spec PyProof.Rows L2
/-! ### loops: a state s of one's own, from which the slots and what may change follow -/
def LI {α : Type} (S : List Addr) (B0 H0 B : Hp) (σf : α → L2.St) (Mf : α → List (Addr × HO)) (P : Nat → α → Hp → Prop) (i : Nat) (σ : L2.St) (H : Hp) : Prop :=
  ∃ s B1, σ = σf s ∧ Same B B1 ∧ HS S B0 H0 B1 H (Mf s) ∧ P i s B1
abbrev LoopW (J : It) (g : TG) (tb : TS) (De : Ends) (σ : L2.St) (H : Hp) : Prop := ∃ W : Nat → Nat → L2.St → Hp → Prop, (∃ m, W 0 m σ H) ∧ ∀ i m σ H, W i m σ H →
  (J.stop i H ∧ De.nx σ H) ∨ (J.go i H ∧ ∃ N : L2.St → Hp → Prop, (∀ σ' H', N σ' H' → ∃ m', m' < m ∧ W (i + 1) m' σ' H') ∧ ∀ x H', J.yld i H x H' → g x σ H' fun σ2 H2 => tb { De with nx := N, ct := N, bk := De.nx } σ2 H2)
theorem x_for {wi : TI} {g : TG} {tb : TS} {De : Ends} {σ : L2.St} {H : Hp} (h : wi σ H fun J H1 => LoopW J g tb De σ H1) : tFor wi g tb De σ H := h
theorem x_iList {K : PySem.W.Frag} {te : TE} {σ : L2.St} {H : Hp} {R : It → Hp → Prop} (h : te σ H fun x H1 => ∃ a, x = .ref a ∧ (∃ xs, SqL K H1 a xs) ∧ R (Itl K a) H1) : iList K te σ H R := h
theorem x_iStr {te : TE} {σ : L2.St} {H : Hp} {R : It → Hp → Prop} (h : te σ H fun v H1 => ∃ x, v = .str x ∧ R (Its x) H1) : iStr te σ H R := h
theorem x_iRng1 {ta : TA} {σ : L2.St} {H : Hp} {R : It → Hp → Prop} (h : ta σ H fun vs H1 => ∃ j : Int, vs = [.int j] ∧ -(2 ^ 62) ≤ j ∧ j < 2 ^ 62 ∧ R (Itr 0 j.toNat) H1) : iRng1 ta σ H R := h
/-- a list or a tuple -/
def iSeq (K : PySem.W.Frag) (te : TE) : TI := fun σ H R => iList K te σ H R ∨ iTup K te σ H R
def iEnumS (K : PySem.W.Frag) (ta : TA) : TI := iEnum K ta
section
variable {α : Type} {K : PySem.W.Frag} {S : List Addr} {B0 H0 B : Hp} {σf : α → L2.St} {Mf : α → List (Addr × HO)} {P : Nat → α → Hp → Prop} {a : Addr} {xs : List V} {g : TG} {tb : TS} {De : Ends} {H : Hp} {s0 : α}
theorem l_list (hs : HS S B0 H0 B H (Mf s0)) (ea : B a = some (.lst xs)) (h0 : P 0 s0 B)
    (hb : ∀ i x s B1 H1, xs[i]? = some x → Same B B1 → HS S B0 H0 B1 H1 (Mf s) → P i s B1 → g x (σf s) H1 fun σ2 H2 => tb { De with nx := LI S B0 H0 B σf Mf P (i + 1), ct := LI S B0 H0 B σf Mf P (i + 1), bk := De.nx } σ2 H2)
    (hd : ∀ s B1 H1, Same B B1 → HS S B0 H0 B1 H1 (Mf s) → P xs.length s B1 → De.nx (σf s) H1) : LoopW (Itl K a) g tb De (σf s0) H :=
  for_list (K := K) (a := a) (xs := xs) (LI S B0 H0 B σf Mf P) ⟨s0, B, rfl, Same.refl _, hs, h0⟩ (fun i σ H' _ ⟨s, B1, _, sb, hs', _⟩ => SqL.of (hs'.up (sb _ _ ea)))
    (fun i x σ H' hi ⟨s, B1, e, sb, hs', p⟩ => by rw [e]; exact hb i x s B1 H' hi sb hs' p) fun σ H' ⟨s, B1, e, sb, hs', p⟩ => by rw [e]; exact hd s B1 H' sb hs' p
theorem l_range {lo : Int} {n : Nat} (hs : HS S B0 H0 B H (Mf s0)) (h0 : P 0 s0 B)
    (hb : ∀ i s B1 H1, i < n → Same B B1 → HS S B0 H0 B1 H1 (Mf s) → P i s B1 → g (.int (lo + i)) (σf s) H1 fun σ2 H2 => tb { De with nx := LI S B0 H0 B σf Mf P (i + 1), ct := LI S B0 H0 B σf Mf P (i + 1), bk := De.nx } σ2 H2)
    (hd : ∀ s B1 H1, Same B B1 → HS S B0 H0 B1 H1 (Mf s) → P n s B1 → De.nx (σf s) H1) : LoopW (Itr lo n) g tb De (σf s0) H :=
  for_range (lo := lo) (n := n) (LI S B0 H0 B σf Mf P) ⟨s0, B, rfl, Same.refl _, hs, h0⟩
    (fun i σ H' hi ⟨s, B1, e, sb, hs', p⟩ => by rw [e]; exact hb i s B1 H' hi sb hs' p) fun σ H' ⟨s, B1, e, sb, hs', p⟩ => by rw [e]; exact hd s B1 H' sb hs' p
theorem l_str {z : Str} (hs : HS S B0 H0 B H (Mf s0)) (h0 : P 0 s0 B)
    (hb : ∀ i c s B1 H1, z.cps.toList[i]? = some c → Same B B1 → HS S B0 H0 B1 H1 (Mf s) → P i s B1 → g (.str ⟨#[c]⟩) (σf s) H1 fun σ2 H2 => tb { De with nx := LI S B0 H0 B σf Mf P (i + 1), ct := LI S B0 H0 B σf Mf P (i + 1), bk := De.nx } σ2 H2)
    (hd : ∀ s B1 H1, Same B B1 → HS S B0 H0 B1 H1 (Mf s) → P z.cps.toList.length s B1 → De.nx (σf s) H1) : LoopW (Its z) g tb De (σf s0) H := by
  refine for_it walk_str (LI S B0 H0 B σf Mf P) ⟨s0, B, rfl, Same.refl _, hs, h0⟩ (fun _ _ _ _ _ => trivial) (fun i x σ H' H2 hi ⟨s, B1, e, sb, hs', p⟩ y => ?_) fun σ H' ⟨s, B1, e, sb, hs', p⟩ => ?_
  · obtain ⟨rfl, c, hc, rfl⟩ := y
    rw [e]
    exact hb i c s B1 _ (by rw [Array.getElem?_toList]; exact hc) sb hs' p
  · rw [e]
    exact hd s B1 H' sb hs' (by rw [Array.length_toList]; exact p)
end
/-! ### comprehensions -/
abbrev CompW (J : It) (g : TG) (tt : TT) (te : TE) (vs : List Nat) (σ : L2.St) (D : Addr) (H1 : Hp) (Q : VK) : Prop := ∃ W : Nat → Nat → Hp → Prop, (∃ m, W 0 m (upd H1 D (.lst []))) ∧ ∀ i m H, W i m H →
  (J.stop i H ∧ Q (.ref D) H) ∨ (J.go i H ∧ ∃ Nx : Hp → Prop, (∀ H', Nx H' → ∃ m', m' < m ∧ W (i + 1) m' H') ∧ ∀ x H', J.yld i H x H' → g x (wipe σ vs) H' fun σ2 H2 => wipe σ2 vs = wipe σ vs ∧ tt σ2 H2 fun b H3 =>
    if b = true then te σ2 H3 fun y H4 => ∃ acc, H4 D = some (.lst acc) ∧ acc.length < sizeLine ∧ Nx (upd H4 D (.lst (acc ++ [y]))) else Nx H3)
theorem x_lc {wi : TI} {g : TG} {tt : TT} {te : TE} {vs : List Nat} {σ : L2.St} {H : Hp} {Q : VK} (h : wi σ H fun J H1 => ∀ D, H1 D = none → CompW J g tt te vs σ D H1 Q) : tLc wi g tt te vs σ H Q := h
/-- the list so far stands at D, ahead of what else may change (which follows from a state s of one's own) -/
def CI {α : Type} (S : List Addr) (B0 H0 B : Hp) (Mf : α → List (Addr × HO)) (D : Addr) (P : Nat → α → List V → Hp → Prop) (i : Nat) (H : Hp) : Prop :=
  ∃ s acc B1, Same B B1 ∧ HS S B0 H0 B1 H ((D, .lst acc) :: Mf s) ∧ acc.length ≤ i ∧ P i s acc B1
section
variable {α : Type} {K : PySem.W.Frag} {S : List Addr} {B0 H0 B : Hp} {Mf : α → List (Addr × HO)} {P : Nat → α → List V → Hp → Prop} {a D : Addr} {xs : List V} {g : TG} {tt : TT} {te : TE} {vs : List Nat} {σ : L2.St} {H1 : Hp} {Q : VK} {s0 : α}
theorem c_keep {B2 H4 : Hp} {i : Nat} {s : α} {acc : List V} {y : V} (sb : Same B B2) (hs : HS S B0 H0 B2 H4 ((D, .lst acc) :: Mf s)) (hi : acc.length ≤ i) (hz : i < 1000000) (p : P (i + 1) s (acc ++ [y]) B2) :
    ∃ acc', H4 D = some (.lst acc') ∧ acc'.length < sizeLine ∧ CI S B0 H0 B Mf D P (i + 1) (upd H4 D (.lst (acc' ++ [y]))) :=
  ⟨acc, hs.get List.mem_cons_self, small_lt (by omega), s, acc ++ [y], B2, sb, hs.set0, by simp; omega, p⟩
theorem c_range {lo : Int} {n : Nat} (hs : HS S B0 H0 B H1 (Mf s0)) (hD : H1 D = none) (h0 : P 0 s0 [] B)
    (hb : ∀ i s acc B1 H', i < n → acc.length ≤ i → Same B B1 → HS S B0 H0 B1 H' ((D, .lst acc) :: Mf s) → P i s acc B1 → g (.int (lo + i)) (wipe σ vs) H' fun σ2 H2 => wipe σ2 vs = wipe σ vs ∧ tt σ2 H2 fun b H3 =>
      if b = true then te σ2 H3 fun y H4 => ∃ acc', H4 D = some (.lst acc') ∧ acc'.length < sizeLine ∧ CI S B0 H0 B Mf D P (i + 1) (upd H4 D (.lst (acc' ++ [y]))) else CI S B0 H0 B Mf D P (i + 1) H3)
    (hd : ∀ s acc B1 H', Same B B1 → HS S B0 H0 B1 H' ((D, .lst acc) :: Mf s) → acc.length ≤ n → P n s acc B1 → Q (.ref D) H') : CompW (Itr lo n) g tt te vs σ D H1 Q :=
  lc_range (lo := lo) (n := n) (CI S B0 H0 B Mf D P) ⟨s0, [], B, Same.refl _, hs.new hD, Nat.le_refl _, h0⟩
    (fun i H' hi ⟨s, acc, B1, sb, hs', hl, p⟩ => hb i s acc B1 H' hi hl sb hs' p) fun H' ⟨s, acc, B1, sb, hs', hl, p⟩ => hd s acc B1 H' sb hs' hl p
end
end Q

set_option Elab.async false
set_option linter.all false
set_option maxRecDepth 100000
set_option maxHeartbeats 4000000
namespace Q
open PySem PySem.Spec PyProof.Rows L2
abbrev WE0 (E : XK) : WX := fun c d _ H' => E c d H'
abbrev W0 : WX := fun _ _ _ _ => False
def rNegI : V → Hp → VK → Prop := rU fun i => .int (-i)
def tTryAs (K : PySem.W.Frag) (c : Value) (i : Nat) (ts : Addr → Value → Option Addr → TS) (Wout : WX) (tb : WX → TS) : TS := fun De σ H => tb (wAs K c i ts Wout De) De σ H
def tTryOnly (K : PySem.W.Frag) (c : Value) (ts : Addr → Value → Option Addr → TS) (Wout : WX) (tb : WX → TS) : TS := fun De σ H => tb (wOnly K c ts Wout De) De σ H
/-! ### enumerate of a tuple -/
def IteT (K : PySem.W.Frag) (a : Addr) : It :=
  ⟨fun i H => ∃ (xs : List V) (x : V), SqT K H a xs ∧ xs[i]? = some x, fun i H v H' => ∃ T x, v = .ref T ∧ H T = none ∧ H' = upd H T (.tup [.int (i : Nat), x]) ∧ ∀ xs, SqT K H a xs → xs[i]? = some x, fun i H => ∃ xs : List V, SqT K H a xs ∧ xs.length ≤ i⟩
def iEnumT (K : PySem.W.Frag) (ta : TA) : TI := fun σ H R => ta σ H fun vs H1 => ∃ a xs, vs = [.ref a] ∧ SqT K H1 a xs ∧ R (IteT K a) H1
section
variable {α : Type} {K : PySem.W.Frag} {S : List Addr} {B0 H0 B : Hp} {σf : α → L2.St} {Mf : α → List (Addr × HO)} {P : Nat → α → Hp → Prop} {a : Addr} {xs : List V} {g : TG} {tb : TS} {De : Ends} {H : Hp} {s0 : α}
end
/-! ### sorted of texts: a list, a tuple, a dict's keys -/
def rSortL (K : PySem.W.Frag) : List V → Hp → VK → Prop := rSortedS K
theorem cSortL {X : Cx} : CallR X (.builtin "sorted") (rSortL X.K) := cr_sortedS
def rSortD : List V → Hp → VK → Prop := fun xs H Q => ∃ (a : Addr) (kvs : List (Key × V)) (ks : List Str), xs = [.ref a] ∧ Rd H a (.dK kvs) ∧ kvs.map (·.1) = ks.map Sum.inr ∧ ks.length < 64 ∧
    ∀ ys p, ys.Perm ks → sortedS ys = true → H p = none → Q (.ref p) (upd H p (.lst (ys.map V.str)))
theorem cSortD {X : Cx} (hc : X.calm = true) : CallR X (.builtin "sorted") rSortD := call_sortedD hc
def rSortT (K : PySem.W.Frag) : List V → Hp → VK → Prop := fun vs H Q => ∃ (a : Addr) (xs : List Str), vs = [V.ref a] ∧ SqT K H a (xs.map V.str) ∧ xs.length < 64 ∧
  ∀ (ys : List Str) (p : Addr), ys.Perm xs → sortedS ys = true → H p = none → Q (.ref p) (upd H p (.lst (ys.map V.str)))
def rSortS (K : PySem.W.Frag) : List V → Hp → VK → Prop := fun vs H Q => rSortL K vs H Q ∨ rSortT K vs H Q
end Q

set_option Elab.async false
set_option linter.all false
set_option maxRecDepth 100000
set_option maxHeartbeats 4000000
namespace Q
open PySem PySem.Spec PyProof.Rows L2
section
variable {K : PySem.W.Frag} {σ : L2.St} {H : Hp} {Q : VK} {Qs : L2.St → Hp → Prop} {De : Ends} {te tu td ty tv to ta : TE} {tl : TA} {v y : V} {W : WX} {x : Str} {p C dx l : Addr} {fs : List (Str × V)} {f : Str} {S : List Addr} {B0 H0 B : Hp} {M : List (Addr × HO)} {kvs : List (Key × V)} {xs : List V}
/-! ### more steps: dicts, lists, fields, targets, errors -/
/-- a new thing o, and what is wanted of it -/
def New (o : HO) (Q : VK) (H : Hp) : Prop := ∀ p, H p = none → Q (.ref p) (upd H p o)
def NewL (Q : VK) (xs : List V) (H : Hp) : Prop := xs.length ≤ sizeLine ∧ New (.lst xs) Q H
def NewT (Q : VK) (xs : List V) (H : Hp) : Prop := xs.length ≤ sizeLine ∧ New (.tup xs) Q H
def Rz (W : WX) (C : Addr) (fs : List (Str × V)) (σ : L2.St) (H : Hp) : Prop := ∀ d, H d = none → W (.ref C) (some d) σ (upd H d (.xd fs))
def SetF (K : PySem.W.Frag) (f : Str) (R : Hp → Prop) (x y : V) (H : Hp) : Prop := ∃ a C dx fs, x = .ref a ∧ H a = some (.ins C dx fs) ∧ Cls K C ∧ NoAttr K C f ∧ fs.length < 1000 ∧ R (upd H a (.ins C dx (putF f y fs)))
def Mkd (C : Addr) (sp : Sp) (W : WX) (σ : L2.St) (Q : VK) (vs : List V) (H : Hp) : Prop := ∀ x dx, H x = none → H dx = none → dx ≠ x → sp (.ref x :: vs) (upd (upd H dx (.own x)) x (.ins C dx [])) (fun v H2 => v = .non ∧ Q (.ref x) H2) fun c d H' => W c d σ H'
theorem new_M {o : HO} (hs : HS S B0 H0 B H M) (k : ∀ p H', HS S B0 H0 B H' ((p, o) :: M) → H p = none → Q (.ref p) H') : New o Q H := x_new (Qp := fun p H' => Q (.ref p) H') hs k
theorem new_F {o : HO} (hs : HS S B0 H0 B H M) (k : ∀ p B' H', HS S B0 H0 B' H' M → Same B B' → B' p = some o → H p = none → Q (.ref p) H') : New o Q H := x_newF (Qp := fun p H' => Q (.ref p) H') hs k
theorem x_newL (hz : xs.length ≤ 1000000) (h : New (.lst xs) Q H) : NewL Q xs H := ⟨small_le hz, h⟩
theorem x_lst (h : tl σ H (NewL Q)) : tLst tl σ H Q := h
theorem x_dget (h : td σ H fun x H1 => ty σ H1 fun y H2 => ∃ a v, x = .ref a ∧ DGet H2 a y (some v) ∧ Q v H2) : tDGet td ty σ H Q := h
theorem x_dgS {R : V → Prop} (hd : H p = some (.dK kvs)) (e : valV kvs (.inr x) = some v) (h : R v) : ∃ a v, V.ref p = .ref a ∧ DGet H a (.str x) (some v) ∧ R v := ⟨p, v, rfl, by rw [← e]; exact DGet.k (k := .inr x) hd, h⟩
theorem x_din (h : ty σ H fun y H1 => td σ H1 fun x H2 => ∃ a o, x = .ref a ∧ DGet H2 a y o ∧ Q (.bl o.isSome) H2) : tDIn ty td σ H Q := h
theorem x_dnin (h : ty σ H fun y H1 => td σ H1 fun x H2 => ∃ a o, x = .ref a ∧ DGet H2 a y o ∧ Q (.bl (!o.isSome)) H2) : tDNotIn ty td σ H Q := h
theorem x_dinO {R : Option V → Prop} (hd : H p = some (.dK kvs)) (h : R (valV kvs (.inr x))) : ∃ a o, V.ref p = .ref a ∧ DGet H a (.str x) o ∧ R o := ⟨p, _, rfl, DGet.k (k := .inr x) hd, h⟩
theorem x_dputU (h : tv σ H fun v H1 => td σ H1 fun x H2 => ty σ H2 fun y H3 => ∃ a H4, x = .ref a ∧ DPut H3 a y v H4 ∧ De.nx σ H4) : sDPut td ty tv De σ H := h
theorem x_dput {R : Hp → Prop} (hs : HS S B0 H0 B H ((p, .dK kvs) :: M)) (hz : kvs.length ≤ 1000000) (h : ∀ H', HS S B0 H0 B H' ((p, .dK (putK kvs (.inr x) v)) :: M) → R H') : ∃ a H4, V.ref p = .ref a ∧ DPut H a (.str x) v H4 ∧ R H4 :=
  ⟨p, _, rfl, DPut.k (k := .inr x) (hs.get List.mem_cons_self) (small_lt hz), h _ hs.set0⟩
theorem x_dnew (h : New (.dK []) Q H) : tDNewK σ H Q := h
theorem x_bm {T : String} {r : V → List V → Hp → VK → Prop} (h : to σ H fun x H1 => tyV K T x H1 ∧ tl σ H1 fun xs H2 => r x xs H2 Q) : tBM K T r to tl σ H Q := h
theorem x_bm0 {T : String} {r : V → List V → Hp → VK → Prop} (h : to σ H fun x H1 => tyV K T x H1 ∧ r x [] H1 Q) : tBM0 K T r to σ H Q := h
theorem x_tyL {R : Prop} (hl : SqL K H l xs) (h : R) : tyV K "list" (.ref l) H ∧ R := ⟨Or.inl ⟨rfl, _, hl⟩, h⟩
theorem x_append (hs : HS S B0 H0 B H ((l, .lst xs) :: M)) (hz : xs.length ≤ 1000000) (h : ∀ H', HS S B0 H0 B H' ((l, .lst (xs ++ [y])) :: M) → Q .non H') : rAppend (.ref l) [y] H Q :=
  ⟨l, xs, y, rfl, rfl, hs.get List.mem_cons_self, small_lt hz, h _ hs.set0⟩
theorem x_popAt {i : Int} {k : Nat} (hs : HS S B0 H0 B H ((l, .lst xs) :: M)) (h1 : -(2 ^ 63) ≤ i) (h2 : i < 2 ^ 63) (e1 : seqIndex? i xs.length = some k) (e : xs[k]? = some y) (h : ∀ H', HS S B0 H0 B H' ((l, .lst (xs.eraseIdx k)) :: M) → Q y H') : rPopAt (.ref l) [.int i] H Q :=
  ⟨l, xs, i, k, y, rfl, rfl, hs.get List.mem_cons_self, h1, h2, e1, e, h _ hs.set0⟩
theorem x_setL {m : Int} {j : Nat} {Qh : Hp → Prop} (hs : HS S B0 H0 B H ((l, .lst xs) :: M)) (e : ixN xs.length m = some j) (h : ∀ H', HS S B0 H0 B H' ((l, .lst (xs.set j v)) :: M) → Qh H') : rSetL (.ref l) (.int m) v H Qh :=
  ⟨l, xs, m, j, rfl, rfl, hs.get List.mem_cons_self, e, h _ hs.set0⟩
theorem x_gsub {ti : TE} {t : TSet} (h : to σ H fun o H1 => ti σ H1 fun i H2 => t o i v H2 fun H3 => Qs σ H3) : gSub to ti t v σ H Qs := h
theorem x_fldU (h : ta σ H fun x H1 => ∃ a C dx fs v, x = .ref a ∧ H1 a = some (.ins C dx fs) ∧ Cls K C ∧ NoAttr K C f ∧ fs.lookup f = some v ∧ Q v H1) : tFld K ta f σ H Q := h
theorem x_fld {R : V → Prop} (hp : H p = some (.ins C dx fs)) (cl : Cls K C) (na : NoAttr K C f) (e : fs.lookup f = some v) (h : R v) : ∃ a C dx fs v, V.ref p = .ref a ∧ H a = some (.ins C dx fs) ∧ Cls K C ∧ NoAttr K C f ∧ fs.lookup f = some v ∧ R v :=
  ⟨p, C, dx, fs, v, rfl, hp, cl, na, e, h⟩
theorem x_sfldU (h : tv σ H fun y H1 => ta σ H1 fun x H2 => SetF K f (De.nx σ) x y H2) : sFld K ta tv f De σ H := h
theorem x_sfld {R : Hp → Prop} (hs : HS S B0 H0 B H ((p, .ins C dx fs) :: M)) (cl : Cls K C) (na : NoAttr K C f) (hl : fs.length < 1000) (h : ∀ H', HS S B0 H0 B H' ((p, .ins C dx (putF f y fs)) :: M) → R H') :
    SetF K f R (.ref p) y H := ⟨p, C, dx, fs, rfl, hs.get List.mem_cons_self, cl, na, hl, h _ hs.set0⟩
theorem x_mtU {m : Str} {sp : Sp} (h : ta σ H fun x H1 => ∃ a dx fs, x = .ref a ∧ H1 a = some (.ins C dx fs) ∧ fs.lookup m = none ∧ tl σ H1 fun vs H2 => sp (x :: vs) H2 Q fun c d H' => W c d σ H') : tMt C m sp W ta tl σ H Q := h
theorem x_mt {m : Str} {R : Prop} (hp : H p = some (.ins C dx fs)) (e : fs.lookup m = none) (h : R) : ∃ a dx fs, V.ref p = .ref a ∧ H a = some (.ins C dx fs) ∧ fs.lookup m = none ∧ R := ⟨p, dx, fs, rfl, hp, e, h⟩
theorem x_str1 {R : Prop} {z : Str} (h : R) : (∃ a, V.str z = .str a) ∧ R := ⟨⟨z, rfl⟩, h⟩
theorem x_yes {Qb : Bool → Hp → Prop} (h : Qb true H) : tYes σ H Qb := h
theorem x_listL (hp : SqL K H p xs) (h : New (.lst xs) Q H) : rListOf K [.ref p] H Q := ⟨p, xs, rfl, .inl hp, h⟩
theorem x_sortL {ss : List Str} (hp : SqL K H p (ss.map V.str)) (hz : ss.length < 64) (h : ∀ ys : List Str, ys.Perm ss → sortedS ys = true → New (.lst (ys.map V.str)) Q H) : rSortL K [.ref p] H Q := ⟨p, ss, rfl, hp, hz, fun ys q pe so hn => h ys pe so q hn⟩
theorem x_sortD {ks : List Str} (hp : H p = some (.dK kvs)) (hk : kvs.map (·.1) = ks.map Sum.inr) (hz : ks.length < 64) (h : ∀ ys : List Str, ys.Perm ks → sortedS ys = true → New (.lst (ys.map V.str)) Q H) : rSortD [.ref p] H Q := ⟨p, kvs, ks, rfl, .inl hp, hk, hz, fun ys q pe so hn => h ys pe so q hn⟩
end
/-! ### more of the frame -/
theorem HS.set1 {S : List Addr} {B0 H0 B H : Hp} {p q : Addr} {o u u' : HO} {M : List (Addr × HO)} (h : HS S B0 H0 B H ((p, o) :: (q, u) :: M)) : HS S B0 H0 B (upd H q u') ((p, o) :: (q, u') :: M) := h.swap.set0.swap
theorem HS.perm {S : List Addr} {B0 H0 B H : Hp} {M M' : List (Addr × HO)} (h : HS S B0 H0 B H M) (p : M.Perm M') : HS S B0 H0 B H M' :=
  ⟨h.bb, h.bh, h.fr, fun q m => h.mu q (p.mem_iff.mpr m), (p.map (·.1)).nodup_iff.mp h.nd⟩
/-- what is new stands still from now on, with what it names -/
theorem HS.still {S : List Addr} {B0 H0 B H : Hp} {p : Addr} {o : HO} {M : List (Addr × HO)} (h : HS S B0 H0 B H ((p, o) :: M)) (hp : p ∉ S) : HS S B0 H0 (upd B p o) H M ∧ Same B (upd B p o) :=
  h.freeze ((h.mu (p, o) List.mem_cons_self).2.2.resolve_right hp)
/-! ### dict comprehensions -/
abbrev CompD (J : It) (g : TG) (tt : TT) (tk tv : TE) (vs : List Nat) (σ : L2.St) (D : Addr) (H1 : Hp) (Q : VK) : Prop := ∃ W : Nat → Nat → Hp → Prop, (∃ m, W 0 m (upd H1 D (.dK []))) ∧ ∀ i m H, W i m H →
  (J.stop i H ∧ Q (.ref D) H) ∨ (J.go i H ∧ ∃ Nx : Hp → Prop, (∀ H', Nx H' → ∃ m', m' < m ∧ W (i + 1) m' H') ∧ ∀ x H', J.yld i H x H' → g x (wipe σ vs) H' fun σ2 H2 => wipe σ2 vs = wipe σ vs ∧ tt σ2 H2 fun b H3 =>
    if b = true then tk σ2 H3 fun y H4 => tv σ2 H4 fun z H5 => ∃ kvs k, y = kV k ∧ H5 D = some (.dK kvs) ∧ kvs.length < sizeLine ∧ Nx (upd H5 D (.dK (putK kvs k z))) else Nx H3)
theorem x_dc {wi : TI} {g : TG} {tt : TT} {tk tv : TE} {vs : List Nat} {σ : L2.St} {H : Hp} {Q : VK} (h : wi σ H fun J H1 => ∀ D, H1 D = none → CompD J g tt tk tv vs σ D H1 Q) : tDc wi g tt tk tv vs σ H Q := h
def DI {α : Type} (S : List Addr) (B0 H0 B : Hp) (Mf : α → List (Addr × HO)) (D : Addr) (P : Nat → α → List (Key × V) → Hp → Prop) (i : Nat) (H : Hp) : Prop :=
  ∃ s acc B1, Same B B1 ∧ HS S B0 H0 B1 H ((D, .dK acc) :: Mf s) ∧ acc.length ≤ i ∧ P i s acc B1
theorem putK_len {κ : Type} [DecidableEq κ] (kvs : List (κ × V)) (k : κ) (v : V) : (putK kvs k v).length ≤ kvs.length + 1 := by
  unfold putK
  split
  · rw [List.length_map]; omega
  · simp
section
variable {α : Type} {K : PySem.W.Frag} {S : List Addr} {B0 H0 B : Hp} {Mf : α → List (Addr × HO)} {P : Nat → α → List (Key × V) → Hp → Prop} {a D : Addr} {xs : List V} {g : TG} {tt : TT} {tk tv : TE} {vs : List Nat} {σ : L2.St} {H1 : Hp} {Q : VK} {s0 : α}
theorem d_keep {B2 H4 : Hp} {i : Nat} {s : α} {acc : List (Key × V)} {x : Str} {y : V} (sb : Same B B2) (hs : HS S B0 H0 B2 H4 ((D, .dK acc) :: Mf s)) (hi : acc.length ≤ i) (hz : i < 1000000) (p : P (i + 1) s (putK acc (.inr x) y) B2) :
    ∃ kvs k, V.str x = kV k ∧ H4 D = some (.dK kvs) ∧ kvs.length < sizeLine ∧ DI S B0 H0 B Mf D P (i + 1) (upd H4 D (.dK (putK kvs k y))) :=
  ⟨acc, .inr x, rfl, hs.get List.mem_cons_self, small_lt (by omega), s, putK acc (.inr x) y, B2, sb, hs.set0, Nat.le_trans (putK_len _ _ _) (by omega), p⟩
theorem d_it {J : It} {n : Nat} {G : Hp → Prop} {Y : Nat → Hp → V → Hp → Prop} (w : Walk J n G Y) (hs : HS S B0 H0 B H1 (Mf s0)) (hD : H1 D = none) (h0 : P 0 s0 [] B) (hG : ∀ B1 H' M, Same B B1 → HS S B0 H0 B1 H' M → G H')
    (hb : ∀ i x s acc B1 H' H2, i < n → acc.length ≤ i → Same B B1 → HS S B0 H0 B1 H' ((D, .dK acc) :: Mf s) → P i s acc B1 → Y i H' x H2 → g x (wipe σ vs) H2 fun σ2 H2 => wipe σ2 vs = wipe σ vs ∧ tt σ2 H2 fun b H3 =>
      if b = true then tk σ2 H3 fun y H4 => tv σ2 H4 fun z H5 => ∃ kvs k, y = kV k ∧ H5 D = some (.dK kvs) ∧ kvs.length < sizeLine ∧ DI S B0 H0 B Mf D P (i + 1) (upd H5 D (.dK (putK kvs k z))) else DI S B0 H0 B Mf D P (i + 1) H3)
    (hd : ∀ s acc B1 H', Same B B1 → HS S B0 H0 B1 H' ((D, .dK acc) :: Mf s) → acc.length ≤ n → P n s acc B1 → Q (.ref D) H') : CompD J g tt tk tv vs σ D H1 Q := by
  refine ⟨fun i m H => m = n - i ∧ i ≤ n ∧ DI S B0 H0 B Mf D P i H, ⟨n, by simp, Nat.zero_le _, s0, [], B, Same.refl _, hs.new hD, Nat.le_refl _, h0⟩, ?_⟩
  rintro i m H ⟨rfl, hi, s, acc, B1, sb, hs', hl, p⟩
  by_cases hlt : i < n
  · refine .inr ⟨w.goes i H hlt (hG B1 H _ sb hs'), DI S B0 H0 B Mf D P (i + 1), fun H' p' => ⟨n - (i + 1), by omega, rfl, hlt, p'⟩, fun x H' y => ?_⟩
    exact hb i x s acc B1 H H' hlt hl sb hs' p (w.yields i H x H' hlt (hG B1 H _ sb hs') y)
  · have e : i = n := by omega
    subst e
    exact .inl ⟨w.stops H (hG B1 H _ sb hs'), hd s acc B1 H sb hs' hl p⟩
theorem d_list (hs : HS S B0 H0 B H1 (Mf s0)) (hD : H1 D = none) (ea : B a = some (.lst xs)) (h0 : P 0 s0 [] B)
    (hb : ∀ i x s acc B1 H', xs[i]? = some x → i < xs.length → acc.length ≤ i → Same B B1 → HS S B0 H0 B1 H' ((D, .dK acc) :: Mf s) → P i s acc B1 → g x (wipe σ vs) H' fun σ2 H2 => wipe σ2 vs = wipe σ vs ∧ tt σ2 H2 fun b H3 =>
      if b = true then tk σ2 H3 fun y H4 => tv σ2 H4 fun z H5 => ∃ kvs k, y = kV k ∧ H5 D = some (.dK kvs) ∧ kvs.length < sizeLine ∧ DI S B0 H0 B Mf D P (i + 1) (upd H5 D (.dK (putK kvs k z))) else DI S B0 H0 B Mf D P (i + 1) H3)
    (hd : ∀ s acc B1 H', Same B B1 → HS S B0 H0 B1 H' ((D, .dK acc) :: Mf s) → acc.length ≤ xs.length → P xs.length s acc B1 → Q (.ref D) H') : CompD (Itl K a) g tt tk tv vs σ D H1 Q :=
  d_it (walk_list (xs := xs)) hs hD h0 (fun B1 H' M sb h => SqL.of (h.up (sb _ _ ea))) (fun i x s acc B1 H' H2 hi hl sb h p ⟨e1, e2⟩ => by rw [e1]; exact hb i x s acc B1 H' e2 hi hl sb h p) hd
end
end Q
namespace Q
open PySem PySem.Spec PyProof.Rows L2
/-! ### rows of texts -/
theorem flat_strs (xs : List Str) : (xs.map V.str).all flatV = true := by
  rw [List.all_eq_true]
  intro v m
  obtain ⟨x, _, rfl⟩ := List.mem_map.mp m
  rfl
theorem inV_strs (x : Str) (xs : List Str) : inV (.str x) (xs.map V.str) = decide (x ∈ xs) := by
  unfold inV
  rw [Bool.eq_iff_iff, List.any_eq_true, decide_eq_true_iff]
  constructor
  · rintro ⟨v, m, e⟩
    obtain ⟨y, my, rfl⟩ := List.mem_map.mp m
    have : y = x := by simpa [eqV] using e
    rw [← this]; exact my
  · intro m
    exact ⟨.str x, List.mem_map.mpr ⟨x, m, rfl⟩, by simp [eqV]⟩
/-- a list or a tuple of texts -/
def Sq (B : Hp) (v : V) (xs : List Str) : Prop := ∃ a, v = .ref a ∧ (B a = some (.lst (xs.map V.str)) ∨ B a = some (.tup (xs.map V.str)))
theorem Sq.mono {B B' : Hp} {v : V} {xs : List Str} (s : Same B B') (h : Sq B v xs) : Sq B' v xs := by
  obtain ⟨a, e, h⟩ := h
  exact ⟨a, e, h.imp (s _ _) (s _ _)⟩
section
variable {K : PySem.W.Frag} {S : List Addr} {B0 H0 B H : Hp} {M : List (Addr × HO)} {Q : VK} {x : Str} {xs : List Str} {p : Addr} {vs : List V} {v : V}
theorem x_ninLS (hp : SqL K H p (xs.map V.str)) (h : Q (.bl (!decide (x ∈ xs))) H) : rIn K true (.str x) (.ref p) H Q := x_ninL hp rfl (flat_strs xs) (by rw [inV_strs]; exact h)
end
theorem strs_get {xs : List Str} {i : Nat} {v : V} (h : (xs.map V.str)[i]? = some v) : ∃ x, xs[i]? = some x ∧ v = .str x := by
  rw [List.getElem?_map] at h
  cases e : xs[i]? with
  | none => rw [e] at h; cases h
  | some x => rw [e] at h; exact ⟨x, rfl, (Option.some.inj h).symm⟩
section
variable {α : Type} {K : PySem.W.Frag} {S : List Addr} {B0 H0 B : Hp} {σf : α → L2.St} {Mf : α → List (Addr × HO)} {P : Nat → α → Hp → Prop} {v : V} {xs : List Str} {g : TG} {tb : TS} {De : Ends} {H : Hp} {s0 : α} {te : TE}
end
/-! ### dicts by data -/
def dval {α : Type} (ds : List (Key × α)) (k : Key) : Option α := (ds.find? fun kv => decide (kv.1 = k)).map (·.2)
theorem repK_val {K : PySem.W.Frag} {B : Hp} : ∀ {kvs : List (Key × V)} {ds : List (Key × D)}, RepK K B kvs ds → ∀ k, (∃ v d, valV kvs k = some v ∧ dval ds k = some d ∧ Rep K B v d) ∨ (valV kvs k = none ∧ dval ds k = none)
  | _, _, .nil, k => .inr ⟨rfl, rfl⟩
  | _, _, @RepK.cons _ _ k' v vs d ds h r, k => by
    by_cases e : k' = k
    · exact .inl ⟨v, d, valV_pos (p := (k', v)) e, by simp [dval, e], h⟩
    · rcases repK_val r k with ⟨v', d', h1, h2, h3⟩ | ⟨h1, h2⟩
      · exact .inl ⟨v', d', by rw [valV_neg (p := (k', v)) e]; exact h1, by simp only [dval, List.find?_cons, decide_eq_false e]; exact h2, h3⟩
      · exact .inr ⟨by rw [valV_neg (p := (k', v)) e]; exact h1, by simp only [dval, List.find?_cons, decide_eq_false e]; exact h2⟩
theorem repK_some {K : PySem.W.Frag} {B : Hp} {kvs : List (Key × V)} {ds : List (Key × D)} (r : RepK K B kvs ds) (k : Key) : (valV kvs k).isSome = (dval ds k).isSome := by
  rcases repK_val r k with ⟨v, d, h1, h2, _⟩ | ⟨h1, h2⟩ <;> rw [h1, h2] <;> rfl
end Q

set_option Elab.async false
set_option linter.all false
set_option maxRecDepth 100000
set_option maxHeartbeats 4000000
namespace Q
open PySem PySem.Spec PyProof.Rows L2
/-! ### the head's Hook with facts of one's own -/
def obsX (ex : List (PySem.W.Frag → Bool)) (fa : List He.Fa) (fn : List He.DefD) (K : PySem.W.Frag) : Bool × He.AlD := (ex.all fun b => b K, He.obsD fa fn K)
structure SaysX (ex : List (PySem.W.Frag → Bool)) (fa : List He.Fa) (fn : List He.DefD) (K : PySem.W.Frag) : Prop where
  one : (ex.all fun b => b K) = true
  two : He.SaysD fa fn K
theorem SaysX.ex {ex : List (PySem.W.Frag → Bool)} {fa : List He.Fa} {fn : List He.DefD} {K : PySem.W.Frag} (c : SaysX ex fa fn K) (i : Nat) {b : PySem.W.Frag → Bool} (h : ex[i]? = some b) : b K = true := List.all_eq_true.mp c.one b (List.mem_of_getElem? h)
def obsXG (n : Nat) (ex : List (PySem.W.Frag → Bool)) (fa : List He.Fa) (fn : List He.DefD) (g : Addr → Option Obj) : Bool × He.AlD := obsX ex fa fn (He.frG g (cStatics :: He.asD g n))
def hookX (n : Nat) (ex : List (PySem.W.Frag → Bool)) (fa : List He.Fa) (fn : List He.DefD) : PySem.W.Hook where
  α := Bool × He.AlD
  obs := fun s => obsXG n ex fa fn s.heap.get?
  val := fun _ => (true, He.valD fn)
  says := fun _ h => ∃ K : PySem.W.Frag, K.In h ∧ SaysX ex fa fn K
  of := fun _ _ e => ⟨_, He.frG_in, congrArg (fun z : Bool × He.AlD => z.1) e, congrArg (fun z : Bool × He.AlD => z.2) e⟩
  keeps := fun _ _ _ ⟨K, hK, c⟩ k => ⟨K, PySem.W.Frag.In.keeps hK k, c⟩
/-! ### what a def may let out, whatever the world -/
def CXE (P : Program) : CXT := fun outer H s E u s' => ∃ w, L2.CX P w outer H s E u s'
theorem cxe_no {P : Program} (H : Hp) (s : Shared) (e : Value) (s' : Shared) (h : CXE P [] H s (fun _ _ _ => False) e s') : False := by
  obtain ⟨w, a, B, H', cls, d, _, _, _, _, _, _, _, z⟩ := h
  exact z
theorem fnok_cxe {P : Program} {w : World} {K : PySem.W.Frag} {mg : Str → Option Value} {base : Heap} {k : Nat} {f : Addr} {fd : FuncData} {ps : List Str} {sp : Sp} (F : FnOk P w K mg base (L2.CX P w) k f fd ps sp) : FnOk P w K mg base (CXE P) k f fd ps sp :=
  ⟨F.len, fun A outer s H args us vs Q E hr he hb hv hs => codeAny_mono (F.run A outer s H args us vs Q E hr he hb hv hs) fun r s' hq => by
    cases r with
    | ok fl => cases fl <;> exact hq
    | error e => exact ⟨w, hq⟩⟩
/-! ### try, by its reading -/
section
variable {X : Cx} {x n : Str} {c : Value} {i : Nat} {body suite : List Stmt} {b₀ : Stmt} {np pos pos' : Pos} {tb : WX → TS} {ts : Addr → Value → Option Addr → TS} {Wout : WX}
end
/-! ### the errors' __init__ -/
section
variable {K : PySem.W.Frag} {C a : Addr} {v u : V} {f g msg : Str} {H : Hp} {Q : VK}
theorem xi1 (ox : OexC K C) (na : PySem.W.findIn K (.ref C) f = some none) (ha : H a = some (exo a C none)) (k : ∀ dx, H dx = none → dx ≠ a → Q .non (upd (upd H dx (exd dx [(f, v)])) a (exo a C (some dx)))) :
    (tSeq (tDrop (tVeI K (tCons (tVar 0) (tCons (tC (.str msg)) tNil)))) (tOst K f (tVar 0) (tVar 1))) { nx := fun _ H' => Q .non H', rt := Q } [some (.ref a), some v] H :=
  ⟨.ref a, rfl, a, C, [.str msg], rfl, by simp, ox, ha, v, rfl, .ref a, rfl, a, C, rfl, ox, na, .inl ⟨ha, k⟩⟩
end
end Q

set_option Elab.async false
set_option linter.all false
set_option maxRecDepth 100000
set_option maxHeartbeats 4000000
namespace Q
open PySem PySem.Spec PyProof.Rows L2
/-! ### the head's Hook over a part of the heap that is found without dropping doubles (the run's memory: 8.5 for 12 GB) -/
def frontQ (g : Addr → Option Obj) (l : List Addr) : List Addr := l.flatMap fun a => match g a with
  | some o => (He.refsD o).filter fun b => !(b == a)
  | none => []
/-- what the module's names reach in n steps, level by level -/
def asQ (g : Addr → Option Obj) : Nat → List Addr → List Addr
  | 0, l => l
  | n + 1, l => l ++ asQ g n (frontQ g l)
def kQ (g : Addr → Option Obj) (n : Nat) : PySem.W.Frag := He.frG g (cStatics :: asQ g n [mainGlobals])
def obsYG (n : Nat) (ex : List (PySem.W.Frag → Bool)) (fa : List He.Fa) (fn : List He.DefD) (g : Addr → Option Obj) : Bool × He.AlD := obsX ex fa fn (kQ g n)
def hookY (n : Nat) (ex : List (PySem.W.Frag → Bool)) (fa : List He.Fa) (fn : List He.DefD) : PySem.W.Hook where
  α := Bool × He.AlD
  obs := fun s => obsYG n ex fa fn s.heap.get?
  val := fun _ => (true, He.valD fn)
  says := fun _ h => ∃ K : PySem.W.Frag, K.In h ∧ SaysX ex fa fn K
  of := fun _ _ e => ⟨_, He.frG_in, congrArg (fun z : Bool × He.AlD => z.1) e, congrArg (fun z : Bool × He.AlD => z.2) e⟩
  keeps := fun _ _ _ ⟨K, hK, c⟩ k => ⟨K, PySem.W.Frag.In.keeps hK k, c⟩
theorem obsYG_eq {n : Nat} {ex : List (PySem.W.Frag → Bool)} {fa : List He.Fa} {fn : List He.DefD} {g : Addr → Option Obj} {s : Shared} (h : ∀ a, g a = s.heap.get? a) : obsYG n ex fa fn g = (hookY n ex fa fn).obs s := by
  have e : g = s.heap.get? := funext h
  rw [e] <;> rfl

end Q
set_option Elab.async false
set_option linter.all false
set_option maxRecDepth 100000
set_option maxHeartbeats 4000000
namespace Q
open PySem PySem.Spec PyProof.Rows L2
structure GIs (K : PySem.W.Frag) : Prop where
  own : PySem.W.kitOne K (.ref (He.ga K "Group")) (.ref (He.ga K "Group")) = some true
  no : ∀ T ∈ (["NoneType", "bool", "int", "str", "list", "tuple", "dict"] : List String), PySem.W.kitOne K (.type T) (.ref (He.ga K "Group")) = some false
def gisB (K : PySem.W.Frag) : Bool := decide (PySem.W.kitOne K (.ref (He.ga K "Group")) (.ref (He.ga K "Group")) = some true) && (["NoneType", "bool", "int", "str", "list", "tuple", "dict"] : List String).all fun T => decide (PySem.W.kitOne K (.type T) (.ref (He.ga K "Group")) = some false)
end Q

set_option Elab.async false
set_option linter.all false
set_option maxRecDepth 100000
set_option maxHeartbeats 0
/-! ### the head -/
namespace Hd
open PySem PySem.Spec PyProof.Rows L2 Q
def top (i : Nat) : Stmt := PySem.Challenge.pw_quietpairs_k68_scales.main.body.getD i (.Pass ⟨0, 0, 0, 0⟩)
abbrev s__law_take : Stmt := top 19
abbrev s__law_big : Stmt := top 25
abbrev s__law_cell : Stmt := top 18
abbrev s_is_name : Stmt := top 6
abbrev s_is_integer : Stmt := top 7
abbrev s_is_weight : Stmt := top 13
abbrev s_BadWeights___init__ : Stmt := inClass (top 3) 0
abbrev s_check_weights : Stmt := top 14
abbrev s_Scale___init__ : Stmt := inClass (top 15) 0
abbrev s__law_made : Stmt := top 28
abbrev s__law_name : Stmt := top 20
abbrev s__law_names : Stmt := top 21
abbrev s__law_is_integer : Stmt := top 17
abbrev s__law_same : Stmt := top 24
abbrev s__law_weight : Stmt := top 27
abbrev s_Scale_weight : Stmt := inClass (top 15) 1
abbrev s__law_scale_fits : Stmt := top 29
abbrev s__law_turnedO : Stmt := top 23
abbrev s__law_mixed : Stmt := top 22
abbrev s__law_weights : Stmt := top 26
abbrev s_Scale___add__ : Stmt := inClass (top 15) 3
abbrev s_Scale___eq__ : Stmt := inClass (top 15) 2
abbrev s_law : Stmt := top 30
def d__law_take : He.DefD := ⟨("_law_take", none), "_law_take", "_law_take", defArgs s__law_take, defBody s__law_take, defScope s__law_take, [], []⟩
def d__law_big : He.DefD := ⟨("_law_big", none), "_law_big", "_law_big", defArgs s__law_big, defBody s__law_big, defScope s__law_big, [], []⟩
def d__law_cell : He.DefD := ⟨("_law_cell", none), "_law_cell", "_law_cell", defArgs s__law_cell, defBody s__law_cell, defScope s__law_cell, [], []⟩
def d_is_name : He.DefD := ⟨("is_name", none), "is_name", "is_name", defArgs s_is_name, defBody s_is_name, defScope s_is_name, [], []⟩
def d_is_integer : He.DefD := ⟨("is_integer", none), "is_integer", "is_integer", defArgs s_is_integer, defBody s_is_integer, defScope s_is_integer, [], []⟩
def d_is_weight : He.DefD := ⟨("is_weight", none), "is_weight", "is_weight", defArgs s_is_weight, defBody s_is_weight, defScope s_is_weight, [], []⟩
def d_BadWeights___init__ : He.DefD := ⟨("BadWeights", some "__init__"), "__init__", "BadWeights.__init__", defArgs s_BadWeights___init__, defBody s_BadWeights___init__, defScope s_BadWeights___init__, [], []⟩
def d_check_weights : He.DefD := ⟨("check_weights", none), "check_weights", "check_weights", defArgs s_check_weights, defBody s_check_weights, defScope s_check_weights, [], []⟩
def d_Scale___init__ : He.DefD := ⟨("Scale", some "__init__"), "__init__", "Scale.__init__", defArgs s_Scale___init__, defBody s_Scale___init__, defScope s_Scale___init__, [], [("rest", .int 1)]⟩
def d__law_made : He.DefD := ⟨("_law_made", none), "_law_made", "_law_made", defArgs s__law_made, defBody s__law_made, defScope s__law_made, [], []⟩
def d__law_name : He.DefD := ⟨("_law_name", none), "_law_name", "_law_name", defArgs s__law_name, defBody s__law_name, defScope s__law_name, [], []⟩
def d__law_names : He.DefD := ⟨("_law_names", none), "_law_names", "_law_names", defArgs s__law_names, defBody s__law_names, defScope s__law_names, [], []⟩
def d__law_is_integer : He.DefD := ⟨("_law_is_integer", none), "_law_is_integer", "_law_is_integer", defArgs s__law_is_integer, defBody s__law_is_integer, defScope s__law_is_integer, [], []⟩
def d__law_same : He.DefD := ⟨("_law_same", none), "_law_same", "_law_same", defArgs s__law_same, defBody s__law_same, defScope s__law_same, [], []⟩
def d__law_weight : He.DefD := ⟨("_law_weight", none), "_law_weight", "_law_weight", defArgs s__law_weight, defBody s__law_weight, defScope s__law_weight, [], []⟩
def d_Scale_weight : He.DefD := ⟨("Scale", some "weight"), "weight", "Scale.weight", defArgs s_Scale_weight, defBody s_Scale_weight, defScope s_Scale_weight, [], []⟩
def d__law_scale_fits : He.DefD := ⟨("_law_scale_fits", none), "_law_scale_fits", "_law_scale_fits", defArgs s__law_scale_fits, defBody s__law_scale_fits, defScope s__law_scale_fits, [], []⟩
def d__law_turnedO : He.DefD := ⟨("_law_turned", none), "_law_turned", "_law_turned", defArgs s__law_turnedO, defBody s__law_turnedO, defScope s__law_turnedO, [], []⟩
def d__law_mixed : He.DefD := ⟨("_law_mixed", none), "_law_mixed", "_law_mixed", defArgs s__law_mixed, defBody s__law_mixed, defScope s__law_mixed, [], []⟩
def d__law_weights : He.DefD := ⟨("_law_weights", none), "_law_weights", "_law_weights", defArgs s__law_weights, defBody s__law_weights, defScope s__law_weights, [], []⟩
def d_Scale___add__ : He.DefD := ⟨("Scale", some "__add__"), "__add__", "Scale.__add__", defArgs s_Scale___add__, defBody s_Scale___add__, defScope s_Scale___add__, [], []⟩
def d_Scale___eq__ : He.DefD := ⟨("Scale", some "__eq__"), "__eq__", "Scale.__eq__", defArgs s_Scale___eq__, defBody s_Scale___eq__, defScope s_Scale___eq__, [], []⟩
def d_law : He.DefD := ⟨("law", none), "law", "law", defArgs s_law, defBody s_law, defScope s_law, [], []⟩
def fn : List He.DefD := [d__law_take, d__law_big, d__law_cell, d_is_name, d_is_integer, d_is_weight, d_BadWeights___init__, d_check_weights, d_Scale___init__, d__law_made, d__law_name, d__law_names, d__law_is_integer, d__law_same, d__law_weight, d_Scale_weight, d__law_scale_fits, d__law_turnedO, d__law_mixed, d__law_weights, d_Scale___add__, d_Scale___eq__, d_law]
def fa : List He.Fa := [He.Fa.free "abs", He.Fa.free "bool", He.Fa.free "dict", He.Fa.free "int", He.Fa.free "isinstance", He.Fa.free "len", He.Fa.free "list", He.Fa.free "min", He.Fa.free "range", He.Fa.free "reversed", He.Fa.free "sorted", He.Fa.free "str", He.Fa.free "tuple", He.Fa.str "LETTERS" "abcdefghijklmnopqrstuvwxyz", He.Fa.glo "BadWeights", He.Fa.glo "QuietError", He.Fa.glo "Scale", He.Fa.glo "_law_take", He.Fa.glo "_law_big", He.Fa.glo "_law_cell", He.Fa.glo "is_name", He.Fa.glo "is_integer", He.Fa.glo "is_weight", He.Fa.glo "check_weights", He.Fa.glo "_law_made", He.Fa.glo "_law_name", He.Fa.glo "_law_names", He.Fa.glo "_law_is_integer", He.Fa.glo "_law_same", He.Fa.glo "_law_weight", He.Fa.glo "_law_scale_fits", He.Fa.glo "_law_turned", He.Fa.glo "_law_mixed", He.Fa.glo "_law_weights", He.Fa.glo "law", He.Fa.noat "BadWeights" "name", He.Fa.meth "BadWeights" "__init__", He.Fa.mkr "Scale", He.Fa.meth "Scale" "weight", He.Fa.meth "Scale" "__add__", He.Fa.meth "Scale" "__eq__", He.Fa.cls "Scale", He.Fa.noat "Scale" "rest", He.Fa.noat "Scale" "special"]
def ex : List (PySem.W.Frag → Bool) := [(fun K => qInitB K "QuietError"), (fun K => oexB K (He.ga K "BadWeights")), (fun K => decide (PySem.W.typeIn K (.ref (He.ma K (He.ga K "BadWeights") "__init__")) = some (.type "function"))), (fun K => PySem.W.selfFirst K (He.ga K "Scale")), (fun K => insB K (He.ga K "Scale")), (fun K => decide (PySem.W.kitOne K (.ref (He.ga K "Scale")) (.ref (He.ga K "Scale")) = some true))]
abbrev R : PySem.W.OpenRow := PySem.W.OpenLaw.row PySem.Challenge.rw_quietpairs_k68_scales
abbrev hk : PySem.W.Hook := hookY 5 ex fa fn
def ob (s : PySem.W.SharedT) : Bool × He.AlD := obsYG 5 ex fa fn (HandSHeadRun.getT s)
theorem ob_eq (s : PySem.W.SharedT) : ob s = hk.obs s.abs := obsYG_eq (HandSHeadRun.getT_eq s)
def loose : List Str := "QuietError" :: "NoDealing" :: "BadWeights" :: "LETTERS" :: "is_name" :: "is_integer" :: "same_keys" :: "is_dealing" :: "check_dealing" :: "is_weight" :: "check_weights" :: "Scale" :: "_law_is_integer" :: "_law_cell" :: "_law_take" :: "_law_name" :: "_law_names" :: "_law_mixed" :: "_law_turned" :: "_law_same" :: "_law_big" :: "_law_weights" :: "_law_weight" :: "_law_made" :: "_law_scale_fits" :: []
theorem run (w : World) : HandSHeadRun.RunEq R (PySem.W.view R.prog [30]) hk ob 20000 loose w := by
  intro os
  kernel_rfl
end Hd

set_option Elab.async false
set_option linter.all false
set_option maxRecDepth 100000
set_option maxHeartbeats 4000000
namespace Q
open PySem PySem.Spec PyProof.Rows L2
/-! ### the order of texts -/
def leS (a b : Str) : Bool := !ltCps b.cps.toList a.cps.toList
theorem leS_iff {a b : Str} : leS a b = true ↔ a.cps.toList ≤ b.cps.toList := by
  unfold leS
  rw [ltCps_eq, Bool.not_eq_true', decide_eq_false_iff_not]
  exact Iff.rfl
theorem leS_trans (a b c : Str) (h1 : leS a b = true) (h2 : leS b c = true) : leS a c = true := leS_iff.mpr (List.le_trans (leS_iff.mp h1) (leS_iff.mp h2))
theorem leS_total (a b : Str) : (leS a b || leS b a) = true := by
  rw [Bool.or_eq_true]
  rcases List.le_total a.cps.toList b.cps.toList with h | h
  · exact .inl (leS_iff.mpr h)
  · exact .inr (leS_iff.mpr h)
theorem str_ext {a b : Str} (h : a.cps.toList = b.cps.toList) : a = b := by
  obtain ⟨x⟩ := a
  obtain ⟨y⟩ := b
  have : x = y := by
    have h : x.toList = y.toList := h
    exact Array.toList_inj.mp h
  rw [this]
theorem leS_anti {a b : Str} (h1 : leS a b = true) (h2 : leS b a = true) : a = b := str_ext (List.le_antisymm (leS_iff.mp h1) (leS_iff.mp h2))
theorem leS_refl (a : Str) : leS a a = true := by
  have := leS_total a a
  simpa using this
def ltS (a b : Str) : Prop := a.cps.toList < b.cps.toList
instance (a b : Str) : Decidable (ltS a b) := inferInstanceAs (Decidable (a.cps.toList < b.cps.toList))
theorem not_ltS {a b : Str} : ¬ ltS a b ↔ leS b a = true := by rw [leS_iff]; exact Iff.rfl
theorem ltS_iff {a b : Str} : ltS a b ↔ leS a b = true ∧ a ≠ b := by
  constructor
  · intro h
    refine ⟨?_, fun e => ?_⟩
    · rcases Bool.or_eq_true _ _ ▸ leS_total a b with k | k
      · exact k
      · exact absurd h (not_ltS.mpr k)
    · subst e
      exact not_ltS.mpr (leS_refl a) h
  · rintro ⟨h1, h2⟩
    by_cases h : ltS a b
    · exact h
    · exact absurd (leS_anti h1 (not_ltS.mp h)) h2
theorem rising_pw : ∀ (p : Str) (l : List Str), risingS p l = true → (p :: l).Pairwise (fun a b => leS a b = true)
  | p, [], _ => List.pairwise_singleton _ _
  | p, x :: r, h => by
    have h : (leS p x && risingS x r) = true := h
    obtain ⟨h1, h2⟩ := Bool.and_eq_true_iff.mp h
    have ih := rising_pw x r h2
    rw [List.pairwise_cons] at ih ⊢
    refine ⟨fun y m => ?_, List.pairwise_cons.mpr ih⟩
    rcases List.mem_cons.mp m with rfl | m
    · exact h1
    · exact leS_trans _ _ _ h1 (ih.1 y m)
theorem sorted_pw {l : List Str} (h : sortedS l = true) : l.Pairwise (fun a b => leS a b = true) := by
  cases l with
  | nil => exact List.Pairwise.nil
  | cons x r => exact rising_pw x r h
def sortS (xs : List Str) : List Str := xs.mergeSort leS
theorem sortS_perm (xs : List Str) : (sortS xs).Perm xs := List.mergeSort_perm xs leS
theorem sortS_pw (xs : List Str) : (sortS xs).Pairwise (fun a b => leS a b = true) := List.pairwise_mergeSort leS_trans leS_total xs
theorem sorted_eq {xs ys : List Str} (p : ys.Perm xs) (s : sortedS ys = true) : ys = sortS xs :=
  List.Perm.eq_of_pairwise (fun _ _ _ _ h1 h2 => leS_anti h1 h2) (sorted_pw s) (sortS_pw xs) (p.trans (sortS_perm xs).symm)
theorem mem_sortS {xs : List Str} {x : Str} : x ∈ sortS xs ↔ x ∈ xs := (sortS_perm xs).mem_iff
section
variable {K : PySem.W.Frag} {H : Hp} {Q : VK} {p : Addr} {ss : List Str} {kvs : List (Key × V)}
theorem x_srtL (hp : SqL K H p (ss.map V.str)) (hz : ss.length < 64) (h : New (.lst ((sortS ss).map V.str)) Q H) : rSortL K [.ref p] H Q := x_sortL hp hz fun ys pe so => by rw [sorted_eq pe so]; exact h
theorem x_srtD (hp : H p = some (.dK kvs)) (hk : kvs.map (·.1) = ss.map Sum.inr) (hz : ss.length < 64) (h : New (.lst ((sortS ss).map V.str)) Q H) : rSortD [.ref p] H Q := x_sortD hp hk hz fun ys pe so => by rw [sorted_eq pe so]; exact h
end
end Q

set_option Elab.async false
set_option linter.all false
set_option maxRecDepth 100000
set_option maxHeartbeats 4000000
namespace Q
open PySem PySem.Spec PyProof.Rows L2
local macro_rules | `(tactic| walk_at "bf") => `(tactic| first | assumption | (refine' bstep (by assumption) ?r; case r => walk_at "bf") | fail)
local macro_rules | `(tactic| walk_at "rp") => `(tactic| first | assumption | exact Rep.int _ | exact Rep.bl _ | exact Rep.non | (refine' Rep.mono (by assumption) ?r; case r => walk_at "rp") | fail)
local macro_rules | `(tactic| walk_at "hf") => `(tactic| first | assumption | exact HS.up (by assumption) (by walk_at "bf") | exact HS.get (by assumption) List.mem_cons_self | exact HS.get (by assumption) (List.mem_cons_of_mem _ List.mem_cons_self) | exact HS.get (by assumption) (List.mem_cons_of_mem _ (List.mem_cons_of_mem _ List.mem_cons_self)) | exact HS.get (by assumption) (List.mem_cons_of_mem _ (List.mem_cons_of_mem _ (List.mem_cons_of_mem _ List.mem_cons_self))) | fail)
local macro_rules | `(tactic| walk_at "sl") => `(tactic| first | assumption | exact SqL.of (by walk_at "hf") | fail)
local macro_rules | `(tactic| walk_at "st") => `(tactic| first | assumption | exact SqT.of (by walk_at "hf") | fail)
local macro_rules | `(tactic| walk_at "sz") => `(tactic| first | assumption | (refine small_le ?_; first | assumption | omega | (simp; done) | (simp; omega)) | fail)
/-! ### names -/
abbrev letters : Str := "abcdefghijklmnopqrstuvwxyz"
def okName (x : Str) : Bool := decide (1 ≤ x.length) && (decide (x.length ≤ 8) && x.cps.toList.all fun c => decide (c ∈ letters.cps.toList))
def isName : D → Bool
  | .str x => okName x
  | _ => false
abbrev N_is_name : List Str := ["value", "letter"]
def t_is_name (K : PySem.W.Frag) (E : XK) : TS := (tSeq (tIfS (tOr (tNot (tB (tCB (rIsi K) (tCons (tVar 0) (tCons (tC (.ty "str")) tNil))))) (tOr (tTest (tOp rLtI (tCB (rLenA K) (tCons (tVar 0) tNil)) (tC (.int 1)))) (tTest (tOp rGtI (tCB (rLenA K) (tCons (tVar 0) tNil)) (tC (.int 8)))))) (tRet (tC (.bl false))) tNext)
  (tSeq (tFor (iStr (tVar 0)) (gName 1) (tIfS (tTest (tOp rNotInS (tVar 1) (tC (.str "abcdefghijklmnopqrstuvwxyz")))) (tRet (tC (.bl false))) tNext))
  (tRet (tC (.bl true)))))
def sp_is_name (K : PySem.W.Frag) : Sp := fun vs H Q E => ∃ v B d, vs = [v] ∧ Same B H ∧ Rep K B v d ∧ Ret B H Q fun _ r => r = .bl (isName d)
theorem pure_is_name {K : PySem.W.Frag} {vs : List V} {H : Hp} {Q : VK} {E : XK} (h : sp_is_name K vs H Q E) : t_is_name K E { nx := fun _ H' => Q .non H', rt := Q } (start N_is_name vs) H := by
  obtain ⟨v, B, d, rfl, sB, r, k⟩ := h
  have hs := HS.start sB
  show t_is_name K E _ [some v, none] H
  unfold t_is_name
  ((with_reducible refine x_seq ?_); (with_reducible refine x_if ?_); (with_reducible refine x_or ?_); (with_reducible refine x_not ?_); (with_reducible refine x_tB ?_); (with_reducible refine x_cb ?_); (with_reducible refine x_cons ?_); ((with_reducible refine' x_var ?z8h ?_); case z8h => rfl); (with_reducible refine x_cons ?_); (with_reducible refine x_c ?_); (with_reducible refine x_nil ?_); ((with_reducible refine' x_isiD ?z12h1 ?z12h2 ?z12h3 ?_); (case z12h1 => assumption); (case z12h2 => walk_at "rp"); (case z12h3 => decide)); (with_reducible refine x_exb ?_))
  cases r with
  | str hx =>
    rename_i x
    refine x_ite (fun h => by simp [D.isT] at h) (fun _ => ?_)
    ((with_reducible refine x_or ?_); (with_reducible refine x_test ?_); (with_reducible refine x_op ?_); (with_reducible refine x_cb ?_); (with_reducible refine x_cons ?_); ((with_reducible refine' x_var ?z19h ?_); case z19h => rfl); (with_reducible refine x_nil ?_); ((with_reducible refine' x_lenS ?z21h ?_); case z21h => walk_at "sz"); (with_reducible refine x_c ?_); (with_reducible refine x_ltI ?_); (with_reducible refine x_exb ?_))
    refine x_ite (fun h => ?_) (fun h1 => ?_)
    · ((with_reducible refine x_tt _ _ ?_); (with_reducible refine x_ret ?_); (with_reducible refine x_c ?_))
      refine k B H _ hs (congrArg V.bl ?_)
      have h := of_decide_eq_true h
      have : ¬ 1 ≤ x.length := by omega
      simp only [isName, okName, decide_eq_false this, Bool.false_and]
    ((with_reducible refine x_test ?_); (with_reducible refine x_op ?_); (with_reducible refine x_cb ?_); (with_reducible refine x_cons ?_); ((with_reducible refine' x_var ?z32h ?_); case z32h => rfl); (with_reducible refine x_nil ?_); ((with_reducible refine' x_lenS ?z34h ?_); case z34h => walk_at "sz"); (with_reducible refine x_c ?_); (with_reducible refine x_gtI ?_); (with_reducible refine x_exb ?_))
    refine x_ite (fun h => ?_) (fun h2 => ?_)
    · ((with_reducible refine x_ret ?_); (with_reducible refine x_c ?_))
      refine k B H _ hs (congrArg V.bl ?_)
      have h := of_decide_eq_true h
      have : ¬ x.length ≤ 8 := by omega
      simp only [isName, okName, decide_eq_false this, Bool.false_and, Bool.and_false]
    have h1 : 1 ≤ x.length := by have := of_decide_eq_false h1; omega
    have h2 : x.length ≤ 8 := by have := of_decide_eq_false h2; omega
    ((with_reducible refine x_next ?_); (with_reducible refine x_seq ?_); (with_reducible refine x_for ?_); (with_reducible refine x_iStr ?_); ((with_reducible refine' x_var ?z44h ?_); case z44h => rfl))
    refine ⟨x, rfl, ?_⟩
    refine l_str (α := Option V) (σf := fun u => [some (.str x), u]) (Mf := fun _ => []) (P := fun i _ _ => ∀ c ∈ x.cps.toList.take i, c ∈ letters.cps.toList) (s0 := none) hs (by simp) (fun i c s B1 H1 hi sb hs1 p => ?_) (fun s B1 H1 sb hs1 p => ?_)
    · (((with_reducible refine x_gname ?_); try simp only [List.set_cons_zero, List.set_cons_succ]); (with_reducible refine x_if ?_); (with_reducible refine x_test ?_); (with_reducible refine x_op ?_); ((with_reducible refine' x_var ?z49h ?_); case z49h => rfl); (with_reducible refine x_c ?_); (with_reducible refine x_notInS ?_); (with_reducible refine x_exb ?_))
      refine x_ite (fun h => ?_) (fun h => ?_)
      · ((with_reducible refine x_ret ?_); (with_reducible refine x_c ?_))
        refine k B1 H1 _ (hs.call hs1) (congrArg V.bl ?_)
        have hc : ¬ c ∈ letters.cps.toList := by simpa using h
        have hall : (x.cps.toList.all fun c => decide (c ∈ letters.cps.toList)) = false := by
          rw [List.all_eq_false]
          exact ⟨c, List.mem_of_getElem? hi, by simpa using hc⟩
        simp only [isName, okName, hall, Bool.and_false]
      · (with_reducible refine x_next ?_)
        refine ⟨some _, B1, rfl, sb, hs1, fun c' m => ?_⟩
        have hc : c ∈ letters.cps.toList := by simpa using h
        rw [List.take_succ, hi] at m
        rcases List.mem_append.mp m with m | m
        · exact p c' m
        · have : c' = c := by simpa using m
          rw [this]; exact hc
    · ((with_reducible refine x_ret ?_); (with_reducible refine x_c ?_))
      refine k B1 H1 _ (hs.call hs1) (congrArg V.bl ?_)
      rw [List.take_length] at p
      have hall : (x.cps.toList.all fun c => decide (c ∈ letters.cps.toList)) = true := List.all_eq_true.mpr fun c m => decide_eq_true (p c m)
      simp only [isName, okName, decide_eq_true h1, decide_eq_true h2, hall, Bool.and_self]
  | _ =>
    refine x_ite (fun h => ?_) (fun h => by simp [D.isT] at h)
    ((with_reducible refine x_tt _ _ ?_); (with_reducible refine x_ret ?_); (with_reducible refine x_c ?_))
    exact k B H _ hs rfl
end Q

set_option Elab.async false
set_option linter.all false
set_option maxRecDepth 100000
set_option maxHeartbeats 4000000
namespace Q
open PySem PySem.Spec PyProof.Rows L2
local macro_rules | `(tactic| walk_at "bf") => `(tactic| first | assumption | (refine' bstep (by assumption) ?r; case r => walk_at "bf") | fail)
local macro_rules | `(tactic| walk_at "rp") => `(tactic| first | assumption | exact Rep.int _ | exact Rep.bl _ | exact Rep.non | (refine' Rep.mono (by assumption) ?r; case r => walk_at "rp") | fail)
local macro_rules | `(tactic| walk_at "hf") => `(tactic| first | assumption | exact HS.up (by assumption) (by walk_at "bf") | exact HS.get (by assumption) List.mem_cons_self | exact HS.get (by assumption) (List.mem_cons_of_mem _ List.mem_cons_self) | exact HS.get (by assumption) (List.mem_cons_of_mem _ (List.mem_cons_of_mem _ List.mem_cons_self)) | exact HS.get (by assumption) (List.mem_cons_of_mem _ (List.mem_cons_of_mem _ (List.mem_cons_of_mem _ List.mem_cons_self))) | fail)
local macro_rules | `(tactic| walk_at "sl") => `(tactic| first | assumption | exact SqL.of (by walk_at "hf") | fail)
local macro_rules | `(tactic| walk_at "st") => `(tactic| first | assumption | exact SqT.of (by walk_at "hf") | fail)
local macro_rules | `(tactic| walk_at "sz") => `(tactic| first | assumption | (refine small_le ?_; first | assumption | omega | (simp; done) | (simp; omega)) | fail)
/-! ### same_keys, fits_wishes -/
def sameKeys (d : D) (xs : List Str) : Bool := match d with
  | .dct ds => decide (ds.length = xs.length) && xs.all fun x => (dval ds (.inr x)).isSome
  | _ => false
abbrev N_same_keys : List Str := ["value", "people", "person"]
def t_same_keys (K : PySem.W.Frag) (E : XK) : TS := (tSeq (tIfS (tOr (tNot (tB (tCB (rIsi K) (tCons (tVar 0) (tCons (tC (.ty "dict")) tNil))))) (tTest (tOp rNe (tCB rLenD (tCons (tVar 0) tNil)) (tCB (rLenA K) (tCons (tVar 1) tNil))))) (tRet (tC (.bl false))) tNext)
  (tSeq (tFor (iSeq K (tVar 1)) (gName 2) (tIfS (tB (tDNotIn (tVar 2) (tVar 0))) (tRet (tC (.bl false))) tNext))
  (tRet (tC (.bl true)))))
def sp_same_keys (K : PySem.W.Frag) : Sp := fun vs H Q E => ∃ v u B d xs, vs = [v, u] ∧ Same B H ∧ Rep K B v d ∧ Sq B u xs ∧ Ret B H Q fun _ r => r = .bl (sameKeys d xs)
/-- a row of different people without the person -/
def fitsGo (xs : List Str) (p : Str) : List Str → List D → Bool
  | _, [] => true
  | seen, .str x :: r => !decide (x = p) && (decide (x ∈ xs) && (!decide (x ∈ seen) && fitsGo xs p (seen ++ [x]) r))
  | _, _ => false
def fitsW (d : D) (xs : List Str) (p : Str) : Bool := match d with
  | .lst ds => fitsGo xs p [] ds
  | _ => false
abbrev N_fits_wishes : List Str := ["value", "people", "person", "seen", "item"]
def t_fits_wishes (K : PySem.W.Frag) (E : XK) : TS := (tSeq (tIfS (tNot (tB (tCB (rIsi K) (tCons (tVar 0) (tCons (tC (.ty "list")) tNil))))) (tRet (tC (.bl false))) tNext)
  (tSeq (tAsg (tLst tNil) (gName 3))
  (tSeq (tFor (iList K (tVar 0)) (gName 4) (tSeq (tIfS (tOr (tNot (tB (tCB (rIsi K) (tCons (tVar 4) (tCons (tC (.ty "str")) tNil))))) (tOr (tTest (tOp rEq (tVar 4) (tVar 2))) (tOr (tTest (tOp (rIn K true) (tVar 4) (tVar 1))) (tTest (tOp (rIn K false) (tVar 4) (tVar 3)))))) (tRet (tC (.bl false))) tNext)
  (tDrop (tBM K "list" rAppend (tVar 3) (tCons (tVar 4) tNil)))))
  (tRet (tC (.bl true))))))
def sp_fits_wishes (K : PySem.W.Frag) : Sp := fun vs H Q E => ∃ v u B d xs p, vs = [v, u, .str p] ∧ Same B H ∧ Rep K B v d ∧ Sq B u xs ∧ Ret B H Q fun _ r => r = .bl (fitsW d xs p)
end Q

set_option Elab.async false
set_option linter.all false
set_option maxRecDepth 100000
set_option maxHeartbeats 4000000
namespace Q
open PySem PySem.Spec PyProof.Rows L2
local macro_rules | `(tactic| walk_at "bf") => `(tactic| first | assumption | (refine' bstep (by assumption) ?r; case r => walk_at "bf") | fail)
local macro_rules | `(tactic| walk_at "rp") => `(tactic| first | assumption | exact Rep.int _ | exact Rep.bl _ | exact Rep.non | (refine' Rep.mono (by assumption) ?r; case r => walk_at "rp") | fail)
local macro_rules | `(tactic| walk_at "hf") => `(tactic| first | assumption | exact HS.up (by assumption) (by walk_at "bf") | exact HS.get (by assumption) List.mem_cons_self | exact HS.get (by assumption) (List.mem_cons_of_mem _ List.mem_cons_self) | exact HS.get (by assumption) (List.mem_cons_of_mem _ (List.mem_cons_of_mem _ List.mem_cons_self)) | exact HS.get (by assumption) (List.mem_cons_of_mem _ (List.mem_cons_of_mem _ (List.mem_cons_of_mem _ List.mem_cons_self))) | fail)
local macro_rules | `(tactic| walk_at "sl") => `(tactic| first | assumption | exact SqL.of (by walk_at "hf") | fail)
local macro_rules | `(tactic| walk_at "st") => `(tactic| first | assumption | exact SqT.of (by walk_at "hf") | fail)
local macro_rules | `(tactic| walk_at "sz") => `(tactic| first | assumption | (refine small_le ?_; first | assumption | omega | (simp; done) | (simp; omega)) | fail)
/-! ### check_people, check_wishes -/
/-- the first place of an item that is no name or stood before -/
def badAt : Nat → List Str → List D → Option Nat
  | _, _, [] => none
  | i, seen, .str x :: r => if okName x && !decide (x ∈ seen) then badAt (i + 1) (seen ++ [x]) r else some i
  | i, _, _ :: _ => some i
def badPeople : D → Option Int
  | .tup ds => if ds.length ≤ 16 then (badAt 0 [] ds).map fun (n : Nat) => (n : Int) else some (-1)
  | _ => some (-1)
theorem use_is_name {K : PySem.W.Frag} {S : List Addr} {B0 H0 B H : Hp} {M : List (Addr × HO)} {Q : VK} {E : XK} {v : V} {d : D} (hs : HS S B0 H0 B H M) (r : Rep K B v d)
    (k : ∀ B' H', Same B B' → HS S B0 H0 B' H' M → Q (.bl (isName d)) H') : sp_is_name K [v] H Q E := ⟨v, B, d, rfl, hs.bh, r, fun B' H' v' c e => by rw [e]; exact k B' H' c.bb (hs.call c)⟩
abbrev N_check_people : List Str := ["people", "seen", "index", "item"]
def t_check_people (K : PySem.W.Frag) (E : XK) : TS := (tSeq (tIfS (tOr (tNot (tB (tCB (rIsi K) (tCons (tVar 0) (tCons (tC (.ty "tuple")) tNil))))) (tTest (tOp rGtI (tCB (rLenA K) (tCons (tVar 0) tNil)) (tC (.int 16))))) (tRz1 (He.ga K "BadPeople") "index" (tUn rNegI (tC (.int 1))) (WE0 E)) tNext)
  (tSeq (tAsg (tLst tNil) (gName 1))
  (tFor (iEnumT K (tCons (tVar 0) tNil)) (gTup K 2 (gCons (gName 2) (gCons (gName 3) gNil))) (tSeq (tIfS (tOr (tNot (tB (tCl (sp_is_name K) (WE0 E) (tCons (tVar 3) tNil)))) (tTest (tOp (rIn K false) (tVar 3) (tVar 1)))) (tRz1 (He.ga K "BadPeople") "index" (tVar 2) (WE0 E)) tNext)
  (tDrop (tBM K "list" rAppend (tVar 1) (tCons (tVar 3) tNil)))))))
def sp_check_people (K : PySem.W.Frag) : Sp := fun vs H Q E => ∃ v B d, vs = [v] ∧ Same B H ∧ Rep K B v d ∧ match badPeople d with
  | none => Ret B H Q fun _ r => r = .non
  | some i => Thr K B H E "BadPeople" [("index", .int i)]
end Q

set_option Elab.async false
set_option linter.all false
set_option maxRecDepth 100000
set_option maxHeartbeats 4000000
namespace Q
open PySem PySem.Spec PyProof.Rows L2
local macro_rules | `(tactic| walk_at "bf") => `(tactic| first | assumption | (refine' bstep (by assumption) ?r; case r => walk_at "bf") | fail)
local macro_rules | `(tactic| walk_at "rp") => `(tactic| first | assumption | exact Rep.int _ | exact Rep.bl _ | exact Rep.non | (refine' Rep.mono (by assumption) ?r; case r => walk_at "rp") | fail)
local macro_rules | `(tactic| walk_at "hf") => `(tactic| first | assumption | exact HS.up (by assumption) (by walk_at "bf") | exact HS.get (by assumption) List.mem_cons_self | exact HS.get (by assumption) (List.mem_cons_of_mem _ List.mem_cons_self) | exact HS.get (by assumption) (List.mem_cons_of_mem _ (List.mem_cons_of_mem _ List.mem_cons_self)) | exact HS.get (by assumption) (List.mem_cons_of_mem _ (List.mem_cons_of_mem _ (List.mem_cons_of_mem _ List.mem_cons_self))) | fail)
local macro_rules | `(tactic| walk_at "sl") => `(tactic| first | assumption | exact SqL.of (by walk_at "hf") | fail)
local macro_rules | `(tactic| walk_at "st") => `(tactic| first | assumption | exact SqT.of (by walk_at "hf") | fail)
local macro_rules | `(tactic| walk_at "sz") => `(tactic| first | assumption | (refine small_le ?_; first | assumption | omega | (simp; done) | (simp; omega)) | fail)
/-! ### check_wishes -/
def vald (d : D) (p : Str) : D := match d with
  | .dct ds => (dval ds (.inr p)).getD .non
  | _ => .non
def badWishes (d : D) (xs : List Str) : Option Str := if sameKeys d xs then (sortS xs).find? (fun p => !fitsW (vald d p) xs p) else some ""
theorem sameKeys_dct {d : D} {xs : List Str} (h : sameKeys d xs = true) : ∃ ds, d = .dct ds ∧ ds.length = xs.length ∧ ∀ x ∈ xs, (dval ds (.inr x)).isSome = true := by
  cases d with
  | dct ds =>
    obtain ⟨h1, h2⟩ := Bool.and_eq_true_iff.mp h
    exact ⟨ds, rfl, of_decide_eq_true h1, List.all_eq_true.mp h2⟩
  | _ => cases h
abbrev N_check_wishes : List Str := ["people", "wishes", "person"]
def t_check_wishes (K : PySem.W.Frag) (E : XK) : TS := (tSeq (tIfS (tNot (tB (tCl (sp_same_keys K) (WE0 E) (tCons (tVar 1) (tCons (tVar 0) tNil))))) (tRz1 (He.ga K "BadWishes") "person" (tC (.str "")) (WE0 E)) tNext)
  (tFor (iList K (tCB (rSortT K) (tCons (tVar 0) tNil))) (gName 2) (tIfS (tNot (tB (tCl (sp_fits_wishes K) (WE0 E) (tCons (tDGet (tVar 1) (tVar 2)) (tCons (tVar 0) (tCons (tVar 2) tNil)))))) (tRz1 (He.ga K "BadWishes") "person" (tVar 2) (WE0 E)) tNext)))
def sp_check_wishes (K : PySem.W.Frag) : Sp := fun vs H Q E => ∃ a u B d xs, vs = [.ref a, u] ∧ Same B H ∧ B a = some (.tup (xs.map V.str)) ∧ xs.length ≤ 16 ∧ Rep K B u d ∧ match badWishes d xs with
  | none => Ret B H Q fun _ r => r = .non
  | some p => Thr K B H E "BadWishes" [("person", .str p)]
end Q

set_option Elab.async false
set_option linter.all false
set_option maxRecDepth 100000
set_option maxHeartbeats 4000000
namespace Q
open PySem PySem.Spec PyProof.Rows L2
/-! ### groups -/
structure Grp where
  names : List Str
  wish : Str → List Str
def Grp.open (G : Grp) (p : Str) : List Str := (G.wish p).filter fun b => decide (p ∈ G.wish b)
structure Grp.Ok (G : Grp) : Prop where
  nd : G.names.Nodup
  few : G.names.length ≤ 16
  nm : ∀ x ∈ G.names, okName x = true
  wn : ∀ p ∈ G.names, (G.wish p).Nodup
  ws : ∀ p ∈ G.names, p ∉ G.wish p
  wi : ∀ p ∈ G.names, ∀ q ∈ G.wish p, q ∈ G.names
inductive GRes where
  | ok (G : Grp) | bp (i : Int) | bw (p : Str)
def D.strL : List D → List Str
  | [] => []
  | .str x :: r => x :: D.strL r
  | _ :: r => D.strL r
def D.asStrs : D → List Str
  | .lst ds => D.strL ds
  | .tup ds => D.strL ds
  | _ => []
def mkGroup (dp dw : D) : GRes := match badPeople dp with
  | some i => .bp i
  | none => match badWishes dw dp.asStrs with
    | some p => .bw p
    | none => .ok ⟨dp.asStrs, fun p => (vald dw p).asStrs⟩
/-! ### how a heap shows them -/
def zipK (xs : List Str) (al : List Addr) : List (Key × V) := (xs.zip al).map fun q => (.inr q.1, .ref q.2)
theorem zipK_keys {xs : List Str} {al : List Addr} (h : al.length = xs.length) : (zipK xs al).map (·.1) = xs.map Sum.inr := by
  unfold zipK
  rw [List.map_map]
  have : (xs.zip al).map Prod.fst = xs := List.map_fst_zip (by omega)
  rw [← this, List.map_map, List.map_fst_zip (by omega)]
  congr 1
theorem zipK_val {p : Str} : ∀ {xs : List Str} {al : List Addr}, al.length = xs.length → xs.Nodup → p ∈ xs → ∃ (j : Nat) (a : Addr), xs[j]? = some p ∧ al[j]? = some a ∧ valV (zipK xs al) (.inr p) = some (.ref a)
  | [], _, _, _, m => nomatch m
  | x :: r, [], h, _, _ => by simp at h
  | x :: r, a :: al, h, nd, m => by
    by_cases e : x = p
    · subst e
      exact ⟨0, a, rfl, rfl, valV_pos (p := ((Sum.inr x : Key), V.ref a)) rfl⟩
    · have m' : p ∈ r := by
        rcases List.mem_cons.mp m with z | z
        · exact absurd z.symm e
        · exact z
      obtain ⟨j, b, h1, h2, h3⟩ := zipK_val (xs := r) (al := al) (by simpa using h) (List.nodup_cons.mp nd).2 m'
      refine ⟨j + 1, b, by simpa using h1, by simpa using h2, ?_⟩
      show valV (((Sum.inr x : Key), V.ref a) :: zipK r al) (.inr p) = _
      rw [valV_neg (p := ((Sum.inr x : Key), V.ref a)) (fun z => e (Sum.inr.inj z))]
      exact h3
theorem zipK_none {p : Str} : ∀ {xs : List Str} {al : List Addr}, p ∉ xs → valV (zipK xs al) (.inr p) = none
  | [], _, _ => rfl
  | x :: r, [], _ => rfl
  | x :: r, a :: al, m => by
    show valV (((Sum.inr x : Key), V.ref a) :: zipK r al) (.inr p) = _
    rw [valV_neg (p := ((Sum.inr x : Key), V.ref a)) (fun z => m (by rw [← Sum.inr.inj z]; exact List.mem_cons_self))]
    exact zipK_none fun z => m (List.mem_cons_of_mem _ z)
/-- a dict from the names xs to objects of which R holds -/
def DAt (B : Hp) (d : Addr) (xs : List Str) (R : Str → Addr → Prop) : Prop := ∃ al : List Addr, al.length = xs.length ∧ B d = some (.dK (zipK xs al)) ∧ ∀ (j : Nat) p a, xs[j]? = some p → al[j]? = some a → R p a
theorem DAt.get {B : Hp} {d : Addr} {xs : List Str} {R : Str → Addr → Prop} (h : DAt B d xs R) (nd : xs.Nodup) {p : Str} (m : p ∈ xs) : ∃ kvs a, B d = some (.dK kvs) ∧ valV kvs (.inr p) = some (.ref a) ∧ R p a := by
  obtain ⟨al, hl, e, hR⟩ := h
  obtain ⟨j, a, h1, h2, h3⟩ := zipK_val hl nd m
  exact ⟨_, a, e, h3, hR j p a h1 h2⟩
theorem DAt.has {B : Hp} {d : Addr} {xs : List Str} {R : Str → Addr → Prop} (h : DAt B d xs R) (nd : xs.Nodup) (p : Str) : ∃ kvs, B d = some (.dK kvs) ∧ (valV kvs (.inr p)).isSome = decide (p ∈ xs) := by
  obtain ⟨al, hl, e, hR⟩ := h
  refine ⟨_, e, ?_⟩
  by_cases m : p ∈ xs
  · obtain ⟨j, a, _, _, h3⟩ := zipK_val hl nd m
    rw [h3, decide_eq_true m]; rfl
  · rw [zipK_none m, decide_eq_false m]; rfl
theorem DAt.mono {B B' : Hp} {d : Addr} {xs : List Str} {R R' : Str → Addr → Prop} (s : Same B B') (hR : ∀ p a, R p a → R' p a) (h : DAt B d xs R) : DAt B' d xs R' := by
  obtain ⟨al, hl, e, h⟩ := h
  exact ⟨al, hl, s _ _ e, fun j p a h1 h2 => hR _ _ (h j p a h1 h2)⟩
def enumK (row : List Str) : List (Key × V) := row.zipIdx.map fun q => (.inr q.1, .int (q.2 : Nat))
def gf (n l m q : Addr) : List (Str × V) := [("names", .ref n), ("lists", .ref l), ("mutual", .ref m), ("places", .ref q)]
def LAt (B : Hp) (f : Str → List Str) : Str → Addr → Prop := fun p a => B a = some (.lst ((f p).map V.str))
def PAt (B : Hp) (f : Str → List Str) : Str → Addr → Prop := fun p a => B a = some (.dK (enumK (f p)))
structure GAt (K : PySem.W.Frag) (B : Hp) (p : Addr) (G : Grp) : Prop where
  ex : ∃ dx n l m q, B p = some (.ins (He.ga K "Group") dx (gf n l m q)) ∧ B n = some (.lst (G.names.map V.str)) ∧ DAt B l G.names (LAt B G.wish) ∧ DAt B m G.names (LAt B G.open) ∧ DAt B q G.names (PAt B G.open)
  ok : G.Ok
theorem GAt.mono {K : PySem.W.Frag} {B B' : Hp} {p : Addr} {G : Grp} (s : Same B B') (h : GAt K B p G) : GAt K B' p G := by
  obtain ⟨⟨dx, n, l, m, q, h1, h2, h3, h4, h5⟩, ok⟩ := h
  exact ⟨⟨dx, n, l, m, q, s _ _ h1, s _ _ h2, h3.mono s fun _ _ z => s _ _ z, h4.mono s fun _ _ z => s _ _ z, h5.mono s fun _ _ z => s _ _ z⟩, ok⟩
/-- what the written part says of the class Group -/
structure GK (K : PySem.W.Frag) : Prop where
  cl : Cls K (He.ga K "Group")
  nn : NoAttr K (He.ga K "Group") "names"
  nl : NoAttr K (He.ga K "Group") "lists"
  nm : NoAttr K (He.ga K "Group") "mutual"
  np : NoAttr K (He.ga K "Group") "places"
  ik : InsK K (He.ga K "Group")
theorem GAt.rep {K : PySem.W.Frag} {B : Hp} {p : Addr} {G : Grp} (gk : GK K) (h : GAt K B p G) : Rep K B (.ref p) (.obj p (He.ga K "Group")) := by
  obtain ⟨⟨dx, n, l, m, q, h1, _⟩, _⟩ := h
  exact .obj h1 gk.ik
theorem putK_new {kvs : List (Key × V)} {k : Key} {v : V} (h : valV kvs k = none) : putK kvs k v = kvs ++ [(k, v)] := by
  unfold putK
  rw [valV_any, h]
  rfl
theorem HS.rot3 {S : List Addr} {B0 H0 B H : Hp} {a b c : Addr × HO} {M : List (Addr × HO)} (h : HS S B0 H0 B H (a :: b :: c :: M)) : HS S B0 H0 B H (c :: a :: b :: M) :=
  h.perm ((List.Perm.cons a (List.Perm.swap c b M)).trans (List.Perm.swap c a (b :: M)))
theorem HS.unrot3 {S : List Addr} {B0 H0 B H : Hp} {a b c : Addr × HO} {M : List (Addr × HO)} (h : HS S B0 H0 B H (c :: a :: b :: M)) : HS S B0 H0 B H (a :: b :: c :: M) :=
  h.perm ((List.Perm.cons a (List.Perm.swap c b M)).trans (List.Perm.swap c a (b :: M))).symm
/-- an object that is made by a call of its class -/
theorem HS.made {S : List Addr} {B0 H0 B H B' H' : Hp} {M : List (Addr × HO)} {x dx C : Addr} (hs : HS S B0 H0 B H M) (hx : H x = none) (hd : H dx = none)
    (c : HS [x] B (upd (upd H dx (.own x)) x (.ins C dx [])) B' H' []) : HS S B0 H0 B' H' M := by
  have up : ∀ b o, H b = some o → upd (upd H dx (.own x)) x (.ins C dx []) b = some o := fun b o e => by rw [upd_ne (ne_of_none e hx), upd_ne (ne_of_none e hd)]; exact e
  refine ⟨hs.bb.trans c.bb, c.bh, fun b u n1 n2 e => ?_, fun q m => ?_, hs.nd⟩
  · obtain ⟨h1, h2⟩ := hs.fr b u n1 n2 e
    exact c.fr b u (by simpa using ne_of_none h2 hx) h1 (up _ _ h2)
  · obtain ⟨h1, h2, h3⟩ := hs.mu q m
    obtain ⟨k1, k2⟩ := c.fr q.1 q.2 (by simpa using ne_of_none h2 hx) h1 (up _ _ h2)
    exact ⟨k1, k2, h3⟩
end Q

set_option Elab.async false
set_option linter.all false
set_option maxRecDepth 100000
set_option maxHeartbeats 4000000
namespace Q
open PySem PySem.Spec PyProof.Rows L2
local macro_rules | `(tactic| walk_at "bf") => `(tactic| first | assumption | (refine' bstep (by assumption) ?r; case r => walk_at "bf") | fail)
local macro_rules | `(tactic| walk_at "rp") => `(tactic| first | assumption | exact Rep.int _ | exact Rep.bl _ | exact Rep.non | (refine' Rep.mono (by assumption) ?r; case r => walk_at "rp") | fail)
local macro_rules | `(tactic| walk_at "hf") => `(tactic| first | assumption | exact HS.up (by assumption) (by walk_at "bf") | exact HS.get (by assumption) List.mem_cons_self | exact HS.get (by assumption) (List.mem_cons_of_mem _ List.mem_cons_self) | exact HS.get (by assumption) (List.mem_cons_of_mem _ (List.mem_cons_of_mem _ List.mem_cons_self)) | exact HS.get (by assumption) (List.mem_cons_of_mem _ (List.mem_cons_of_mem _ (List.mem_cons_of_mem _ List.mem_cons_self))) | fail)
local macro_rules | `(tactic| walk_at "sl") => `(tactic| first | assumption | exact SqL.of (by walk_at "hf") | fail)
local macro_rules | `(tactic| walk_at "st") => `(tactic| first | assumption | exact SqT.of (by walk_at "hf") | fail)
local macro_rules | `(tactic| walk_at "sz") => `(tactic| first | assumption | (refine small_le ?_; first | assumption | omega | (simp; done) | (simp; omega)) | fail)
/-! ### Group.__init__ -/
abbrev N_Group___init__ : List Str := ["self", "people", "wishes", "person", "row", "other", "at"]
def t_Group___init__ (K : PySem.W.Frag) (E : XK) : TS := (tSeq (tDrop (tCl (sp_check_people K) (WE0 E) (tCons (tVar 1) tNil)))
  (tSeq (tDrop (tCl (sp_check_wishes K) (WE0 E) (tCons (tVar 1) (tCons (tVar 2) tNil))))
  (tSeq (sFld K (tVar 0) (tCB (rListOf K) (tCons (tVar 1) tNil)) "names")
  (tSeq (sFld K (tVar 0) (tDc (iTup K (tVar 1)) (gName 3) tYes (tVar 3) (tCB (rListOf K) (tCons (tDGet (tVar 2) (tVar 3)) tNil)) [3]) "lists")
  (tSeq (sFld K (tVar 0) tDNewK "mutual")
  (tSeq (sFld K (tVar 0) tDNewK "places")
  (tFor (iTup K (tVar 1)) (gName 3) (tSeq (tAsg (tLc (iList K (tDGet (tVar 2) (tVar 3))) (gName 5) (tTest (tOp (rIn K false) (tVar 3) (tDGet (tVar 2) (tVar 5)))) (tVar 5) [5]) (gName 4))
  (tSeq (sDPut (tFld K (tVar 0) "mutual") (tVar 3) (tVar 4))
  (sDPut (tFld K (tVar 0) "places") (tVar 3) (tDc (iEnum K (tCons (tVar 4) tNil)) (gTup K 2 (gCons (gName 6) (gCons (gName 5) gNil))) tYes (tVar 5) (tVar 6) [6, 5])))))))))))
def sp_Group___init__ (K : PySem.W.Frag) : Sp := fun vs H Q E => ∃ p v u B dx dp dw, vs = [.ref p, v, u] ∧ Same B H ∧ B p = none ∧ H p = some (.ins (He.ga K "Group") dx []) ∧ Rep K B v dp ∧ Rep K B u dw ∧ match mkGroup dp dw with
  | .ok G => ∀ B' H', HS [p] B H B' H' [] → GAt K B' p G → Q .non H'
  | .bp i => ∀ B' H' d, HS [p] B H B' H' [] → B' d = none → H' d = some (.xd [("index", .int i)]) → E (.ref (He.ga K "BadPeople")) (some d) H'
  | .bw x => ∀ B' H' d, HS [p] B H B' H' [] → B' d = none → H' d = some (.xd [("person", .str x)]) → E (.ref (He.ga K "BadWishes")) (some d) H'
theorem HS.ne01 {S : List Addr} {B0 H0 B H : Hp} {p q : Addr} {o u : HO} {M : List (Addr × HO)} (h : HS S B0 H0 B H ((p, o) :: (q, u) :: M)) : p ≠ q := by
  have := h.nd
  simp only [List.map_cons, List.nodup_cons, List.mem_cons, not_or] at this
  exact this.1.1
theorem all_put {R R' : Str → Addr → Prop} {xs : List Str} {al : List Addr} {i : Nat} {q : Str} {c : Addr} (hq : xs[i]? = some q) (hal : al.length = i) (hR : ∀ (j : Nat) q' b, xs[j]? = some q' → al[j]? = some b → R q' b) (hc : R' q c) (hm : ∀ q' b, R q' b → R' q' b) :
    ∀ (j : Nat) q' b, xs[j]? = some q' → (al ++ [c])[j]? = some b → R' q' b := fun j q' b' h1 h2 => by
  by_cases hj : j < al.length
  · rw [List.getElem?_append_left hj] at h2
    exact hm _ _ (hR j q' b' h1 h2)
  · rw [List.getElem?_append_right (by omega)] at h2
    have hj0 : j - al.length = 0 := by
      by_cases z : j - al.length = 0
      · exact z
      · rw [List.getElem?_eq_none (by simp; omega)] at h2; cases h2
    rw [hj0] at h2
    cases h2
    have : j = i := by omega
    rw [this, hq] at h1
    cases h1
    exact hc
theorem nodup_len {α : Type} [DecidableEq α] : ∀ {xs ys : List α}, xs.Nodup → (∀ x ∈ xs, x ∈ ys) → xs.length ≤ ys.length
  | [], _, _, _ => Nat.zero_le _
  | x :: r, ys, nd, h => by
    rw [List.nodup_cons] at nd
    have hx : x ∈ ys := h x List.mem_cons_self
    have ih := nodup_len (xs := r) (ys := ys.erase x) nd.2 fun y m => (List.mem_erase_of_ne (fun e => nd.1 (by rw [← e]; exact m))).mpr (h y (List.mem_cons_of_mem _ m))
    rw [List.length_erase_of_mem hx] at ih
    have : 0 < ys.length := List.length_pos_of_mem hx
    simp only [List.length_cons]
    omega
theorem valV_none_keys {kvs : List (Key × V)} {k : Key} (h : k ∉ kvs.map (·.1)) : valV kvs k = none := by
  cases e : valV kvs k with
  | none => rfl
  | some v =>
    have := valV_any k kvs
    rw [e] at this
    obtain ⟨p, m, hp⟩ := List.any_eq_true.mp this
    exact absurd (List.mem_map.mpr ⟨p, m, of_decide_eq_true hp⟩) h
end Q

set_option Elab.async false
set_option linter.all false
set_option maxRecDepth 100000
set_option maxHeartbeats 4000000
namespace Q
open PySem PySem.Spec PyProof.Rows L2
local macro_rules | `(tactic| walk_at "bf") => `(tactic| first | assumption | (refine' bstep (by assumption) ?r; case r => walk_at "bf") | fail)
local macro_rules | `(tactic| walk_at "rp") => `(tactic| first | assumption | exact Rep.int _ | exact Rep.bl _ | exact Rep.non | (refine' Rep.mono (by assumption) ?r; case r => walk_at "rp") | fail)
local macro_rules | `(tactic| walk_at "hf") => `(tactic| first | assumption | exact HS.up (by assumption) (by walk_at "bf") | exact HS.get (by assumption) List.mem_cons_self | exact HS.get (by assumption) (List.mem_cons_of_mem _ List.mem_cons_self) | exact HS.get (by assumption) (List.mem_cons_of_mem _ (List.mem_cons_of_mem _ List.mem_cons_self)) | exact HS.get (by assumption) (List.mem_cons_of_mem _ (List.mem_cons_of_mem _ (List.mem_cons_of_mem _ List.mem_cons_self))) | fail)
local macro_rules | `(tactic| walk_at "sl") => `(tactic| first | assumption | exact SqL.of (by walk_at "hf") | fail)
local macro_rules | `(tactic| walk_at "st") => `(tactic| first | assumption | exact SqT.of (by walk_at "hf") | fail)
local macro_rules | `(tactic| walk_at "sz") => `(tactic| first | assumption | (refine small_le ?_; first | assumption | omega | (simp; done) | (simp; omega)) | fail)
/-! ### calls that hand back new things that may change -/
theorem HS.none0 {S : List Addr} {B0 H0 B H : Hp} {M : List (Addr × HO)} (h : HS S B0 H0 B H M) {p : Addr} (hp : H p = none) : H0 p = none ∨ p ∈ S := by
  by_cases hs : p ∈ S
  · exact .inr hs
  · left
    cases q : H0 p with
    | none => rfl
    | some u =>
      cases qb : B0 p with
      | some w => rw [h.bh _ _ (h.bb _ _ qb)] at hp; cases hp
      | none => rw [(h.fr p u hs qb q).2] at hp; cases hp
theorem HS.callN {S : List Addr} {B0 H0 B H B' H' : Hp} {M N : List (Addr × HO)} (h : HS S B0 H0 B H M) (c : HS [] B H B' H' N) : HS S B0 H0 B' H' (N ++ M) := by
  refine ⟨h.bb.trans c.bb, c.bh, fun b u n1 n2 e => ?_, fun q m => ?_, ?_⟩
  · obtain ⟨x, y⟩ := h.fr b u n1 n2 e
    exact c.fr b u (by simp) x y
  · rcases List.mem_append.mp m with m | m
    · obtain ⟨x, y, z⟩ := c.mu q m
      exact ⟨x, y, h.none0 (z.resolve_right (by simp))⟩
    · obtain ⟨x, y, z⟩ := h.mu q m
      obtain ⟨x', y'⟩ := c.fr q.1 q.2 (by simp) x y
      exact ⟨x', y', z⟩
  · rw [List.map_append, List.nodup_append]
    refine ⟨c.nd, h.nd, fun a ha b hb e => ?_⟩
    obtain ⟨q, mq, rfl⟩ := List.mem_map.mp ha
    obtain ⟨r, mr, rfl⟩ := List.mem_map.mp hb
    have h1 := (c.mu q mq).2.2.resolve_right (by simp)
    have h2 := (h.mu r mr).2.1
    rw [e, h2] at h1
    cases h1
theorem HS.call1N {S : List Addr} {B0 H0 B H B' H' : Hp} {M N : List (Addr × HO)} {p : Addr} {o o' : HO} (h : HS S B0 H0 B H ((p, o) :: M)) (c : HS [p] B H B' H' ((p, o') :: N)) : HS S B0 H0 B' H' ((p, o') :: (N ++ M)) := by
  have nd := h.nd
  rw [List.map_cons, List.nodup_cons] at nd
  have cnd := c.nd
  rw [List.map_cons, List.nodup_cons] at cnd
  obtain ⟨hB, hH, hs⟩ := h.mu (p, o) List.mem_cons_self
  dsimp only at hB hH hs
  obtain ⟨c1, c2, _⟩ := c.mu (p, o') List.mem_cons_self
  dsimp only at c1 c2
  have hN : ∀ q ∈ N, H q.1 = none := fun q m => by
    rcases (c.mu q (List.mem_cons_of_mem _ m)).2.2 with z | z
    · exact z
    · exact absurd (List.mem_map.mpr ⟨q, m, by simpa using z⟩) cnd.1
  refine ⟨h.bb.trans c.bb, c.bh, fun b u n1 n2 e => ?_, fun q m => ?_, ?_⟩
  · obtain ⟨x, y⟩ := h.fr b u n1 n2 e
    have : b ≠ p := fun z => by
      subst z
      rcases hs with k | k
      · rw [k] at e; cases e
      · exact n1 k
    exact c.fr b u (by simpa using this) x y
  · rcases List.mem_cons.mp m with rfl | m
    · exact ⟨c1, c2, hs⟩
    · rcases List.mem_append.mp m with m | m
      · obtain ⟨x, y, z⟩ := c.mu q (List.mem_cons_of_mem _ m)
        exact ⟨x, y, h.none0 (hN q m)⟩
      · obtain ⟨x, y, z⟩ := h.mu q (List.mem_cons_of_mem _ m)
        have : q.1 ≠ p := fun e => nd.1 (List.mem_map.mpr ⟨q, m, e⟩)
        obtain ⟨x', y'⟩ := c.fr q.1 q.2 (by simpa using this) x y
        exact ⟨x', y', z⟩
  · rw [List.map_cons, List.nodup_cons, List.map_append, List.nodup_append]
    refine ⟨fun z => ?_, cnd.2, nd.2, fun a ha b hb e => ?_⟩
    · rcases List.mem_append.mp z with z | z
      · exact cnd.1 z
      · exact nd.1 z
    obtain ⟨q, mq, rfl⟩ := List.mem_map.mp ha
    obtain ⟨r, mr, rfl⟩ := List.mem_map.mp hb
    have h1 := hN q mq
    have h2 := (h.mu r (List.mem_cons_of_mem _ mr)).2.1
    rw [e, h2] at h1
    cases h1
/-! ### Group.people -/
abbrev N_Group_people : List Str := ["self"]
def t_Group_people (K : PySem.W.Frag) (E : XK) : TS := (tRet (tCB (rListOf K) (tCons (tFld K (tVar 0) "names") tNil)))
def sp_Group_people (K : PySem.W.Frag) : Sp := fun vs H Q E => ∃ p B G, vs = [.ref p] ∧ Same B H ∧ GAt K B p G ∧ ∀ B' H' l, HS [] B H B' H' [(l, .lst (G.names.map V.str))] → Q (.ref l) H'
/-! ### drawing -/
def VSt (a b : Int) : Prop := 0 ≤ a ∧ 0 ≤ b ∧ b < 2147483629
def stO (a b : Int) : HO := .lst [.int a, .int b]
abbrev N__law_cell : List Str := ["_law_script", "_law_k", "_law_number", "_law_seed"]
def t__law_cell (K : PySem.W.Frag) (E : XK) : TS := (tSeq (tAsg (tC (.int 0)) (gName 2))
  (tSeq (tIfS (tTest (tOp rLtI (tVar 1) (tCB (rLenA K) (tCons (tVar 0) tNil)))) (tAsg (tCB rAbs (tCons (tOp (rIxL K) (tVar 0) (tVar 1)) tNil)) (gName 2)) tNext)
  (tSeq (tAsg (tOp rModI (tCB rInt1 (tCons (tOp rAddI (tOp rAddI (tOp rAddI (tVar 2) (tOp rMulI (tC (.int 7919)) (tVar 1))) (tOp rMulI (tC (.int 104729)) (tCB rMin2 (tCons (tCB (rLenA K) (tCons (tVar 0) tNil)) (tCons (tC (.int 63)) tNil))))) (tC (.int 17))) tNil)) (tC (.int 2147483629))) (gName 3))
  (tSeq (tAsg (tOp rModI (tCB rInt1 (tCons (tOp rAddI (tOp rAddI (tOp rMulI (tOp rMulI (tVar 3) (tVar 3)) (tVar 3)) (tOp rMulI (tC (.int 69621)) (tVar 3))) (tC (.int 11))) tNil)) (tC (.int 2147483629))) (gName 3))
  (tSeq (tIfS (tTest (tOp rLtI (tVar 2) (tOp rPowI (tC (.int 10)) (tC (.int 18))))) (tRet (tLst (tCons (tC (.int 0)) (tCons (tVar 3) tNil)))) tNext)
  (tRet (tLst (tCons (tVar 2) (tCons (tVar 3) tNil)))))))))
def sp__law_cell (K : PySem.W.Frag) : Sp := fun vs H Q E => ∃ (p : Addr) (xs : List Int) (k : Nat) (B : Hp), vs = [.ref p, .int (k : Nat)] ∧ Same B H ∧ SqL K H p (xs.map V.int) ∧ ∀ B' H' l a b, HS [] B H B' H' [(l, stO a b)] → VSt a b → Q (.ref l) H'
theorem atI_nat {α : Type} {xs : List α} {n : Nat} (h : n < xs.length) : atI xs (n : Int) = some xs[n] := by
  unfold atI ixN
  rw [if_pos (Int.natCast_nonneg _), if_pos (by omega)]
  simp [h]
theorem x_join {σ : L2.St} {H : Hp} {De : Ends} {t u : TS} {I : L2.St → Hp → Prop} (h2 : ∀ σ H, I σ H → u De σ H) (h1 : ∀ R : L2.St → Hp → Prop, (∀ σ H, I σ H → R σ H) → t { De with nx := R } σ H) : tSeq t u De σ H := h1 (u De) h2
theorem pure__law_cell {K : PySem.W.Frag} {vs : List V} {H : Hp} {Q : VK} {E : XK} (h : sp__law_cell K vs H Q E) : t__law_cell K E { nx := fun _ H' => Q .non H', rt := Q } (start N__law_cell vs) H := by
  obtain ⟨p, xs, j, B, rfl, sB, hp, k⟩ := h
  have hs := HS.start sB
  show t__law_cell K E _ [some (.ref p), some (.int (j : Nat)), none, none] H
  unfold t__law_cell
  refine x_seq ?_
  (with_reducible refine x_asg ?_)
  (with_reducible refine x_c ?_)
  ((with_reducible refine x_gname ?_); try simp only [List.set_cons_zero, List.set_cons_succ])
  refine x_join (I := fun σ H' => H' = H ∧ ∃ n : Int, 0 ≤ n ∧ σ = [some (.ref p), some (.int (j : Nat)), some (.int n), none]) ?_ (fun R hR => ?_)
  · rintro σ H' ⟨rfl, n, hn, rfl⟩
    ((with_reducible refine x_seq ?_); (with_reducible refine x_asg ?_); (with_reducible refine x_op ?_); (with_reducible refine x_cb ?_); (with_reducible refine x_cons ?_); (with_reducible refine x_op ?_); (with_reducible refine x_op ?_); (with_reducible refine x_op ?_); ((with_reducible refine' x_var ?z19h ?_); case z19h => rfl); (with_reducible refine x_op ?_); (with_reducible refine x_c ?_); ((with_reducible refine' x_var ?z22h ?_); case z22h => rfl); ((with_reducible refine' x_mulI ?z23h ?_); case z23h => first | exact .inl ⟨by decide, by decide⟩ | exact .inr ⟨by decide, by decide⟩ | exact .inl ⟨by omega, by omega⟩ | exact .inr ⟨by omega, by omega⟩); (with_reducible refine x_addI ?_); (with_reducible refine x_op ?_); (with_reducible refine x_c ?_); (with_reducible refine x_cb ?_); (with_reducible refine x_cons ?_); (with_reducible refine x_cb ?_); (with_reducible refine x_cons ?_); ((with_reducible refine' x_var ?z31h ?_); case z31h => rfl); (with_reducible refine x_nil ?_); ((with_reducible refine' x_lenL ?z33h ?_); case z33h => walk_at "sl"); (with_reducible refine x_cons ?_); (with_reducible refine x_c ?_); (with_reducible refine x_nil ?_); (with_reducible refine x_min2 ?_); ((with_reducible refine' x_mulI ?z38h ?_); case z38h => first | exact .inl ⟨by decide, by decide⟩ | exact .inr ⟨by decide, by decide⟩ | exact .inl ⟨by omega, by omega⟩ | exact .inr ⟨by omega, by omega⟩); (with_reducible refine x_addI ?_); (with_reducible refine x_c ?_); (with_reducible refine x_addI ?_); (with_reducible refine x_nil ?_); (with_reducible refine x_int1 ?_); (with_reducible refine x_c ?_); ((with_reducible refine' x_modI ?z45h ?_); case z45h => first | decide | omega); ((with_reducible refine x_gname ?_); try simp only [List.set_cons_zero, List.set_cons_succ]); (with_reducible refine x_seq ?_); (with_reducible refine x_asg ?_); (with_reducible refine x_op ?_); (with_reducible refine x_cb ?_); (with_reducible refine x_cons ?_); (with_reducible refine x_op ?_); (with_reducible refine x_op ?_); (with_reducible refine x_op ?_); (with_reducible refine x_op ?_); ((with_reducible refine' x_var ?z56h ?_); case z56h => rfl); ((with_reducible refine' x_var ?z57h ?_); case z57h => rfl); ((with_reducible refine' x_mulI ?z58h ?_); case z58h => first | exact .inl ⟨by decide, by decide⟩ | exact .inr ⟨by decide, by decide⟩ | exact .inl ⟨by omega, by omega⟩ | exact .inr ⟨by omega, by omega⟩); ((with_reducible refine' x_var ?z59h ?_); case z59h => rfl); ((with_reducible refine' x_mulI ?z60h ?_); case z60h => first | exact .inl ⟨by decide, by decide⟩ | exact .inr ⟨by decide, by decide⟩ | exact .inl ⟨by omega, by omega⟩ | exact .inr ⟨by omega, by omega⟩); (with_reducible refine x_op ?_); (with_reducible refine x_c ?_); ((with_reducible refine' x_var ?z63h ?_); case z63h => rfl); ((with_reducible refine' x_mulI ?z64h ?_); case z64h => first | exact .inl ⟨by decide, by decide⟩ | exact .inr ⟨by decide, by decide⟩ | exact .inl ⟨by omega, by omega⟩ | exact .inr ⟨by omega, by omega⟩); (with_reducible refine x_addI ?_); (with_reducible refine x_c ?_); (with_reducible refine x_addI ?_); (with_reducible refine x_nil ?_); (with_reducible refine x_int1 ?_); (with_reducible refine x_c ?_); ((with_reducible refine' x_modI ?z71h ?_); case z71h => first | decide | omega); ((with_reducible refine x_gname ?_); try simp only [List.set_cons_zero, List.set_cons_succ]); (with_reducible refine x_seq ?_); (with_reducible refine x_if ?_); (with_reducible refine x_test ?_); (with_reducible refine x_op ?_); ((with_reducible refine' x_var ?z77h ?_); case z77h => rfl); (with_reducible refine x_op ?_); (with_reducible refine x_c ?_); (with_reducible refine x_c ?_); ((with_reducible refine' x_powI ?z81h ?_); case z81h => exact ⟨by decide, by decide, by decide⟩); (with_reducible refine x_ltI ?_); (with_reducible refine x_exb ?_))
    generalize hz : (n + 7919 * (j : Int) + 104729 * _ + 17) % 2147483629 = z
    have hz1 : 0 ≤ z ∧ z < 2147483629 := by omega
    skip
    generalize hy : (z * z * z + 69621 * z + 11) % 2147483629 = y
    have hy1 : 0 ≤ y ∧ y < 2147483629 := by omega
    skip
    refine x_ite (fun h => ?_) (fun h => ?_)
    · ((with_reducible refine x_ret ?_); (with_reducible refine x_lst ?_); (with_reducible refine x_cons ?_); (with_reducible refine x_c ?_); (with_reducible refine x_cons ?_); ((with_reducible refine' x_var ?z89h ?_); case z89h => rfl); (with_reducible refine x_nil ?_); ((with_reducible refine' x_newL ?z91h ?_); case z91h => first | exact Nat.zero_le _ | (simp; done) | (simp; omega)))
      exact new_M hs fun l H1 hs1 _ => k _ _ l 0 y hs1 ⟨by decide, hy1.1, hy1.2⟩
    · ((with_reducible refine x_next ?_); (with_reducible refine x_ret ?_); (with_reducible refine x_lst ?_); (with_reducible refine x_cons ?_); ((with_reducible refine' x_var ?z96h ?_); case z96h => rfl); (with_reducible refine x_cons ?_); ((with_reducible refine' x_var ?z98h ?_); case z98h => rfl); (with_reducible refine x_nil ?_); ((with_reducible refine' x_newL ?z100h ?_); case z100h => first | exact Nat.zero_le _ | (simp; done) | (simp; omega)))
      exact new_M hs fun l H1 hs1 _ => k _ _ l n y hs1 ⟨hn, hy1.1, hy1.2⟩
  · ((with_reducible refine x_if ?_); (with_reducible refine x_test ?_); (with_reducible refine x_op ?_); ((with_reducible refine' x_var ?z104h ?_); case z104h => rfl); (with_reducible refine x_cb ?_); (with_reducible refine x_cons ?_); ((with_reducible refine' x_var ?z107h ?_); case z107h => rfl); (with_reducible refine x_nil ?_); ((with_reducible refine' x_lenL ?z109h ?_); case z109h => walk_at "sl"); (with_reducible refine x_ltI ?_); (with_reducible refine x_exb ?_))
    refine x_ite (fun h => ?_) (fun h => ?_)
    · have h := of_decide_eq_true h
      have hj : j < (xs.map V.int).length := by omega
      have e := atI_nat hj
      rw [List.getElem_map] at e
      ((with_reducible refine x_asg ?_); (with_reducible refine x_cb ?_); (with_reducible refine x_cons ?_); (with_reducible refine x_op ?_); ((with_reducible refine' x_var ?z116h ?_); case z116h => rfl); ((with_reducible refine' x_var ?z117h ?_); case z117h => rfl); ((with_reducible refine' x_ixL ?z118h ?z118h2 ?_); (case z118h => walk_at "sl"); (case z118h2 => first | rfl | assumption)); (with_reducible refine x_nil ?_); (with_reducible refine x_abs ?_); ((with_reducible refine x_gname ?_); try simp only [List.set_cons_zero, List.set_cons_succ]))
      exact hR _ _ ⟨rfl, _, by split <;> omega, rfl⟩
    · (with_reducible refine x_next ?_)
      exact hR _ _ ⟨rfl, 0, by decide, rfl⟩
abbrev N__law_take : List Str := ["_law_state", "_law_many", "_law_mixed", "_law_digit"]
def t__law_take (K : PySem.W.Frag) (E : XK) : TS := (tSeq (tIfS (tTest (tOp rGtI (tOp (rIxL K) (tVar 0) (tC (.int 0))) (tC (.int 0)))) (tSeq (tAsg (tOp rModI (tCB rInt1 (tCons (tOp (rIxL K) (tVar 0) (tC (.int 0))) tNil)) (tVar 1)) (gName 3))
  (tSeq (tAsg (tOp rDivI (tCB rInt1 (tCons (tOp (rIxL K) (tVar 0) (tC (.int 0))) tNil)) (tVar 1)) (gSub (tVar 0) (tC (.int 0)) rSetL))
  (tRet (tVar 3)))) tNext)
  (tSeq (tAsg (tOp rModI (tCB rInt1 (tCons (tOp rAddI (tOp rMulI (tOp (rIxL K) (tVar 0) (tC (.int 1))) (tC (.int 48271))) (tC (.int 30103))) tNil)) (tC (.int 2147483629))) (gSub (tVar 0) (tC (.int 1)) rSetL))
  (tSeq (tAsg (tOp rModI (tCB rInt1 (tCons (tOp rMulI (tOp (rIxL K) (tVar 0) (tC (.int 1))) (tOp rAddI (tOp rDivI (tOp (rIxL K) (tVar 0) (tC (.int 1))) (tC (.int 1009))) (tC (.int 69621)))) tNil)) (tC (.int 2147483647))) (gName 2))
  (tRet (tOp rModI (tCB rInt1 (tCons (tOp rDivI (tVar 2) (tC (.int 7))) tNil)) (tVar 1))))))
def sp__law_take (K : PySem.W.Frag) : Sp := fun vs H Q E => ∃ p a b m B, vs = [.ref p, .int m] ∧ Same B H ∧ B p = none ∧ H p = some (stO a b) ∧ VSt a b ∧ 0 < m ∧ m < 1267650600228229401496703205376 ∧
  ∀ B' H' a' b' (n : Nat), HS [p] B H B' H' [(p, stO a' b')] → VSt a' b' → (n : Int) < m → Q (.int (n : Nat)) H'
theorem pure__law_take {K : PySem.W.Frag} {vs : List V} {H : Hp} {Q : VK} {E : XK} (h : sp__law_take K vs H Q E) : t__law_take K E { nx := fun _ H' => Q .non H', rt := Q } (start N__law_take vs) H := by
  obtain ⟨p, a, b, m, B, rfl, sB, bp, hp, ⟨h1, h2, h3⟩, m1, m2, k⟩ := h
  have hs := HS.startS sB bp hp
  show t__law_take K E _ [some (.ref p), some (.int m), none, none] H
  unfold t__law_take
  unfold stO at hs hp
  ((with_reducible refine x_seq ?_); (with_reducible refine x_if ?_); (with_reducible refine x_test ?_); (with_reducible refine x_op ?_); (with_reducible refine x_op ?_); ((with_reducible refine' x_var ?z128h ?_); case z128h => rfl); (with_reducible refine x_c ?_); ((with_reducible refine' x_ixL ?z130h ?z130h2 ?_); (case z130h => walk_at "sl"); (case z130h2 => first | rfl | assumption)); (with_reducible refine x_c ?_); (with_reducible refine x_gtI ?_); (with_reducible refine x_exb ?_))
  refine x_ite (fun h => ?_) (fun h => ?_)
  · have h := of_decide_eq_true h
    ((with_reducible refine x_seq ?_); (with_reducible refine x_asg ?_); (with_reducible refine x_op ?_); (with_reducible refine x_cb ?_); (with_reducible refine x_cons ?_); (with_reducible refine x_op ?_); ((with_reducible refine' x_var ?z140h ?_); case z140h => rfl); (with_reducible refine x_c ?_); ((with_reducible refine' x_ixL ?z142h ?z142h2 ?_); (case z142h => walk_at "sl"); (case z142h2 => first | rfl | assumption)); (with_reducible refine x_nil ?_); (with_reducible refine x_int1 ?_); ((with_reducible refine' x_var ?z145h ?_); case z145h => rfl); ((with_reducible refine' x_modI ?z146h ?_); case z146h => first | decide | omega); ((with_reducible refine x_gname ?_); try simp only [List.set_cons_zero, List.set_cons_succ]); (with_reducible refine x_seq ?_); (with_reducible refine x_asg ?_); (with_reducible refine x_op ?_); (with_reducible refine x_cb ?_); (with_reducible refine x_cons ?_); (with_reducible refine x_op ?_); ((with_reducible refine' x_var ?z154h ?_); case z154h => rfl); (with_reducible refine x_c ?_); ((with_reducible refine' x_ixL ?z156h ?z156h2 ?_); (case z156h => walk_at "sl"); (case z156h2 => first | rfl | assumption)); (with_reducible refine x_nil ?_); (with_reducible refine x_int1 ?_); ((with_reducible refine' x_var ?z159h ?_); case z159h => rfl); ((with_reducible refine' x_divI ?z160h ?_); case z160h => first | exact ⟨by decide, by decide⟩ | exact ⟨by omega, by omega⟩); (with_reducible refine x_gsub ?_); ((with_reducible refine' x_var ?z162h ?_); case z162h => rfl); (with_reducible refine x_c ?_))
    refine x_setL (j := 0) hs rfl (fun H1 hs1 => ?_)
    ((with_reducible refine x_ret ?_); ((with_reducible refine' x_var ?z165h ?_); case z165h => rfl))
    have e1 : 0 ≤ a % m := Int.emod_nonneg _ (by omega)
    have e2 : a % m < m := Int.emod_lt_of_pos _ m1
    obtain ⟨n, hn⟩ := Int.eq_ofNat_of_zero_le e1
    rw [hn]
    exact k B H1 (a / m) b n hs1 ⟨Int.ediv_nonneg h1 (by omega), h2, h3⟩ (by omega)
  · ((with_reducible refine x_next ?_); (with_reducible refine x_seq ?_); (with_reducible refine x_asg ?_); (with_reducible refine x_op ?_); (with_reducible refine x_cb ?_); (with_reducible refine x_cons ?_); (with_reducible refine x_op ?_); (with_reducible refine x_op ?_); (with_reducible refine x_op ?_); ((with_reducible refine' x_var ?z175h ?_); case z175h => rfl); (with_reducible refine x_c ?_); ((with_reducible refine' x_ixL ?z177h ?z177h2 ?_); (case z177h => walk_at "sl"); (case z177h2 => first | rfl | assumption)); (with_reducible refine x_c ?_); ((with_reducible refine' x_mulI ?z179h ?_); case z179h => first | exact .inl ⟨by decide, by decide⟩ | exact .inr ⟨by decide, by decide⟩ | exact .inl ⟨by omega, by omega⟩ | exact .inr ⟨by omega, by omega⟩); (with_reducible refine x_c ?_); (with_reducible refine x_addI ?_); (with_reducible refine x_nil ?_); (with_reducible refine x_int1 ?_); (with_reducible refine x_c ?_); ((with_reducible refine' x_modI ?z185h ?_); case z185h => first | decide | omega); (with_reducible refine x_gsub ?_); ((with_reducible refine' x_var ?z187h ?_); case z187h => rfl); (with_reducible refine x_c ?_))
    generalize hy : (b * 48271 + 30103) % 2147483629 = y
    have hy1 : 0 ≤ y ∧ y < 2147483629 := by omega
    refine x_setL (j := 1) hs rfl (fun H1 hs1 => ?_)
    ((with_reducible refine x_seq ?_); (with_reducible refine x_asg ?_); (with_reducible refine x_op ?_); (with_reducible refine x_cb ?_); (with_reducible refine x_cons ?_); (with_reducible refine x_op ?_); (with_reducible refine x_op ?_); ((with_reducible refine' x_var ?z196h ?_); case z196h => rfl); (with_reducible refine x_c ?_); ((with_reducible refine' x_ixL ?z198h ?z198h2 ?_); (case z198h => walk_at "sl"); (case z198h2 => first | rfl | assumption)); (with_reducible refine x_op ?_); (with_reducible refine x_op ?_); (with_reducible refine x_op ?_); ((with_reducible refine' x_var ?z202h ?_); case z202h => rfl); (with_reducible refine x_c ?_); ((with_reducible refine' x_ixL ?z204h ?z204h2 ?_); (case z204h => walk_at "sl"); (case z204h2 => first | rfl | assumption)); (with_reducible refine x_c ?_); ((with_reducible refine' x_divI ?z206h ?_); case z206h => first | exact ⟨by decide, by decide⟩ | exact ⟨by omega, by omega⟩); (with_reducible refine x_c ?_); (with_reducible refine x_addI ?_); ((with_reducible refine' x_mulI ?z209h ?_); case z209h => first | exact .inl ⟨by decide, by decide⟩ | exact .inr ⟨by decide, by decide⟩ | exact .inl ⟨by omega, by omega⟩ | exact .inr ⟨by omega, by omega⟩); (with_reducible refine x_nil ?_); (with_reducible refine x_int1 ?_); (with_reducible refine x_c ?_); ((with_reducible refine' x_modI ?z213h ?_); case z213h => first | decide | omega); ((with_reducible refine x_gname ?_); try simp only [List.set_cons_zero, List.set_cons_succ]); (with_reducible refine x_ret ?_); (with_reducible refine x_op ?_); (with_reducible refine x_cb ?_); (with_reducible refine x_cons ?_); (with_reducible refine x_op ?_); ((with_reducible refine' x_var ?z220h ?_); case z220h => rfl); (with_reducible refine x_c ?_); ((with_reducible refine' x_divI ?z222h ?_); case z222h => first | exact ⟨by decide, by decide⟩ | exact ⟨by omega, by omega⟩); (with_reducible refine x_nil ?_); (with_reducible refine x_int1 ?_); ((with_reducible refine' x_var ?z225h ?_); case z225h => rfl); ((with_reducible refine' x_modI ?z226h ?_); case z226h => first | decide | omega))
    generalize (y * (y / 1009 + 69621)) % 2147483647 / 7 = z
    have e1 : 0 ≤ z % m := Int.emod_nonneg _ (by omega)
    have e2 : z % m < m := Int.emod_lt_of_pos _ m1
    obtain ⟨n, hn⟩ := Int.eq_ofNat_of_zero_le e1
    rw [hn]
    exact k B H1 a y n hs1 ⟨h1, hy1.1, hy1.2⟩ (by omega)
theorem use_take {K : PySem.W.Frag} {S : List Addr} {B0 H0 B H : Hp} {M : List (Addr × HO)} {Q : VK} {E : XK} {p : Addr} {a b m : Int} (hs : HS S B0 H0 B H ((p, stO a b) :: M)) (v : VSt a b) (m1 : 0 < m) (m2 : m < 1267650600228229401496703205376)
    (k : ∀ B' H' a' b' (n : Nat), Same B B' → HS S B0 H0 B' H' ((p, stO a' b') :: M) → VSt a' b' → (n : Int) < m → Q (.int (n : Nat)) H') : sp__law_take K [.ref p, .int m] H Q E :=
  ⟨p, a, b, m, B, rfl, hs.bh, (hs.mu _ List.mem_cons_self).1, hs.get List.mem_cons_self, v, m1, m2, fun B' H' a' b' n c v' hn => k B' H' a' b' n c.bb (hs.call1 c) v' hn⟩
theorem use_cell {K : PySem.W.Frag} {S : List Addr} {B0 H0 B H : Hp} {M : List (Addr × HO)} {Q : VK} {E : XK} {p : Addr} {xs : List Int} {j : Nat} (hs : HS S B0 H0 B H M) (hp : SqL K H p (xs.map V.int))
    (k : ∀ B' H' l a b, Same B B' → HS S B0 H0 B' H' ((l, stO a b) :: M) → VSt a b → Q (.ref l) H') : sp__law_cell K [.ref p, .int (j : Nat)] H Q E :=
  ⟨p, xs, j, B, rfl, hs.bh, hp, fun B' H' l a b c v => k B' H' l a b c.bb (hs.callN c) v⟩
/-! ### plain answers -/
abbrev N__law_is_integer : List Str := ["_law_actual"]
def t__law_is_integer (K : PySem.W.Frag) (E : XK) : TS := (tRet (tAndV (tCB (rIsi K) (tCons (tVar 0) (tCons (tC (.ty "int")) tNil))) (tNotV (tCB (rIsi K) (tCons (tVar 0) (tCons (tC (.ty "bool")) tNil))))))
def isInt : D → Bool
  | .int _ => true
  | _ => false
def sp__law_is_integer (K : PySem.W.Frag) : Sp := fun vs H Q E => ∃ v B d, vs = [v] ∧ Same B H ∧ Rep K B v d ∧ Ret B H Q fun _ r => r = .bl (isInt d)
theorem pure__law_is_integer {K : PySem.W.Frag} {vs : List V} {H : Hp} {Q : VK} {E : XK} (h : sp__law_is_integer K vs H Q E) : t__law_is_integer K E { nx := fun _ H' => Q .non H', rt := Q } (start N__law_is_integer vs) H := by
  obtain ⟨v, B, d, rfl, sB, r, k⟩ := h
  have hs := HS.start sB
  show t__law_is_integer K E _ [some v] H
  unfold t__law_is_integer
  ((with_reducible refine x_ret ?_); (with_reducible refine x_andV ?_); (with_reducible refine x_cb ?_); (with_reducible refine x_cons ?_); ((with_reducible refine' x_var ?z231h ?_); case z231h => rfl); (with_reducible refine x_cons ?_); (with_reducible refine x_c ?_); (with_reducible refine x_nil ?_); ((with_reducible refine' x_isiD ?z235h1 ?z235h2 ?z235h3 ?_); (case z235h1 => assumption); (case z235h2 => walk_at "rp"); (case z235h3 => decide)); (with_reducible refine x_exb ?_))
  cases d <;> (refine x_ite (fun h => ?_) (fun h => ?_) <;> first | (exfalso; simp [D.isT] at h; done) | ((first | ((with_reducible refine x_notV ?_); (with_reducible refine x_cb ?_); (with_reducible refine x_cons ?_); ((with_reducible refine' x_var ?z240h ?_); case z240h => rfl); (with_reducible refine x_cons ?_); (with_reducible refine x_c ?_); (with_reducible refine x_nil ?_); ((with_reducible refine' x_isiD ?z244h1 ?z244h2 ?z244h3 ?_); (case z244h1 => assumption); (case z244h2 => walk_at "rp"); (case z244h3 => decide)); (with_reducible refine x_exb ?_)) | skip); exact k B H _ hs rfl))
theorem use__law_is_integer {K : PySem.W.Frag} {S : List Addr} {B0 H0 B H : Hp} {M : List (Addr × HO)} {Q : VK} {E : XK} {v : V} {d : D} (hs : HS S B0 H0 B H M) (r : Rep K B v d)
    (k : ∀ B' H', Same B B' → HS S B0 H0 B' H' M → Q (.bl (isInt d)) H') : sp__law_is_integer K [v] H Q E := ⟨v, B, d, rfl, hs.bh, r, fun B' H' v' c e => by rw [e]; exact k B' H' c.bb (hs.call c)⟩
end Q

set_option Elab.async false
set_option linter.all false
set_option maxRecDepth 100000
set_option maxHeartbeats 4000000
namespace Q
open PySem PySem.Spec PyProof.Rows L2
/-! ### more steps: text methods, slices, displays -/
def DispK (p : Addr) (Q : VK) (ps : List (V × V)) (H2 : Hp) : Prop := H2 p = some (.dK []) ∧ ∃ kvs : List (Key × V), ps = kvs.map (fun kv => (kV kv.1, kv.2)) ∧ kvs.length ≤ 15 ∧ Q (.ref p) (upd H2 p (.dK (mergeK [] kvs)))
section
variable {K : PySem.W.Frag} {σ : L2.St} {H : Hp} {Q : VK} {to te tk tv : TE} {tl th : TO} {z x : Str} {p l b : Addr} {xs zs : List V} {m : Int} {S : List Addr} {B0 H0 B : Hp} {M : List (Addr × HO)} {lo hi : Option Int}
theorem x_m1s {r : V → List V → Hp → VK → Prop} (h : to σ H fun x H1 => (∃ a, x = .str a) ∧ te σ H1 fun y H2 => r x [y] H2 Q) : tM1 r to te σ H Q := h
theorem x_joinL {ys : List Str} (hp : SqL K H p (ys.map V.str)) (hz : (ys.map (·.length)).sum + ys.length * z.length ≤ 16777216) (h : Q (.str (Txt.join z ys)) H) : rJoin K (.str z) [.ref p] H Q := ⟨z, p, ys, rfl, rfl, .inl hp, hz, h⟩
theorem x_sl {r : V → Option Int → Option Int → Hp → VK → Prop} (h : te σ H fun x H1 => tl σ H1 fun l H2 => th σ H2 fun u H3 => r x l u H3 Q) : tSl r te tl th σ H Q := h
theorem x_noPart {Qo : Option Int → Hp → Prop} (h : Qo none H) : tNoPart σ H Qo := h
theorem x_part {Qo : Option Int → Hp → Prop} (h : te σ H fun x H1 => ∃ i, x = .int i ∧ Qo (some i) H1) : tPart te σ H Qo := h
theorem x_exi {R : Int → Prop} (h : R m) : ∃ i, V.int m = .int i ∧ R i := ⟨m, rfl, h⟩
theorem x_slS (hz : z.length ≤ sizeLine) (h : Q (.str (cutS z lo hi)) H) : rSlS (.str z) lo hi H Q := ⟨z, rfl, hz, h⟩
theorem x_slL (hp : SqL K H p xs) (h : New (.lst (cutV xs lo hi)) Q H) : rSlL K (.ref p) lo hi H Q := ⟨p, xs, rfl, hp, h⟩
theorem x_cat (h1 : H l = some (.lst xs)) (h2 : H b = some (.lst zs)) (hz : xs.length + zs.length ≤ 1000000) (h : New (.lst (xs ++ zs)) Q H) : rCat (.ref l) (.ref b) H Q := ⟨l, b, xs, zs, rfl, rfl, h1, h2, small_le hz, h⟩
theorem SqL.same {H H' : Hp} (h : SqL K H p xs) (s : Same H H') : SqL K H' p xs := h.elim (fun h => .inl (h.elim (fun h => .inl (s _ _ h)) fun ⟨o, h⟩ => .inr ⟨o, s _ _ h⟩)) fun h => .inr h
end
theorem HS.keep {S : List Addr} {B0 H0 B H : Hp} {M : List (Addr × HO)} (hs : HS S B0 H0 B H M) (sb : Same B0 H0) {t : Addr} {o : HO} (ht : H0 t = some o) (hne : t ∉ S) : H t = some o := by
  cases e : B0 t with
  | some u => 
    have := sb _ _ e
    rw [ht] at this
    cases this
    exact hs.bh _ _ (hs.bb _ _ e)
  | none => exact (hs.fr t o hne e ht).2
end Q

set_option Elab.async false
set_option linter.all false
set_option maxRecDepth 100000
set_option maxHeartbeats 4000000
namespace Q
open PySem PySem.Spec PyProof.Rows L2
local macro_rules | `(tactic| walk_at "bf") => `(tactic| first | assumption | (refine' bstep (by assumption) ?r; case r => walk_at "bf") | fail)
local macro_rules | `(tactic| walk_at "rp") => `(tactic| first | assumption | exact Rep.int _ | exact Rep.bl _ | exact Rep.non | (refine' Rep.mono (by assumption) ?r; case r => walk_at "rp") | fail)
local macro_rules | `(tactic| walk_at "hf") => `(tactic| first | assumption | exact HS.up (by assumption) (by walk_at "bf") | exact HS.get (by assumption) List.mem_cons_self | exact HS.get (by assumption) (List.mem_cons_of_mem _ List.mem_cons_self) | exact HS.get (by assumption) (List.mem_cons_of_mem _ (List.mem_cons_of_mem _ List.mem_cons_self)) | exact HS.get (by assumption) (List.mem_cons_of_mem _ (List.mem_cons_of_mem _ (List.mem_cons_of_mem _ List.mem_cons_self))) | fail)
local macro_rules | `(tactic| walk_at "sl") => `(tactic| first | assumption | exact SqL.of (by walk_at "hf") | fail)
local macro_rules | `(tactic| walk_at "st") => `(tactic| first | assumption | exact SqT.of (by walk_at "hf") | fail)
local macro_rules | `(tactic| walk_at "sz") => `(tactic| first | assumption | (refine small_le ?_; first | assumption | omega | (simp; done) | (simp; omega)) | fail)
/-! ### names that are drawn -/
abbrev N__law_name : List Str := ["_law_state", "_law_taken", "_law_letters", "_law_size", "_law_name_here", "_law_last", "_law_k", "_law_other"]
def t__law_name (K : PySem.W.Frag) (E : XK) : TS := (tSeq (tAsg (tC (.str "abcdefghijklmnopqrstuvwxyz")) (gName 2))
  (tSeq (tAsg (tOp rAddI (tC (.int 1)) (tCl (sp__law_take K) (WE0 E) (tCons (tVar 0) (tCons (tC (.int 8)) tNil)))) (gName 3))
  (tSeq (tAsg (tM1 (rJoin K) (tC (.str "")) (tLc (iRng1 (tCons (tVar 3) tNil)) (gName 6) tYes (tOp rIxS (tVar 2) (tCl (sp__law_take K) W0 (tCons (tVar 0) (tCons (tC (.int 26)) tNil)))) [6])) (gName 4))
  (tSeq (tIfS (tTest (tOp (rIn K true) (tVar 4) (tVar 1))) (tRet (tVar 4)) tNext)
  (tSeq (tAsg (tCl (sp__law_take K) (WE0 E) (tCons (tVar 0) (tCons (tC (.int 26)) tNil))) (gName 5))
  (tSeq (tFor (iRng1 (tCons (tC (.int 26)) tNil)) (gName 6) (tSeq (tAsg (tOp rAddS (tSl rSlS (tVar 4) tNoPart (tPart (tC (.int 7)))) (tOp rIxS (tVar 2) (tOp rModI (tCB rInt1 (tCons (tOp rAddI (tVar 5) (tVar 6)) tNil)) (tC (.int 26))))) (gName 7))
  (tIfS (tTest (tOp (rIn K true) (tVar 7) (tVar 1))) (tRet (tVar 7)) tNext)))
  (tRet (tC (.str "")))))))))
def sp__law_name (K : PySem.W.Frag) : Sp := fun vs H Q E => ∃ (p t : Addr) (a b : Int) (taken : List Str) (B : Hp), vs = [.ref p, .ref t] ∧ Same B H ∧ B p = none ∧ H p = some (stO a b) ∧ VSt a b ∧ H t = some (.lst (taken.map V.str)) ∧ t ≠ p ∧ taken.length ≤ 25 ∧
  ∀ B' H' a' b' x, HS [p] B H B' H' [(p, stO a' b')] → VSt a' b' → okName x = true → x ∉ taken → Q (.str x) H'
theorem join_one (cs : List Nat) : (Txt.join "" (cs.map fun c => (⟨#[c]⟩ : Str))).cps.toList = cs := by
  rw [TL.join_eq]
  have : ∀ cs : List Nat, (Str.join "" (cs.map fun c => (⟨#[c]⟩ : Str))).cps.toList = cs := by
    intro cs
    induction cs with
    | nil => rfl
    | cons c r ih =>
      cases r with
      | nil => rfl
      | cons d r =>
        show (((⟨#[c]⟩ : Str) ++ "" ++ Str.join "" ((d :: r).map fun c => (⟨#[c]⟩ : Str)) : Str)).cps.toList = _
        show ((#[c] ++ #[] ++ (Str.join "" ((d :: r).map fun c => (⟨#[c]⟩ : Str))).cps : Array Nat)).toList = _
        rw [Array.toList_append, ih]
        rfl
  exact this cs
theorem okName_of {x : Str} {cs : List Nat} (e : x.cps.toList = cs) (h1 : 1 ≤ cs.length) (h2 : cs.length ≤ 8) (h3 : ∀ c ∈ cs, c ∈ letters.cps.toList) : okName x = true := by
  have hl : x.length = cs.length := by rw [← e, Array.length_toList]; rfl
  unfold okName
  rw [hl, e, decide_eq_true h1, decide_eq_true h2, Bool.true_and, Bool.true_and, List.all_eq_true]
  exact fun c m => decide_eq_true (h3 c m)
theorem letters_len : letters.cps.toList.length = 26 := by decide +kernel
theorem letters_nd : letters.cps.toList.Nodup := by decide +kernel
theorem pure__law_name {K : PySem.W.Frag} {vs : List V} {H : Hp} {Q : VK} {E : XK} (h : sp__law_name K vs H Q E) : t__law_name K E { nx := fun _ H' => Q .non H', rt := Q } (start N__law_name vs) H := by
  obtain ⟨p, t, a, b, taken, B, rfl, sB, bp, hp, hv, ht, htp, hl, k⟩ := h
  have hs := HS.startS sB bp hp
  have htS : t ∉ [p] := by simpa using htp
  show t__law_name K E _ [some (.ref p), some (.ref t), none, none, none, none, none, none] H
  unfold t__law_name
  ((with_reducible refine x_seq ?_); (with_reducible refine x_asg ?_); (with_reducible refine x_c ?_); ((with_reducible refine x_gname ?_); try simp only [List.set_cons_zero, List.set_cons_succ]); (with_reducible refine x_seq ?_); (with_reducible refine x_asg ?_); (with_reducible refine x_op ?_); (with_reducible refine x_c ?_); (with_reducible refine x_cl ?_); (with_reducible refine x_cons ?_); ((with_reducible refine' x_var ?z11h ?_); case z11h => rfl); (with_reducible refine x_cons ?_); (with_reducible refine x_c ?_); (with_reducible refine x_nil ?_))
  refine use_take hs hv (by decide) (by decide) (fun B1 H1 a1 b1 n sb1 hs1 hv1 hn => ?_)
  ((with_reducible refine x_addI ?_); ((with_reducible refine x_gname ?_); try simp only [List.set_cons_zero, List.set_cons_succ]); (with_reducible refine x_seq ?_); (with_reducible refine x_asg ?_); (with_reducible refine x_m1s ?_); (with_reducible refine x_c ?_); (with_reducible refine x_str1 ?_); (with_reducible refine x_lc ?_); (with_reducible refine x_iRng1 ?_); (with_reducible refine x_cons ?_); ((with_reducible refine' x_var ?z25h ?_); case z25h => rfl); (with_reducible refine x_nil ?_))
  refine ⟨_, rfl, by omega, by omega, fun D hD => ?_⟩
  have en : (1 + (n : Int)).toNat = n + 1 := by omega
  rw [en]
  refine c_range (α := Int × Int) (Mf := fun s => [(p, stO s.1 s.2)]) (P := fun i s acc _ => VSt s.1 s.2 ∧ ∃ cs : List Nat, cs.length = i ∧ acc = (cs.map fun c => (⟨#[c]⟩ : Str)).map V.str ∧ ∀ c ∈ cs, c ∈ letters.cps.toList)
    (s0 := (a1, b1)) hs1 hD ⟨hv1, [], rfl, rfl, by simp⟩ (fun i s acc B2 H2 hi hacc sb2 hs2 pp => ?_) (fun s acc B2 H2 sb2 hs2 hacc pp => ?_)
  · obtain ⟨hv2, cs, hcl, rfl, hcs⟩ := pp
    ((with_reducible refine x_gname ?_); try simp only [List.set_cons_zero, List.set_cons_succ])
    refine ⟨rfl, ?_⟩
    ((with_reducible refine x_yes ?_); (with_reducible refine x_tt _ _ ?_); (with_reducible refine x_op ?_); ((with_reducible refine' x_var ?z31h ?_); case z31h => rfl); (with_reducible refine x_cl ?_); (with_reducible refine x_cons ?_); ((with_reducible refine' x_var ?z34h ?_); case z34h => rfl); (with_reducible refine x_cons ?_); (with_reducible refine x_c ?_); (with_reducible refine x_nil ?_))
    refine use_take hs2.swap hv2 (by decide) (by decide) (fun B3 H3 a3 b3 m sb3 hs3 hv3 hm => ?_)
    have hm' : m < letters.cps.toList.length := by rw [letters_len]; omega
    refine x_ixS (by rw [sizeLine_eq]; decide +kernel) (atI_nat hm') ?_
    refine c_keep (s := (a3, b3)) (sb2.trans sb3) hs3.swap (by simp [hcl]) (by omega) ⟨hv3, cs ++ [letters.cps.toList[m]], by simp [hcl], by simp, fun c mc => ?_⟩
    rcases List.mem_append.mp mc with z | z
    · exact hcs c z
    · have : c = letters.cps.toList[m] := by simpa using z
      rw [this]; exact List.getElem_mem _
  · obtain ⟨hv2, cs, hcl, rfl, hcs⟩ := pp
    skip
    refine x_joinL (SqL.of (hs2.get List.mem_cons_self)) ?_ ?_
    · rw [List.map_map]
      have : (fun x : Str => x.length) ∘ (fun c => (⟨#[c]⟩ : Str)) = fun _ => 1 := rfl
      rw [this]
      simp only [List.map_const', List.sum_replicate_nat, List.length_map]
      have : (("" : Str)).length = 0 := rfl
      rw [this]
      omega
    have hy := join_one cs
    generalize Txt.join "" (cs.map fun c => (⟨#[c]⟩ : Str)) = y at hy
    have oky : okName y = true := okName_of hy (by omega) (by omega) hcs
    have hs3 := hs2.drop
    have ht3 := hs3.keep sB ht htS
    have hyl : y.length = n + 1 := by rw [← hcl, ← hy, Array.length_toList]; rfl
    (((with_reducible refine x_gname ?_); try simp only [List.set_cons_zero, List.set_cons_succ]); (with_reducible refine x_seq ?_); (with_reducible refine x_if ?_); (with_reducible refine x_test ?_); (with_reducible refine x_op ?_); ((with_reducible refine' x_var ?z43h ?_); case z43h => rfl); ((with_reducible refine' x_var ?z44h ?_); case z44h => rfl); ((with_reducible refine' x_ninLS ?z45h ?_); case z45h => walk_at "sl"); (with_reducible refine x_exb ?_))
    refine x_ite (fun h => ?_) (fun h => ?_)
    · ((with_reducible refine x_ret ?_); ((with_reducible refine' x_var ?z48h ?_); case z48h => rfl))
      exact k B2 H2 _ _ y hs3 hv2 oky (by simpa using h)
    ((with_reducible refine x_next ?_); (with_reducible refine x_seq ?_); (with_reducible refine x_asg ?_); (with_reducible refine x_cl ?_); (with_reducible refine x_cons ?_); ((with_reducible refine' x_var ?z54h ?_); case z54h => rfl); (with_reducible refine x_cons ?_); (with_reducible refine x_c ?_); (with_reducible refine x_nil ?_))
    refine use_take hs3 hv2 (by decide) (by decide) (fun B4 H4 a4 b4 m sb4 hs4 hv4 hm => ?_)
    (((with_reducible refine x_gname ?_); try simp only [List.set_cons_zero, List.set_cons_succ]); (with_reducible refine x_seq ?_); (with_reducible refine x_for ?_); (with_reducible refine x_iRng1 ?_); (with_reducible refine x_cons ?_); (with_reducible refine x_c ?_); (with_reducible refine x_nil ?_))
    refine ⟨_, rfl, by omega, by omega, ?_⟩
    have e26 : (26 : Int).toNat = 26 := rfl
    rw [e26]
    have hcut : (cutS y none (some 7)).cps.toList = cs.take 7 := by
      unfold cutS
      have h1 : HT.sIx y.length 0 none = 0 := rfl
      have h2 : HT.sIx y.length y.length (some 7) = min 7 y.length := HT.sIx_nat _ _ 7
      rw [h1, h2, hy]
      simp only [List.drop_zero, Nat.sub_zero]
      rw [hyl, ← hcl]
      simp
    let o : Nat → Str := fun j => cutS y none (some 7) ++ (⟨#[letters.cps.toList.getD ((m + j) % 26) 0]⟩ : Str)
    have ho : ∀ j, (o j).cps.toList = cs.take 7 ++ [letters.cps.toList.getD ((m + j) % 26) 0] := fun j => by
      show (((cutS y none (some 7)).cps ++ #[letters.cps.toList.getD ((m + j) % 26) 0] : Array Nat)).toList = _
      rw [Array.toList_append, hcut]
    have hcutl : (cutS y none (some 7)).length ≤ 7 := by
      have : (cutS y none (some 7)).length = (cs.take 7).length := by rw [← hcut, Array.length_toList]; rfl
      rw [this, List.length_take]; omega
    refine l_range (α := Option V × Option V) (σf := fun s => [some (.ref p), some (.ref t), some (.str "abcdefghijklmnopqrstuvwxyz"), some (.int (1 + (n : Nat))), some (.str y), some (.int (m : Nat)), s.1, s.2]) (Mf := fun _ => [(p, stO a4 b4)])
      (P := fun i _ _ => ∀ j, j < i → o j ∈ taken) (s0 := (none, none)) hs4 (by omega) (fun i s B5 H5 hi sb5 hs5 pp => ?_) (fun s B5 H5 sb5 hs5 pp => ?_)
    · have ht5 := hs5.keep sB ht htS
      (((with_reducible refine x_gname ?_); try simp only [List.set_cons_zero, List.set_cons_succ]); (with_reducible refine x_seq ?_); (with_reducible refine x_asg ?_); (with_reducible refine x_op ?_); (with_reducible refine x_sl ?_); ((with_reducible refine' x_var ?z70h ?_); case z70h => rfl); (with_reducible refine x_noPart ?_); (with_reducible refine x_part ?_); (with_reducible refine x_c ?_); (with_reducible refine x_exi ?_); ((with_reducible refine' x_slS ?z75h ?_); case z75h => walk_at "sz"); (with_reducible refine x_op ?_); ((with_reducible refine' x_var ?z77h ?_); case z77h => rfl); (with_reducible refine x_op ?_); (with_reducible refine x_cb ?_); (with_reducible refine x_cons ?_); (with_reducible refine x_op ?_); ((with_reducible refine' x_var ?z82h ?_); case z82h => rfl); ((with_reducible refine' x_var ?z83h ?_); case z83h => rfl); (with_reducible refine x_addI ?_); (with_reducible refine x_nil ?_); (with_reducible refine x_int1 ?_); (with_reducible refine x_c ?_); ((with_reducible refine' x_modI ?z88h ?_); case z88h => first | decide | omega))
      have em : ((m : Int) + (0 + (i : Int))) % 26 = ((m + i) % 26 : Nat) := by omega
      rw [em]
      have hm' : (m + i) % 26 < letters.cps.toList.length := by rw [letters_len]; omega
      refine x_ixS (by rw [sizeLine_eq]; decide +kernel) (atI_nat hm') ?_
      refine x_addS (small_le ?_) ?_
      · show (cutS y none (some 7)).length + 1 ≤ _
        omega
      have eo : cutS y none (some 7) ++ (⟨#[letters.cps.toList[(m + i) % 26]]⟩ : Str) = o i := by
        show _ = cutS y none (some 7) ++ (⟨#[letters.cps.toList.getD ((m + i) % 26) 0]⟩ : Str)
        rw [List.getD_eq_getElem?_getD, List.getElem?_eq_getElem hm', Option.getD_some]
      rw [eo]
      (((with_reducible refine x_gname ?_); try simp only [List.set_cons_zero, List.set_cons_succ]); (with_reducible refine x_if ?_); (with_reducible refine x_test ?_); (with_reducible refine x_op ?_); ((with_reducible refine' x_var ?z93h ?_); case z93h => rfl); ((with_reducible refine' x_var ?z94h ?_); case z94h => rfl); ((with_reducible refine' x_ninLS ?z95h ?_); case z95h => walk_at "sl"); (with_reducible refine x_exb ?_))
      refine x_ite (fun h => ?_) (fun h => ?_)
      · ((with_reducible refine x_ret ?_); ((with_reducible refine' x_var ?z98h ?_); case z98h => rfl))
        refine k B5 H5 _ _ (o i) hs5 hv4 (okName_of (ho i) (by simp) (by simp; omega) fun c mc => ?_) (by simpa using h)
        rcases List.mem_append.mp mc with z | z
        · exact hcs c (List.mem_of_mem_take z)
        · have : c = letters.cps.toList.getD ((m + i) % 26) 0 := by simpa using z
          rw [this, List.getD_eq_getElem?_getD, List.getElem?_eq_getElem hm', Option.getD_some]
          exact List.getElem_mem _
      · (with_reducible refine x_next ?_)
        refine ⟨(some _, some _), B5, rfl, sb5, hs5, fun j hj => ?_⟩
        by_cases e : j = i
        · rw [e]; simpa using h
        · exact pp j (by omega)
    · exfalso
      have h1 : ((List.range 26).map o).Nodup := by
        rw [List.nodup_iff_pairwise_ne, List.pairwise_map]
        refine List.Pairwise.imp_of_mem ?_ List.nodup_range
        intro i j hi hj hne e
        have e1 : (o i).cps.toList = (o j).cps.toList := by rw [e]
        rw [ho, ho] at e1
        have e2 := List.append_cancel_left e1
        have e3 : letters.cps.toList.getD ((m + i) % 26) 0 = letters.cps.toList.getD ((m + j) % 26) 0 := by simpa using e2
        have hi' : (m + i) % 26 < letters.cps.toList.length := by rw [letters_len]; omega
        have hj' : (m + j) % 26 < letters.cps.toList.length := by rw [letters_len]; omega
        rw [List.getD_eq_getElem?_getD, List.getD_eq_getElem?_getD, List.getElem?_eq_getElem hi', List.getElem?_eq_getElem hj', Option.getD_some, Option.getD_some] at e3
        have e4 := (List.getElem_inj letters_nd).mp e3
        have := List.mem_range.mp hi
        have := List.mem_range.mp hj
        omega
      have h2 := nodup_len h1 (ys := taken) fun x mx => by
        obtain ⟨j, hj, rfl⟩ := List.mem_map.mp mx
        exact pp j (List.mem_range.mp hj)
      rw [List.length_map, List.length_range] at h2
      omega
theorem use_name {K : PySem.W.Frag} {S : List Addr} {B0 H0 B H : Hp} {M : List (Addr × HO)} {Q : VK} {E : XK} {p t : Addr} {a b : Int} {taken : List Str} (hs : HS S B0 H0 B H ((p, stO a b) :: M)) (v : VSt a b) (ht : H t = some (.lst (taken.map V.str))) (hl : taken.length ≤ 25)
    (k : ∀ B' H' a' b' x, Same B B' → HS S B0 H0 B' H' ((p, stO a' b') :: M) → VSt a' b' → okName x = true → x ∉ taken → Q (.str x) H') (hne : t ≠ p) : sp__law_name K [.ref p, .ref t] H Q E :=
  ⟨p, t, a, b, taken, B, rfl, hs.bh, (hs.mu _ List.mem_cons_self).1, hs.get List.mem_cons_self, v, ht, hne, hl, fun B' H' a' b' x c v' h1 h2 => k B' H' a' b' x c.bb (hs.call1 c) v' h1 h2⟩
abbrev N__law_names : List Str := ["_law_state", "_law_many", "_law_names_here", "_law_k"]
def t__law_names (K : PySem.W.Frag) (E : XK) : TS := (tSeq (tAsg (tLst tNil) (gName 2))
  (tSeq (tFor (iRng1 (tCons (tVar 1) tNil)) (gName 3) (tDrop (tBM K "list" rAppend (tVar 2) (tCons (tCl (sp__law_name K) (WE0 E) (tCons (tVar 0) (tCons (tVar 2) tNil))) tNil))))
  (tRet (tVar 2))))
def sp__law_names (K : PySem.W.Frag) : Sp := fun vs H Q E => ∃ (p : Addr) (a b : Int) (m : Nat) (B : Hp), vs = [.ref p, .int (m : Nat)] ∧ Same B H ∧ B p = none ∧ H p = some (stO a b) ∧ VSt a b ∧ m ≤ 25 ∧
  ∀ B' H' a' b' l (xs : List Str), HS [p] B H B' H' [(p, stO a' b'), (l, .lst (xs.map V.str))] → VSt a' b' → xs.length = m → xs.Nodup → (∀ x ∈ xs, okName x = true) → Q (.ref l) H'
theorem pure__law_names {K : PySem.W.Frag} {vs : List V} {H : Hp} {Q : VK} {E : XK} (h : sp__law_names K vs H Q E) : t__law_names K E { nx := fun _ H' => Q .non H', rt := Q } (start N__law_names vs) H := by
  obtain ⟨p, a, b, m, B, rfl, sB, bp, hp, hv, hm, k⟩ := h
  have hs := HS.startS sB bp hp
  show t__law_names K E _ [some (.ref p), some (.int (m : Nat)), none, none] H
  unfold t__law_names
  ((with_reducible refine x_seq ?_); (with_reducible refine x_asg ?_); (with_reducible refine x_lst ?_); (with_reducible refine x_nil ?_); ((with_reducible refine' x_newL ?z104h ?_); case z104h => first | exact Nat.zero_le _ | (simp; done) | (simp; omega)))
  refine new_M hs (fun l H1 hs1 _ => ?_)
  (((with_reducible refine x_gname ?_); try simp only [List.set_cons_zero, List.set_cons_succ]); (with_reducible refine x_seq ?_); (with_reducible refine x_for ?_); (with_reducible refine x_iRng1 ?_); (with_reducible refine x_cons ?_); ((with_reducible refine' x_var ?z110h ?_); case z110h => rfl); (with_reducible refine x_nil ?_))
  refine ⟨_, rfl, by omega, by omega, ?_⟩
  have em : (m : Int).toNat = m := by omega
  rw [em]
  refine l_range (α := (Int × Int) × List Str × Option V) (σf := fun s => [some (.ref p), some (.int (m : Nat)), some (.ref l), s.2.2]) (Mf := fun s => [(p, stO s.1.1 s.1.2), (l, .lst (s.2.1.map V.str))])
    (P := fun i s _ => VSt s.1.1 s.1.2 ∧ s.2.1.length = i ∧ s.2.1.Nodup ∧ ∀ x ∈ s.2.1, okName x = true) (s0 := ((a, b), [], none)) hs1.swap ⟨hv, rfl, List.nodup_nil, by simp⟩ (fun i s B2 H2 hi sb2 hs2 pp => ?_) (fun s B2 H2 sb2 hs2 pp => ?_)
  · obtain ⟨⟨a2, b2⟩, xs, s3⟩ := s
    obtain ⟨hv2, hl2, nd2, ok2⟩ := pp
    dsimp only at hs2 hv2 hl2 nd2 ok2 ⊢
    (((with_reducible refine x_gname ?_); try simp only [List.set_cons_zero, List.set_cons_succ]); (with_reducible refine x_drop ?_); (with_reducible refine x_bm ?_); ((with_reducible refine' x_var ?z115h ?_); case z115h => rfl); ((with_reducible refine' x_tyL ?z116h ?_); case z116h => walk_at "sl"); (with_reducible refine x_cons ?_); (with_reducible refine x_cl ?_); (with_reducible refine x_cons ?_); ((with_reducible refine' x_var ?z120h ?_); case z120h => rfl); (with_reducible refine x_cons ?_); ((with_reducible refine' x_var ?z122h ?_); case z122h => rfl); (with_reducible refine x_nil ?_))
    refine use_name hs2 hv2 (hs2.get (List.mem_cons_of_mem _ List.mem_cons_self)) (by omega) (fun B3 H3 a3 b3 x sb3 hs3 hv3 okx nx => ?_) (Ne.symm hs2.ne01)
    (with_reducible refine x_nil ?_)
    refine x_append hs3.swap (by rw [List.length_map]; omega) (fun H4 hs4 => ?_)
    refine ⟨((a3, b3), xs ++ [x], some _), B3, rfl, sb2.trans sb3, by simpa using hs4.swap, hv3, by simp [hl2], ?_, fun y my => ?_⟩
    · rw [List.nodup_append]
      exact ⟨nd2, by simp, fun y my z mz e => nx (by have : z = x := by simpa using mz
                                                     rw [← this, ← e]; exact my)⟩
    · rcases List.mem_append.mp my with z | z
      · exact ok2 y z
      · have : y = x := by simpa using z
        rw [this]; exact okx
  · obtain ⟨⟨a2, b2⟩, xs, s3⟩ := s
    obtain ⟨hv2, hl2, nd2, ok2⟩ := pp
    ((with_reducible refine x_ret ?_); ((with_reducible refine' x_var ?z126h ?_); case z126h => rfl))
    exact k B2 H2 a2 b2 l xs hs2 hv2 hl2 nd2 ok2
theorem use_names {K : PySem.W.Frag} {S : List Addr} {B0 H0 B H : Hp} {M : List (Addr × HO)} {Q : VK} {E : XK} {p : Addr} {a b : Int} {m : Nat} (hs : HS S B0 H0 B H ((p, stO a b) :: M)) (v : VSt a b) (hm : m ≤ 25)
    (k : ∀ B' H' a' b' l (xs : List Str), Same B B' → HS S B0 H0 B' H' ((p, stO a' b') :: (l, .lst (xs.map V.str)) :: M) → VSt a' b' → xs.length = m → xs.Nodup → (∀ x ∈ xs, okName x = true) → Q (.ref l) H') : sp__law_names K [.ref p, .int (m : Nat)] H Q E :=
  ⟨p, a, b, m, B, rfl, hs.bh, (hs.mu _ List.mem_cons_self).1, hs.get List.mem_cons_self, v, hm, fun B' H' a' b' l xs c v' h1 h2 h3 => k B' H' a' b' l xs c.bb (hs.call1N c) v' h1 h2 h3⟩
end Q

set_option Elab.async false
set_option linter.all false
set_option maxRecDepth 100000
set_option maxHeartbeats 4000000
namespace Q
open PySem PySem.Spec PyProof.Rows L2
local macro_rules | `(tactic| walk_at "bf") => `(tactic| first | assumption | (refine' bstep (by assumption) ?r; case r => walk_at "bf") | fail)
local macro_rules | `(tactic| walk_at "rp") => `(tactic| first | assumption | exact Rep.int _ | exact Rep.bl _ | exact Rep.non | (refine' Rep.mono (by assumption) ?r; case r => walk_at "rp") | fail)
local macro_rules | `(tactic| walk_at "hf") => `(tactic| first | assumption | exact HS.up (by assumption) (by walk_at "bf") | exact HS.get (by assumption) List.mem_cons_self | exact HS.get (by assumption) (List.mem_cons_of_mem _ List.mem_cons_self) | exact HS.get (by assumption) (List.mem_cons_of_mem _ (List.mem_cons_of_mem _ List.mem_cons_self)) | exact HS.get (by assumption) (List.mem_cons_of_mem _ (List.mem_cons_of_mem _ (List.mem_cons_of_mem _ List.mem_cons_self))) | fail)
local macro_rules | `(tactic| walk_at "sl") => `(tactic| first | assumption | exact SqL.of (by walk_at "hf") | fail)
local macro_rules | `(tactic| walk_at "st") => `(tactic| first | assumption | exact SqT.of (by walk_at "hf") | fail)
local macro_rules | `(tactic| walk_at "sz") => `(tactic| first | assumption | (refine small_le ?_; first | assumption | omega | (simp; done) | (simp; omega)) | fail)
/-! ### law helpers: is_name, due, value, row -/
abbrev N__law_is_name : List Str := ["_law_value_here", "_law_letter"]
def t__law_is_name (K : PySem.W.Frag) (E : XK) : TS := (tSeq (tIfS (tOr (tNot (tB (tCB (rIsi K) (tCons (tVar 0) (tCons (tC (.ty "str")) tNil))))) (tOr (tTest (tOp rLtI (tCB (rLenA K) (tCons (tVar 0) tNil)) (tC (.int 1)))) (tTest (tOp rGtI (tCB (rLenA K) (tCons (tVar 0) tNil)) (tC (.int 8)))))) (tRet (tC (.bl false))) tNext)
  (tSeq (tFor (iStr (tVar 0)) (gName 1) (tIfS (tTest (tOp rNotInS (tVar 1) (tC (.str "abcdefghijklmnopqrstuvwxyz")))) (tRet (tC (.bl false))) tNext))
  (tRet (tC (.bl true)))))
def sp__law_is_name (K : PySem.W.Frag) : Sp := sp_is_name K
def dueV : Option Int → V
  | none => .non
  | some i => .int i
abbrev N__law_value : List Str := ["_law_state", "_law_deep", "_law_k", "_law_values"]
def t__law_value (K : PySem.W.Frag) (E : XK) : TS := (tSeq (tAsg (tC (.str "ann")) (gName 1))
  (tSeq (tFor (iRng1 (tCons (tC (.int 80)) tNil)) (gName 2) (tAsg (tLst (tCons (tVar 1) tNil)) (gName 1)))
  (tSeq (tAsg (tLst (tCons (tC .non) (tCons (tC (.bl true)) (tCons (tC (.bl false)) (tCons (tC (.int 0)) (tCons (tC (.int 1)) (tCons (tUn rNegI (tC (.int 1))) (tCons (tC (.int 7)) (tCons (tC (.str "")) (tCons (tC (.str "Ann")) (tCons (tC (.str "abcdefghi")) (tCons (tC (.str "an n")) (tCons (tC (.str "ann\n")) (tCons (tC (.str "ann1")) (tCons (tLst tNil) (tCons (tTup tNil) (tCons tDNewK (tCons (tLst (tCons (tC (.str "ann")) tNil)) tNil)))))))))))))))))) (gName 3))
  (tSeq (tAsg (tOp rCat (tVar 3) (tLst (tCons (tTup (tCons (tC (.str "ann")) (tCons (tC (.str "bob")) tNil))) (tCons (tTup (tCons (tC (.str "ann")) tNil)) (tCons (tDisp [((tC (.str "ann")), (tC (.int 1)))]) (tCons (tDisp [((tC (.str "ann")), (tLst (tCons (tC (.str "bob")) tNil))), ((tC (.str "bob")), (tLst (tCons (tC (.str "ann")) tNil)))]) (tCons (tVar 1) (tCons (tLst (tCons (tLst (tCons (tC (.int 1)) tNil)) (tCons (tDisp [((tC (.str "a")), (tLst tNil))]) tNil))) tNil)))))))) (gName 3))
  (tRet (tOp (rIxL K) (tVar 3) (tCl (sp__law_take K) (WE0 E) (tCons (tVar 0) (tCons (tCB (rLenA K) (tCons (tVar 3) tNil)) tNil)))))))))
def deepD : Nat → D
  | 0 => .str "ann"
  | n + 1 => .lst [deepD n]
def lawVals : List D := [.non, .bl true, .bl false, .int 0, .int 1, .int (-1), .int 7, .str "", .str "Ann", .str "abcdefghi", .str "an n", .str "ann\n", .str "ann1", .lst [], .tup [], .dct [], .lst [.str "ann"],
  .tup [.str "ann", .str "bob"], .tup [.str "ann"], .dct [(.inr "ann", .int 1)], .dct [(.inr "ann", .lst [.str "bob"]), (.inr "bob", .lst [.str "ann"])], deepD 80, .lst [.lst [.int 1], .dct [(.inr "a", .lst [])]]]
def sp__law_value (K : PySem.W.Frag) : Sp := fun vs H Q E => ∃ (p : Addr) (a b : Int) (B : Hp), vs = [.ref p] ∧ Same B H ∧ B p = none ∧ H p = some (stO a b) ∧ VSt a b ∧
  ∀ B' H' a' b' v d, HS [p] B H B' H' [(p, stO a' b')] → VSt a' b' → Rep K B' v d → d ∈ lawVals → (∀ q, v = .ref q → B q = none) → Q v H'
/-! ### rows of texts are equal -/
theorem dp_strs {K : PySem.W.Frag} {H : Hp} : ∀ xs : List Str, DpAll K H (xs.map V.str) (xs.map PyData.str)
  | [] => .nil
  | x :: r => .cons (.str x) (dp_strs r)
abbrev N__law_row : List Str := ["_law_actual", "_law_due_here"]
def t__law_row (K : PySem.W.Frag) (E : XK) : TS := (tRet (tAndV (tCB (rIsi K) (tCons (tVar 0) (tCons (tC (.ty "list")) tNil))) (tOp (rEqD K) (tVar 0) (tVar 1))))
def sp__law_row (K : PySem.W.Frag) : Sp := fun vs H Q E => ∃ (p q : Addr) (xs : List V) (d e : PyData) (B : Hp), vs = [.ref p, .ref q] ∧ Same B H ∧ H p = some (.lst xs) ∧ Dp K H (.ref p) d ∧ Dp K H (.ref q) e ∧ SeqAt.shaped d = true ∧ SeqAt.shaped e = true ∧ Q (.bl (PyData.eqv d e)) H
end Q

set_option Elab.async false
set_option linter.all false
set_option maxRecDepth 100000
set_option maxHeartbeats 4000000
namespace Q
open PySem PySem.Spec PyProof.Rows L2
/-! ### making a group -/
theorem GAt.ins {K : PySem.W.Frag} {B : Hp} {p : Addr} {G : Grp} (h : GAt K B p G) : ∃ dx n l m q, B p = some (.ins (He.ga K "Group") dx (gf n l m q)) := by
  obtain ⟨⟨dx, n, l, m, q, h1, _⟩, _⟩ := h
  exact ⟨dx, n, l, m, q, h1⟩
theorem okName_len {x : Str} (h : okName x = true) : x.length ≤ 1000000 := by
  unfold okName at h
  obtain ⟨_, h⟩ := Bool.and_eq_true_iff.mp h
  obtain ⟨h, _⟩ := Bool.and_eq_true_iff.mp h
  have := of_decide_eq_true h
  omega
def spLaw (K : PySem.W.Frag) : Sp := fun vs H Q _ => ∃ (a : Addr) (ns : List Int), vs = [.ref a] ∧ ns.length ≤ 63 ∧ SqL K H a (ns.map V.int) ∧ ∀ H', Q (.bl true) H'
end Q

set_option Elab.async false
set_option linter.all false
set_option maxRecDepth 100000
set_option maxHeartbeats 4000000
namespace Q
open PySem PySem.Spec PyProof.Rows L2
/-! ### sorted of tuples of texts, any number of them -/
def lexT : List Str → List Str → Bool
  | [], [] => false
  | [], _ :: _ => true
  | _ :: _, [] => false
  | x :: xs, y :: ys => if x = y then lexT xs ys else decide (x.cps.toList < y.cps.toList)
def leT (a b : List Str) : Bool := !lexT b a
def sortT (l : List (List Str)) : List (List Str) := l.mergeSort leT
def IsTx (h : Heap) (v : Value) (ks : List Str) : Prop := ∃ a o n us, v = .ref a ∧ h.get? a = some o ∧ o.cls = .type "tuple" ∧ o.data = .seq (List.toArray us) n ∧ Vals (ks.map V.str) us
theorem IsTx.keeps {h h' : Heap} {v : Value} {ks : List Str} (p : IsTx h v ks) (k : ∀ b o, h.get? b = some o → o.cls = .type "tuple" → h'.get? b = some o) : IsTx h' v ks := by
  obtain ⟨a, o, n, us, e, ho, hc, hd, r⟩ := p
  exact ⟨a, o, n, us, e, k _ _ ho hc, hc, hd, r⟩
section
variable {prog : Program} {w : World} {A : Around} {E : Value → Shared → Prop} {s : Shared}
end
def rSortTx (K : PySem.W.Frag) : List V → Hp → VK → Prop := fun vs H Q => ∃ (a : Addr) (xs : List V) (k : V → List Str), vs = [V.ref a] ∧ SqL K H a xs ∧ (∀ x ∈ xs, (∃ t, x = V.ref t ∧ H t = some (.tup ((k x).map V.str))) ∧ k x ≠ []) ∧
  ∀ ys p, ys.Perm xs → ys.map k = sortT (xs.map k) → H p = none → Q (.ref p) (upd H p (.lst ys))
end Q

set_option Elab.async false
set_option linter.all false
set_option maxRecDepth 100000
set_option maxHeartbeats 4000000
namespace Q
open PySem PySem.Spec PyProof.Rows L2
/-! ### the operators of one's own class: in, not in, [], len -/
def rInG (C : Addr) (sp : Sp) : R2 := fun x y H Q => ∃ a dx fs, y = .ref a ∧ H a = some (.ins C dx fs) ∧ sp [.ref a, x] H (fun v H' => ∃ b, v = .bl b ∧ Q (.bl b) H') fun _ _ _ => False
def rNotInG (C : Addr) (sp : Sp) : R2 := fun x y H Q => ∃ a dx fs, y = .ref a ∧ H a = some (.ins C dx fs) ∧ sp [.ref a, x] H (fun v H' => ∃ b, v = .bl b ∧ Q (.bl (!b)) H') fun _ _ _ => False
def tGetG (C : Addr) (sp : Sp) (W : WX) (ta ti : TE) : TE := fun σ H Q => ta σ H fun x H1 => ti σ H1 fun y H2 => ∃ a dx fs, x = .ref a ∧ H2 a = some (.ins C dx fs) ∧ sp [x, y] H2 Q fun c d H' => W c d σ H'
def rLenO (C : Addr) (sp : Sp) : List V → Hp → VK → Prop := fun xs H Q => ∃ a dx fs, xs = [V.ref a] ∧ H a = some (.ins C dx fs) ∧ sp [.ref a] H (fun v H' => ∃ n : Nat, v = .int (n : Nat) ∧ n ≤ 1000000 ∧ Q (.int (n : Nat)) H') fun _ _ _ => False
/-- a method whose function is a def of the text -/
def MtI (P : Program) (w : World) (K : PySem.W.Frag) (mg : Str → Option Value) (base : Heap) (k : Nat) (c m : Str) (ps : List Str) (sp : Sp) : Prop :=
  ∃ f fd, Cls K (He.ga K c) ∧ Meth K (He.ga K c) m f ∧ Binds K fd ps [] ∧ FnOk P w K mg base (L2.CX P w) k f fd ps sp ∧ PySem.W.fnIn K f = true
theorem FunD.fnIn {K : PySem.W.Frag} {x qual : Str} {params : Arguments} {body : List Stmt} {scope : Scope} {dvs : List V} {kws : List (Str × V)} {f : Addr} {fd : FuncData} (F : FunD K x qual params body scope dvs kws f fd) : PySem.W.fnIn K f = true := by
  obtain ⟨oc, od, dV, kV, doc, pm, an, cdv, ct, osl, e, lk, _⟩ := F.ex
  unfold PySem.W.fnIn
  rw [lk]
section
variable {X : Cx} {k j : Nat} {c : Str} {ps : List Str} {sp : Sp} {W : WX} {o i : Expr} {ta ti : TE} {pos : Pos}
end
end Q

set_option Elab.async false
set_option linter.all false
set_option maxRecDepth 100000
set_option maxHeartbeats 4000000
namespace Q
open PySem PySem.Spec PyProof.Rows L2
local macro_rules | `(tactic| walk_at "bf") => `(tactic| first | assumption | (refine' bstep (by assumption) ?r; case r => walk_at "bf") | fail)
local macro_rules | `(tactic| walk_at "rp") => `(tactic| first | assumption | exact Rep.int _ | exact Rep.bl _ | exact Rep.non | (refine' Rep.mono (by assumption) ?r; case r => walk_at "rp") | fail)
local macro_rules | `(tactic| walk_at "hf") => `(tactic| first | assumption | exact HS.up (by assumption) (by walk_at "bf") | exact HS.get (by assumption) List.mem_cons_self | exact HS.get (by assumption) (List.mem_cons_of_mem _ List.mem_cons_self) | exact HS.get (by assumption) (List.mem_cons_of_mem _ (List.mem_cons_of_mem _ List.mem_cons_self)) | exact HS.get (by assumption) (List.mem_cons_of_mem _ (List.mem_cons_of_mem _ (List.mem_cons_of_mem _ List.mem_cons_self))) | fail)
local macro_rules | `(tactic| walk_at "sl") => `(tactic| first | assumption | exact SqL.of (by walk_at "hf") | fail)
local macro_rules | `(tactic| walk_at "st") => `(tactic| first | assumption | exact SqT.of (by walk_at "hf") | fail)
local macro_rules | `(tactic| walk_at "sz") => `(tactic| first | assumption | (refine small_le ?_; first | assumption | omega | (simp; done) | (simp; omega)) | fail)
/-! ### slices of texts' rows -/
theorem cutV_toS {xs : List Str} {m : Int} {i : Nat} (e : m = i) : cutV (xs.map V.str) none (some m) = (xs.take i).map V.str := by
  subst e
  unfold cutV
  rw [HT.sIx_nat, HT.sIx_none, List.length_map, List.drop_zero, Nat.sub_zero, ← List.map_take]
  congr 1
  by_cases h : i ≤ xs.length
  · rw [Nat.min_eq_left h]
  · rw [Nat.min_eq_right (by omega), List.take_length, List.take_of_length_le (by omega)]
theorem eraseIdx_mapS : ∀ (xs : List Str) (i : Nat), (xs.map V.str).eraseIdx i = (xs.eraseIdx i).map V.str
  | [], _ => by simp
  | _ :: _, 0 => by simp
  | x :: r, i + 1 => by simp [eraseIdx_mapS r i]
theorem seqIndex_nat {n m : Nat} (h : m < n) : seqIndex? (m : Int) n = some m := by
  unfold seqIndex?
  simp only
  rw [if_neg (show ¬ (m : Int) < 0 by omega)]
  rw [if_pos (by simp; omega)]
  simp
theorem perm_erase {α : Type} : ∀ {l : List α} {i : Nat} (h : i < l.length), (l[i] :: l.eraseIdx i).Perm l
  | _ :: _, 0, _ => List.Perm.refl _
  | x :: r, i + 1, h => by
    have ih := perm_erase (l := r) (i := i) (by simpa using h)
    simp only [List.getElem_cons_succ, List.eraseIdx_cons_succ]
    exact (List.Perm.swap _ _ _).trans (List.Perm.cons x ih)
/-! ### a row in a drawn order -/
abbrev N__law_mixed : List Str := ["_law_state", "_law_items", "_law_pool", "_law_row_here", "_law_k"]
def t__law_mixed (K : PySem.W.Frag) (E : XK) : TS := (tSeq (tAsg (tCB (rListOf K) (tCons (tVar 1) tNil)) (gName 2))
  (tSeq (tAsg (tLst tNil) (gName 3))
  (tSeq (tFor (iRng1 (tCons (tCB (rLenA K) (tCons (tVar 1) tNil)) tNil)) (gName 4) (tDrop (tBM K "list" rAppend (tVar 3) (tCons (tBM K "list" rPopAt (tVar 2) (tCons (tCl (sp__law_take K) (WE0 E) (tCons (tVar 0) (tCons (tCB (rLenA K) (tCons (tVar 2) tNil)) tNil))) tNil)) tNil))))
  (tRet (tVar 3)))))
def sp__law_mixed (K : PySem.W.Frag) : Sp := fun vs H Q E => ∃ (p t : Addr) (a b : Int) (xs : List Str) (B : Hp), vs = [.ref p, .ref t] ∧ Same B H ∧ B p = none ∧ H p = some (stO a b) ∧ VSt a b ∧ B t = some (.lst (xs.map V.str)) ∧ xs.length ≤ 100 ∧
  ∀ B' H' a' b' l (ys : List Str), HS [p] B H B' H' [(p, stO a' b'), (l, .lst (ys.map V.str))] → VSt a' b' → ys.Perm xs → Q (.ref l) H'
theorem pure__law_mixed {K : PySem.W.Frag} {vs : List V} {H : Hp} {Q : VK} {E : XK} (h : sp__law_mixed K vs H Q E) : t__law_mixed K E { nx := fun _ H' => Q .non H', rt := Q } (start N__law_mixed vs) H := by
  obtain ⟨p, t, a, b, xs, B, rfl, sB, bp, hp, hv, ht, hl, k⟩ := h
  have hs := HS.startS sB bp hp
  show t__law_mixed K E _ [some (.ref p), some (.ref t), none, none, none] H
  unfold t__law_mixed
  ((with_reducible refine x_seq ?_); (with_reducible refine x_asg ?_); (with_reducible refine x_cb ?_); (with_reducible refine x_cons ?_); ((with_reducible refine' x_var ?z5h ?_); case z5h => rfl); (with_reducible refine x_nil ?_); ((with_reducible refine' x_listL ?z7h ?_); case z7h => walk_at "sl"))
  refine new_M hs (fun po H1 hs1 _ => ?_)
  (((with_reducible refine x_gname ?_); try simp only [List.set_cons_zero, List.set_cons_succ]); (with_reducible refine x_seq ?_); (with_reducible refine x_asg ?_); (with_reducible refine x_lst ?_); (with_reducible refine x_nil ?_); ((with_reducible refine' x_newL ?z13h ?_); case z13h => first | exact Nat.zero_le _ | (simp; done) | (simp; omega)))
  refine new_M hs1 (fun ro H2 hs2 _ => ?_)
  (((with_reducible refine x_gname ?_); try simp only [List.set_cons_zero, List.set_cons_succ]); (with_reducible refine x_seq ?_); (with_reducible refine x_for ?_); (with_reducible refine x_iRng1 ?_); (with_reducible refine x_cons ?_); (with_reducible refine x_cb ?_); (with_reducible refine x_cons ?_); ((with_reducible refine' x_var ?z21h ?_); case z21h => rfl); (with_reducible refine x_nil ?_); ((with_reducible refine' x_lenL ?z23h ?_); case z23h => walk_at "sl"); (with_reducible refine x_nil ?_))
  refine ⟨_, rfl, by rw [List.length_map]; omega, by rw [List.length_map]; omega, ?_⟩
  have en : (((xs.map V.str).length : Nat) : Int).toNat = xs.length := by rw [List.length_map]; omega
  rw [en]
  have hs3 : HS [p] B H B H2 [(p, stO a b), (po, .lst (xs.map V.str)), (ro, .lst (([] : List Str).map V.str))] := hs2.perm ((List.Perm.cons _ (List.Perm.swap _ _ _)).trans ((List.Perm.swap _ _ _).trans (List.Perm.cons _ (List.Perm.swap _ _ _))))
  refine l_range (α := (Int × Int) × (List Str × List Str) × Option V) (σf := fun s => [some (.ref p), some (.ref t), some (.ref po), some (.ref ro), s.2.2]) (Mf := fun s => [(p, stO s.1.1 s.1.2), (po, .lst (s.2.1.1.map V.str)), (ro, .lst (s.2.1.2.map V.str))])
    (P := fun i s _ => VSt s.1.1 s.1.2 ∧ s.2.1.2.length = i ∧ (s.2.1.2 ++ s.2.1.1).Perm xs) (s0 := ((a, b), (xs, []), none)) hs3 ⟨hv, rfl, List.Perm.refl _⟩ (fun i s B1 H1 hi sb1 hs1 pp => ?_) (fun s B1 H1 sb1 hs1 pp => ?_)
  · obtain ⟨⟨a1, b1⟩, ⟨rest, done⟩, s3⟩ := s
    obtain ⟨hv1, hl1, hp1⟩ := pp
    dsimp only at hs1 hv1 hl1 hp1 ⊢
    have hlen := hp1.length_eq
    rw [List.length_append] at hlen
    (((with_reducible refine x_gname ?_); try simp only [List.set_cons_zero, List.set_cons_succ]); (with_reducible refine x_drop ?_); (with_reducible refine x_bm ?_); ((with_reducible refine' x_var ?z28h ?_); case z28h => rfl); ((with_reducible refine' x_tyL ?z29h ?_); case z29h => walk_at "sl"); (with_reducible refine x_cons ?_); (with_reducible refine x_bm ?_); ((with_reducible refine' x_var ?z32h ?_); case z32h => rfl); ((with_reducible refine' x_tyL ?z33h ?_); case z33h => walk_at "sl"); (with_reducible refine x_cons ?_); (with_reducible refine x_cl ?_); (with_reducible refine x_cons ?_); ((with_reducible refine' x_var ?z37h ?_); case z37h => rfl); (with_reducible refine x_cons ?_); (with_reducible refine x_cb ?_); (with_reducible refine x_cons ?_); ((with_reducible refine' x_var ?z41h ?_); case z41h => rfl); (with_reducible refine x_nil ?_); ((with_reducible refine' x_lenL ?z43h ?_); case z43h => walk_at "sl"); (with_reducible refine x_nil ?_))
    try refine x_tyL (SqL.of (hs1.get (List.mem_cons_of_mem _ (List.mem_cons_of_mem _ List.mem_cons_self)))) ?_
    skip
    try refine x_tyL (SqL.of (hs1.get (List.mem_cons_of_mem _ List.mem_cons_self))) ?_
    skip
    try refine x_lenL (SqL.of (hs1.get (List.mem_cons_of_mem _ List.mem_cons_self))) ?_
    skip
    refine use_take hs1 hv1 (by rw [List.length_map]; omega) (by rw [List.length_map]; omega) (fun B2 H2 a2 b2 m sb2 hs2 hv2 hm => ?_)
    rw [List.length_map] at hm
    have hm' : m < rest.length := by omega
    (with_reducible refine x_nil ?_)
    refine x_popAt (y := .str rest[m]) hs2.swap (by omega) (by omega) (seqIndex_nat (by rw [List.length_map]; exact hm')) (by rw [List.getElem?_map, List.getElem?_eq_getElem hm']; rfl) (fun H3 hs3 => ?_)
    rw [eraseIdx_mapS] at hs3
    (with_reducible refine x_nil ?_)
    refine x_append hs3.rot3 (by rw [List.length_map]; omega) (fun H4 hs4 => ?_)
    have hs5 := hs4.unrot3.swap
    refine ⟨((a2, b2), (rest.eraseIdx m, done ++ [rest[m]]), some _), B2, rfl, sb1.trans sb2, by simpa using hs5, hv2, by simp [hl1], ?_⟩
    have e1 : (done ++ [rest[m]] ++ rest.eraseIdx m) = done ++ (rest[m] :: rest.eraseIdx m) := by simp
    dsimp only
    rw [e1]
    exact ((List.Perm.refl done).append (perm_erase hm')).trans hp1
  · obtain ⟨⟨a1, b1⟩, ⟨rest, done⟩, s3⟩ := s
    obtain ⟨hv1, hl1, hp1⟩ := pp
    dsimp only at hs1 hv1 hl1 hp1 ⊢
    have hlen := hp1.length_eq
    rw [List.length_append] at hlen
    have hr : rest = [] := List.length_eq_zero_iff.mp (by omega)
    rw [hr, List.append_nil] at hp1
    ((with_reducible refine x_ret ?_); ((with_reducible refine' x_var ?z48h ?_); case z48h => rfl))
    exact k B1 H1 a1 b1 ro done (hs1.swap.drop) hv1 hp1
theorem use_mixed {K : PySem.W.Frag} {S : List Addr} {B0 H0 B H : Hp} {M : List (Addr × HO)} {Q : VK} {E : XK} {p t : Addr} {a b : Int} {xs : List Str} (hs : HS S B0 H0 B H ((p, stO a b) :: M)) (v : VSt a b) (ht : B t = some (.lst (xs.map V.str))) (hl : xs.length ≤ 100)
    (k : ∀ B' H' a' b' l (ys : List Str), Same B B' → HS S B0 H0 B' H' ((p, stO a' b') :: (l, .lst (ys.map V.str)) :: M) → VSt a' b' → ys.Perm xs → Q (.ref l) H') : sp__law_mixed K [.ref p, .ref t] H Q E :=
  ⟨p, t, a, b, xs, B, rfl, hs.bh, (hs.mu _ List.mem_cons_self).1, hs.get List.mem_cons_self, v, ht, hl, fun B' H' a' b' l ys c v' h1 => k B' H' a' b' l ys c.bb (hs.call1N c) v' h1⟩
/-- the same, and the row stands still from now on -/
theorem HS.stillN {p q : Addr} {o u : HO} {M : List (Addr × HO)} {S : List Addr} {B0 H0 B H : Hp} (h : HS S B0 H0 B H ((p, o) :: (q, u) :: M)) (hq : q ∉ S) : ∃ B', HS S B0 H0 B' H ((p, o) :: M) ∧ Same B B' ∧ B' q = some u := by
  obtain ⟨h1, h2⟩ := h.swap.still hq
  exact ⟨_, h1, h2, upd_same⟩
abbrev N__law_others : List Str := ["_law_names_here", "_law_a", "_law_b"]
def t__law_others (K : PySem.W.Frag) (E : XK) : TS := (tRet (tLc (iList K (tVar 0)) (gName 2) (tTest (tOp rNe (tVar 2) (tVar 1))) (tVar 2) [2]))
def sp__law_others (K : PySem.W.Frag) : Sp := fun vs H Q E => ∃ (t : Addr) (x : Str) (xs : List Str) (B : Hp), vs = [.ref t, .str x] ∧ Same B H ∧ B t = some (.lst (xs.map V.str)) ∧ xs.length ≤ 1000 ∧
  ∀ B' H' l, HS [] B H B' H' [(l, .lst ((xs.filter fun y => !decide (y = x)).map V.str))] → Q (.ref l) H'
end Q

set_option Elab.async false
set_option linter.all false
set_option maxRecDepth 100000
set_option maxHeartbeats 4000000
namespace Q
open PySem PySem.Spec PyProof.Rows L2
local macro_rules | `(tactic| walk_at "bf") => `(tactic| first | assumption | (refine' bstep (by assumption) ?r; case r => walk_at "bf") | fail)
local macro_rules | `(tactic| walk_at "rp") => `(tactic| first | assumption | exact Rep.int _ | exact Rep.bl _ | exact Rep.non | (refine' Rep.mono (by assumption) ?r; case r => walk_at "rp") | fail)
local macro_rules | `(tactic| walk_at "hf") => `(tactic| first | assumption | exact HS.up (by assumption) (by walk_at "bf") | exact HS.get (by assumption) List.mem_cons_self | exact HS.get (by assumption) (List.mem_cons_of_mem _ List.mem_cons_self) | exact HS.get (by assumption) (List.mem_cons_of_mem _ (List.mem_cons_of_mem _ List.mem_cons_self)) | exact HS.get (by assumption) (List.mem_cons_of_mem _ (List.mem_cons_of_mem _ (List.mem_cons_of_mem _ List.mem_cons_self))) | fail)
local macro_rules | `(tactic| walk_at "sl") => `(tactic| first | assumption | exact SqL.of (by walk_at "hf") | fail)
local macro_rules | `(tactic| walk_at "st") => `(tactic| first | assumption | exact SqT.of (by walk_at "hf") | fail)
local macro_rules | `(tactic| walk_at "sz") => `(tactic| first | assumption | (refine small_le ?_; first | assumption | omega | (simp; done) | (simp; omega)) | fail)
/-! ### wishes that are drawn -/
def RowOk (names : List Str) (p : Str) (row : List Str) : Prop := row.Nodup ∧ p ∉ row ∧ ∀ q ∈ row, q ∈ names
theorem RowOk.perm {names row row' : List Str} {p : Str} (h : RowOk names p row) (e : row'.Perm row) : RowOk names p row' := ⟨e.nodup_iff.mpr h.1, fun m => h.2.1 (e.mem_iff.mp m), fun q m => h.2.2 q (e.mem_iff.mp m)⟩
theorem RowOk.take {names row : List Str} {p : Str} (h : RowOk names p row) (n : Nat) : RowOk names p (row.take n) := ⟨h.1.sublist (List.take_sublist n row), fun m => h.2.1 (List.mem_of_mem_take m), fun q m => h.2.2 q (List.mem_of_mem_take m)⟩
theorem RowOk.len {names row : List Str} {p : Str} (h : RowOk names p row) : row.length ≤ names.length := nodup_len h.1 h.2.2
def WRows (B : Hp) (names done : List Str) (kvs : List (Key × V)) : Prop := ∃ al : List Addr, al.length = done.length ∧ kvs = zipK done al ∧ ∀ (j : Nat) p a, done[j]? = some p → al[j]? = some a → ∃ row : List Str, B a = some (.lst (row.map V.str)) ∧ RowOk names p row
theorem WRows.nil {B : Hp} {names : List Str} : WRows B names [] [] := ⟨[], rfl, rfl, by simp⟩
theorem WRows.mono {B B' : Hp} {names done : List Str} {kvs : List (Key × V)} (s : Same B B') (h : WRows B names done kvs) : WRows B' names done kvs := by
  obtain ⟨al, h1, h2, h3⟩ := h
  refine ⟨al, h1, h2, fun j p a e1 e2 => ?_⟩
  obtain ⟨row, q1, q2⟩ := h3 j p a e1 e2
  exact ⟨row, s _ _ q1, q2⟩
theorem WRows.len {B : Hp} {names done : List Str} {kvs : List (Key × V)} (h : WRows B names done kvs) : kvs.length = done.length := by
  obtain ⟨al, h1, h2, h3⟩ := h
  rw [h2]
  unfold zipK
  rw [List.length_map, List.length_zip, h1, Nat.min_self]
theorem WRows.keys {B : Hp} {names done : List Str} {kvs : List (Key × V)} (h : WRows B names done kvs) : kvs.map (·.1) = done.map Sum.inr := by
  obtain ⟨al, h1, h2, h3⟩ := h
  rw [h2]
  exact zipK_keys h1
theorem zipK_over {x : Str} {a : Addr} : ∀ {xs : List Str} {al : List Addr} {j : Nat}, al.length = xs.length → xs.Nodup → xs[j]? = some x → (zipK xs al).map (fun q => if q.1 = (Sum.inr x : Key) then (q.1, V.ref a) else q) = zipK xs (al.set j a)
  | [], _, _, _, _, e => by simp at e
  | y :: r, [], _, h, _, _ => by simp at h
  | y :: r, b :: al, 0, h, nd, e => by
    have e : y = x := by simpa using e
    subst e
    rw [List.nodup_cons] at nd
    show (if (Sum.inr y : Key) = Sum.inr y then ((Sum.inr y : Key), V.ref a) else ((Sum.inr y : Key), V.ref b)) :: (zipK r al).map _ = _
    rw [if_pos rfl]
    show _ = (Sum.inr y, V.ref a) :: zipK r al
    congr 1
    have : ∀ q ∈ zipK r al, (if q.1 = (Sum.inr y : Key) then (q.1, V.ref a) else q) = q := fun q m => by
      unfold zipK at m
      obtain ⟨z, hz, rfl⟩ := List.mem_map.mp m
      have : z.1 ∈ r := (List.of_mem_zip hz).1
      rw [if_neg (fun e => nd.1 (by rw [← Sum.inr.inj e]; exact this))]
    rw [List.map_congr_left this]
    simp
  | y :: r, b :: al, j + 1, h, nd, e => by
    rw [List.nodup_cons] at nd
    have e : r[j]? = some x := by simpa using e
    have hxy : ¬ (Sum.inr y : Key) = Sum.inr x := fun z => nd.1 (by rw [Sum.inr.inj z]; exact List.mem_of_getElem? e)
    show (if (Sum.inr y : Key) = Sum.inr x then ((Sum.inr y : Key), V.ref a) else ((Sum.inr y : Key), V.ref b)) :: (zipK r al).map _ = (Sum.inr y, V.ref b) :: zipK r (al.set j a)
    rw [if_neg hxy, zipK_over (by simpa using h) nd.2 e]
theorem WRows.over {B : Hp} {names done : List Str} {kvs : List (Key × V)} {x : Str} {a : Addr} {row : List Str} (h : WRows B names done kvs) (nd : done.Nodup) (hx : x ∈ done) (e : B a = some (.lst (row.map V.str))) (ok : RowOk names x row) : WRows B names done (putK kvs (.inr x) (.ref a)) := by
  obtain ⟨al, h1, h2, h3⟩ := h
  obtain ⟨j, hj, ej⟩ := List.getElem_of_mem hx
  have ej : done[j]? = some x := by rw [List.getElem?_eq_getElem hj, ej]
  obtain ⟨_, _, _, _, hv⟩ := zipK_val h1 nd hx
  refine ⟨al.set j a, by simp [h1], ?_, fun i p b e1 e2 => ?_⟩
  · rw [h2]
    unfold putK
    rw [valV_any, hv]
    exact zipK_over (a := a) h1 nd ej
  · by_cases hij : j = i
    · subst hij
      rw [ej] at e1
      cases e1
      rw [List.getElem?_set_self (by omega)] at e2
      cases e2
      exact ⟨row, e, ok⟩
    · rw [List.getElem?_set_ne hij] at e2
      exact h3 i p b e1 e2
abbrev N__law_plain_wishes : List Str := ["_law_state", "_law_names_here", "_law_mode", "_law_order", "_law_wishes_here", "_law_k", "_law_others_here", "_law_b"]
def t__law_plain_wishes (K : PySem.W.Frag) (E : XK) : TS := (tSeq (tAsg (tCl (sp__law_mixed K) (WE0 E) (tCons (tVar 0) (tCons (tVar 1) tNil))) (gName 3))
  (tSeq (tAsg tDNewK (gName 4))
  (tSeq (tFor (iRng1 (tCons (tCB (rLenA K) (tCons (tVar 3) tNil)) tNil)) (gName 5) (tSeq (tAsg (tOp rCat (tSl (rSlL K) (tVar 3) (tPart (tOp rAddI (tVar 5) (tC (.int 1)))) tNoPart) (tSl (rSlL K) (tVar 3) tNoPart (tPart (tVar 5)))) (gName 6))
  (tSeq (tIfS (tTest (tOp rEq (tVar 2) (tC (.int 1)))) (tAsg (tLc (iList K (tVar 3)) (gName 7) (tTest (tOp rNe (tVar 7) (tOp (rIxL K) (tVar 3) (tVar 5)))) (tVar 7) [7]) (gName 6)) tNext)
  (tSeq (tIfS (tTest (tOp rGtI (tVar 2) (tC (.int 1)))) (tAsg (tCl (sp__law_mixed K) (WE0 E) (tCons (tVar 0) (tCons (tVar 6) tNil))) (gName 6)) tNext)
  (tSeq (tIfS (tTest (tOp rEq (tVar 2) (tC (.int 3)))) (tAsg (tSl (rSlL K) (tVar 6) tNoPart (tPart (tCl (sp__law_take K) (WE0 E) (tCons (tVar 0) (tCons (tOp rAddI (tCB (rLenA K) (tCons (tVar 6) tNil)) (tC (.int 1))) tNil))))) (gName 6)) tNext)
  (tSeq (tIfS (tTest (tOp rEq (tVar 2) (tC (.int 4)))) (tAsg (tSl (rSlL K) (tVar 6) tNoPart (tPart (tCl (sp__law_take K) (WE0 E) (tCons (tVar 0) (tCons (tC (.int 4)) tNil))))) (gName 6)) tNext)
  (sDPut (tVar 4) (tOp (rIxL K) (tVar 3) (tVar 5)) (tVar 6))))))))
  (tRet (tVar 4)))))
def spW (p t : Addr) (H : Hp) (Q : VK) : Prop := ∃ (a b : Int) (xs : List Str) (B : Hp), Same B H ∧ B p = none ∧ H p = some (stO a b) ∧ VSt a b ∧ B t = some (.lst (xs.map V.str)) ∧ xs.length ≤ 25 ∧ xs.Nodup ∧
  ∀ B' H' a' b' w kvs done, HS [p] B H B' H' [(p, stO a' b'), (w, .dK kvs)] → VSt a' b' → done.Perm xs → WRows B' xs done kvs → Q (.ref w) H'
def sp__law_plain_wishes (K : PySem.W.Frag) : Sp := fun vs H Q E => ∃ (p t : Addr) (m : Int), vs = [.ref p, .ref t, .int m] ∧ spW p t H Q
theorem take_snoc {α : Type} {l : List α} {i : Nat} {x : α} (h : l[i]? = some x) : l.take (i + 1) = l.take i ++ [x] := by rw [List.take_succ, h]; rfl
theorem notin_take {l : List Str} {i : Nat} {x : Str} (nd : l.Nodup) (h : l[i]? = some x) : x ∉ l.take i := fun m => by
  obtain ⟨j, hj, e⟩ := List.mem_take_iff_getElem.mp m
  have h1 : l[j]? = some x := by rw [← e]; simp
  have := nodup_ix nd h1 h
  omega
end Q

set_option Elab.async false
set_option linter.all false
set_option maxRecDepth 100000
set_option maxHeartbeats 4000000
namespace Q
open PySem PySem.Spec PyProof.Rows L2
local macro_rules | `(tactic| walk_at "bf") => `(tactic| first | assumption | (refine' bstep (by assumption) ?r; case r => walk_at "bf") | fail)
local macro_rules | `(tactic| walk_at "rp") => `(tactic| first | assumption | exact Rep.int _ | exact Rep.bl _ | exact Rep.non | (refine' Rep.mono (by assumption) ?r; case r => walk_at "rp") | fail)
local macro_rules | `(tactic| walk_at "hf") => `(tactic| first | assumption | exact HS.up (by assumption) (by walk_at "bf") | exact HS.get (by assumption) List.mem_cons_self | exact HS.get (by assumption) (List.mem_cons_of_mem _ List.mem_cons_self) | exact HS.get (by assumption) (List.mem_cons_of_mem _ (List.mem_cons_of_mem _ List.mem_cons_self)) | exact HS.get (by assumption) (List.mem_cons_of_mem _ (List.mem_cons_of_mem _ (List.mem_cons_of_mem _ List.mem_cons_self))) | fail)
local macro_rules | `(tactic| walk_at "sl") => `(tactic| first | assumption | exact SqL.of (by walk_at "hf") | fail)
local macro_rules | `(tactic| walk_at "st") => `(tactic| first | assumption | exact SqT.of (by walk_at "hf") | fail)
local macro_rules | `(tactic| walk_at "sz") => `(tactic| first | assumption | (refine small_le ?_; first | assumption | omega | (simp; done) | (simp; omega)) | fail)
/-! ### wishes of two sides, of blocks -/
abbrev N__law_side_wishes : List Str := ["_law_state", "_law_names_here", "_law_order", "_law_left", "_law_right", "_law_turned", "_law_wishes_here", "_law_k"]
def t__law_side_wishes (K : PySem.W.Frag) (E : XK) : TS := (tSeq (tAsg (tCl (sp__law_mixed K) (WE0 E) (tCons (tVar 0) (tCons (tVar 1) tNil))) (gName 2))
  (tSeq (tAsg (tSl (rSlL K) (tVar 2) tNoPart (tPart (tOp rDivI (tCB (rLenA K) (tCons (tVar 2) tNil)) (tC (.int 2))))) (gName 3))
  (tSeq (tAsg (tSl (rSlL K) (tVar 2) (tPart (tOp rDivI (tCB (rLenA K) (tCons (tVar 2) tNil)) (tC (.int 2)))) tNoPart) (gName 4))
  (tSeq (tAsg (tCl (sp__law_take K) (WE0 E) (tCons (tVar 0) (tCons (tC (.int 2)) tNil))) (gName 5))
  (tSeq (tAsg tDNewK (gName 6))
  (tSeq (tFor (iRng1 (tCons (tCB (rLenA K) (tCons (tVar 3) tNil)) tNil)) (gName 7) (tSeq (sDPut (tVar 6) (tOp (rIxL K) (tVar 3) (tVar 7)) (tOp rCat (tSl (rSlL K) (tVar 4) (tPart (tVar 7)) tNoPart) (tSl (rSlL K) (tVar 4) tNoPart (tPart (tVar 7)))))
  (tIfS (tTest (tOp rEq (tVar 5) (tC (.int 0)))) (sDPut (tVar 6) (tOp (rIxL K) (tVar 3) (tVar 7)) (tCl (sp__law_mixed K) (WE0 E) (tCons (tVar 0) (tCons (tVar 4) tNil)))) tNext)))
  (tSeq (tFor (iRng1 (tCons (tCB (rLenA K) (tCons (tVar 4) tNil)) tNil)) (gName 7) (tSeq (sDPut (tVar 6) (tOp (rIxL K) (tVar 4) (tVar 7)) (tOp rCat (tSl (rSlL K) (tVar 3) (tPart (tOp rAddI (tVar 7) (tC (.int 1)))) tNoPart) (tSl (rSlL K) (tVar 3) tNoPart (tPart (tOp rAddI (tVar 7) (tC (.int 1)))))))
  (tIfS (tTest (tOp rEq (tVar 5) (tC (.int 0)))) (sDPut (tVar 6) (tOp (rIxL K) (tVar 4) (tVar 7)) (tCl (sp__law_mixed K) (WE0 E) (tCons (tVar 0) (tCons (tVar 3) tNil)))) tNext)))
  (tRet (tVar 6)))))))))
def sp__law_side_wishes (K : PySem.W.Frag) : Sp := fun vs H Q E => ∃ (p t : Addr), vs = [.ref p, .ref t] ∧ spW p t H Q
theorem atI_str {xs : List Str} {i : Nat} {x : Str} (h : xs[i]? = some x) : atI (xs.map V.str) (i : Int) = some (.str x) := by
  have hi : i < xs.length := (List.getElem?_eq_some_iff.mp h).1
  rw [atI_nat (by rw [List.length_map]; exact hi)]
  simp [(List.getElem?_eq_some_iff.mp h).2]
end Q

set_option Elab.async false
set_option linter.all false
set_option maxRecDepth 100000
set_option maxHeartbeats 4000000
namespace Q
open PySem PySem.Spec PyProof.Rows L2
local macro_rules | `(tactic| walk_at "bf") => `(tactic| first | assumption | (refine' bstep (by assumption) ?r; case r => walk_at "bf") | fail)
local macro_rules | `(tactic| walk_at "rp") => `(tactic| first | assumption | exact Rep.int _ | exact Rep.bl _ | exact Rep.non | (refine' Rep.mono (by assumption) ?r; case r => walk_at "rp") | fail)
local macro_rules | `(tactic| walk_at "hf") => `(tactic| first | assumption | exact HS.up (by assumption) (by walk_at "bf") | exact HS.get (by assumption) List.mem_cons_self | exact HS.get (by assumption) (List.mem_cons_of_mem _ List.mem_cons_self) | exact HS.get (by assumption) (List.mem_cons_of_mem _ (List.mem_cons_of_mem _ List.mem_cons_self)) | exact HS.get (by assumption) (List.mem_cons_of_mem _ (List.mem_cons_of_mem _ (List.mem_cons_of_mem _ List.mem_cons_self))) | fail)
local macro_rules | `(tactic| walk_at "sl") => `(tactic| first | assumption | exact SqL.of (by walk_at "hf") | fail)
local macro_rules | `(tactic| walk_at "st") => `(tactic| first | assumption | exact SqT.of (by walk_at "hf") | fail)
local macro_rules | `(tactic| walk_at "sz") => `(tactic| first | assumption | (refine small_le ?_; first | assumption | omega | (simp; done) | (simp; omega)) | fail)
/-! ### wishes of blocks -/
abbrev N__law_block_wishes : List Str := ["_law_state", "_law_names_here", "_law_order", "_law_wishes_here", "_law_at", "_law_turn", "_law_size", "_law_block", "_law_k", "_law_ring", "_law_head", "_law_tail", "_law_b"]
def t__law_block_wishes (K : PySem.W.Frag) (E : XK) : TS := (tSeq (tAsg (tCl (sp__law_mixed K) (WE0 E) (tCons (tVar 0) (tCons (tVar 1) tNil))) (gName 2))
  (tSeq (tAsg tDNewK (gName 3))
  (tSeq (tAsg (tC (.int 0)) (gName 4))
  (tSeq (tFor (iRng1 (tCons (tCB (rLenA K) (tCons (tVar 2) tNil)) tNil)) (gName 5) (tSeq (tAsg (tOp rAddI (tC (.int 1)) (tCl (sp__law_take K) (WE0 E) (tCons (tVar 0) (tCons (tC (.int 7)) tNil)))) (gName 6))
  (tSeq (tAsg (tSl (rSlL K) (tVar 2) (tPart (tVar 4)) (tPart (tOp rAddI (tVar 4) (tVar 6)))) (gName 7))
  (tSeq (tAug 4 (tVar 6) (ipI fun i j => i + j))
  (tFor (iRng1 (tCons (tCB (rLenA K) (tCons (tVar 7) tNil)) tNil)) (gName 8) (tSeq (tAsg (tOp rCat (tSl (rSlL K) (tVar 7) (tPart (tOp rAddI (tVar 8) (tC (.int 1)))) tNoPart) (tSl (rSlL K) (tVar 7) tNoPart (tPart (tVar 8)))) (gName 9))
  (tSeq (tAsg (tSl (rSlL K) (tVar 9) tNoPart (tPart (tC (.int 1)))) (gName 10))
  (tSeq (tIfS (tTest (tOp rGtI (tCB (rLenA K) (tCons (tVar 9) tNil)) (tC (.int 1)))) (tAsg (tLst (tCons (tOp (rIxL K) (tVar 9) (tC (.int 0))) (tCons (tOp (rIxL K) (tVar 9) (tUn rNegI (tC (.int 1)))) tNil))) (gName 10)) tNext)
  (tSeq (tAsg (tCl (sp__law_mixed K) (WE0 E) (tCons (tVar 0) (tCons (tLc (iList K (tCl (sp__law_others K) (WE0 E) (tCons (tVar 1) (tCons (tOp (rIxL K) (tVar 7) (tVar 8)) tNil)))) (gName 12) (tTest (tOp (rIn K true) (tVar 12) (tVar 10))) (tVar 12) [12]) tNil))) (gName 11))
  (tSeq (tAsg (tSl (rSlL K) (tVar 11) tNoPart (tPart (tCl (sp__law_take K) (WE0 E) (tCons (tVar 0) (tCons (tOp rAddI (tCB (rLenA K) (tCons (tVar 11) tNil)) (tC (.int 1))) tNil))))) (gName 11))
  (tSeq (tIfS (tAnd (tTr K (tVar 11)) (tTest (tOp rEq (tCl (sp__law_take K) (WE0 E) (tCons (tVar 0) (tCons (tC (.int 5)) tNil))) (tC (.int 0))))) (tSeq (tAsg (tOp rCat (tSl (rSlL K) (tVar 11) tNoPart (tPart (tC (.int 1)))) (tVar 10)) (gName 10))
  (tAsg (tSl (rSlL K) (tVar 11) (tPart (tC (.int 1))) tNoPart) (gName 11))) tNext)
  (sDPut (tVar 3) (tOp (rIxL K) (tVar 7) (tVar 8)) (tOp rCat (tVar 10) (tVar 11))))))))))))))
  (tRet (tVar 3))))))
def sp__law_block_wishes (K : PySem.W.Frag) : Sp := fun vs H Q E => ∃ (p t : Addr), vs = [.ref p, .ref t] ∧ spW p t H Q
theorem x_augI {σ : L2.St} {H : Hp} {De : Ends} {te : TE} {i : Nat} {m : Int} {f : Int → Int → Int} (e : σ[i]? = some (some (.int m))) (h : te σ H fun y H1 => ipI f (.int m) y H1 fun z H2 => De.nx (σ.set i (some z)) H2) : tAug i te (ipI f) De σ H := ⟨_, e, h⟩
theorem x_ipI {H : Hp} {Q : VK} {m n : Int} {f : Int → Int → Int} (h : Q (.int (f m n)) H) : ipI f (.int m) (.int n) H Q := ⟨m, n, rfl, rfl, h⟩
end Q

set_option Elab.async false
set_option linter.all false
set_option maxRecDepth 100000
set_option maxHeartbeats 4000000
namespace Q
open PySem PySem.Spec PyProof.Rows L2
local macro_rules | `(tactic| walk_at "bf") => `(tactic| first | assumption | (refine' bstep (by assumption) ?r; case r => walk_at "bf") | fail)
local macro_rules | `(tactic| walk_at "rp") => `(tactic| first | assumption | exact Rep.int _ | exact Rep.bl _ | exact Rep.non | (refine' Rep.mono (by assumption) ?r; case r => walk_at "rp") | fail)
local macro_rules | `(tactic| walk_at "hf") => `(tactic| first | assumption | exact HS.up (by assumption) (by walk_at "bf") | exact HS.get (by assumption) List.mem_cons_self | exact HS.get (by assumption) (List.mem_cons_of_mem _ List.mem_cons_self) | exact HS.get (by assumption) (List.mem_cons_of_mem _ (List.mem_cons_of_mem _ List.mem_cons_self)) | exact HS.get (by assumption) (List.mem_cons_of_mem _ (List.mem_cons_of_mem _ (List.mem_cons_of_mem _ List.mem_cons_self))) | fail)
local macro_rules | `(tactic| walk_at "sl") => `(tactic| first | assumption | exact SqL.of (by walk_at "hf") | fail)
local macro_rules | `(tactic| walk_at "st") => `(tactic| first | assumption | exact SqT.of (by walk_at "hf") | fail)
local macro_rules | `(tactic| walk_at "sz") => `(tactic| first | assumption | (refine small_le ?_; first | assumption | omega | (simp; done) | (simp; omega)) | fail)
/-! ### a drawn group -/
def WAt (B : Hp) (done : List Str) (kvs : List (Key × V)) (ws : Str → List Str) : Prop := ∃ al : List Addr, al.length = done.length ∧ kvs = zipK done al ∧ ∀ (j : Nat) p a, done[j]? = some p → al[j]? = some a → LAt B ws p a
theorem WAt.mono {B B' : Hp} {done : List Str} {kvs : List (Key × V)} {ws : Str → List Str} (s : Same B B') (h : WAt B done kvs ws) : WAt B' done kvs ws := by
  obtain ⟨al, h1, h2, h3⟩ := h
  exact ⟨al, h1, h2, fun j p a e1 e2 => s _ _ (h3 j p a e1 e2)⟩
theorem WAt.get {B : Hp} {done : List Str} {kvs : List (Key × V)} {ws : Str → List Str} (h : WAt B done kvs ws) (nd : done.Nodup) {p : Str} (m : p ∈ done) : ∃ a, valV kvs (.inr p) = some (.ref a) ∧ B a = some (.lst ((ws p).map V.str)) := by
  obtain ⟨al, h1, h2, h3⟩ := h
  obtain ⟨j, a, e1, e2, e3⟩ := zipK_val h1 nd m
  exact ⟨a, by rw [h2]; exact e3, h3 j p a e1 e2⟩
theorem WAt.keys {B : Hp} {done : List Str} {kvs : List (Key × V)} {ws : Str → List Str} (h : WAt B done kvs ws) : kvs.map (·.1) = done.map Sum.inr := by
  obtain ⟨al, h1, h2, h3⟩ := h
  rw [h2]
  exact zipK_keys h1
theorem WRows.fn {B : Hp} {names done : List Str} {kvs : List (Key × V)} (h : WRows B names done kvs) (pe : done.Perm names) (nd : names.Nodup) : ∃ ws : Str → List Str, (∀ p ∈ names, RowOk names p (ws p)) ∧ WAt B done kvs ws := by
  have ndd : done.Nodup := pe.nodup_iff.mpr nd
  obtain ⟨al, h1, h2, h3⟩ := h
  have hex : ∀ p, ∃ row : List Str, p ∈ done → (∀ a, valV kvs (.inr p) = some (.ref a) → B a = some (.lst (row.map V.str))) ∧ RowOk names p row := fun p => by
    by_cases m : p ∈ done
    · obtain ⟨j, a, e1, e2, e3⟩ := zipK_val h1 ndd m
      obtain ⟨row, q1, q2⟩ := h3 j p a e1 e2
      refine ⟨row, fun _ => ⟨fun b hb => ?_, q2⟩⟩
      rw [h2, e3] at hb
      cases hb
      exact q1
    · exact ⟨[], fun z => absurd z m⟩
  refine ⟨fun p => (hex p).choose, fun p m => ((hex p).choose_spec (pe.mem_iff.mpr m)).2, al, h1, h2, fun j p a e1 e2 => ?_⟩
  have m : p ∈ done := List.mem_of_getElem? e1
  refine ((hex p).choose_spec m).1 a ?_
  obtain ⟨j', a', f1, f2, f3⟩ := zipK_val h1 ndd m
  have := nodup_ix ndd f1 e1
  subst this
  rw [e2] at f2
  cases f2
  rw [h2]
  exact f3
/-- names and wishes that fit them -/
structure Drawn (xs done : List Str) (ws : Str → List Str) : Prop where
  nd : xs.Nodup
  ok : ∀ x ∈ xs, okName x = true
  pe : done.Perm xs
  row : ∀ p ∈ xs, RowOk xs p (ws p)
abbrev N__law_wishes : List Str := ["_law_state", "_law_names_here", "_law_mode"]
def t__law_wishes (K : PySem.W.Frag) (E : XK) : TS := (tSeq (tAsg (tCl (sp__law_take K) (WE0 E) (tCons (tVar 0) (tCons (tC (.int 9)) tNil))) (gName 2))
  (tSeq (tIfS (tTest (tOp rGtI (tVar 2) (tC (.int 6)))) (tRet (tCl (sp__law_block_wishes K) (WE0 E) (tCons (tVar 0) (tCons (tVar 1) tNil)))) tNext)
  (tSeq (tIfS (tTest (tOp rGtI (tVar 2) (tC (.int 4)))) (tRet (tCl (sp__law_side_wishes K) (WE0 E) (tCons (tVar 0) (tCons (tVar 1) tNil)))) tNext)
  (tRet (tCl (sp__law_plain_wishes K) (WE0 E) (tCons (tVar 0) (tCons (tVar 1) (tCons (tVar 2) tNil))))))))
def sp__law_wishes (K : PySem.W.Frag) : Sp := fun vs H Q E => ∃ (p t : Addr), vs = [.ref p, .ref t] ∧ spW p t H Q
abbrev N__law_group : List Str := ["_law_state", "_law_top", "_law_names_here", "_law_wishes_here"]
def t__law_group (K : PySem.W.Frag) (E : XK) : TS := (tSeq (tAsg (tCl (sp__law_names K) (WE0 E) (tCons (tVar 0) (tCons (tCl (sp__law_take K) (WE0 E) (tCons (tVar 0) (tCons (tOp rAddI (tVar 1) (tC (.int 1))) tNil))) tNil))) (gName 2))
  (tSeq (tAsg (tCl (sp__law_wishes K) (WE0 E) (tCons (tVar 0) (tCons (tVar 2) tNil))) (gName 3))
  (tRet (tTup (tCons (tVar 2) (tCons (tVar 3) tNil))))))
def sp__law_group (K : PySem.W.Frag) : Sp := fun vs H Q E => ∃ (p : Addr) (top : Nat) (a b : Int) (B : Hp), vs = [.ref p, .int (top : Nat)] ∧ Same B H ∧ B p = none ∧ H p = some (stO a b) ∧ VSt a b ∧ top ≤ 24 ∧
  ∀ B' H' a' b' T n w xs kvs done ws, HS [p] B H B' H' [(p, stO a' b'), (w, .dK kvs)] → VSt a' b' → B' T = some (.tup [.ref n, .ref w]) → B' n = some (.lst (xs.map V.str)) → xs.length ≤ top → Drawn xs done ws → WAt B' done kvs ws → Q (.ref T) H'
/-! ### for x in a dict -/
def Lk (d : Addr) (u : HO) (o : Obj) (De : Ends) : Ends := ⟨fun σ' H' => H' d = some (.frz o u) ∧ De.nx σ' (upd H' d u), fun v H' => H' d = some (.frz o u) ∧ De.rt v (upd H' d u), fun σ' H' => H' d = some (.frz o u) ∧ De.bk σ' (upd H' d u), fun σ' H' => H' d = some (.frz o u) ∧ De.ct σ' (upd H' d u)⟩
theorem walk_keys {d : Addr} {o : Obj} {kvs : List (Key × V)} : Walk (Itk d o kvs) kvs.length (fun H => H d = some (.frz o (.dK kvs))) (fun i H v H' => H' = H ∧ ∃ k w, kvs[i]? = some (k, w) ∧ v = kV k) := ⟨fun i _ hi q => ⟨q, hi⟩, fun _ q => ⟨q, Nat.le_refl _⟩, fun i H v H' _ q y => y⟩
section
variable {α : Type} {S : List Addr} {B0 H0 B : Hp} {σf : α → L2.St} {Mf : α → List (Addr × HO)} {P : Nat → α → Hp → Prop} {g : TG} {tb : TS} {De : Ends} {H : Hp} {s0 : α} {d : Addr} {kvs : List (Key × V)} {ks : List Str} {td : TE}
theorem l_keys (hk : kvs.map (·.1) = ks.map Sum.inr) (hs : HS S B0 H0 B H ((d, .dK kvs) :: Mf s0)) (h0 : P 0 s0 B) (ev : ∀ (H' : Hp) (Qv : VK), Qv (.ref d) H' → td (σf s0) H' Qv)
    (hb : ∀ o i x s B1 H1, ks[i]? = some x → Same B B1 → HS S B0 H0 B1 H1 ((d, .frz o (.dK kvs)) :: Mf s) → P i s B1 → g (.str x) (σf s) H1 fun σ2 H2 => tb { (Lk d (.dK kvs) o De) with nx := LI S B0 H0 B σf (fun s => (d, .frz o (.dK kvs)) :: Mf s) P (i + 1), ct := LI S B0 H0 B σf (fun s => (d, .frz o (.dK kvs)) :: Mf s) P (i + 1), bk := (Lk d (.dK kvs) o De).nx } σ2 H2)
    (hd : ∀ s B1 H1, Same B B1 → HS S B0 H0 B1 H1 ((d, .dK kvs) :: Mf s) → P ks.length s B1 → De.nx (σf s) H1) : tLock (tFor (iKeys td) g tb) De (σf s0) H := by
  have hlen : kvs.length = ks.length := by
    have := congrArg List.length hk
    simpa using this
  refine ⟨d, .dK kvs, hs.get List.mem_cons_self, trivial, fun o => ?_⟩
  have hs1 := hs.set0 (o' := .frz o (.dK kvs))
  refine x_for (ev _ _ ⟨d, o, rfl, .inl ⟨kvs, hs1.get List.mem_cons_self, ?_⟩⟩)
  refine for_it walk_keys (LI S B0 H0 B σf (fun s => (d, .frz o (.dK kvs)) :: Mf s) P) ⟨s0, B, rfl, Same.refl _, hs1, h0⟩ (fun i σ H' _ ⟨s, B1, _, sb, hs', _⟩ => hs'.get List.mem_cons_self) (fun i v σ H' H2 hi ⟨s, B1, e, sb, hs', p⟩ y => ?_) fun σ H' ⟨s, B1, e, sb, hs', p⟩ => ?_
  · obtain ⟨rfl, k, w, e1, rfl⟩ := y
    rw [e]
    have hki : (kvs.map (·.1))[i]? = some k := by rw [List.getElem?_map, e1]; rfl
    rw [hk, List.getElem?_map] at hki
    cases hx : ks[i]? with
    | none => rw [hx] at hki; cases hki
    | some x =>
      rw [hx] at hki
      cases hki
      exact hb o i x s B1 _ hx sb hs' p
  · rw [e]
    refine ⟨hs'.get List.mem_cons_self, ?_⟩
    exact hd s B1 _ sb hs'.set0 (by rw [← hlen]; exact p)
end
/-- a key of a locked dict -/
theorem x_dgF {H : Hp} {p : Addr} {kvs : List (Key × V)} {x : Str} {v : V} {o : Obj} {R : V → Prop} (hd : H p = some (.frz o (.dK kvs))) (e : valV kvs (.inr x) = some v) (h : R v) : ∃ a v, V.ref p = .ref a ∧ DGet H a (.str x) (some v) ∧ R v :=
  ⟨p, v, rfl, .inl ⟨kvs, .inr x, .inr ⟨o, hd⟩, rfl, e.symm⟩, h⟩
/-! ### copies -/
def lsM (al : List Addr) (done : List Str) (ws : Str → List Str) : List (Addr × HO) := (al.zip done).map fun q => (q.1, .lst ((ws q.2).map V.str))
abbrev N__law_copy : List Str := ["_law_wishes_here", "_law_copy_here", "_law_a"]
def t__law_copy (K : PySem.W.Frag) (E : XK) : TS := (tSeq (tAsg tDNewK (gName 1))
  (tSeq (tLock (tFor (iKeys (tVar 0)) (gName 2) (sDPut (tVar 1) (tVar 2) (tCB (rListOf K) (tCons (tDGet (tVar 0) (tVar 2)) tNil)))))
  (tRet (tVar 1))))
def sp__law_copy (K : PySem.W.Frag) : Sp := fun vs H Q E => ∃ (d : Addr) (kvs : List (Key × V)) (done : List Str) (ws : Str → List Str) (B : Hp), vs = [.ref d] ∧ Same B H ∧ B d = none ∧ H d = some (.dK kvs) ∧ WAt B done kvs ws ∧ done.Nodup ∧ done.length ≤ 100 ∧
  ∀ B' H' c al, HS [d] B H B' H' ((d, .dK kvs) :: (c, .dK (zipK done al)) :: lsM al done ws) → al.length = done.length → Q (.ref c) H'
end Q

set_option Elab.async false
set_option linter.all false
set_option maxRecDepth 100000
set_option maxHeartbeats 4000000
namespace Q
open PySem PySem.Spec PyProof.Rows L2
local macro_rules | `(tactic| walk_at "bf") => `(tactic| first | assumption | (refine' bstep (by assumption) ?r; case r => walk_at "bf") | fail)
local macro_rules | `(tactic| walk_at "rp") => `(tactic| first | assumption | exact Rep.int _ | exact Rep.bl _ | exact Rep.non | (refine' Rep.mono (by assumption) ?r; case r => walk_at "rp") | fail)
local macro_rules | `(tactic| walk_at "hf") => `(tactic| first | assumption | exact HS.up (by assumption) (by walk_at "bf") | exact HS.get (by assumption) List.mem_cons_self | exact HS.get (by assumption) (List.mem_cons_of_mem _ List.mem_cons_self) | exact HS.get (by assumption) (List.mem_cons_of_mem _ (List.mem_cons_of_mem _ List.mem_cons_self)) | exact HS.get (by assumption) (List.mem_cons_of_mem _ (List.mem_cons_of_mem _ (List.mem_cons_of_mem _ List.mem_cons_self))) | fail)
local macro_rules | `(tactic| walk_at "sl") => `(tactic| first | assumption | exact SqL.of (by walk_at "hf") | fail)
local macro_rules | `(tactic| walk_at "st") => `(tactic| first | assumption | exact SqT.of (by walk_at "hf") | fail)
local macro_rules | `(tactic| walk_at "sz") => `(tactic| first | assumption | (refine small_le ?_; first | assumption | omega | (simp; done) | (simp; omega)) | fail)
/-! ### methods of a group -/
def Grp.has (G : Grp) : D → Bool
  | .str x => decide (x ∈ G.names)
  | _ => false
theorem Thr.up {K : PySem.W.Frag} {B H B1 H1 : Hp} {E : XK} {c : Str} {fs : List (Str × V)} {M : List (Addr × HO)} (k : Thr K B H E c fs) (hs : HS [] B H B1 H1 M) : Thr K B1 H1 E c fs := fun B' H' d c h1 h2 => k B' H' d (hs.call c).all h1 h2
/-- an error in a caller's frame -/
def ThrW (K : PySem.W.Frag) (S : List Addr) (B0 H0 B : Hp) (M : List (Addr × HO)) (E : XK) (c : Str) (fs : List (Str × V)) : Prop := ∀ B' H' d, Same B B' → HS S B0 H0 B' H' M → B' d = none → H' d = some (.xd fs) → E (.ref (He.ga K c)) (some d) H'
theorem Thr.w {K : PySem.W.Frag} {B H B1 : Hp} {E : XK} {c : Str} {fs : List (Str × V)} {M : List (Addr × HO)} (k : Thr K B H E c fs) : ThrW K [] B H B1 M E c fs := fun B' H' d _ c h1 h2 => k B' H' d c.all h1 h2
abbrev N_Group_check : List Str := ["self", "a"]
def t_Group_check (K : PySem.W.Frag) (E : XK) : TS := (tIfS (tOr (tNot (tB (tCB (rIsi K) (tCons (tVar 1) (tCons (tC (.ty "str")) tNil))))) (tB (tDNotIn (tVar 1) (tFld K (tVar 0) "lists")))) (tRz1 (He.ga K "NoPerson") "value" (tVar 1) (WE0 E)) tNext)
def sp_Group_check (K : PySem.W.Frag) : Sp := fun vs H Q E => ∃ p v B G d, vs = [.ref p, v] ∧ Same B H ∧ GAt K B p G ∧ Rep K B v d ∧ (G.has d = true → Ret B H Q fun _ r => r = .non) ∧ (G.has d = false → Thr K B H E "NoPerson" [("value", v)])
abbrev N_Group_wishes : List Str := ["self", "a"]
def t_Group_wishes (K : PySem.W.Frag) (E : XK) : TS := (tSeq (tDrop (tMt (He.ga K "Group") "check" (sp_Group_check K) (WE0 E) (tVar 0) (tCons (tVar 1) tNil)))
  (tRet (tCB (rListOf K) (tCons (tDGet (tFld K (tVar 0) "lists") (tVar 1)) tNil))))
def sp_Group_wishes (K : PySem.W.Frag) : Sp := fun vs H Q E => ∃ p v B G d, vs = [.ref p, v] ∧ Same B H ∧ GAt K B p G ∧ Rep K B v d ∧ (∀ x, d = .str x → x ∈ G.names → ∀ B' H' l, HS [] B H B' H' [(l, .lst ((G.wish x).map V.str))] → Q (.ref l) H') ∧ (G.has d = false → Thr K B H E "NoPerson" [("value", v)])
abbrev N_Group_open_to : List Str := ["self", "a"]
def t_Group_open_to (K : PySem.W.Frag) (E : XK) : TS := (tSeq (tDrop (tMt (He.ga K "Group") "check" (sp_Group_check K) (WE0 E) (tVar 0) (tCons (tVar 1) tNil)))
  (tRet (tCB (rListOf K) (tCons (tDGet (tFld K (tVar 0) "mutual") (tVar 1)) tNil))))
def sp_Group_open_to (K : PySem.W.Frag) : Sp := fun vs H Q E => ∃ p v B G d, vs = [.ref p, v] ∧ Same B H ∧ GAt K B p G ∧ Rep K B v d ∧ (∀ x, d = .str x → x ∈ G.names → ∀ B' H' l, HS [] B H B' H' [(l, .lst ((G.open x).map V.str))] → Q (.ref l) H') ∧ (G.has d = false → Thr K B H E "NoPerson" [("value", v)])
abbrev N_Group___getitem__ : List Str := ["self", "a"]
def t_Group___getitem__ (K : PySem.W.Frag) (E : XK) : TS := (tSeq (tIfS (tOr (tNot (tB (tCB (rIsi K) (tCons (tVar 1) (tCons (tC (.ty "str")) tNil))))) (tB (tDNotIn (tVar 1) (tFld K (tVar 0) "lists")))) (tRz1 (He.ga K "NoPerson") "value" (tVar 1) (WE0 E)) tNext)
  (tRet (tCB (rListOf K) (tCons (tDGet (tFld K (tVar 0) "mutual") (tVar 1)) tNil))))
def sp_Group___getitem__ (K : PySem.W.Frag) : Sp := sp_Group_open_to K
end Q

set_option Elab.async false
set_option linter.all false
set_option maxRecDepth 100000
set_option maxHeartbeats 4000000
namespace Q
open PySem PySem.Spec PyProof.Rows L2
local macro_rules | `(tactic| walk_at "bf") => `(tactic| first | assumption | (refine' bstep (by assumption) ?r; case r => walk_at "bf") | fail)
local macro_rules | `(tactic| walk_at "rp") => `(tactic| first | assumption | exact Rep.int _ | exact Rep.bl _ | exact Rep.non | (refine' Rep.mono (by assumption) ?r; case r => walk_at "rp") | fail)
local macro_rules | `(tactic| walk_at "hf") => `(tactic| first | assumption | exact HS.up (by assumption) (by walk_at "bf") | exact HS.get (by assumption) List.mem_cons_self | exact HS.get (by assumption) (List.mem_cons_of_mem _ List.mem_cons_self) | exact HS.get (by assumption) (List.mem_cons_of_mem _ (List.mem_cons_of_mem _ List.mem_cons_self)) | exact HS.get (by assumption) (List.mem_cons_of_mem _ (List.mem_cons_of_mem _ (List.mem_cons_of_mem _ List.mem_cons_self))) | fail)
local macro_rules | `(tactic| walk_at "sl") => `(tactic| first | assumption | exact SqL.of (by walk_at "hf") | fail)
local macro_rules | `(tactic| walk_at "st") => `(tactic| first | assumption | exact SqT.of (by walk_at "hf") | fail)
local macro_rules | `(tactic| walk_at "sz") => `(tactic| first | assumption | (refine small_le ?_; first | assumption | omega | (simp; done) | (simp; omega)) | fail)
/-! ### rank, pairs, in -/
abbrev N_Group_rank : List Str := ["self", "a", "b"]
def t_Group_rank (K : PySem.W.Frag) (E : XK) : TS := (tSeq (tDrop (tMt (He.ga K "Group") "check" (sp_Group_check K) (WE0 E) (tVar 0) (tCons (tVar 1) tNil)))
  (tSeq (tDrop (tMt (He.ga K "Group") "check" (sp_Group_check K) (WE0 E) (tVar 0) (tCons (tVar 2) tNil)))
  (tSeq (tIfS (tB (tDNotIn (tVar 2) (tDGet (tFld K (tVar 0) "places") (tVar 1)))) (tRz2 (He.ga K "NotOpen") "one" "other" (tVar 1) (tVar 2) (WE0 E)) tNext)
  (tRet (tDGet (tDGet (tFld K (tVar 0) "places") (tVar 1)) (tVar 2))))))
def sp_Group_rank (K : PySem.W.Frag) : Sp := fun vs H Q E => ∃ p v u B G d e, vs = [.ref p, v, u] ∧ Same B H ∧ GAt K B p G ∧ Rep K B v d ∧ Rep K B u e ∧ (G.has d = false → Thr K B H E "NoPerson" [("value", v)]) ∧ (G.has d = true → G.has e = false → Thr K B H E "NoPerson" [("value", u)]) ∧
  ∀ x y, d = .str x → x ∈ G.names → e = .str y → y ∈ G.names → (y ∉ G.open x → Thr K B H E "NotOpen" [("other", u), ("one", v)]) ∧ ∀ i : Nat, (G.open x)[i]? = some y → Ret B H Q fun _ r => r = .int (i : Nat)
/-! ### rows of tuples of texts -/
inductive TRs (B : Hp) : List V → List (List Str) → Prop
  | nil : TRs B [] []
  | cons {t : Addr} {k : List Str} {vs : List V} {ks : List (List Str)} : B t = some (.tup (k.map V.str)) → TRs B vs ks → TRs B (.ref t :: vs) (k :: ks)
theorem TRs.mono {B B' : Hp} (s : Same B B') : ∀ {vs : List V} {ks : List (List Str)}, TRs B vs ks → TRs B' vs ks
  | _, _, .nil => .nil
  | _, _, .cons h r => .cons (s _ _ h) (TRs.mono s r)
theorem TRs.len {B : Hp} : ∀ {vs : List V} {ks : List (List Str)}, TRs B vs ks → vs.length = ks.length
  | _, _, .nil => rfl
  | _, _, .cons _ r => by simp [TRs.len r]
theorem TRs.dp {K : PySem.W.Frag} {B H : Hp} (s : Same B H) : ∀ {vs : List V} {ks : List (List Str)}, TRs B vs ks → DpAll K H vs (ks.map fun k => PyData.tuple (k.map PyData.str))
  | _, _, .nil => .nil
  | _, _, .cons h r => .cons (.tup (SqT.of (s _ _ h)) (dp_strs _)) (TRs.dp s r)
theorem TRs.get {B : Hp} : ∀ {vs : List V} {ks : List (List Str)} {v : V}, TRs B vs ks → v ∈ vs → ∃ t k, v = .ref t ∧ B t = some (.tup (k.map V.str)) ∧ k ∈ ks
  | _, _, _, .nil, m => nomatch m
  | _, _, _, .cons h r, m => by
    rcases List.mem_cons.mp m with rfl | m
    · exact ⟨_, _, rfl, h, List.mem_cons_self⟩
    · obtain ⟨t, k, e, h1, h2⟩ := TRs.get r m
      exact ⟨t, k, e, h1, List.mem_cons_of_mem _ h2⟩
def Grp.prs (G : Grp) (a : Str) : List (List Str) := ((sortS (G.open a)).filter fun b => decide (a.cps.toList < b.cps.toList)).map fun b => [a, b]
def Grp.pairs (G : Grp) : List (List Str) := (sortS G.names).flatMap G.prs
abbrev N_Group_pairs : List Str := ["self", "rows", "a", "b"]
def t_Group_pairs (K : PySem.W.Frag) (E : XK) : TS := (tSeq (tAsg (tLst tNil) (gName 1))
  (tSeq (tFor (iList K (tCB (rSortL K) (tCons (tFld K (tVar 0) "names") tNil))) (gName 2) (tFor (iList K (tCB (rSortL K) (tCons (tDGet (tFld K (tVar 0) "mutual") (tVar 2)) tNil))) (gName 3) (tIfS (tTest (tOp rLtS (tVar 2) (tVar 3))) (tDrop (tBM K "list" rAppend (tVar 1) (tCons (tTup (tCons (tVar 2) (tCons (tVar 3) tNil))) tNil))) tNext)))
  (tRet (tVar 1))))
def sp_Group_pairs (K : PySem.W.Frag) : Sp := fun vs H Q E => ∃ p B G, vs = [.ref p] ∧ Same B H ∧ GAt K B p G ∧ ∀ B' H' l vs, HS [] B H B' H' [(l, .lst vs)] → TRs B' vs G.pairs → Q (.ref l) H'
/-! ### x in group -/
def Grp.isin (G : Grp) : D → Bool
  | .str x => decide (x ∈ G.names)
  | .tup [.str x, .str y] => decide (x ∈ G.names) && decide (y ∈ G.open x)
  | _ => false
abbrev N_Group___contains__ : List Str := ["self", "value", "one", "other"]
def t_Group___contains__ (K : PySem.W.Frag) (E : XK) : TS := (tSeq (tIfS (tB (tCB (rIsi K) (tCons (tVar 1) (tCons (tC (.ty "str")) tNil)))) (tRet (tDIn (tVar 1) (tFld K (tVar 0) "lists"))) tNext)
  (tSeq (tIfS (tOr (tNot (tB (tCB (rIsi K) (tCons (tVar 1) (tCons (tC (.ty "tuple")) tNil))))) (tTest (tOp rNe (tCB (rLenA K) (tCons (tVar 1) tNil)) (tC (.int 2))))) (tRet (tC (.bl false))) tNext)
  (tSeq (tAsg (tVar 1) (gTup K 2 (gCons (gName 2) (gCons (gName 3) gNil))))
  (tSeq (tIfS (tOr (tNot (tB (tCB (rIsi K) (tCons (tVar 2) (tCons (tC (.ty "str")) tNil))))) (tOr (tNot (tB (tCB (rIsi K) (tCons (tVar 3) (tCons (tC (.ty "str")) tNil))))) (tB (tDNotIn (tVar 2) (tFld K (tVar 0) "lists"))))) (tRet (tC (.bl false))) tNext)
  (tRet (tDIn (tVar 3) (tDGet (tFld K (tVar 0) "places") (tVar 2))))))))
def sp_Group___contains__ (K : PySem.W.Frag) : Sp := fun vs H Q E => ∃ p v B G d, vs = [.ref p, v] ∧ Same B H ∧ GAt K B p G ∧ Rep K B v d ∧ Ret B H Q fun _ r => r = .bl (G.isin d)
end Q

set_option Elab.async false
set_option linter.all false
set_option maxRecDepth 100000
set_option maxHeartbeats 4000000
namespace Q
open PySem PySem.Spec PyProof.Rows L2
/-! ### a group made of what was drawn -/
def wsD (done : List Str) (ws : Str → List Str) : List (Key × D) := done.map fun p => (.inr p, D.strs (ws p))
/-! ### open pairs, in order -/
def Grp.due (G : Grp) (a : Str) : List (List Str) := ((G.open a).filter fun b => decide (a.cps.toList < b.cps.toList)).map fun b => [a, b]
/-! ### rows of tuples of texts are equal -/
end Q

set_option Elab.async false
set_option linter.all false
set_option maxRecDepth 100000
set_option maxHeartbeats 4000000
namespace Q
open PySem PySem.Spec PyProof.Rows L2
local macro_rules | `(tactic| walk_at "bf") => `(tactic| first | assumption | (refine' bstep (by assumption) ?r; case r => walk_at "bf") | fail)
local macro_rules | `(tactic| walk_at "rp") => `(tactic| first | assumption | exact Rep.int _ | exact Rep.bl _ | exact Rep.non | (refine' Rep.mono (by assumption) ?r; case r => walk_at "rp") | fail)
local macro_rules | `(tactic| walk_at "hf") => `(tactic| first | assumption | exact HS.up (by assumption) (by walk_at "bf") | exact HS.get (by assumption) List.mem_cons_self | exact HS.get (by assumption) (List.mem_cons_of_mem _ List.mem_cons_self) | exact HS.get (by assumption) (List.mem_cons_of_mem _ (List.mem_cons_of_mem _ List.mem_cons_self)) | exact HS.get (by assumption) (List.mem_cons_of_mem _ (List.mem_cons_of_mem _ (List.mem_cons_of_mem _ List.mem_cons_self))) | fail)
local macro_rules | `(tactic| walk_at "sl") => `(tactic| first | assumption | exact SqL.of (by walk_at "hf") | fail)
local macro_rules | `(tactic| walk_at "st") => `(tactic| first | assumption | exact SqT.of (by walk_at "hf") | fail)
local macro_rules | `(tactic| walk_at "sz") => `(tactic| first | assumption | (refine small_le ?_; first | assumption | omega | (simp; done) | (simp; omega)) | fail)
/-! ### who is open to whom, by the law; rows of persons and their wishes -/
def opn (ws : Str → List Str) (a : Str) : List Str := (ws a).filter fun b => decide (a ∈ ws b)
theorem WAt.nil {B : Hp} {ws : Str → List Str} : WAt B [] [] ws := ⟨[], rfl, rfl, by simp⟩
theorem WAt.len {B : Hp} {done : List Str} {kvs : List (Key × V)} {ws : Str → List Str} (h : WAt B done kvs ws) : kvs.length = done.length := by
  have := congrArg List.length h.keys
  simpa using this
abbrev N__law_mutual : List Str := ["_law_names_here", "_law_wishes_here", "_law_mutual_here", "_law_a", "_law_b"]
def t__law_mutual (K : PySem.W.Frag) (E : XK) : TS := (tSeq (tAsg tDNewK (gName 2))
  (tSeq (tFor (iList K (tVar 0)) (gName 3) (sDPut (tVar 2) (tVar 3) (tLc (iList K (tDGet (tVar 1) (tVar 3))) (gName 4) (tTest (tOp (rIn K false) (tVar 3) (tDGet (tVar 1) (tVar 4)))) (tVar 4) [4])))
  (tRet (tVar 2))))
def sp__law_mutual (K : PySem.W.Frag) : Sp := fun vs H Q E => ∃ (n w : Addr) (xs done : List Str) (kvs : List (Key × V)) (ws : Str → List Str) (B : Hp), vs = [.ref n, .ref w] ∧ Same B H ∧ B n = some (.lst (xs.map V.str)) ∧ B w = some (.dK kvs) ∧ WAt B done kvs ws ∧ Drawn xs done ws ∧ xs.length ≤ 25 ∧
  ∀ B' H' m kvs', HS [] B H B' H' [(m, .dK kvs')] → WAt B' xs kvs' (opn ws) → Q (.ref m) H'
/-! ### rows of a person and their wishes -/
inductive MRs (B : Hp) : List V → List (Str × List Str) → Prop
  | nil : MRs B [] []
  | cons {t l : Addr} {a : Str} {r : List Str} {vs : List V} {ks : List (Str × List Str)} : B t = some (.tup [.str a, .ref l]) → B l = some (.lst (r.map V.str)) → MRs B vs ks → MRs B (.ref t :: vs) ((a, r) :: ks)
theorem MRs.mono {B B' : Hp} (s : Same B B') : ∀ {vs : List V} {ks : List (Str × List Str)}, MRs B vs ks → MRs B' vs ks
  | _, _, .nil => .nil
  | _, _, .cons h h2 r => .cons (s _ _ h) (s _ _ h2) (MRs.mono s r)
theorem MRs.len {B : Hp} : ∀ {vs : List V} {ks : List (Str × List Str)}, MRs B vs ks → vs.length = ks.length
  | _, _, .nil => rfl
  | _, _, .cons _ _ r => by simp [MRs.len r]
def mrD (q : Str × List Str) : PyData := .tuple [.str q.1, .list (q.2.map PyData.str)]
theorem MRs.dp {K : PySem.W.Frag} {B H : Hp} (s : Same B H) : ∀ {vs : List V} {ks : List (Str × List Str)}, MRs B vs ks → DpAll K H vs (ks.map mrD)
  | _, _, .nil => .nil
  | _, _, .cons h h2 r => .cons (.tup (SqT.of (s _ _ h)) (.cons (.str _) (.cons (.lst (SqL.of (s _ _ h2)) (dp_strs _)) .nil))) (MRs.dp s r)
def rowsOf (xs : List Str) (ws : Str → List Str) : List (Str × List Str) := xs.map fun a => (a, ws a)
abbrev N__law_model : List Str := ["_law_names_here", "_law_wishes_here", "_law_rows", "_law_a"]
def t__law_model (K : PySem.W.Frag) (E : XK) : TS := (tSeq (tAsg (tLst tNil) (gName 2))
  (tSeq (tFor (iList K (tVar 0)) (gName 3) (tDrop (tBM K "list" rAppend (tVar 2) (tCons (tTup (tCons (tVar 3) (tCons (tCB (rListOf K) (tCons (tDGet (tVar 1) (tVar 3)) tNil)) tNil))) tNil))))
  (tRet (tVar 2))))
def sp__law_model (K : PySem.W.Frag) : Sp := fun vs H Q E => ∃ (n w : Addr) (xs done : List Str) (kvs : List (Key × V)) (ws : Str → List Str) (B : Hp), vs = [.ref n, .ref w] ∧ Same B H ∧ B n = some (.lst (xs.map V.str)) ∧ B w = some (.dK kvs) ∧ WAt B done kvs ws ∧ done.Nodup ∧ (∀ x ∈ xs, x ∈ done) ∧ xs.length ≤ 100 ∧
  ∀ B' H' l vs, HS [] B H B' H' [(l, .lst vs)] → MRs B' vs (rowsOf xs ws) → Q (.ref l) H'
abbrev N__law_shows : List Str := ["_law_group_here", "_law_rows", "_law_a"]
def t__law_shows (K : PySem.W.Frag) (E : XK) : TS := (tSeq (tAsg (tLst tNil) (gName 1))
  (tSeq (tFor (iList K (tMt (He.ga K "Group") "people" (sp_Group_people K) (WE0 E) (tVar 0) tNil)) (gName 2) (tDrop (tBM K "list" rAppend (tVar 1) (tCons (tTup (tCons (tVar 2) (tCons (tMt (He.ga K "Group") "wishes" (sp_Group_wishes K) (WE0 E) (tVar 0) (tCons (tVar 2) tNil)) tNil))) tNil))))
  (tRet (tVar 1))))
def sp__law_shows (K : PySem.W.Frag) : Sp := fun vs H Q E => ∃ p B G, vs = [.ref p] ∧ Same B H ∧ GAt K B p G ∧ ∀ B' H' l vs, HS [] B H B' H' [(l, .lst vs)] → MRs B' vs (rowsOf G.names G.wish) → Q (.ref l) H'
abbrev N__law_truth : List Str := ["_law_actual", "_law_due"]
def t__law_truth (K : PySem.W.Frag) (E : XK) : TS := (tRet (tAndV (tCB (rIsi K) (tCons (tVar 0) (tCons (tC (.ty "bool")) tNil))) (tOp rEq (tVar 0) (tVar 1))))
def sp__law_truth (K : PySem.W.Frag) : Sp := fun vs H Q E => ∃ b c, vs = [.bl b, .bl c] ∧ Q (.bl (b == c)) H
end Q

set_option Elab.async false
set_option linter.all false
set_option maxRecDepth 100000
set_option maxHeartbeats 4000000
namespace Q
open PySem PySem.Spec PyProof.Rows L2
local macro_rules | `(tactic| walk_at "bf") => `(tactic| first | assumption | (refine' bstep (by assumption) ?r; case r => walk_at "bf") | fail)
local macro_rules | `(tactic| walk_at "rp") => `(tactic| first | assumption | exact Rep.int _ | exact Rep.bl _ | exact Rep.non | (refine' Rep.mono (by assumption) ?r; case r => walk_at "rp") | fail)
local macro_rules | `(tactic| walk_at "hf") => `(tactic| first | assumption | exact HS.up (by assumption) (by walk_at "bf") | exact HS.get (by assumption) List.mem_cons_self | exact HS.get (by assumption) (List.mem_cons_of_mem _ List.mem_cons_self) | exact HS.get (by assumption) (List.mem_cons_of_mem _ (List.mem_cons_of_mem _ List.mem_cons_self)) | exact HS.get (by assumption) (List.mem_cons_of_mem _ (List.mem_cons_of_mem _ (List.mem_cons_of_mem _ List.mem_cons_self))) | fail)
local macro_rules | `(tactic| walk_at "sl") => `(tactic| first | assumption | exact SqL.of (by walk_at "hf") | fail)
local macro_rules | `(tactic| walk_at "st") => `(tactic| first | assumption | exact SqT.of (by walk_at "hf") | fail)
local macro_rules | `(tactic| walk_at "sz") => `(tactic| first | assumption | (refine small_le ?_; first | assumption | omega | (simp; done) | (simp; omega)) | fail)
/-! ### parts of a group -/
def Grp.part (G : Grp) (ps : List Str) (x : Str) : List Str := (G.wish x).filter fun b => decide (b ∈ ps)
theorem Grp.Ok.part {G : Grp} (ok : G.Ok) {ps : List Str} (nd : ps.Nodup) (hin : ∀ x ∈ ps, x ∈ G.names) : Drawn ps ps (G.part ps) :=
  ⟨nd, fun x m => ok.nm x (hin x m), List.Perm.refl _, fun p m => ⟨(ok.wn p (hin p m)).filter _, fun z => ok.ws p (hin p m) (List.mem_filter.mp z).1, fun q z => by simpa using (List.mem_filter.mp z).2⟩⟩
abbrev N_Group_kept : List Str := ["self", "people", "lists", "person", "other"]
def t_Group_kept (K : PySem.W.Frag) (E : XK) : TS := (tSeq (tAsg tDNewK (gName 2))
  (tSeq (tFor (iList K (tVar 1)) (gName 3) (sDPut (tVar 2) (tVar 3) (tLc (iList K (tDGet (tFld K (tVar 0) "lists") (tVar 3))) (gName 4) (tTest (tOp (rIn K false) (tVar 4) (tVar 1))) (tVar 4) [4])))
  (tRet (tMk (He.ga K "Group") (sp_Group___init__ K) (WE0 E) (tCons (tCB (rTupOf K) (tCons (tVar 1) tNil)) (tCons (tVar 2) tNil))))))
def sp_Group_kept (K : PySem.W.Frag) : Sp := fun vs H Q E => ∃ (p l : Addr) (B : Hp) (G : Grp) (ps : List Str), vs = [.ref p, .ref l] ∧ Same B H ∧ GAt K B p G ∧ B l = some (.lst (ps.map V.str)) ∧ ps.Nodup ∧ (∀ x ∈ ps, x ∈ G.names) ∧
  ∀ B' H' g G', HS [] B H B' H' [] → GAt K B' g G' → G'.names = ps → (∀ x ∈ ps, G'.wish x = G.part ps x) → Q (.ref g) H'
end Q

set_option Elab.async false
set_option linter.all false
set_option maxRecDepth 100000
set_option maxHeartbeats 4000000
namespace Q
open PySem PySem.Spec PyProof.Rows L2
local macro_rules | `(tactic| walk_at "bf") => `(tactic| first | assumption | (refine' bstep (by assumption) ?r; case r => walk_at "bf") | fail)
local macro_rules | `(tactic| walk_at "rp") => `(tactic| first | assumption | exact Rep.int _ | exact Rep.bl _ | exact Rep.non | (refine' Rep.mono (by assumption) ?r; case r => walk_at "rp") | fail)
local macro_rules | `(tactic| walk_at "hf") => `(tactic| first | assumption | exact HS.up (by assumption) (by walk_at "bf") | exact HS.get (by assumption) List.mem_cons_self | exact HS.get (by assumption) (List.mem_cons_of_mem _ List.mem_cons_self) | exact HS.get (by assumption) (List.mem_cons_of_mem _ (List.mem_cons_of_mem _ List.mem_cons_self)) | exact HS.get (by assumption) (List.mem_cons_of_mem _ (List.mem_cons_of_mem _ (List.mem_cons_of_mem _ List.mem_cons_self))) | fail)
local macro_rules | `(tactic| walk_at "sl") => `(tactic| first | assumption | exact SqL.of (by walk_at "hf") | fail)
local macro_rules | `(tactic| walk_at "st") => `(tactic| first | assumption | exact SqT.of (by walk_at "hf") | fail)
local macro_rules | `(tactic| walk_at "sz") => `(tactic| first | assumption | (refine small_le ?_; first | assumption | omega | (simp; done) | (simp; omega)) | fail)
/-! ### lots; inside, outside, without -/
def lotAt (ns : List Str) : Nat → List Str → List D → Option Nat
  | _, _, [] => none
  | i, seen, .str x :: r => if decide (x ∈ ns) && !decide (x ∈ seen) then lotAt ns (i + 1) (seen ++ [x]) r else some i
  | i, _, _ :: _ => some i
def badLot (ns : List Str) : D → Option Int
  | .lst ds => (lotAt ns 0 [] ds).map fun (n : Nat) => (n : Int)
  | _ => some (-1)
abbrev N_Group_check_lot : List Str := ["self", "lot", "seen", "index", "item"]
def t_Group_check_lot (K : PySem.W.Frag) (E : XK) : TS := (tSeq (tIfS (tNot (tB (tCB (rIsi K) (tCons (tVar 1) (tCons (tC (.ty "list")) tNil))))) (tRz1 (He.ga K "BadLot") "index" (tUn rNegI (tC (.int 1))) (WE0 E)) tNext)
  (tSeq (tAsg (tLst tNil) (gName 2))
  (tFor (iEnum K (tCons (tVar 1) tNil)) (gTup K 2 (gCons (gName 3) (gCons (gName 4) gNil))) (tSeq (tIfS (tOr (tNot (tB (tCB (rIsi K) (tCons (tVar 4) (tCons (tC (.ty "str")) tNil))))) (tOr (tB (tDNotIn (tVar 4) (tFld K (tVar 0) "lists"))) (tTest (tOp (rIn K false) (tVar 4) (tVar 2))))) (tRz1 (He.ga K "BadLot") "index" (tVar 3) (WE0 E)) tNext)
  (tDrop (tBM K "list" rAppend (tVar 2) (tCons (tVar 4) tNil)))))))
def sp_Group_check_lot (K : PySem.W.Frag) : Sp := fun vs H Q E => ∃ p v B G d, vs = [.ref p, v] ∧ Same B H ∧ GAt K B p G ∧ Rep K B v d ∧ (badLot G.names d = none → Ret B H Q fun _ r => r = .non) ∧ ∀ i, badLot G.names d = some i → Thr K B H E "BadLot" [("index", .int i)]
/-- the people of the group that stay -/
def spPart (K : PySem.W.Frag) (f : List Str → Str → Bool) : Sp := fun vs H Q E => ∃ p v B G d, vs = [.ref p, v] ∧ Same B H ∧ GAt K B p G ∧ Rep K B v d ∧ (∀ i, badLot G.names d = some i → Thr K B H E "BadLot" [("index", .int i)]) ∧
  ∀ lot, d = D.strs lot → badLot G.names d = none → ∀ B' H' g G', HS [] B H B' H' [] → GAt K B' g G' → G'.names = G.names.filter (f lot) → (∀ x ∈ G'.names, G'.wish x = G.part (G.names.filter (f lot)) x) → Q (.ref g) H'
abbrev N_Group_inside : List Str := ["self", "lot", "person"]
def t_Group_inside (K : PySem.W.Frag) (E : XK) : TS := (tSeq (tDrop (tMt (He.ga K "Group") "check_lot" (sp_Group_check_lot K) (WE0 E) (tVar 0) (tCons (tVar 1) tNil)))
  (tRet (tMt (He.ga K "Group") "kept" (sp_Group_kept K) (WE0 E) (tVar 0) (tCons (tLc (iList K (tFld K (tVar 0) "names")) (gName 2) (tTest (tOp (rIn K false) (tVar 2) (tVar 1))) (tVar 2) [2]) tNil))))
def sp_Group_inside (K : PySem.W.Frag) : Sp := spPart K fun lot x => decide (x ∈ lot)
abbrev N_Group_outside : List Str := ["self", "lot", "person"]
def t_Group_outside (K : PySem.W.Frag) (E : XK) : TS := (tSeq (tDrop (tMt (He.ga K "Group") "check_lot" (sp_Group_check_lot K) (WE0 E) (tVar 0) (tCons (tVar 1) tNil)))
  (tRet (tMt (He.ga K "Group") "kept" (sp_Group_kept K) (WE0 E) (tVar 0) (tCons (tLc (iList K (tFld K (tVar 0) "names")) (gName 2) (tTest (tOp (rIn K true) (tVar 2) (tVar 1))) (tVar 2) [2]) tNil))))
def sp_Group_outside (K : PySem.W.Frag) : Sp := spPart K fun lot x => !decide (x ∈ lot)
end Q

set_option Elab.async false
set_option linter.all false
set_option maxRecDepth 100000
set_option maxHeartbeats 4000000
namespace Q
open PySem PySem.Spec PyProof.Rows L2
/-! ### != of two lists of the same things -/
def sameB : V → Bool
  | .ref _ => true
  | v => flatB v
def rNeL (K : PySem.W.Frag) : R2 := fun x y H Q => ∃ a b xs, x = .ref a ∧ y = .ref b ∧ SqL K H a xs ∧ SqL K H b xs ∧ xs.all sameB = true ∧ Q (.bl false) H
end Q

set_option Elab.async false
set_option linter.all false
set_option maxRecDepth 100000
set_option maxHeartbeats 4000000
namespace Q
open PySem PySem.Spec PyProof.Rows L2
local macro_rules | `(tactic| walk_at "bf") => `(tactic| first | assumption | (refine' bstep (by assumption) ?r; case r => walk_at "bf") | fail)
local macro_rules | `(tactic| walk_at "rp") => `(tactic| first | assumption | exact Rep.int _ | exact Rep.bl _ | exact Rep.non | (refine' Rep.mono (by assumption) ?r; case r => walk_at "rp") | fail)
local macro_rules | `(tactic| walk_at "hf") => `(tactic| first | assumption | exact HS.up (by assumption) (by walk_at "bf") | exact HS.get (by assumption) List.mem_cons_self | exact HS.get (by assumption) (List.mem_cons_of_mem _ List.mem_cons_self) | exact HS.get (by assumption) (List.mem_cons_of_mem _ (List.mem_cons_of_mem _ List.mem_cons_self)) | exact HS.get (by assumption) (List.mem_cons_of_mem _ (List.mem_cons_of_mem _ (List.mem_cons_of_mem _ List.mem_cons_self))) | fail)
local macro_rules | `(tactic| walk_at "sl") => `(tactic| first | assumption | exact SqL.of (by walk_at "hf") | fail)
local macro_rules | `(tactic| walk_at "st") => `(tactic| first | assumption | exact SqT.of (by walk_at "hf") | fail)
local macro_rules | `(tactic| walk_at "sz") => `(tactic| first | assumption | (refine small_le ?_; first | assumption | omega | (simp; done) | (simp; omega)) | fail)
/-! ### k10: lots by the law -/
abbrev N__law_is_lot : List Str := ["_law_names_here", "_law_lot", "_law_k"]
def t__law_is_lot (K : PySem.W.Frag) (E : XK) : TS := (tSeq (tIfS (tNot (tB (tCB (rIsi K) (tCons (tVar 1) (tCons (tC (.ty "list")) tNil))))) (tRet (tUn rNegI (tC (.int 1)))) tNext)
  (tSeq (tFor (iRng1 (tCons (tCB (rLenA K) (tCons (tVar 1) tNil)) tNil)) (gName 2) (tIfS (tOr (tNot (tB (tCB (rIsi K) (tCons (tOp (rIxL K) (tVar 1) (tVar 2)) (tCons (tC (.ty "str")) tNil))))) (tOr (tTest (tOp (rIn K true) (tOp (rIxL K) (tVar 1) (tVar 2)) (tVar 0))) (tTest (tOp (rIn K false) (tOp (rIxL K) (tVar 1) (tVar 2)) (tSl (rSlL K) (tVar 1) tNoPart (tPart (tVar 2))))))) (tRet (tVar 2)) tNext))
  (tRet (tC .non))))
def sp__law_is_lot (K : PySem.W.Frag) : Sp := fun vs H Q E => ∃ (n : Addr) (v : V) (B : Hp) (ns : List Str) (d : D), vs = [.ref n, v] ∧ Same B H ∧ B n = some (.lst (ns.map V.str)) ∧ Rep K B v d ∧ Ret B H Q fun _ r => r = dueV (badLot ns d)
abbrev N__law_part : List Str := ["_law_names_here", "_law_wishes_here", "_law_rest", "_law_rows", "_law_a", "_law_b"]
def t__law_part (K : PySem.W.Frag) (E : XK) : TS := (tSeq (tAsg (tLst tNil) (gName 3))
  (tSeq (tFor (iList K (tVar 0)) (gName 4) (tIfS (tTest (tOp (rIn K false) (tVar 4) (tVar 2))) (tDrop (tBM K "list" rAppend (tVar 3) (tCons (tTup (tCons (tVar 4) (tCons (tLc (iList K (tDGet (tVar 1) (tVar 4))) (gName 5) (tTest (tOp (rIn K false) (tVar 5) (tVar 2))) (tVar 5) [5]) tNil))) tNil))) tNext))
  (tRet (tVar 3))))
def partOf (xs rest : List Str) (ws : Str → List Str) : List (Str × List Str) := (xs.filter fun a => decide (a ∈ rest)).map fun a => (a, (ws a).filter fun b => decide (b ∈ rest))
def sp__law_part (K : PySem.W.Frag) : Sp := fun vs H Q E => ∃ (n w r : Addr) (xs done rest : List Str) (kvs : List (Key × V)) (ws : Str → List Str) (B : Hp), vs = [.ref n, .ref w, .ref r] ∧ Same B H ∧ B n = some (.lst (xs.map V.str)) ∧ B w = some (.dK kvs) ∧ B r = some (.lst (rest.map V.str)) ∧ WAt B done kvs ws ∧ done.Nodup ∧ (∀ x ∈ xs, x ∈ done ∧ (ws x).length ≤ 100) ∧ xs.length ≤ 100 ∧
  ∀ B' H' l vs, HS [] B H B' H' [(l, .lst vs)] → MRs B' vs (partOf xs rest ws) → Q (.ref l) H'
end Q

set_option Elab.async false
set_option linter.all false
set_option maxRecDepth 100000
set_option maxHeartbeats 4000000
namespace Q
open PySem PySem.Spec PyProof.Rows L2
/-! ### k10: asked for a part -/
/-- insert -/
def rInsert : V → List V → Hp → VK → Prop := fun x vs H Q => ∃ (l : Addr) (xs : List V) (i : Nat) (y : V), x = .ref l ∧ vs = [.int (i : Nat), y] ∧ H l = some (.lst xs) ∧ xs.length ≤ 1000000 ∧ i ≤ xs.length ∧ Q .non (upd H l (.lst (xs.take i ++ [y] ++ xs.drop i)))
theorem Reps.insert {K : PySem.W.Frag} {B : Hp} {v : V} {d : D} (h : Rep K B v d) : ∀ {vs : List V} {ds : List D} (i : Nat), Reps K B vs ds → Reps K B (vs.take i ++ [v] ++ vs.drop i) (ds.take i ++ [d] ++ ds.drop i)
  | _, _, 0, r => .cons h r
  | _, _, i + 1, .nil => .cons h .nil
  | _, _, i + 1, .cons a r => .cons a (Reps.insert h i r)
theorem Reps.sameB {K : PySem.W.Frag} {B : Hp} : ∀ {vs : List V} {ds : List D}, Reps K B vs ds → vs.all sameB = true
  | _, _, .nil => rfl
  | _, _, .cons a r => by
    rw [List.all_cons, Reps.sameB r, Bool.and_true]
    cases a <;> rfl
end Q

set_option Elab.async false
set_option linter.all false
set_option maxRecDepth 100000
set_option maxHeartbeats 4000000
namespace Q
open PySem PySem.Spec PyProof.Rows L2
/-! ### y = {..: .. for ..} -/
theorem sw_trueD {kx vx : Expr} {gs : List Comprehension} {scope : Scope} {pos py : Pos} {y : Str} {l : Nat} {env : Env} (hk : env.scope.kind = .function) (hy : env.scope.names.lookup y = some .local) (hl : (py.line == pos.line) = true)
    (ha : (scope.names.any fun (n, k) => n == y && (k == .local || k == .cell)) = false) : swapsWith (.DictComp kx vx gs scope pos) (some (.Name y py)) l env = pure true := by
  have ky : env.kindOf y = some .local := hy
  have hb : env.blockKind = .function := by unfold Env.blockKind; rw [hk]; rfl
  unfold swapsWith
  simp only [hb, ky, ha, Expr.pos, hl]
  rfl
theorem ps_setDc {X : Cx} {i : Nat} {y : Str} {py : Pos} {kx vx tg iter : Expr} {ifs : List Expr} {scope : Scope} {own : List (Str × Nat)} {pos spos : Pos} {wi : TI} {g : TG} {tt : TT} {tk tv : TE} (hc : X.calm = true) (hN : X.N.Nodup) (hy : X.N[i]? = some y) (hyl : X.env.scope.names.lookup y = some .local)
    (hsw : swapsWith (.DictComp kx vx [⟨tg, iter, ifs, 0⟩] scope pos) (some (.Name y py)) spos.line X.env = pure true) (hi : PI X tg iter wi) (ok : BlkOk X.N X.env.scope scope own)
    (hg : ∀ (s : Shared) (H : Hp) (C : Addr) (cl : List (Str × Addr)) (fp : List Addr), PG (X.blk s H scope (compEnvC scope cl C X.env) fp) tg g) (ht : ∀ (s : Shared) (H : Hp) (C : Addr) (cl : List (Str × Addr)) (fp : List Addr), PTs (X.blk s H scope (compEnvC scope cl C X.env) fp) ifs tt)
    (hk : ∀ (s : Shared) (H : Hp) (C : Addr) (cl : List (Str × Addr)) (fp : List Addr), PE (X.blk s H scope (compEnvC scope cl C X.env) fp) kx tk)
    (he : ∀ (s : Shared) (H : Hp) (C : Addr) (cl : List (Str × Addr)) (fp : List Addr), PE (X.blk s H scope (compEnvC scope cl C X.env) fp) vx tv) (hs : ∀ x, foldedSetIterable iter X.env x = pure x := by intro _; rfl) :
    PS X (.Assign [.Name y py] (.DictComp kx vx [⟨tg, iter, ifs, 0⟩] scope pos) spos) (tAsg (tDc wi g tt tk tv (own.map (·.2))) (gName i)) := by
  refine ⟨fun pins s σ H D I h => ?_⟩
  rw [exec_Assign_Name_used _ _ _ _ hsw]
  refine wpAny_bind (wpAny_standAt (wpAny_bind ?_))
  show wpAny _ X.A (do let _ ← comprehension (.DictComp kx vx [⟨tg, iter, ifs, 0⟩] scope pos) scope X.env (firstIterPos [⟨tg, iter, ifs, 0⟩] pos) newDict false (eval iter X.env) (some (assign (.Name y py) X.env))) _ _ s
  have h : tDc wi g tt tk tv (own.map (·.2)) σ H (fun x H1 => gName i x σ H1 D.nx) := h
  refine wpAny_bind (thn (dc_core (Qf := fun _ s' => SP X pins D .next s') hc hN I hi ok hg ht hk he hs h fun L C s' m H' I' q hn f => ?_) fun _ s' hq => wpAny_pure (wpAny_pure hq))
  show wpAny _ _ (assign (.Name y py) X.env (.ref L)) _ _ _
  refine wpAny_assign_Name (store_ok2 (v := V.ref L) I' hN hy (.inl hyl) rfl (fun s2 I2 ⟨a, sb, ha⟩ => ?_) (.inr hyl))
  obtain ⟨f0, f1, f2, f3, f4, f5⟩ := f
  have haC : C ≠ a := by
    rcases ha with z | z
    · rw [z]; exact f1
    · exact fun e => f4 y a z e.symm
  refine ⟨m, hn.sameBut sb haC, fun h3 sb3 => ?_⟩
  exact ⟨_, H', I2.turned (t' := s2.toks) (fun b o hb e => (sb3.2 b hb).trans e) f0 f1 f3 f4 f5, q⟩
end Q

set_option Elab.async false
set_option linter.all false
set_option maxRecDepth 100000
set_option maxHeartbeats 4000000
namespace Q
open PySem PySem.Spec PyProof.Rows L2
/-! ### try with several clauses `except X as e` -/
abbrev Clause := Value × Nat × (Addr → Value → Option Addr → TS)
/-- what the clauses wish, one after the other; the name is unbound behind its suite -/
def wCl (K : PySem.W.Frag) (Wout : WX) (D : Ends) : List Clause → WX
  | [] => Wout
  | (c, i, ts) :: r => fun cls d σ H => ∃ b, PySem.W.exmOne K cls c = some b ∧
      (b = true → ∀ a, H a = none → ts a cls d ⟨fun σ' H' => D.nx (σ'.set i none) H', D.rt, fun σ' H' => D.bk (σ'.set i none) H', fun σ' H' => D.ct (σ'.set i none) H'⟩ (σ.set i (some (.ref a))) H) ∧ (b = false → wCl K Wout D r cls d σ H)
def tTryCl (K : PySem.W.Frag) (cs : List Clause) (Wout : WX) (tb : WX → TS) : TS := fun D σ H => tb (wCl K Wout D cs) D σ H
inductive ClOk (X : Cx) : List ExceptHandler → List Clause → Prop
  | nil : ClOk X [] []
  | cons {x n : Str} {c : Value} {i : Nat} {ts : Addr → Value → Option Addr → TS} {b₀ : Stmt} {suite : List Stmt} {np pos' : Pos} {hds : List ExceptHandler} {l : List Clause} (hi : X.N[i]? = some n) (hln : X.env.kindOf n = some .local) (hc : Names X x c)
      (hsu : ∀ (a : Addr) (oe : Obj) (cls : Value) (d : Option Addr) (pn : List (Addr × Obj)), Zc cls d oe → (∃ vs, oe.data = .fields vs) → PSs (X.suite a ((a, oe) :: pn)) (b₀ :: suite) (ts a cls d)) (r : ClOk X hds l) :
      ClOk X (.ExceptHandler (some (.Name x np)) (some n) (b₀ :: suite) pos' :: hds) ((c, i, ts) :: l)
section
variable {X : Cx} {body : List Stmt} {hd0 : ExceptHandler} {hds : List ExceptHandler} {cs : List Clause} {pos : Pos} {tb : WX → TS} {Wout : WX}
end
end Q

set_option Elab.async false
set_option linter.all false
set_option maxRecDepth 100000
set_option maxHeartbeats 4000000
namespace Q
open PySem PySem.Spec PyProof.Rows L2
/-! ### names, wishes and the group that a law draws -/
structure Pre (K : PySem.W.Frag) (B : Hp) (n g : Addr) (xs done : List Str) (kvs : List (Key × V)) (ws : Str → List Str) (G : Grp) : Prop where
  en : B n = some (.lst (xs.map V.str))
  hw : WAt B done kvs ws
  dr : Drawn xs done ws
  xl : xs.length ≤ 16
  gat : GAt K B g G
  gn : G.names = xs
  gw : ∀ p ∈ xs, G.wish p = ws p
theorem Pre.mono {K : PySem.W.Frag} {B B' : Hp} {n g : Addr} {xs done : List Str} {kvs : List (Key × V)} {ws : Str → List Str} {G : Grp} (s : Same B B') (h : Pre K B n g xs done kvs ws G) : Pre K B' n g xs done kvs ws G :=
  ⟨s _ _ h.en, h.hw.mono s, h.dr, h.xl, h.gat.mono s, h.gn, h.gw⟩
theorem Pre.nd {K : PySem.W.Frag} {B : Hp} {n g : Addr} {xs done : List Str} {kvs : List (Key × V)} {ws : Str → List Str} {G : Grp} (h : Pre K B n g xs done kvs ws G) : done.Nodup := h.dr.pe.nodup_iff.mpr h.dr.nd
theorem Pre.dl {K : PySem.W.Frag} {B : Hp} {n g : Addr} {xs done : List Str} {kvs : List (Key × V)} {ws : Str → List Str} {G : Grp} (h : Pre K B n g xs done kvs ws G) : done.length ≤ 16 := by
  have := h.dr.pe.length_eq
  have := h.xl
  omega
end Q

set_option Elab.async false
set_option linter.all false
set_option maxRecDepth 100000
set_option maxHeartbeats 4000000
namespace Q
open PySem PySem.Spec PyProof.Rows L2
/-! ### == and != of nested data, both answers -/
/-- two rows, item by item -/
def EqS (F : V → V → Bool → Prop) (xs ys : List V) (b : Bool) : Prop := ∃ e : Nat → Bool, (∀ j u v, xs[j]? = some u → ys[j]? = some v → F u v (e j)) ∧ b = (decide (xs.length = ys.length) && (List.range xs.length).all e)
/-- an item compared with an item -/
def EqA (K : PySem.W.Frag) (H : Hp) : Nat → V → V → Bool → Prop
  | 0 => fun _ _ _ => False
  | n + 1 => fun x y b => (flatV x = true ∧ flatV y = true ∧ b = eqV x y) ∨ (∃ a, x = .ref a ∧ y = .ref a ∧ b = true) ∨
      ∃ a c xs ys, x = .ref a ∧ y = .ref c ∧ ((SqL K H a xs ∧ SqL K H c ys) ∨ (SqT K H a xs ∧ SqT K H c ys)) ∧ EqS (EqA K H n) xs ys b
/-- a whole compared with a whole -/
def EqW (K : PySem.W.Frag) (H : Hp) (n : Nat) (x y : V) (b : Bool) : Prop :=
  (∃ a c xs ys, x = .ref a ∧ y = .ref c ∧ ((SqL K H a xs ∧ SqL K H c ys) ∨ (SqT K H a xs ∧ SqT K H c ys)) ∧ EqS (EqA K H n) xs ys b) ∨
  ∃ a c ks ls, ∃ e : Key → Bool, x = .ref a ∧ y = .ref c ∧ H a = some (.dK ks) ∧ H c = some (.dK ls) ∧ (∀ k u v, (k, u) ∈ ks → valV ls k = some v → EqA K H n u v (e k)) ∧ b = (decide (ks.length = ls.length) && ks.all fun p => (valV ls p.1).isSome && e p.1)
theorem eqV_self {v : V} (f : flatV v = true) : eqV v v = true := by
  cases v <;> first | rfl | (simp [eqV]; done) | cases f
section
variable {X : Cx} {pins : List (Addr × Obj)} {σ : L2.St} {H : Hp} {s : Shared}
theorem eqA_refl (I : Inv X pins σ H s) : ∀ (n : Nat) (x : V) (b : Bool), EqA X.K H n x x b → b = true
  | 0, _, _, h => (show False from h).elim
  | n + 1, x, b, h => by
    rcases h with ⟨f, _, e⟩ | ⟨a, _, _, e⟩ | ⟨a, c, xs, ys, e1, e2, hq, e, he, eb⟩
    · rw [e]; exact eqV_self f
    · exact e
    · have ac : a = c := by rw [e1] at e2; injection e2
      subst ac
      have xy : xs = ys := by
        rcases hq with ⟨h1, h2⟩ | ⟨h1, h2⟩
        · exact I.list_inj h1 h2
        · exact I.tuple_inj h1 h2
      subst xy
      rw [eb, decide_eq_true rfl, Bool.true_and, List.all_eq_true]
      intro j hj
      have hj := List.mem_range.mp hj
      exact eqA_refl I n _ _ (he j _ _ (List.getElem?_eq_getElem hj) (List.getElem?_eq_getElem hj))
theorem eqS_at {A : Around} {n : Nat} (ih : ∀ x y v u b, EqA X.K H n x y b → RelV x v → RelV y u → SeqAt.EqAt A s v u b) {xs ys : List V} {us ws : List Value} (r1 : Vals xs us) (r2 : Vals ys ws) {e : Nat → Bool}
    (he : ∀ j u v, xs[j]? = some u → ys[j]? = some v → EqA X.K H n u v (e j)) (j : Nat) (h1 : j < us.toArray.size) (h2 : j < ws.toArray.size) : SeqAt.EqAt A s us.toArray[j] ws.toArray[j] (e j) := by
  have l1 := r1.length
  have l2 := r2.length
  have h1' : j < us.length := by simpa using h1
  have h2' : j < ws.length := by simpa using h2
  have hx : xs[j]? = some (xs[j]'(by omega)) := List.getElem?_eq_getElem (by omega)
  have hy : ys[j]? = some (ys[j]'(by omega)) := List.getElem?_eq_getElem (by omega)
  obtain ⟨u1, e1, q1⟩ := r1.get hx
  obtain ⟨u2, e2, q2⟩ := r2.get hy
  rw [List.getElem?_eq_getElem h1'] at e1
  rw [List.getElem?_eq_getElem h2'] at e2
  cases e1
  cases e2
  have := ih _ _ _ _ _ (he j _ _ hx hy) q1 q2
  simpa using this
theorem eqA_at (I : Inv X pins σ H s) : ∀ (n : Nat) (A : Around), A.units + n < cLine → ∀ (x y : V) (v u : Value) (b : Bool), EqA X.K H n x y b → RelV x v → RelV y u → SeqAt.EqAt A s v u b
  | 0, _, _, _, _, _, _, _, h, _, _ => (show False from h).elim
  | n + 1, A, hu, x, y, v, u, b, h, rx, ry => by
    have h0 := h
    rcases h with ⟨f1, f2, e⟩ | ⟨a, rfl, rfl, e⟩ | ⟨a, c, xs, ys, rfl, rfl, hq, e, he, eb⟩
    · rw [e]; exact eqAt_V rx ry f1 f2
    · cases (show v = Value.ref a from rx)
      cases (show u = Value.ref a from ry)
      rw [e]
      exact SeqAt.EqAt.same _
    · cases (show v = Value.ref a from rx)
      cases (show u = Value.ref c from ry)
      by_cases ac : a = c
      · subst ac
        rw [eqA_refl I (n + 1) _ _ h0]
        exact SeqAt.EqAt.same _
      · refine SeqAt.EqAt.of_refs ac ?_
        have ih := eqA_at I n A.in1 (by show A.units + 1 + n < cLine; omega)
        rcases hq with ⟨h1, h2⟩ | ⟨h1, h2⟩
        · obtain ⟨us, r1, p1, _⟩ := I.list h1
          obtain ⟨ws, r2, p2, _⟩ := I.list h2
          have l1 := r1.length
          have l2 := r2.length
          by_cases hl : xs.length = ys.length
          · have := SeqAt.RcAt.lists (e := e) p1.isList p2.isList (by rw [List.size_toArray, List.size_toArray]; omega) (by omega) (eqS_at (A := A.in1) ih r1 r2 he)
            rw [eb, decide_eq_true hl, Bool.true_and]
            rw [List.size_toArray, ← l1] at this
            exact this
          · have := SeqAt.RcAt.lists_lengths (A := A) p1.isList p2.isList (by rw [List.size_toArray, List.size_toArray, bne_iff_ne]; omega) (by omega)
            rw [eb, decide_eq_false hl, Bool.false_and]
            exact this
        · obtain ⟨us, r1, p1, _⟩ := I.tuple h1
          obtain ⟨ws, r2, p2, _⟩ := I.tuple h2
          have l1 := r1.length
          have l2 := r2.length
          have := SeqAt.RcAt.tuples (e := e) p1 p2 (by omega) (eqS_at (A := A.in1) ih r1 r2 he)
          rw [List.size_toArray, List.size_toArray, ← l1, ← l2] at this
          by_cases hl : xs.length = ys.length
          · rw [eb, decide_eq_true hl, Bool.true_and]
            rw [← hl, Nat.min_self, beq_self_eq_true, Bool.and_true] at this
            exact this
          · rw [eb, decide_eq_false hl, Bool.false_and]
            rw [beq_eq_false_iff_ne.mpr hl, Bool.and_false] at this
            exact this
theorem hits_A {A : Around} {n : Nat} (ih : ∀ x y v u b, EqA X.K H n x y b → RelV x v → RelV y u → SeqAt.EqAt A s v u b) {ls : List (Key × V)} {vb : List (Key × Value)} (rb : KV ls vb) {e : Key → Bool} {ks : List (Key × V)} {va : List (Key × Value)}
    (ra : KV ks va) : (∀ k u v, (k, u) ∈ ks → valV ls k = some v → EqA X.K H n u v (e k)) → ∃ r, PySem.W.KeqHits A s vb va r ∧ r = ks.all fun p => (valV ls p.1).isSome && e p.1 := by
  unfold KV at ra
  induction ra with
  | nil => intro _; exact ⟨true, .nil, rfl⟩
  | @cons p q ps qs h t k =>
    intro hp
    obtain ⟨h1, h2⟩ := h
    obtain ⟨key, v⟩ := q
    obtain ⟨pk, pv⟩ := p
    have h1' : pk = key := h1
    subst h1'
    obtain ⟨r, hr, er⟩ := k fun k' u v m => hp k' u v (List.mem_cons_of_mem _ m)
    have rr : RelO (valV ls pk) (valueAt vb pk) := rb.val pk
    cases hv : valV ls pk with
    | none =>
      rw [hv] at rr
      have hn : valueAt vb pk = none := by
        cases hq : valueAt vb pk with
        | none => rfl
        | some _ => rw [hq] at rr; cases rr
      exact ⟨false, .miss hn, by simp [hv]⟩
    | some u =>
      rw [hv] at rr
      obtain ⟨y, hy, ry⟩ := rr.some_of
      refine ⟨e pk && r, .hit hy (ih _ _ _ _ _ (hp pk pv u List.mem_cons_self hv) h2 ry) hr, by simp [hv, er]⟩
end
def rEqE (K : PySem.W.Frag) : R2 := fun x y H Q => ∃ n b, n ≤ 60 ∧ EqW K H n x y b ∧ Q (.bl b) H
def rNeE (K : PySem.W.Frag) : R2 := fun x y H Q => ∃ n b, n ≤ 60 ∧ EqW K H n x y b ∧ Q (.bl (!b)) H
section
variable {X : Cx}
theorem op_eqE (hu : X.A.units + 64 < cLine) : OpR X (compareOp .Eq) (rEqE X.K) := by
  intro pins s σ H x y v u Q I rx ry h
  obtain ⟨n, b, hn, h, q⟩ := h
  have ih := eqA_at I n X.A.in1 (by show X.A.units + 1 + n < cLine; omega)
  rcases h with ⟨a, c, xs, ys, rfl, rfl, hq, e, he, eb⟩ | ⟨a, c, ks, ls, e, rfl, rfl, ha, hb, he, eb⟩
  · cases (show v = Value.ref a from rx)
    cases (show u = Value.ref c from ry)
    rcases hq with ⟨h1, h2⟩ | ⟨h1, h2⟩
    · obtain ⟨us, r1, p1, _⟩ := I.list h1
      obtain ⟨ws, r2, p2, _⟩ := I.list h2
      have l1 := r1.length
      have l2 := r2.length
      by_cases hl : xs.length = ys.length
      · refine PySem.W.cmp_ofEq (SeqAt.RcAt.lists (e := e) p1.isList p2.isList (by rw [List.size_toArray, List.size_toArray]; omega) (by omega) (eqS_at (A := X.A.in1) ih r1 r2 he) X.prog X.w X.xe (EP X pins σ Q) ?_)
        rw [eb, decide_eq_true hl, Bool.true_and] at q
        rw [List.size_toArray, ← l1]
        exact ⟨.bl _, H, I, rfl, q⟩
      · refine PySem.W.cmp_ofEq (SeqAt.RcAt.lists_lengths p1.isList p2.isList (by rw [List.size_toArray, List.size_toArray, bne_iff_ne]; omega) (by omega) X.prog X.w X.xe (EP X pins σ Q) ?_)
        rw [eb, decide_eq_false hl, Bool.false_and] at q
        exact ⟨.bl _, H, I, rfl, q⟩
    · obtain ⟨us, r1, p1, _⟩ := I.tuple h1
      obtain ⟨ws, r2, p2, _⟩ := I.tuple h2
      have l1 := r1.length
      have l2 := r2.length
      refine PySem.W.cmp_ofEq (SeqAt.RcAt.tuples (e := e) p1 p2 (by omega) (eqS_at (A := X.A.in1) ih r1 r2 he) X.prog X.w X.xe (EP X pins σ Q) ?_)
      rw [List.size_toArray, List.size_toArray, ← l1, ← l2]
      by_cases hl : xs.length = ys.length
      · rw [eb, decide_eq_true hl, Bool.true_and] at q
        rw [← hl, Nat.min_self, beq_self_eq_true, Bool.and_true]
        exact ⟨.bl _, H, I, rfl, q⟩
      · rw [eb, decide_eq_false hl, Bool.false_and] at q
        rw [beq_eq_false_iff_ne.mpr hl, Bool.and_false]
        exact ⟨.bl _, H, I, rfl, q⟩
  · cases (show v = Value.ref a from rx)
    cases (show u = Value.ref c from ry)
    obtain ⟨_, ya, va, ra, da⟩ := (show ObjOk X.prog X.w H s.heap a (.dK ks) from I.hok a _ ha)
    obtain ⟨_, yb, vb, rb, db⟩ := (show ObjOk X.prog X.w H s.heap c (.dK ls) from I.hok c _ hb)
    obtain ⟨r, hr, er⟩ := hits_A ih rb ra he
    refine PySem.W.keq_eq (knd := mixKind X.prog X.w) (r := r) ya yb da db (by omega) (fun _ => hr) ?_
    rw [← ra.length, ← rb.length, er]
    rw [eb] at q
    exact ⟨.bl _, H, I, rfl, q⟩
end
end Q

set_option Elab.async false
set_option linter.all false
set_option maxRecDepth 100000
set_option maxHeartbeats 4000000
namespace Q
open PySem PySem.Spec PyProof.Rows L2
/-! ### == and != by an own __eq__, two instances of one class -/
def rEqG (C : Addr) (sp : Sp) : R2 := fun x y H Q => ∃ a c dx fs dy gs, x = .ref a ∧ y = .ref c ∧ H a = some (.ins C dx fs) ∧ H c = some (.ins C dy gs) ∧ sp [.ref a, .ref c] H (fun v H' => ∃ b, v = .bl b ∧ Q (.bl b) H') fun _ _ _ => False
def rNeG (C : Addr) (sp : Sp) : R2 := fun x y H Q => ∃ a c dx fs dy gs, x = .ref a ∧ y = .ref c ∧ H a = some (.ins C dx fs) ∧ H c = some (.ins C dy gs) ∧ sp [.ref a, .ref c] H (fun v H' => ∃ b, v = .bl b ∧ Q (.bl (!b)) H') fun _ _ _ => False
section
variable {M : Model} {A : Around} {E : Value → Shared → Prop} {s : Shared} {K : PySem.W.Frag} {x C : Addr} {ox : Obj} {od : Option Obj}
end
section
variable {prog : Program} {w : World} {A : Around} {E : Value → Shared → Prop} {s : Shared} {K : PySem.W.Frag} {x y C f : Addr} {ox oy : Obj} {od oe : Option Obj}
end
section
variable {X : Cx} {k j : Nat} {c : Str} {ps : List Str} {sp : Sp}
theorem o_eqG (F : Mt X.prog X.w X.K X.mg X.base k c "__eq__" ps sp) (hr : Room j X.A) (hj : k ≤ j) : OpR X (compareOp .Eq) (rEqG (He.ga X.K c) sp) := by
  intro pins s σ H x y v u Q I rx ry h
  obtain ⟨a, b, dx, fs, dy, gs, rfl, rfl, ea, eb, q⟩ := h
  cases rx
  cases ry
  obtain ⟨f, fd, c, hm, hb, F⟩ := F
  obtain ⟨mA, J, _⟩ := ins_get I.hok ea
  obtain ⟨od, J, _⟩ := J.look
  obtain ⟨mB, J', _⟩ := ins_get I.hok eb
  obtain ⟨od', J', _⟩ := J'.look
  obtain ⟨m, hF⟩ := I.fr
  refine PySem.W.cmp_ofEq (PySem.W.cmp_K (op := .Eq) (tb := .ref (He.ga X.K _)) hr.units0 hF I.ok.mod.kin J J'.type (by simp [PySem.W.notFirst]) hm.at_ hm.fn ?_)
  refine wpAny_mono (run_fnS (E := WE W0) (us := [.ref a, .ref b]) (vs := [.ref a, .ref b]) F (hr.mono hj) hb (passAt takes0 σ) I (.cons rfl (.cons rfl .nil)) q) (fun r s' hh => ?_) fun _ _ z => z
  obtain ⟨z, H', I', rz, b, ez, qq⟩ := hh
  subst ez
  cases rz
  exact ⟨.bl b, H', I', rfl, qq⟩
end
end Q

set_option Elab.async false
set_option linter.all false
set_option maxRecDepth 100000
set_option maxHeartbeats 4000000
namespace Q
open PySem PySem.Spec PyProof.Rows L2
/-! ### isinstance(x, Group) -/
/-! ### == of lists and dicts of texts -/
theorem eqa_str {K : PySem.W.Frag} {H : Hp} {n : Nat} {x y : Str} : EqA K H (n + 1) (.str x) (.str y) (decide (x = y)) := .inl ⟨rfl, rfl, by
  show decide (x = y) = (x == y)
  by_cases h : x = y
  · subst h; simp
  · simp [h]⟩
theorem eqs_strs {K : PySem.W.Frag} {H : Hp} {n : Nat} (xs ys : List Str) : EqS (EqA K H (n + 1)) (xs.map V.str) (ys.map V.str) (decide (xs = ys)) := by
  refine ⟨fun j => decide (xs[j]? = ys[j]?), fun j u v h1 h2 => ?_, ?_⟩
  · obtain ⟨x, e1, rfl⟩ := strs_get h1
    obtain ⟨y, e2, rfl⟩ := strs_get h2
    dsimp only
    rw [e1, e2]
    have := eqa_str (K := K) (H := H) (n := n) (x := x) (y := y)
    simpa using this
  · rw [List.length_map, List.length_map]
    by_cases h : xs = ys
    · subst h
      simp
    · rw [decide_eq_false h]
      symm
      rw [Bool.and_eq_false_iff]
      by_cases hl : xs.length = ys.length
      · right
        rw [List.all_eq_false]
        have : ∃ j, xs[j]? ≠ ys[j]? := Classical.byContradiction fun z => h (List.ext_getElem? fun j => Classical.byContradiction fun w => z ⟨j, w⟩)
        obtain ⟨j, hj⟩ := this
        refine ⟨j, List.mem_range.mpr ?_, by simpa using hj⟩
        refine Classical.byContradiction fun z => hj ?_
        rw [List.getElem?_eq_none (by omega), List.getElem?_eq_none (by omega)]
      · exact .inl (decide_eq_false hl)
def keyB (f : Str → Bool) : Key → Bool
  | .inr p => f p
  | _ => false
/-! ### Group.__eq__ -/
def Grp.eq (G G2 : Grp) : Bool := decide (G.names = G2.names) && G.names.all fun p => decide (G.wish p = G2.wish p)
abbrev N_Group___eq__ : List Str := ["self", "other"]
def t_Group___eq__ (K : PySem.W.Frag) (E : XK) : TS := (tRet (tAndV (tCB (rIsi K) (tCons (tVar 1) (tCons (tC (.ref (He.ga K "Group"))) tNil))) (tAndV (tOp (rEqD K) (tFld K (tVar 0) "names") (tFld K (tVar 1) "names")) (tOp (rEqE K) (tFld K (tVar 0) "lists") (tFld K (tVar 1) "lists")))))
def sp_Group___eq__ (K : PySem.W.Frag) : Sp := fun vs H Q E => ∃ p q B G G2, vs = [.ref p, .ref q] ∧ Same B H ∧ GAt K B p G ∧ GAt K B q G2 ∧ Ret B H Q fun _ r => r = .bl (G.eq G2)
end Q

set_option Elab.async false
set_option linter.all false
set_option maxRecDepth 100000
set_option maxHeartbeats 4000000
namespace Q
open PySem PySem.Spec PyProof.Rows L2
local macro_rules | `(tactic| walk_at "bf") => `(tactic| first | assumption | (refine' bstep (by assumption) ?r; case r => walk_at "bf") | fail)
local macro_rules | `(tactic| walk_at "rp") => `(tactic| first | assumption | exact Rep.int _ | exact Rep.bl _ | exact Rep.non | (refine' Rep.mono (by assumption) ?r; case r => walk_at "rp") | fail)
local macro_rules | `(tactic| walk_at "hf") => `(tactic| first | assumption | exact HS.up (by assumption) (by walk_at "bf") | exact HS.get (by assumption) List.mem_cons_self | exact HS.get (by assumption) (List.mem_cons_of_mem _ List.mem_cons_self) | exact HS.get (by assumption) (List.mem_cons_of_mem _ (List.mem_cons_of_mem _ List.mem_cons_self)) | exact HS.get (by assumption) (List.mem_cons_of_mem _ (List.mem_cons_of_mem _ (List.mem_cons_of_mem _ List.mem_cons_self))) | fail)
local macro_rules | `(tactic| walk_at "sl") => `(tactic| first | assumption | exact SqL.of (by walk_at "hf") | fail)
local macro_rules | `(tactic| walk_at "st") => `(tactic| first | assumption | exact SqT.of (by walk_at "hf") | fail)
local macro_rules | `(tactic| walk_at "sz") => `(tactic| first | assumption | (refine small_le ?_; first | assumption | omega | (simp; done) | (simp; omega)) | fail)
/-! ### dicts by a function of the names -/
def zipF (rs : List Str) (f : Str → Addr) : List (Key × V) := rs.map fun p => (.inr p, .ref (f p))
def lsF (rs : List Str) (f : Str → Addr) (ws : Str → List Str) : List (Addr × HO) := rs.map fun p => (f p, .lst ((ws p).map V.str))
def updW {β : Type} (ws : Str → β) (a : Str) (row : β) : Str → β := fun p => if p = a then row else ws p
theorem updW_eq {β : Type} {ws : Str → β} {a : Str} {row : β} : updW ws a row a = row := if_pos rfl
theorem updW_ne {β : Type} {ws : Str → β} {a p : Str} {row : β} (h : p ≠ a) : updW ws a row p = ws p := if_neg h
theorem zipK_map (rs : List Str) (f : Str → Addr) : zipK rs (rs.map f) = zipF rs f := by
  induction rs with
  | nil => rfl
  | cons x r ih =>
    show ((Sum.inr x : Key), V.ref (f x)) :: zipK r (r.map f) = _
    rw [ih]
    rfl
/-! ### for x in reversed(list) -/
theorem x_listD {H : Hp} {Q : VK} {p : Addr} {kvs : List (Key × V)} (hp : H p = some (.dK kvs)) (h : New (.lst (kvs.map fun kv => kV kv.1)) Q H) : rListD [.ref p] H Q := ⟨p, kvs, rfl, hp, h⟩
section
variable {α : Type} {K : PySem.W.Frag} {S : List Addr} {B0 H0 B : Hp} {σf : α → L2.St} {Mf : α → List (Addr × HO)} {P : Nat → α → Hp → Prop} {a : Addr} {xs : List V} {g : TG} {tb : TS} {De : Ends} {H : Hp} {s0 : α}
theorem l_rev (hs : HS S B0 H0 B H (Mf s0)) (ea : B a = some (.lst xs)) (h0 : P 0 s0 B)
    (hb : ∀ i x s B1 H1, xs.reverse[i]? = some x → Same B B1 → HS S B0 H0 B1 H1 (Mf s) → P i s B1 → g x (σf s) H1 fun σ2 H2 => tb { De with nx := LI S B0 H0 B σf Mf P (i + 1), ct := LI S B0 H0 B σf Mf P (i + 1), bk := De.nx } σ2 H2)
    (hd : ∀ s B1 H1, Same B B1 → HS S B0 H0 B1 H1 (Mf s) → P xs.length s B1 → De.nx (σf s) H1) : LoopW (Itv K a xs.length) g tb De (σf s0) H := by
  refine for_it (walk_rev (K := K) (a := a) (xs := xs)) (LI S B0 H0 B σf Mf P) ⟨s0, B, rfl, Same.refl _, hs, h0⟩ (fun i σ H' _ ⟨s, B1, _, sb, hs', _⟩ => SqL.of (hs'.up (sb _ _ ea))) (fun i x σ H' H2 hi ⟨s, B1, e, sb, hs', p⟩ y => ?_) fun σ H' ⟨s, B1, e, sb, hs', p⟩ => ?_
  · obtain ⟨rfl, hx⟩ := y
    rw [e]
    exact hb i x s B1 _ (by rw [List.getElem?_reverse hi]; exact hx) sb hs' p
  · rw [e]
    exact hd s B1 H' sb hs' p
end
theorem map_strs_rev (xs : List Str) : (xs.map V.str).reverse = xs.reverse.map V.str := List.map_reverse.symm
theorem x_iRev {K : PySem.W.Frag} {ta : TA} {σ : L2.St} {H : Hp} {R : It → Hp → Prop} (h : ta σ H fun vs H1 => ∃ (a : Addr) (xs : List V), vs = [.ref a] ∧ SqL K H1 a xs ∧ R (Itv K a xs.length) H1) : iRev K ta σ H R := h
abbrev N__law_turned : List Str := ["_law_x", "_law_turned_here", "_law_a"]
def t__law_turned (K : PySem.W.Frag) (E : XK) : TS := (tSeq (tAsg tDNewK (gName 1))
  (tSeq (tFor (iRev K (tCons (tCB (rSortL K) (tCons (tCB rListD (tCons (tVar 0) tNil)) tNil)) tNil)) (gName 2) (sDPut (tVar 1) (tVar 2) (tDGet (tVar 0) (tVar 2))))
  (tRet (tVar 1))))
def sp__law_turned (K : PySem.W.Frag) : Sp := fun vs H Q E => ∃ (d : Addr) (done : List Str) (f : Str → Addr) (B : Hp), vs = [.ref d] ∧ Same B H ∧ B d = some (.dK (zipF done f)) ∧ done.Nodup ∧ done.length < 64 ∧
  ∀ B' H' T rs, HS [] B H B' H' [(T, .dK (zipF rs f))] → rs.Perm done → Q (.ref T) H'
end Q

set_option Elab.async false
set_option linter.all false
set_option maxRecDepth 100000
set_option maxHeartbeats 4000000
namespace Q
open PySem PySem.Spec PyProof.Rows L2
/-! ### more of dicts by a function -/
/-! ### rows that change -/
theorem ins_perm {α : Type} (l : List α) (i : Nat) (x : α) : (l.take i ++ [x] ++ l.drop i).Perm (x :: l) := by
  rw [List.append_assoc]
  refine (List.perm_middle (l₁ := l.take i) (l₂ := l.drop i) (a := x)).trans ?_
  rw [List.take_append_drop]
theorem Drawn.upd {xs rs : List Str} {ws : Str → List Str} {a : Str} {row : List Str} (d : Drawn xs rs ws) (h : RowOk xs a row) : Drawn xs rs (updW ws a row) := ⟨d.nd, d.ok, d.pe, fun p m => by
  unfold updW
  split
  · rename_i e; subst e; exact h
  · exact d.row p m⟩
theorem RowOk.names {xs ys row : List Str} {p : Str} (h : RowOk xs p row) (s : ∀ q ∈ xs, q ∈ ys) : RowOk ys p row := ⟨h.1, h.2.1, fun q m => s q (h.2.2 q m)⟩
/-! ### one name becomes another -/
def ren (a b : Str) (c : Str) : Str := if c = a then b else c
end Q

set_option Elab.async false
set_option linter.all false
set_option maxRecDepth 100000
set_option maxHeartbeats 4000000
namespace Q
open PySem PySem.Spec PyProof.Rows L2
/-! ### != of any data with itself or a copy -/
def SameQ (K : PySem.W.Frag) (H : Hp) (x y : V) : Prop := ∃ a, x = .ref a ∧ y = .ref a ∧ ((∃ xs, SqL K H a xs) ∨ (∃ xs, SqT K H a xs) ∨ ∃ kvs, H a = some (.dK kvs))
def rNeU (K : PySem.W.Frag) : R2 := fun x y H Q => rNe x y H Q ∨ rNeE K x y H Q ∨ (SameQ K H x y ∧ Q (.bl false) H)
theorem Rep.flat {K : PySem.W.Frag} {B : Hp} {v : V} {d : D} (r : Rep K B v d) : flatV v = true ∨ ∃ a, v = .ref a := by
  cases r <;> first | exact .inl rfl | exact .inr ⟨_, rfl⟩
theorem Reps.flat {K : PySem.W.Frag} {B : Hp} : ∀ {vs : List V} {ds : List D}, Reps K B vs ds → ∀ x ∈ vs, flatV x = true ∨ ∃ a, x = .ref a
  | _, _, .nil, _, m => nomatch m
  | _, _, .cons h r, x, m => by
    rcases List.mem_cons.mp m with rfl | m
    · exact h.flat
    · exact Reps.flat r x m
/-- not an instance -/
def D.plain : D → Bool
  | .obj _ _ => false
  | _ => true
theorem neU_self {K : PySem.W.Frag} {S : List Addr} {B0 H0 B H : Hp} {M : List (Addr × HO)} {Q : VK} {v : V} {d : D} (hs : HS S B0 H0 B H M) (r : Rep K B v d) (hd : d.plain = true) (h : Q (.bl false) H) : rNeU K v v H Q := by
  cases r with
  | non => exact .inl ⟨rfl, by simpa using h⟩
  | bl b => exact .inl ⟨rfl, by simpa using h⟩
  | int i => exact .inl ⟨rfl, by simpa using h⟩
  | str _ => exact .inl ⟨rfl, by simpa using h⟩
  | lst e _ _ => exact .inr (.inr ⟨⟨_, rfl, rfl, .inl ⟨_, SqL.of (hs.up e)⟩⟩, h⟩)
  | tup e _ => exact .inr (.inr ⟨⟨_, rfl, rfl, .inr (.inl ⟨_, SqT.of (hs.up e)⟩)⟩, h⟩)
  | dct e _ => exact .inr (.inr ⟨⟨_, rfl, rfl, .inr (.inr ⟨_, hs.up e⟩)⟩, h⟩)
  | obj _ _ => cases hd
/-! ### rows of names and wishes -/
/-! ### a group of names and wishes that fit -/
/-! ### {person: list(self.lists[person]) for person in self.names} -/
end Q

set_option Elab.async false
set_option linter.all false
set_option maxRecDepth 100000
set_option maxHeartbeats 4000000
namespace Q
open PySem PySem.Spec PyProof.Rows L2
local macro_rules | `(tactic| walk_at "bf") => `(tactic| first | assumption | (refine' bstep (by assumption) ?r; case r => walk_at "bf") | fail)
local macro_rules | `(tactic| walk_at "rp") => `(tactic| first | assumption | exact Rep.int _ | exact Rep.bl _ | exact Rep.non | (refine' Rep.mono (by assumption) ?r; case r => walk_at "rp") | fail)
local macro_rules | `(tactic| walk_at "hf") => `(tactic| first | assumption | exact HS.up (by assumption) (by walk_at "bf") | exact HS.get (by assumption) List.mem_cons_self | exact HS.get (by assumption) (List.mem_cons_of_mem _ List.mem_cons_self) | exact HS.get (by assumption) (List.mem_cons_of_mem _ (List.mem_cons_of_mem _ List.mem_cons_self)) | exact HS.get (by assumption) (List.mem_cons_of_mem _ (List.mem_cons_of_mem _ (List.mem_cons_of_mem _ List.mem_cons_self))) | fail)
local macro_rules | `(tactic| walk_at "sl") => `(tactic| first | assumption | exact SqL.of (by walk_at "hf") | fail)
local macro_rules | `(tactic| walk_at "st") => `(tactic| first | assumption | exact SqT.of (by walk_at "hf") | fail)
local macro_rules | `(tactic| walk_at "sz") => `(tactic| first | assumption | (refine small_le ?_; first | assumption | omega | (simp; done) | (simp; omega)) | fail)
/-! ### [x for x in names if ..], [f(x) for x in names] -/
section
variable {K : PySem.W.Frag} {S : List Addr} {B0 H0 B H : Hp} {M : List (Addr × HO)} {Q : VK} {σ : L2.St} {i : Nat} {tl te : TE} {tt : TT} {l : Addr} {xs : List Str} {f : Str → Bool} {g : Str → Str}
end
/-! ### is_integer -/
abbrev N_is_integer : List Str := ["value"]
def t_is_integer (K : PySem.W.Frag) (E : XK) : TS := (tRet (tAndV (tCB (rIsi K) (tCons (tVar 0) (tCons (tC (.ty "int")) tNil))) (tNotV (tCB (rIsi K) (tCons (tVar 0) (tCons (tC (.ty "bool")) tNil))))))
def sp_is_integer (K : PySem.W.Frag) : Sp := sp__law_is_integer K
theorem pure_is_integer {K : PySem.W.Frag} {vs : List V} {H : Hp} {Q : VK} {E : XK} (h : sp_is_integer K vs H Q E) : t_is_integer K E { nx := fun _ H' => Q .non H', rt := Q } (start N_is_integer vs) H := pure__law_is_integer h
theorem use_is_integer {K : PySem.W.Frag} {S : List Addr} {B0 H0 B H : Hp} {M : List (Addr × HO)} {Q : VK} {E : XK} {v : V} {d : D} (hs : HS S B0 H0 B H M) (r : Rep K B v d)
    (k : ∀ B' H', Same B B' → HS S B0 H0 B' H' M → Q (.bl (isInt d)) H') : sp_is_integer K [v] H Q E := use__law_is_integer hs r k
theorem Grp.Ok.drawn {G : Grp} (ok : G.Ok) : Drawn G.names G.names G.wish := ⟨ok.nd, ok.nm, List.Perm.refl _, fun p m => ⟨ok.wn p m, ok.ws p m, ok.wi p m⟩⟩
/-! ### Group.with_wishes -/
abbrev N_Group_with_wishes : List Str := ["self", "a", "wishes", "lists", "person"]
def t_Group_with_wishes (K : PySem.W.Frag) (E : XK) : TS := (tSeq (tDrop (tMt (He.ga K "Group") "check" (sp_Group_check K) (WE0 E) (tVar 0) (tCons (tVar 1) tNil)))
  (tSeq (tIfS (tNot (tB (tCl (sp_fits_wishes K) (WE0 E) (tCons (tVar 2) (tCons (tFld K (tVar 0) "names") (tCons (tVar 1) tNil)))))) (tRz1 (He.ga K "BadWishes") "person" (tVar 1) (WE0 E)) tNext)
  (tSeq (tAsg (tDc (iList K (tFld K (tVar 0) "names")) (gName 4) tYes (tVar 4) (tCB (rListOf K) (tCons (tDGet (tFld K (tVar 0) "lists") (tVar 4)) tNil)) [4]) (gName 3))
  (tSeq (sDPut (tVar 3) (tVar 1) (tCB (rListOf K) (tCons (tVar 2) tNil)))
  (tRet (tMk (He.ga K "Group") (sp_Group___init__ K) (WE0 E) (tCons (tCB (rTupOf K) (tCons (tFld K (tVar 0) "names") tNil)) (tCons (tVar 3) tNil))))))))
def sp_Group_with_wishes (K : PySem.W.Frag) : Sp := fun vs H Q E => ∃ p v u B G d e, vs = [.ref p, v, u] ∧ Same B H ∧ GAt K B p G ∧ Rep K B v d ∧ Rep K B u e ∧ (G.has d = false → Thr K B H E "NoPerson" [("value", v)]) ∧
  ∀ x, d = .str x → x ∈ G.names → (fitsW e G.names x = false → Thr K B H E "BadWishes" [("person", v)]) ∧
    ∀ ws, e = D.strs ws → RowOk G.names x ws → ∀ B' H' q G', HS [] B H B' H' [] → GAt K B' q G' → G'.names = G.names → (∀ y ∈ G.names, G'.wish y = updW G.wish x ws y) → Q (.ref q) H'
/-! ### Group.without -/
abbrev N_Group_without : List Str := ["self", "a", "person"]
def t_Group_without (K : PySem.W.Frag) (E : XK) : TS := (tSeq (tDrop (tMt (He.ga K "Group") "check" (sp_Group_check K) (WE0 E) (tVar 0) (tCons (tVar 1) tNil)))
  (tRet (tMt (He.ga K "Group") "kept" (sp_Group_kept K) (WE0 E) (tVar 0) (tCons (tLc (iList K (tFld K (tVar 0) "names")) (gName 2) (tTest (tOp rNe (tVar 2) (tVar 1))) (tVar 2) [2]) tNil))))
def sp_Group_without (K : PySem.W.Frag) : Sp := fun vs H Q E => ∃ p v B G d, vs = [.ref p, v] ∧ Same B H ∧ GAt K B p G ∧ Rep K B v d ∧ (G.has d = false → Thr K B H E "NoPerson" [("value", v)]) ∧
  ∀ x, d = .str x → x ∈ G.names → ∀ B' H' q G', HS [] B H B' H' [] → GAt K B' q G' → G'.names = (G.names.filter fun y => !decide (y = x)) → (∀ y ∈ G.names, y ≠ x → G'.wish y = (G.wish y).filter fun b => !decide (b = x)) → Q (.ref q) H'
end Q

set_option Elab.async false
set_option linter.all false
set_option maxRecDepth 100000
set_option maxHeartbeats 4000000
namespace Q
open PySem PySem.Spec PyProof.Rows L2
local macro_rules | `(tactic| walk_at "bf") => `(tactic| first | assumption | (refine' bstep (by assumption) ?r; case r => walk_at "bf") | fail)
local macro_rules | `(tactic| walk_at "rp") => `(tactic| first | assumption | exact Rep.int _ | exact Rep.bl _ | exact Rep.non | (refine' Rep.mono (by assumption) ?r; case r => walk_at "rp") | fail)
local macro_rules | `(tactic| walk_at "hf") => `(tactic| first | assumption | exact HS.up (by assumption) (by walk_at "bf") | exact HS.get (by assumption) List.mem_cons_self | exact HS.get (by assumption) (List.mem_cons_of_mem _ List.mem_cons_self) | exact HS.get (by assumption) (List.mem_cons_of_mem _ (List.mem_cons_of_mem _ List.mem_cons_self)) | exact HS.get (by assumption) (List.mem_cons_of_mem _ (List.mem_cons_of_mem _ (List.mem_cons_of_mem _ List.mem_cons_self))) | fail)
local macro_rules | `(tactic| walk_at "sl") => `(tactic| first | assumption | exact SqL.of (by walk_at "hf") | fail)
local macro_rules | `(tactic| walk_at "st") => `(tactic| first | assumption | exact SqT.of (by walk_at "hf") | fail)
local macro_rules | `(tactic| walk_at "sz") => `(tactic| first | assumption | (refine small_le ?_; first | assumption | omega | (simp; done) | (simp; omega)) | fail)
/-! ### Group.struck -/
abbrev N_Group_struck : List Str := ["self", "a", "b", "person"]
def t_Group_struck (K : PySem.W.Frag) (E : XK) : TS := (tSeq (tDrop (tMt (He.ga K "Group") "check" (sp_Group_check K) (WE0 E) (tVar 0) (tCons (tVar 1) tNil)))
  (tSeq (tDrop (tMt (He.ga K "Group") "check" (sp_Group_check K) (WE0 E) (tVar 0) (tCons (tVar 2) tNil)))
  (tSeq (tIfS (tB (tDNotIn (tVar 2) (tDGet (tFld K (tVar 0) "places") (tVar 1)))) (tRz2 (He.ga K "NotOpen") "one" "other" (tVar 1) (tVar 2) (WE0 E)) tNext)
  (tRet (tMt (He.ga K "Group") "with_wishes" (sp_Group_with_wishes K) (WE0 E) (tVar 0) (tCons (tVar 1) (tCons (tLc (iList K (tDGet (tFld K (tVar 0) "lists") (tVar 1))) (gName 3) (tTest (tOp rNe (tVar 3) (tVar 2))) (tVar 3) [3]) tNil)))))))
def sp_Group_struck (K : PySem.W.Frag) : Sp := fun vs H Q E => ∃ p v u B G d e, vs = [.ref p, v, u] ∧ Same B H ∧ GAt K B p G ∧ Rep K B v d ∧ Rep K B u e ∧ (G.has d = false → Thr K B H E "NoPerson" [("value", v)]) ∧ (G.has d = true → G.has e = false → Thr K B H E "NoPerson" [("value", u)]) ∧
  ∀ x y, d = .str x → x ∈ G.names → e = .str y → y ∈ G.names → (y ∉ G.open x → Thr K B H E "NotOpen" [("other", u), ("one", v)]) ∧
    (y ∈ G.open x → ∀ B' H' q G', HS [] B H B' H' [] → GAt K B' q G' → G'.names = G.names → (∀ z ∈ G.names, G'.wish z = updW G.wish x ((G.wish x).filter fun b => !decide (b = y)) z) → Q (.ref q) H')
/-! ### Group.exchanged -/
def swp (a b : Str) (c : Str) : Str := if c = a then b else if c = b then a else c
abbrev N_Group_exchanged : List Str := ["self", "a", "k", "one", "other", "row", "at", "behind"]
def t_Group_exchanged (K : PySem.W.Frag) (E : XK) : TS := (tSeq (tDrop (tMt (He.ga K "Group") "check" (sp_Group_check K) (WE0 E) (tVar 0) (tCons (tVar 1) tNil)))
  (tSeq (tIfS (tOr (tNot (tB (tCl (sp_is_integer K) (WE0 E) (tCons (tVar 2) tNil)))) (tOr (tTest (tOp rLtI (tVar 2) (tC (.int 0)))) (tTest (tOp rGtI (tVar 2) (tOp rSubI (tCB (rLenA K) (tCons (tDGet (tFld K (tVar 0) "mutual") (tVar 1)) tNil)) (tC (.int 2))))))) (tRz1 (He.ga K "BadPlace") "value" (tVar 2) (WE0 E)) tNext)
  (tSeq (tAsg (tOp (rIxL K) (tDGet (tFld K (tVar 0) "mutual") (tVar 1)) (tVar 2)) (gName 3))
  (tSeq (tAsg (tOp (rIxL K) (tDGet (tFld K (tVar 0) "mutual") (tVar 1)) (tOp rAddI (tVar 2) (tC (.int 1)))) (gName 4))
  (tSeq (tAsg (tCB (rListOf K) (tCons (tDGet (tFld K (tVar 0) "lists") (tVar 1)) tNil)) (gName 5))
  (tSeq (tAsg (tBM K "list" (rIndex K) (tVar 5) (tCons (tVar 3) tNil)) (gName 6))
  (tSeq (tAsg (tBM K "list" (rIndex K) (tVar 5) (tCons (tVar 4) tNil)) (gName 7))
  (tSeq (tAsg (tVar 4) (gSub (tVar 5) (tVar 6) rSetL))
  (tSeq (tAsg (tVar 3) (gSub (tVar 5) (tVar 7) rSetL))
  (tRet (tMt (He.ga K "Group") "with_wishes" (sp_Group_with_wishes K) (WE0 E) (tVar 0) (tCons (tVar 1) (tCons (tVar 5) tNil)))))))))))))
def okPlace (n : Nat) : D → Bool
  | .int k => decide (0 ≤ k) && decide (k ≤ (n : Int) - 2)
  | _ => false
def sp_Group_exchanged (K : PySem.W.Frag) : Sp := fun vs H Q E => ∃ p v u B G d e, vs = [.ref p, v, u] ∧ Same B H ∧ GAt K B p G ∧ Rep K B v d ∧ Rep K B u e ∧ (G.has d = false → Thr K B H E "NoPerson" [("value", v)]) ∧
  ∀ x, d = .str x → x ∈ G.names → (okPlace (G.open x).length e = false → Thr K B H E "BadPlace" [("value", u)]) ∧
    ∀ (k : Nat) (a b : Str), e = .int (k : Nat) → (G.open x)[k]? = some a → (G.open x)[k + 1]? = some b → ∀ B' H' q G', HS [] B H B' H' [] → GAt K B' q G' → G'.names = G.names → (∀ z ∈ G.names, G'.wish z = updW G.wish x ((G.wish x).map (swp a b)) z) → Q (.ref q) H'
end Q

set_option Elab.async false
set_option linter.all false
set_option maxRecDepth 100000
set_option maxHeartbeats 4000000
namespace Q
open PySem PySem.Spec PyProof.Rows L2
/-! ### a text among any data -/
section
variable {A : Around} {s : Shared}
end
/-- an item of plain data compared with a text -/
def eqTx (x : Str) : V → Bool
  | .str y => decide (y = x)
  | _ => false
/-- plain data: flat, or a list, a tuple, a dict -/
def Pln (K : PySem.W.Frag) (H : Hp) (v : V) : Prop := flatV v = true ∨ ∃ a, v = .ref a ∧ ((∃ xs, SqL K H a xs) ∨ (∃ xs, SqT K H a xs) ∨ ∃ kvs, H a = some (.dK kvs))
/-- the same of a value of the machine -/
def eqTu (x : Str) : Value → Bool
  | .str y _ => decide (y = x)
  | _ => false
/-- x in a list of plain data, x a text -/
def rInX (K : PySem.W.Frag) (neg : Bool) : R2 := fun x y H Q => ∃ (z : Str) (a : Addr) (xs : List V), x = .str z ∧ y = .ref a ∧ SqL K H a xs ∧ (∀ v ∈ xs, Pln K H v) ∧ Q (.bl (if neg then !xs.any (eqTx z) else xs.any (eqTx z))) H
theorem Pln.two {K : PySem.W.Frag} {H : Hp} {v : V} (p : Pln K H v) : flatV v = true ∨ ∃ a, v = .ref a := p.elim .inl fun ⟨a, e, _⟩ => .inr ⟨a, e⟩
section
variable {X : Cx}
end
end Q

set_option Elab.async false
set_option linter.all false
set_option maxRecDepth 100000
set_option maxHeartbeats 4000000
namespace Q
open PySem PySem.Spec PyProof.Rows L2
local macro_rules | `(tactic| walk_at "bf") => `(tactic| first | assumption | (refine' bstep (by assumption) ?r; case r => walk_at "bf") | fail)
local macro_rules | `(tactic| walk_at "rp") => `(tactic| first | assumption | exact Rep.int _ | exact Rep.bl _ | exact Rep.non | (refine' Rep.mono (by assumption) ?r; case r => walk_at "rp") | fail)
local macro_rules | `(tactic| walk_at "hf") => `(tactic| first | assumption | exact HS.up (by assumption) (by walk_at "bf") | exact HS.get (by assumption) List.mem_cons_self | exact HS.get (by assumption) (List.mem_cons_of_mem _ List.mem_cons_self) | exact HS.get (by assumption) (List.mem_cons_of_mem _ (List.mem_cons_of_mem _ List.mem_cons_self)) | exact HS.get (by assumption) (List.mem_cons_of_mem _ (List.mem_cons_of_mem _ (List.mem_cons_of_mem _ List.mem_cons_self))) | fail)
local macro_rules | `(tactic| walk_at "sl") => `(tactic| first | assumption | exact SqL.of (by walk_at "hf") | fail)
local macro_rules | `(tactic| walk_at "st") => `(tactic| first | assumption | exact SqT.of (by walk_at "hf") | fail)
local macro_rules | `(tactic| walk_at "sz") => `(tactic| first | assumption | (refine small_le ?_; first | assumption | omega | (simp; done) | (simp; omega)) | fail)
/-! ### a dict that stands still is walked through -/
theorem HS.refreeze {B H B' H' : Hp} {d : Addr} {o : HO} {N : List (Addr × HO)} (ed : B d = some o) (c : HS [d] (del B d) H B' H' ((d, o) :: N)) : HS [] B H (upd B' d o) H' N := by
  obtain ⟨c1, c2, _⟩ := c.mu (d, o) List.mem_cons_self
  dsimp only at c1 c2
  have nd := c.nd
  rw [List.map_cons, List.nodup_cons] at nd
  refine ⟨fun b u e => ?_, fun b u e => ?_, fun b u _ n2 e => ?_, fun q m => ?_, nd.2⟩
  · by_cases z : b = d
    · subst z; rw [ed] at e; cases e; exact upd_same
    · rw [upd_ne z]; exact c.bb b u (by rw [del_ne z]; exact e)
  · by_cases z : b = d
    · subst z; rw [upd_same] at e; cases e; exact c2
    · rw [upd_ne z] at e; exact c.bh b u e
  · have z : b ≠ d := fun z => by rw [z, ed] at n2; cases n2
    obtain ⟨x, y⟩ := c.fr b u (by simpa using z) (by rw [del_ne z]; exact n2) e
    exact ⟨by rw [upd_ne z]; exact x, y⟩
  · obtain ⟨x, y, w⟩ := c.mu q (List.mem_cons_of_mem _ m)
    have z : q.1 ≠ d := fun z => nd.1 (List.mem_map.mpr ⟨q, m, z⟩)
    exact ⟨by rw [upd_ne z]; exact x, y, .inl (w.resolve_right (by simpa using z))⟩
theorem Same.del {B H : Hp} {d : Addr} (s : Same B H) : Same (del B d) H := fun b u e => by
  by_cases z : b = d
  · rw [z, del_same] at e; cases e
  · rw [del_ne z] at e; exact s b u e
theorem WAt.del {B : Hp} {done : List Str} {kvs : List (Key × V)} {ws : Str → List Str} {d : Addr} {ks : List (Key × V)} (h : WAt B done kvs ws) (ed : B d = some (.dK ks)) : WAt (del B d) done kvs ws := by
  obtain ⟨al, h1, h2, h3⟩ := h
  refine ⟨al, h1, h2, fun j p a e1 e2 => ?_⟩
  have := h3 j p a e1 e2
  unfold LAt at this ⊢
  rw [del_ne]
  · exact this
  · intro z
    rw [z, ed] at this
    cases this
/-! ### _law_are_wishes -/
def D.hasS (x : Str) : List D → Bool
  | [] => false
  | .str y :: r => decide (y = x) || D.hasS x r
  | _ :: r => D.hasS x r
/-- what a list holds is plain -/
def D.plains : D → Prop
  | .lst ds => ∀ d ∈ ds, d.plain = true
  | _ => True
abbrev N__law_are_wishes : List Str := ["_law_names_here", "_law_a", "_law_row_here"]
def t__law_are_wishes (K : PySem.W.Frag) (E : XK) : TS := (tRet (tAndV (tCB (rIsi K) (tCons (tVar 2) (tCons (tC (.ty "list")) tNil))) (tAndV (tOp (rInX K true) (tVar 1) (tVar 2)) (tIsN (tCl (sp__law_is_lot K) (WE0 E) (tCons (tVar 0) (tCons (tVar 2) tNil)))))))
def sp__law_are_wishes (K : PySem.W.Frag) : Sp := fun vs H Q E => ∃ (n : Addr) (a : Str) (v : V) (B : Hp) (ns : List Str) (d : D), vs = [.ref n, .str a, v] ∧ Same B H ∧ B n = some (.lst (ns.map V.str)) ∧ Rep K B v d ∧ d.plains ∧ Ret B H Q fun _ r => r = .bl (fitsW d ns a)
/-! ### _law_with -/
abbrev N__law_with : List Str := ["_law_names_here", "_law_wishes_here", "_law_a", "_law_row_here", "_law_model_here"]
def t__law_with (K : PySem.W.Frag) (E : XK) : TS := (tSeq (tAsg (tCl (sp__law_copy K) (WE0 E) (tCons (tVar 1) tNil)) (gName 4))
  (tSeq (sDPut (tVar 4) (tVar 2) (tCB (rListOf K) (tCons (tVar 3) tNil)))
  (tRet (tCl (sp__law_model K) (WE0 E) (tCons (tVar 0) (tCons (tVar 4) tNil))))))
def sp__law_with (K : PySem.W.Frag) : Sp := fun vs H Q E => ∃ (n w r : Addr) (a : Str) (xs done row : List Str) (kvs : List (Key × V)) (ws : Str → List Str) (B : Hp), vs = [.ref n, .ref w, .str a, .ref r] ∧ Same B H ∧ B n = some (.lst (xs.map V.str)) ∧ B w = some (.dK kvs) ∧ B r = some (.lst (row.map V.str)) ∧ WAt B done kvs ws ∧ done.Nodup ∧ (∀ x ∈ xs, x ∈ done) ∧ a ∈ done ∧ xs.length ≤ 25 ∧ done.length ≤ 100 ∧
  ∀ B' H' l vs, HS [] B H B' H' [(l, .lst vs)] → MRs B' vs (rowsOf xs (updW ws a row)) → Q (.ref l) H'
/-! ### _law_exchange -/
abbrev N__law_exchange : List Str := ["_law_row_here", "_law_mutual_here", "_law_k", "_law_one", "_law_other", "_law_turned", "_law_b"]
def t__law_exchange (K : PySem.W.Frag) (E : XK) : TS := (tSeq (tAsg (tOp (rIxL K) (tVar 1) (tVar 2)) (gName 3))
  (tSeq (tAsg (tOp (rIxL K) (tVar 1) (tOp rAddI (tVar 2) (tC (.int 1)))) (gName 4))
  (tSeq (tAsg (tLst tNil) (gName 5))
  (tSeq (tFor (iList K (tVar 0)) (gName 6) (tIfS (tTest (tOp rEq (tVar 6) (tVar 3))) (tDrop (tBM K "list" rAppend (tVar 5) (tCons (tVar 4) tNil))) (tIfS (tTest (tOp rEq (tVar 6) (tVar 4))) (tDrop (tBM K "list" rAppend (tVar 5) (tCons (tVar 3) tNil))) (tDrop (tBM K "list" rAppend (tVar 5) (tCons (tVar 6) tNil))))))
  (tRet (tVar 5))))))
def sp__law_exchange (K : PySem.W.Frag) : Sp := fun vs H Q E => ∃ (r m : Addr) (k : Nat) (row mu : List Str) (a b : Str) (B : Hp), vs = [.ref r, .ref m, .int (k : Nat)] ∧ Same B H ∧ B r = some (.lst (row.map V.str)) ∧ B m = some (.lst (mu.map V.str)) ∧ row.length ≤ 1000 ∧ mu[k]? = some a ∧ mu[k + 1]? = some b ∧
  ∀ B' H' l, HS [] B H B' H' [(l, .lst ((row.map (swp a b)).map V.str))] → Q (.ref l) H'
end Q

set_option Elab.async false
set_option linter.all false
set_option maxRecDepth 100000
set_option maxHeartbeats 4000000
namespace Q
open PySem PySem.Spec PyProof.Rows L2
local macro_rules | `(tactic| walk_at "bf") => `(tactic| first | assumption | (refine' bstep (by assumption) ?r; case r => walk_at "bf") | fail)
local macro_rules | `(tactic| walk_at "rp") => `(tactic| first | assumption | exact Rep.int _ | exact Rep.bl _ | exact Rep.non | (refine' Rep.mono (by assumption) ?r; case r => walk_at "rp") | fail)
local macro_rules | `(tactic| walk_at "hf") => `(tactic| first | assumption | exact HS.up (by assumption) (by walk_at "bf") | exact HS.get (by assumption) List.mem_cons_self | exact HS.get (by assumption) (List.mem_cons_of_mem _ List.mem_cons_self) | exact HS.get (by assumption) (List.mem_cons_of_mem _ (List.mem_cons_of_mem _ List.mem_cons_self)) | exact HS.get (by assumption) (List.mem_cons_of_mem _ (List.mem_cons_of_mem _ (List.mem_cons_of_mem _ List.mem_cons_self))) | fail)
local macro_rules | `(tactic| walk_at "sl") => `(tactic| first | assumption | exact SqL.of (by walk_at "hf") | fail)
local macro_rules | `(tactic| walk_at "st") => `(tactic| first | assumption | exact SqT.of (by walk_at "hf") | fail)
local macro_rules | `(tactic| walk_at "sz") => `(tactic| first | assumption | (refine small_le ?_; first | assumption | omega | (simp; done) | (simp; omega)) | fail)
/-! ### _law_given, _law_exchanged -/
abbrev N__law_given : List Str := ["_law_group_here", "_law_a", "_law_row_here", "_law_told", "e"]
def t__law_given (K : PySem.W.Frag) (E : XK) : TS := (tSeq (tAsg (tC .non) (gName 3))
  (tSeq (tTryAs K (.ref (He.ga K "BadWishes")) 4 (fun a1 cls1 d1 => (tAsg (tXf a1 cls1 d1 (He.ga K "BadWishes") "person" (tVar 4)) (gName 3))) (WE0 E) (fun W1 => (tAsg (tCl (sp__law_shows K) W1 (tCons (tMt (He.ga K "Group") "with_wishes" (sp_Group_with_wishes K) W1 (tVar 0) (tCons (tVar 1) (tCons (tVar 2) tNil))) tNil)) (gName 3))))
  (tRet (tVar 3))))
def sp__law_given (K : PySem.W.Frag) : Sp := fun vs H Q E => ∃ (p : Addr) (a : Str) (v : V) (B : Hp) (G : Grp) (d : D), vs = [.ref p, .str a, v] ∧ Same B H ∧ GAt K B p G ∧ a ∈ G.names ∧ Rep K B v d ∧ (fitsW d G.names a = false → ∀ B' H', HS [] B H B' H' [] → Q (.str a) H') ∧
  ∀ ws, d = D.strs ws → RowOk G.names a ws → ∀ B' H' l vs, HS [] B H B' H' [] → B' l = some (.lst vs) → MRs B' vs (rowsOf G.names (updW G.wish a ws)) → Q (.ref l) H'
abbrev N__law_exchanged : List Str := ["_law_group_here", "_law_a", "_law_k", "_law_told", "e"]
def t__law_exchanged (K : PySem.W.Frag) (E : XK) : TS := (tSeq (tAsg (tC .non) (gName 3))
  (tSeq (tTryAs K (.ref (He.ga K "BadPlace")) 4 (fun a1 cls1 d1 => (tAsg (tTup (tCons (tXf a1 cls1 d1 (He.ga K "BadPlace") "value" (tVar 4)) tNil)) (gName 3))) (WE0 E) (fun W1 => (tAsg (tCl (sp__law_shows K) W1 (tCons (tMt (He.ga K "Group") "exchanged" (sp_Group_exchanged K) W1 (tVar 0) (tCons (tVar 1) (tCons (tVar 2) tNil))) tNil)) (gName 3))))
  (tRet (tVar 3))))
def sp__law_exchanged (K : PySem.W.Frag) : Sp := fun vs H Q E => ∃ (p : Addr) (a : Str) (v : V) (B : Hp) (G : Grp) (d : D), vs = [.ref p, .str a, v] ∧ Same B H ∧ GAt K B p G ∧ a ∈ G.names ∧ Rep K B v d ∧ (okPlace (G.open a).length d = false → ∀ B' H' t, HS [] B H B' H' [] → B' t = some (.tup [v]) → Q (.ref t) H') ∧
  ∀ (k : Nat) (x y : Str), d = .int (k : Nat) → (G.open a)[k]? = some x → (G.open a)[k + 1]? = some y → ∀ B' H' l vs, HS [] B H B' H' [] → B' l = some (.lst vs) → MRs B' vs (rowsOf G.names (updW G.wish a ((G.wish a).map (swp x y)))) → Q (.ref l) H'
/-! ### _law_new_wishes -/
abbrev N__law_new_wishes : List Str := ["_law_state", "_law_names_here", "_law_a", "_law_row_here", "_law_kind", "_law_items"]
def t__law_new_wishes (K : PySem.W.Frag) (E : XK) : TS := (tSeq (tAsg (tCl (sp__law_mixed K) (WE0 E) (tCons (tVar 0) (tCons (tCl (sp__law_others K) (WE0 E) (tCons (tVar 1) (tCons (tVar 2) tNil))) tNil))) (gName 3))
  (tSeq (tAsg (tSl (rSlL K) (tVar 3) tNoPart (tPart (tCl (sp__law_take K) (WE0 E) (tCons (tVar 0) (tCons (tOp rAddI (tCB (rLenA K) (tCons (tVar 3) tNil)) (tC (.int 1))) tNil))))) (gName 3))
  (tSeq (tAsg (tCl (sp__law_take K) (WE0 E) (tCons (tVar 0) (tCons (tC (.int 7)) tNil))) (gName 4))
  (tSeq (tAsg (tOp rCat (tLst (tCons (tCl (sp__law_value K) (WE0 E) (tCons (tVar 0) tNil)) (tCons (tVar 2) tNil))) (tVar 3)) (gName 5))
  (tSeq (tIfS (tTest (tOp rLtI (tVar 4) (tC (.int 3)))) (tDrop (tBM K "list" rInsert (tVar 3) (tCons (tCl (sp__law_take K) (WE0 E) (tCons (tVar 0) (tCons (tOp rAddI (tCB (rLenA K) (tCons (tVar 3) tNil)) (tC (.int 1))) tNil))) (tCons (tOp (rIxL K) (tVar 5) (tCl (sp__law_take K) (WE0 E) (tCons (tVar 0) (tCons (tCB (rLenA K) (tCons (tVar 5) tNil)) tNil)))) tNil)))) tNext)
  (tSeq (tIfS (tTest (tOp rEq (tVar 4) (tC (.int 3)))) (tRet (tCl (sp__law_value K) (WE0 E) (tCons (tVar 0) tNil))) tNext)
  (tRet (tVar 3))))))))
def sp__law_new_wishes (K : PySem.W.Frag) : Sp := fun vs H Q E => ∃ (p n : Addr) (a b : Int) (x : Str) (xs : List Str) (B : Hp), vs = [.ref p, .ref n, .str x] ∧ Same B H ∧ B p = none ∧ H p = some (stO a b) ∧ VSt a b ∧ B n = some (.lst (xs.map V.str)) ∧ xs.length ≤ 25 ∧ (∀ y ∈ xs, okName y = true) ∧ okName x = true ∧
  ∀ B' H' a' b' v d, HS [p] B H B' H' [(p, stO a' b')] → VSt a' b' → Rep K B' v d → d.plain = true → d.plains → Q v H'
theorem Pre.open {K : PySem.W.Frag} {B : Hp} {n g : Addr} {xs done : List Str} {kvs : List (Key × V)} {ws : Str → List Str} {G : Grp} (h : Pre K B n g xs done kvs ws G) {p : Str} (m : p ∈ xs) : G.open p = opn ws p := by
  unfold Grp.open opn
  rw [h.gw p m]
  refine List.filter_congr fun b mb => ?_
  rw [h.gw b ((h.dr.row p m).2.2 b mb)]
end Q

set_option Elab.async false
set_option linter.all false
set_option maxRecDepth 100000
set_option maxHeartbeats 4000000
namespace Q
open PySem PySem.Spec PyProof.Rows L2
theorem valV_of_mem {kvs : List (Key × V)} (nd : (kvs.map (·.1)).Nodup) {k : Key} {v : V} (m : (k, v) ∈ kvs) : valV kvs k = some v := by
  induction kvs with
  | nil => cases m
  | cons p r ih =>
    rw [List.map_cons, List.nodup_cons] at nd
    rcases List.mem_cons.mp m with e | m
    · subst e
      exact valV_pos rfl
    · rw [valV_neg]
      · exact ih nd.2 m
      · intro e
        exact nd.1 (List.mem_map.mpr ⟨(k, v), m, e.symm⟩)
/-! ### dict(d); != with more -/
def rDictOf : List V → Hp → VK → Prop := fun xs H Q => ∃ (a : Addr) (kvs : List (Key × V)), xs = [.ref a] ∧ Rd H a (.dK kvs) ∧ ∀ p, H p = none → Q (.ref p) (upd H p (.dK kvs))
theorem cDictOf {X : Cx} : CallR X (.type "dict") rDictOf := call_dictD
theorem x_dictOf {H : Hp} {Q : VK} {p : Addr} {kvs : List (Key × V)} (hp : H p = some (.dK kvs)) (h : New (.dK kvs) Q H) : rDictOf [.ref p] H Q := ⟨p, kvs, rfl, .inl hp, h⟩
/-- two dicts that hold the same -/
def SameD (H : Hp) (x y : V) : Prop := ∃ a c kvs, x = .ref a ∧ y = .ref c ∧ H a = some (.dK kvs) ∧ H c = some (.dK kvs) ∧ ∀ p ∈ kvs, flatV p.2 = true ∨ ∃ b, p.2 = .ref b
def rNeV (K : PySem.W.Frag) (C : Addr) (sp : Sp) : R2 := fun x y H Q => rNeU K x y H Q ∨ rNeG C sp x y H Q ∨ (SameD H x y ∧ Q (.bl false) H)
/-! ### new names -/
def nmGo (d : D) : List Str → List Str → Option Str
  | _, [] => none
  | taken, p :: r => match vald d p with
    | .str x => if okName x && !decide (x ∈ taken) then nmGo d (taken ++ [x]) r else some p
    | _ => some p
def badNames (xs : List Str) (d : D) : Option Str := if sameKeys d xs then nmGo d [] (sortS xs) else some ""
def dueS : Option Str → V
  | none => .non
  | some x => .str x
theorem vald_get {K : PySem.W.Frag} {B : Hp} {kvs : List (Key × V)} {ds : List (Key × D)} (r : RepK K B kvs ds) {p : Str} (h : (dval ds (.inr p)).isSome = true) : ∃ v, valV kvs (.inr p) = some v ∧ Rep K B v (vald (.dct ds) p) := by
  rcases repK_val r (.inr p) with ⟨v, d, e1, e2, e3⟩ | ⟨_, e2⟩
  · refine ⟨v, e1, ?_⟩
    unfold vald
    dsimp only
    rw [e2]
    exact e3
  · rw [e2] at h
    cases h
theorem inj_of_nd {xs : List Str} {f : Str → Str} (nd : (xs.map f).Nodup) {p q : Str} (mp : p ∈ xs) (mq : q ∈ xs) (e : f p = f q) : p = q := by
  induction xs with
  | nil => cases mp
  | cons x r ih =>
    rw [List.map_cons, List.nodup_cons] at nd
    rcases List.mem_cons.mp mp with e1 | mp2
    · rcases List.mem_cons.mp mq with e2 | mq2
      · rw [e1, e2]
      · exact absurd (List.mem_map.mpr ⟨q, mq2, by rw [← e, e1]⟩) nd.1
    · rcases List.mem_cons.mp mq with e2 | mq2
      · exact absurd (List.mem_map.mpr ⟨p, mp2, by rw [e, e2]⟩) nd.1
      · exact ih nd.2 mp2 mq2
/-- wishes under new names -/
def renW (xs : List Str) (f : Str → Str) (ws : Str → List Str) : Str → List Str := fun q => match xs.find? fun p => decide (f p = q) with
  | some p => (ws p).map f
  | none => []
theorem renW_at {xs : List Str} {f : Str → Str} {ws : Str → List Str} (nd : (xs.map f).Nodup) {p : Str} (m : p ∈ xs) : renW xs f ws (f p) = (ws p).map f := by
  unfold renW
  cases h : xs.find? fun q => decide (f q = f p) with
  | none => exact absurd (List.find?_eq_none.mp h p m) (by simp)
  | some q =>
    have h1 := List.find?_some h
    have e := inj_of_nd nd (List.mem_of_find?_eq_some h) m (of_decide_eq_true h1)
    dsimp only
    rw [e]
theorem rowOk_map {xs row : List Str} {f : Str → Str} {p : Str} (h : RowOk xs p row) (nd : (xs.map f).Nodup) (mp : p ∈ xs) : RowOk (xs.map f) (f p) (row.map f) :=
  ⟨List.pairwise_map.mpr (h.1.imp_of_mem fun {x y} mx my ne e => ne (inj_of_nd nd (h.2.2 x mx) (h.2.2 y my) e)), fun m => by
    obtain ⟨c, mc, e⟩ := List.mem_map.mp m
    exact h.2.1 (inj_of_nd nd (h.2.2 c mc) mp e ▸ mc), fun q m => by
    obtain ⟨c, mc, rfl⟩ := List.mem_map.mp m
    exact List.mem_map.mpr ⟨c, h.2.2 c mc, rfl⟩⟩
theorem Drawn.map {xs done : List Str} {ws : Str → List Str} {f : Str → Str} (d : Drawn xs done ws) (hok : ∀ p ∈ xs, okName (f p) = true) (nd : (xs.map f).Nodup) : Drawn (xs.map f) (xs.map f) (renW xs f ws) :=
  ⟨nd, fun q m => by obtain ⟨p, mp, rfl⟩ := List.mem_map.mp m; exact hok p mp, List.Perm.refl _, fun q m => by
    obtain ⟨p, mp, rfl⟩ := List.mem_map.mp m
    rw [renW_at nd mp]
    exact rowOk_map (d.row p mp) nd mp⟩
theorem RepK.put {K : PySem.W.Frag} {B : Hp} {k : Key} {v : V} {d : D} (h : Rep K B v d) : ∀ {kvs : List (Key × V)} {ds : List (Key × D)}, RepK K B kvs ds → ∃ ds', RepK K B (putK kvs k v) ds' := by
  have mp : ∀ {kvs : List (Key × V)} {ds : List (Key × D)}, RepK K B kvs ds → ∃ ds', RepK K B (kvs.map fun p => if p.1 = k then (p.1, v) else p) ds' := by
    intro kvs ds r
    induction kvs generalizing ds with
    | nil => exact ⟨[], .nil⟩
    | cons p r' ih =>
      cases r with
      | @cons k2 v2 _ d2 ds2 h2 r2 =>
        obtain ⟨ds', hd⟩ := ih r2
        rw [List.map_cons]
        by_cases e : k2 = k
        · dsimp only
          rw [if_pos e]
          exact ⟨_, .cons h hd⟩
        · dsimp only
          rw [if_neg e]
          exact ⟨_, .cons h2 hd⟩
  have ap : ∀ {kvs : List (Key × V)} {ds : List (Key × D)}, RepK K B kvs ds → ∃ ds', RepK K B (kvs ++ [(k, v)]) ds' := by
    intro kvs ds r
    induction kvs generalizing ds with
    | nil => exact ⟨_, .cons h .nil⟩
    | cons p r' ih =>
      cases r with
      | cons h2 r2 =>
        obtain ⟨ds', hd⟩ := ih r2
        exact ⟨_, .cons h2 hd⟩
  intro kvs ds r
  unfold putK
  split
  · exact mp r
  · exact ap r
theorem RepK.drop {K : PySem.W.Frag} {B : Hp} {k : Key} : ∀ {kvs : List (Key × V)} {ds : List (Key × D)}, RepK K B kvs ds → ∃ ds', RepK K B (dropK kvs k) ds' := by
  intro kvs ds r
  unfold dropK
  induction kvs generalizing ds with
  | nil => exact ⟨[], .nil⟩
  | cons p r' ih =>
    cases r with
    | cons h2 r2 =>
      obtain ⟨ds', hd⟩ := ih r2
      rw [List.filter_cons]
      split
      · exact ⟨_, .cons h2 hd⟩
      · exact ⟨_, hd⟩
theorem RepK.flat {K : PySem.W.Frag} {B : Hp} : ∀ {kvs : List (Key × V)} {ds : List (Key × D)}, RepK K B kvs ds → ∀ p ∈ kvs, flatV p.2 = true ∨ ∃ b, p.2 = .ref b
  | _, _, .nil, _, m => nomatch m
  | _, _, .cons h r, p, m => by
    rcases List.mem_cons.mp m with rfl | m
    · exact h.flat
    · exact RepK.flat r p m
end Q

set_option Elab.async false
set_option linter.all false
set_option maxRecDepth 100000
set_option maxHeartbeats 4000000
namespace Q
open PySem PySem.Spec PyProof.Rows L2
def plainW (d : D) (xs : List Str) : Prop := ∀ p ∈ xs, (vald d p).plains
/-! ### dicts of plain values, as they are changed -/
/-- of all values -/
def PlK (P : D → Prop) (ds : List (Key × D)) : Prop := ∀ q ∈ ds, P q.2
theorem dval_mem {ds : List (Key × D)} {k : Key} {d : D} (h : dval ds k = some d) : ∃ k', (k', d) ∈ ds := by
  unfold dval at h
  cases e : ds.find? fun kv => decide (kv.1 = k) with
  | none => rw [e] at h; cases h
  | some kv =>
    rw [e] at h
    cases h
    exact ⟨kv.1, List.mem_of_find?_eq_some e⟩
theorem PlK.vald {P : D → Prop} {ds : List (Key × D)} (p : PlK P ds) (hP : ∀ d, P d → d.plains) (xs : List Str) : plainW (.dct ds) xs := fun q _ => by
  unfold Q.vald
  dsimp only
  cases e : dval ds (.inr q) with
  | none => exact trivial
  | some d =>
    obtain ⟨k', m⟩ := dval_mem e
    exact hP _ (p _ m)
end Q

set_option Elab.async false
set_option linter.all false
set_option maxRecDepth 100000
set_option maxHeartbeats 4000000
namespace Q
open PySem PySem.Spec PyProof.Rows L2
local macro_rules | `(tactic| walk_at "bf") => `(tactic| first | assumption | (refine' bstep (by assumption) ?r; case r => walk_at "bf") | fail)
local macro_rules | `(tactic| walk_at "rp") => `(tactic| first | assumption | exact Rep.int _ | exact Rep.bl _ | exact Rep.non | (refine' Rep.mono (by assumption) ?r; case r => walk_at "rp") | fail)
local macro_rules | `(tactic| walk_at "hf") => `(tactic| first | assumption | exact HS.up (by assumption) (by walk_at "bf") | exact HS.get (by assumption) List.mem_cons_self | exact HS.get (by assumption) (List.mem_cons_of_mem _ List.mem_cons_self) | exact HS.get (by assumption) (List.mem_cons_of_mem _ (List.mem_cons_of_mem _ List.mem_cons_self)) | exact HS.get (by assumption) (List.mem_cons_of_mem _ (List.mem_cons_of_mem _ (List.mem_cons_of_mem _ List.mem_cons_self))) | fail)
local macro_rules | `(tactic| walk_at "sl") => `(tactic| first | assumption | exact SqL.of (by walk_at "hf") | fail)
local macro_rules | `(tactic| walk_at "st") => `(tactic| first | assumption | exact SqT.of (by walk_at "hf") | fail)
local macro_rules | `(tactic| walk_at "sz") => `(tactic| first | assumption | (refine small_le ?_; first | assumption | omega | (simp; done) | (simp; omega)) | fail)
/-! ### _law_pairs -/
def prsF (f : Str → List Str) (a : Str) : List (List Str) := ((sortS (f a)).filter fun b => decide (a.cps.toList < b.cps.toList)).map fun b => [a, b]
def prsOf (xs : List Str) (f : Str → List Str) : List (List Str) := (sortS xs).flatMap (prsF f)
abbrev N__law_pairs : List Str := ["_law_mutual_here", "_law_rows", "_law_a", "_law_b"]
def t__law_pairs (K : PySem.W.Frag) (E : XK) : TS := (tSeq (tAsg (tLst tNil) (gName 1))
  (tSeq (tFor (iList K (tCB (rSortL K) (tCons (tCB rListD (tCons (tVar 0) tNil)) tNil))) (gName 2) (tFor (iList K (tCB (rSortL K) (tCons (tDGet (tVar 0) (tVar 2)) tNil))) (gName 3) (tIfS (tTest (tOp rLtS (tVar 2) (tVar 3))) (tDrop (tBM K "list" rAppend (tVar 1) (tCons (tTup (tCons (tVar 2) (tCons (tVar 3) tNil))) tNil))) tNext)))
  (tRet (tVar 1))))
def sp__law_pairs (K : PySem.W.Frag) : Sp := fun vs H Q E => ∃ (m : Addr) (kvs : List (Key × V)) (xs : List Str) (f : Str → List Str) (B : Hp), vs = [.ref m] ∧ Same B H ∧ B m = some (.dK kvs) ∧ WAt B xs kvs f ∧ xs.Nodup ∧ xs.length ≤ 25 ∧ (∀ x ∈ xs, (f x).length ≤ 25) ∧
  ∀ B' H' l vs, HS [] B H B' H' [(l, .lst vs)] → TRs B' vs (prsOf xs f) → Q (.ref l) H'
theorem WAt.zip {B : Hp} {xs : List Str} {kvs : List (Key × V)} {f : Str → List Str} (h : WAt B xs kvs f) : (kvs.map fun kv => kV kv.1) = xs.map V.str := by
  have := congrArg (List.map kV) h.keys
  rw [List.map_map, List.map_map] at this
  exact this
/-! ### x in a list, by == of nested data -/
def rInE (K : PySem.W.Frag) : R2 := fun x y H Q => ∃ (a : Addr) (xs : List V) (e : V → Bool) (n : Nat), y = .ref a ∧ n ≤ 60 ∧ SqL K H a xs ∧ (∀ v ∈ xs, (∃ b, v = .ref b) ∧ EqA K H n v x (e v)) ∧ Q (.bl (xs.any e)) H
def refB (e : V → Bool) : Value → Bool
  | .ref a => e (.ref a)
  | _ => false
end Q

set_option Elab.async false
set_option linter.all false
set_option maxRecDepth 100000
set_option maxHeartbeats 4000000
namespace Q
open PySem PySem.Spec PyProof.Rows L2
/-! ### isinstance(x, Group) of any data -/
def swapL : List Str → List Str
  | [a, b] => [b, a]
  | l => l
theorem TRs.append {B : Hp} : ∀ {vs us : List V} {ks ls : List (List Str)}, TRs B vs ks → TRs B us ls → TRs B (vs ++ us) (ks ++ ls)
  | _, _, _, _, .nil, h => h
  | _, _, _, _, .cons h r, h2 => .cons h (TRs.append r h2)
theorem TRs.at {B : Hp} : ∀ {vs : List V} {ks : List (List Str)} {j : Nat} {v : V}, TRs B vs ks → vs[j]? = some v → ∃ t k, v = .ref t ∧ ks[j]? = some k ∧ B t = some (.tup (k.map V.str))
  | _, _, _, _, .nil, e => by simp at e
  | _, _, 0, v, .cons h _, e => by
    simp only [List.getElem?_cons_zero, Option.some.injEq] at e
    subst e
    exact ⟨_, _, rfl, rfl, h⟩
  | _, _, j + 1, v, .cons _ r, e => by
    obtain ⟨t, k, h1, h2, h3⟩ := TRs.at (j := j) (v := v) r (by simpa using e)
    exact ⟨t, k, h1, by simpa using h2, h3⟩
/-- by its names -/
theorem TRs.any {K : PySem.W.Frag} {B H : Hp} (s : Same B H) {a : Addr} {ks : List Str} (ha : H a = some (.tup (ks.map V.str))) : ∀ {vs : List V} {ps : List (List Str)}, TRs B vs ps → ∃ e : V → Bool, (∀ v ∈ vs, (∃ b, v = .ref b) ∧ EqA K H 2 v (.ref a) (e v)) ∧ vs.any e = decide (ks ∈ ps) := by
  intro vs ps t
  have hB : ∀ v ∈ vs, ∃ b k, v = .ref b ∧ B b = some (.tup (k.map V.str)) ∧ k ∈ ps := fun v m => t.get m
  let key : V → List Str := fun v => match v with | .ref b => (match B b with | some (.tup xs) => xs.filterMap (fun x => match x with | .str y => some y | _ => none) | _ => []) | _ => []
  have fm : ∀ k : List Str, (k.map V.str).filterMap (fun x => match x with | .str y => some y | _ => none) = k := fun k => by
    induction k with
    | nil => rfl
    | cons x r ih => rw [List.map_cons, List.filterMap_cons]; dsimp only; rw [ih]
  have hk : ∀ {b : Addr} {k : List Str}, B b = some (.tup (k.map V.str)) → key (.ref b) = k := fun {b k} e => by
    show (match B b with | some (.tup xs) => xs.filterMap _ | _ => []) = k
    rw [e]
    exact fm k
  refine ⟨fun v => decide (key v = ks), fun v m => ?_, ?_⟩
  · obtain ⟨b, k, rfl, eb, _⟩ := hB v m
    refine ⟨⟨b, rfl⟩, .inr (.inr ⟨b, a, _, _, rfl, rfl, .inr ⟨SqT.of (s _ _ eb), SqT.of ha⟩, ?_⟩)⟩
    dsimp only
    rw [hk eb]
    exact eqs_strs k ks
  · clear hB
    induction t with
    | nil => rfl
    | @cons b k vs' ps' h _ ih =>
      rw [List.any_cons, ih]
      rw [hk h]
      by_cases e : k = ks
      · simp [e]
      · have : ¬ ks = k := fun z => e z.symm
        simp [e, this]
theorem str_tri {x y : Str} (h : x ≠ y) : ltS x y ∨ ltS y x := by
  rcases Bool.or_eq_true _ _ ▸ leS_total x y with z | z
  · exact .inl (ltS_iff.mpr ⟨z, h⟩)
  · exact .inr (ltS_iff.mpr ⟨z, fun e => h e.symm⟩)
end Q

set_option Elab.async false
set_option linter.all false
set_option maxRecDepth 100000
set_option maxHeartbeats 4000000
namespace Q
open PySem PySem.Spec PyProof.Rows L2
/-! ### a method called with keywords for its keyword-only parameters -/
theorem kbindsP {K : PySem.W.Frag} {x qual : Str} {params : Arguments} {body : List Stmt} {scope : Scope} {kws : List (Str × V)} {f : Addr} {fd : FuncData} {ps : List Str} (F : FunD K x qual params body scope [] kws f fd) (n : Nat) (ks : List Str)
    (h : ∀ (kV doc pm : Value) (an : Option Addr) (cdv ct : Value) (us ws : List Value), us.length = n → ws.length = ks.length → bindArgs (PySem.W.fnOf x qual params body scope .none kV doc pm an cdv ct) ⟨us, ks.zip ws⟩ = pure (ps.zip (us ++ ws))) :
    KBn K fd ps n ks (fun us ws => us ++ ws) (fun vs zs => vs ++ zs) := by
  obtain ⟨oc, od, dV, kV, doc, pm, an, cdv, ct, osl, rfl, lk, hcd, hD, hK⟩ := F.ex
  rcases hD with ⟨_, rfl⟩ | ⟨e, _⟩
  · exact ⟨fun s us ws _ l1 l2 => .of_eq (h kV doc pm an cdv ct us ws l1 l2), fun r1 r2 => r1.append r2⟩
  · exact absurd rfl e
def MtK (P : Program) (w : World) (K : PySem.W.Frag) (mg : Str → Option Value) (base : Heap) (k : Nat) (c m : Str) (ps : List Str) (n : Nat) (ks : List Str) (sp : Sp) : Prop :=
  ∃ f fd, Cls K (He.ga K c) ∧ Meth K (He.ga K c) m f ∧ KBn K fd ps (n + 1) ks (fun us ws => us ++ ws) (fun vs zs => vs ++ zs) ∧ FnOk P w K mg base (L2.CX P w) k f fd ps sp
def tMtK (C : Addr) (m : Str) (n j : Nat) (sp : Sp) (W : WX) (ta : TE) (t tk : TA) : TE := fun σ H Q => ta σ H fun x H1 => ∃ a dx fs, x = .ref a ∧ H1 a = some (.ins C dx fs) ∧ fs.lookup m = none ∧
  t σ H1 fun vs H2 => tk σ H2 fun zs H3 => vs.length = n ∧ zs.length = j ∧ sp (x :: (vs ++ zs)) H3 Q fun c d H' => W c d σ H'
section
variable {X : Cx} {k j n : Nat} {c x m : Str} {ps ks : List Str} {sp : Sp} {W : WX} {p pos apos : Pos} {e o : Expr} {es : List Expr} {kws : List Keyword} {ta : TE} {t tq : TA}
end
end Q

set_option Elab.async false
set_option linter.all false
set_option maxRecDepth 100000
set_option maxHeartbeats 4000000
namespace Q
open PySem PySem.Spec PyProof.Rows L2
/-! ### any data != a text -/
section
variable {A : Around} {s : Shared}
end
def rNeX (K : PySem.W.Frag) : R2 := fun x y H Q => ∃ z : Str, y = .str z ∧ Pln K H x ∧ Q (.bl (!eqTx z x)) H
end Q

set_option Elab.async false
set_option linter.all false
set_option maxRecDepth 100000
set_option maxHeartbeats 4000000
namespace Q
open PySem PySem.Spec PyProof.Rows L2
/-! ### dicts as data, as they are changed -/
def putD (ds : List (Key × D)) (k : Key) (d : D) : List (Key × D) := if (ds.any fun kv => decide (kv.1 = k)) = true then ds.map (fun kv => if kv.1 = k then (kv.1, d) else kv) else ds ++ [(k, d)]
def dropD (ds : List (Key × D)) (k : Key) : List (Key × D) := ds.filter fun kv => decide (kv.1 ≠ k)
theorem RepK.anyK {K : PySem.W.Frag} {B : Hp} {k : Key} : ∀ {kvs : List (Key × V)} {ds : List (Key × D)}, RepK K B kvs ds → (kvs.any fun kv => decide (kv.1 = k)) = (ds.any fun kv => decide (kv.1 = k))
  | _, _, .nil => rfl
  | _, _, .cons _ r => by rw [List.any_cons, List.any_cons, RepK.anyK r]
theorem RepK.mapK {K : PySem.W.Frag} {B : Hp} {k : Key} {v : V} {d : D} (h : Rep K B v d) : ∀ {kvs : List (Key × V)} {ds : List (Key × D)}, RepK K B kvs ds → RepK K B (kvs.map fun kv => if kv.1 = k then (kv.1, v) else kv) (ds.map fun kv => if kv.1 = k then (kv.1, d) else kv)
  | _, _, .nil => .nil
  | _, _, @RepK.cons _ _ k2 _ _ _ _ h2 r => by
    rw [List.map_cons, List.map_cons]
    by_cases e : k2 = k
    · dsimp only
      rw [if_pos e, if_pos e]
      exact .cons h (RepK.mapK h r)
    · dsimp only
      rw [if_neg e, if_neg e]
      exact .cons h2 (RepK.mapK h r)
theorem RepK.append {K : PySem.W.Frag} {B : Hp} : ∀ {kvs kvs' : List (Key × V)} {ds ds' : List (Key × D)}, RepK K B kvs ds → RepK K B kvs' ds' → RepK K B (kvs ++ kvs') (ds ++ ds')
  | _, _, _, _, .nil, s => s
  | _, _, _, _, .cons h r, s => .cons h (RepK.append r s)
theorem RepK.putD {K : PySem.W.Frag} {B : Hp} {k : Key} {v : V} {d : D} {kvs : List (Key × V)} {ds : List (Key × D)} (r : RepK K B kvs ds) (h : Rep K B v d) : RepK K B (putK kvs k v) (Q.putD ds k d) := by
  unfold putK Q.putD
  rw [r.anyK]
  split
  · exact r.mapK h
  · exact r.append (.cons h .nil)
theorem RepK.dropD {K : PySem.W.Frag} {B : Hp} {k : Key} : ∀ {kvs : List (Key × V)} {ds : List (Key × D)}, RepK K B kvs ds → RepK K B (dropK kvs k) (Q.dropD ds k)
  | _, _, .nil => .nil
  | _, _, @RepK.cons _ _ k2 _ _ _ _ h2 r => by
    unfold dropK Q.dropD
    rw [List.filter_cons, List.filter_cons]
    dsimp only
    split
    · exact .cons h2 (RepK.dropD r)
    · exact RepK.dropD r
theorem RepK.keysE {K : PySem.W.Frag} {B : Hp} : ∀ {kvs : List (Key × V)} {ds : List (Key × D)}, RepK K B kvs ds → kvs.map (·.1) = ds.map (·.1)
  | _, _, .nil => rfl
  | _, _, .cons _ r => by rw [List.map_cons, List.map_cons, RepK.keysE r]
theorem dval_nil {k : Key} : dval ([] : List (Key × D)) k = none := rfl
theorem dval_pos {p : Key × D} {r : List (Key × D)} {k : Key} (e : p.1 = k) : dval (p :: r) k = some p.2 := by simp [dval, List.find?_cons, e]
theorem dval_neg {p : Key × D} {r : List (Key × D)} {k : Key} (e : ¬ p.1 = k) : dval (p :: r) k = dval r k := by simp [dval, List.find?_cons, e]
theorem dval_any (k : Key) : ∀ ds : List (Key × D), (ds.any fun kv => decide (kv.1 = k)) = (dval ds k).isSome
  | [] => rfl
  | p :: r => by
    rw [List.any_cons]
    by_cases e : p.1 = k
    · simp only [dval_pos e, decide_eq_true e, Bool.true_or, Option.isSome_some]
    · rw [dval_neg e, decide_eq_false e, Bool.false_or]; exact dval_any k r
theorem dval_put {ds : List (Key × D)} {k k' : Key} {d : D} : dval (putD ds k d) k' = if k' = k then some d else dval ds k' := by
  have mp : ∀ ds : List (Key × D), dval (ds.map fun p => if p.1 = k then (p.1, d) else p) k' = if k' = k then (if (dval ds k).isSome then some d else none) else dval ds k' := by
    intro ds
    induction ds with
    | nil => by_cases e : k' = k <;> simp [e, dval_nil]
    | cons p r ih =>
      rw [List.map_cons]
      by_cases ep : p.1 = k
      · rw [if_pos ep]
        by_cases e : k' = k
        · rw [dval_pos (by rw [ep, e]), if_pos e, dval_pos ep]
          rfl
        · rw [dval_neg (fun z => e (by rw [← z]; exact ep)), ih, if_neg e, if_neg e, dval_neg (fun z => e (by rw [← z]; exact ep))]
      · rw [if_neg ep]
        by_cases e2 : p.1 = k'
        · rw [dval_pos e2, if_neg (fun z => ep (e2.trans z)), dval_pos e2]
        · rw [dval_neg e2, ih, dval_neg e2, dval_neg ep]
  unfold putD
  split
  · rename_i h
    rw [mp]
    rw [dval_any] at h
    rw [if_pos h]
  · rename_i h
    rw [dval_any] at h
    have hn : dval ds k = none := by
      cases hv : dval ds k with
      | none => rfl
      | some _ => rw [hv] at h; exact absurd rfl h
    clear mp h
    induction ds with
    | nil =>
      by_cases e : k' = k
      · rw [if_pos e]
        exact dval_pos (p := (k, d)) e.symm
      · rw [if_neg e]
        exact dval_neg (p := (k, d)) (fun z => e z.symm)
    | cons p r ih =>
      have np : p.1 ≠ k := fun z => by rw [dval_pos z] at hn; cases hn
      rw [dval_neg np] at hn
      rw [List.cons_append]
      by_cases e2 : p.1 = k'
      · rw [dval_pos e2, if_neg (fun z => np (e2.trans z)), dval_pos e2]
      · rw [dval_neg e2, ih hn, dval_neg e2]
theorem keys_putD {ds : List (Key × D)} {k : Key} {d : D} : (k ∈ ds.map (·.1) ∧ (putD ds k d).map (·.1) = ds.map (·.1)) ∨ (k ∉ ds.map (·.1) ∧ (putD ds k d).map (·.1) = ds.map (·.1) ++ [k]) := by
  unfold putD
  have hc : (ds.any fun kv => decide (kv.1 = k)) = true ↔ k ∈ ds.map (·.1) := by
    rw [List.any_eq_true, List.mem_map]
    exact ⟨fun ⟨q, m, e⟩ => ⟨q, m, of_decide_eq_true e⟩, fun ⟨q, m, e⟩ => ⟨q, m, decide_eq_true e⟩⟩
  by_cases h : (ds.any fun kv => decide (kv.1 = k)) = true
  · rw [if_pos h, List.map_map]
    exact .inl ⟨hc.mp h, List.map_congr_left fun kv _ => by
      show (if kv.1 = k then (kv.1, d) else kv).1 = kv.1
      split <;> rfl⟩
  · rw [if_neg h, List.map_append]
    exact .inr ⟨fun z => h (hc.mpr z), rfl⟩
theorem ndD_put {ds : List (Key × D)} {k : Key} {d : D} (nd : (ds.map (·.1)).Nodup) : ((putD ds k d).map (·.1)).Nodup := by
  rcases keys_putD (ds := ds) (k := k) (d := d) with ⟨_, e⟩ | ⟨h, e⟩ <;> rw [e]
  · exact nd
  · rw [List.nodup_append]
    exact ⟨nd, by simp, fun a ma b mb e => h (by rw [← List.mem_singleton.mp mb, ← e]; exact ma)⟩
theorem ndD_drop {ds : List (Key × D)} {k : Key} (nd : (ds.map (·.1)).Nodup) : ((dropD ds k).map (·.1)).Nodup := nd.sublist ((List.filter_sublist (p := fun kv : Key × D => decide (kv.1 ≠ k))).map _)
theorem lenD_put {ds : List (Key × D)} {k : Key} {d : D} : (putD ds k d).length ≤ ds.length + 1 := by
  unfold putD
  split <;> simp
theorem lenD_drop {ds : List (Key × D)} {k : Key} : (dropD ds k).length ≤ ds.length := List.length_filter_le _ _
/-- all keys are texts, each once, at most m -/
structure StrK (ds : List (Key × D)) (m : Nat) : Prop where
  nd : (ds.map (·.1)).Nodup
  st : ∃ ks : List Str, ds.map (·.1) = ks.map Sum.inr
  le : ds.length ≤ m
theorem StrK.nil : StrK [] 0 := ⟨List.nodup_nil, ⟨[], rfl⟩, Nat.le_refl _⟩
theorem StrK.up {ds : List (Key × D)} {m m' : Nat} (h : StrK ds m) (hm : m ≤ m') : StrK ds m' := ⟨h.nd, h.st, Nat.le_trans h.le hm⟩
theorem StrK.put {ds : List (Key × D)} {m : Nat} {x : Str} {d : D} (h : StrK ds m) : StrK (putD ds (.inr x) d) (m + 1) :=
  ⟨ndD_put h.nd, by
    obtain ⟨ks, e⟩ := h.st
    rcases keys_putD (ds := ds) (k := .inr x) (d := d) with ⟨_, e2⟩ | ⟨_, e2⟩ <;> rw [e2]
    · exact ⟨ks, e⟩
    · exact ⟨ks ++ [x], by rw [e, List.map_append]; rfl⟩, Nat.le_trans lenD_put (by have := h.le; omega)⟩
theorem StrK.over {ds : List (Key × D)} {m : Nat} {x : Str} {d : D} (h : StrK ds m) (hx : (dval ds (.inr x)).isSome = true) : StrK (putD ds (.inr x) d) m :=
  ⟨ndD_put h.nd, by
    obtain ⟨ks, e⟩ := h.st
    rcases keys_putD (ds := ds) (k := .inr x) (d := d) with ⟨_, e2⟩ | ⟨_, e2⟩ <;> rw [e2]
    · exact ⟨ks, e⟩
    · exact ⟨ks ++ [x], by rw [e, List.map_append]; rfl⟩, by
    unfold putD
    rw [if_pos (by rw [dval_any]; exact hx), List.length_map]
    exact h.le⟩
theorem StrK.drop {ds : List (Key × D)} {m : Nat} {k : Key} (h : StrK ds m) : StrK (dropD ds k) m :=
  ⟨ndD_drop h.nd, by
    obtain ⟨ks, e⟩ := h.st
    have : ∀ {ds : List (Key × D)} {ks : List Str}, ds.map (·.1) = ks.map Sum.inr → ∃ ks' : List Str, (Q.dropD ds k).map (·.1) = ks'.map Sum.inr := by
      intro ds
      induction ds with
      | nil => intro _ _; exact ⟨[], rfl⟩
      | cons p r ih =>
        intro ks e
        cases ks with
        | nil => cases e
        | cons x ks =>
          rw [List.map_cons, List.map_cons] at e
          injection e with e1 e2
          obtain ⟨ks', e'⟩ := ih e2
          unfold Q.dropD at e' ⊢
          rw [List.filter_cons]
          split
          · exact ⟨x :: ks', by rw [List.map_cons, List.map_cons, e', e1]⟩
          · exact ⟨ks', e'⟩
    exact this e, Nat.le_trans lenD_drop h.le⟩
theorem dval_inK {k : Key} : ∀ {ds : List (Key × D)}, k ∈ ds.map (·.1) → (dval ds k).isSome = true
  | [], h => by simp at h
  | (k', d) :: r, h => by
    by_cases e : k' = k
    · rw [dval_pos (p := (k', d)) e]; rfl
    · rw [dval_neg (p := (k', d)) e]
      rcases List.mem_cons.mp h with z | z
      · exact absurd z.symm e
      · exact dval_inK z
theorem dval_mem' {ds : List (Key × D)} {k : Key} {d : D} (h : dval ds k = some d) : (k, d) ∈ ds := by
  unfold dval at h
  cases e : ds.find? fun kv => decide (kv.1 = k) with
  | none => rw [e] at h; cases h
  | some kv =>
    rw [e] at h
    cases h
    have e1 : kv.1 = k := of_decide_eq_true (List.find?_some (p := fun kv : Key × D => decide (kv.1 = k)) e)
    rw [← e1]
    exact List.mem_of_find?_eq_some e
/-! ### != of dicts that hold the same -/
/-- the same values under the same keys, in any order -/
def SameO (H : Hp) (x y : V) : Prop := ∃ a c ks ls, x = .ref a ∧ y = .ref c ∧ H a = some (.dK ks) ∧ H c = some (.dK ls) ∧ ks.length = ls.length ∧ ∀ p ∈ ks, valV ls p.1 = some p.2 ∧ (flatV p.2 = true ∨ ∃ b, p.2 = .ref b)
def rNeW (K : PySem.W.Frag) : R2 := fun x y H Q => rNeU K x y H Q ∨ (SameD H x y ∧ Q (.bl false) H) ∨ (SameO H x y ∧ Q (.bl false) H)
end Q

set_option Elab.async false
set_option linter.all false
set_option maxRecDepth 100000
set_option maxHeartbeats 4000000
namespace Q
open PySem PySem.Spec PyProof.Rows L2
/-! ### raise X() of an own class without __init__ -/
def ErZ (K : PySem.W.Frag) (mg : Str → Option Value) (c : Str) : Prop := mg c = some (.ref (He.ga K c)) ∧ PySem.W.excIn K (He.ga K c) He.veBase "ValueError.__new__" = true ∧ PySem.W.keepIn K (.ref (He.ga K c)) = true ∧ PySem.W.subIn K (.ref (He.ga K c)) (.type "BaseException") = some true ∧ PySem.W.typeIn K (.ref (He.ga K c)) = some (.type "type")
def tRz0 (C : Addr) (W : WX) : TS := fun _ σ H => W (.ref C) none σ H
section
variable {X : Cx} {W : WX} {x : Str} {p pos pos' : Pos}
end
/-- an error without fields in a caller's frame -/
def Thr0W (K : PySem.W.Frag) (S : List Addr) (B0 H0 B : Hp) (M : List (Addr × HO)) (E : XK) (c : Str) : Prop := ∀ B' H', Same B B' → HS S B0 H0 B' H' M → E (.ref (He.ga K c)) none H'
theorem Thr0.w {K : PySem.W.Frag} {B H B1 : Hp} {E : XK} {c : Str} {M : List (Addr × HO)} (k : Thr0 K B H E c) : Thr0W K [] B H B1 M E c := fun B' H' _ c => k B' H' c.all
end Q

set_option Elab.async false
set_option linter.all false
set_option maxRecDepth 100000
set_option maxHeartbeats 4000000
namespace Q
open PySem PySem.Spec PyProof.Rows L2
local macro_rules | `(tactic| walk_at "bf") => `(tactic| first | assumption | (refine' bstep (by assumption) ?r; case r => walk_at "bf") | fail)
local macro_rules | `(tactic| walk_at "rp") => `(tactic| first | assumption | exact Rep.int _ | exact Rep.bl _ | exact Rep.non | (refine' Rep.mono (by assumption) ?r; case r => walk_at "rp") | fail)
local macro_rules | `(tactic| walk_at "hf") => `(tactic| first | assumption | exact HS.up (by assumption) (by walk_at "bf") | exact HS.get (by assumption) List.mem_cons_self | exact HS.get (by assumption) (List.mem_cons_of_mem _ List.mem_cons_self) | exact HS.get (by assumption) (List.mem_cons_of_mem _ (List.mem_cons_of_mem _ List.mem_cons_self)) | exact HS.get (by assumption) (List.mem_cons_of_mem _ (List.mem_cons_of_mem _ (List.mem_cons_of_mem _ List.mem_cons_self))) | fail)
local macro_rules | `(tactic| walk_at "sl") => `(tactic| first | assumption | exact SqL.of (by walk_at "hf") | fail)
local macro_rules | `(tactic| walk_at "st") => `(tactic| first | assumption | exact SqT.of (by walk_at "hf") | fail)
local macro_rules | `(tactic| walk_at "sz") => `(tactic| first | assumption | (refine small_le ?_; first | assumption | omega | (simp; done) | (simp; omega)) | fail)
/-! ### dealings -/
def eqS (d : D) (a : Str) : Bool := match d with
  | .str x => decide (x = a)
  | _ => false
def okVal (op : Str → List Str) (d : D) (a : Str) : D → Bool
  | .non => true
  | .str b => decide (b ∈ op a) && eqS (vald d b) a
  | _ => false
def okPart (op : Str → List Str) (d : D) (a : Str) : Bool := okVal op d a (vald d a)
def isDeal (xs : List Str) (op : Str → List Str) (d : D) : Bool := sameKeys d xs && xs.all (okPart op d)
structure Deal (xs : List Str) (op : Str → List Str) (d : D) : Prop where
  sk : sameKeys d xs = true
  ok : ∀ a ∈ xs, vald d a = .non ∨ ∃ b, vald d a = .str b ∧ b ∈ op a ∧ vald d b = .str a
theorem okPart_true {op : Str → List Str} {d : D} {a : Str} : okPart op d a = true ↔ (vald d a = .non ∨ ∃ b, vald d a = .str b ∧ b ∈ op a ∧ vald d b = .str a) := by
  unfold okPart
  cases h : vald d a with
  | non => simp [okVal]
  | str b =>
    show (decide (b ∈ op a) && eqS (vald d b) a) = true ↔ _
    constructor
    · intro z
      obtain ⟨z1, z2⟩ := Bool.and_eq_true_iff.mp z
      refine .inr ⟨b, rfl, of_decide_eq_true z1, ?_⟩
      unfold eqS at z2
      cases h2 : vald d b with
      | str x => rw [h2] at z2; rw [of_decide_eq_true z2]
      | _ => rw [h2] at z2; cases z2
    · rintro (z | ⟨b', z1, z2, z3⟩)
      · cases z
      · injection z1 with z1
        subst z1
        rw [decide_eq_true z2, z3]
        show (true && decide (a = a)) = true
        simp
  | _ => simp [okVal]
theorem isDeal_true {xs : List Str} {op : Str → List Str} {d : D} : isDeal xs op d = true ↔ Deal xs op d := by
  unfold isDeal
  rw [Bool.and_eq_true_iff, List.all_eq_true]
  exact ⟨fun h => ⟨h.1, fun a m => okPart_true.mp (h.2 a m)⟩, fun h => ⟨h.sk, fun a m => okPart_true.mpr (h.ok a m)⟩⟩
def plainV (d : D) : Prop := ∀ p, (vald d p).plain = true
theorem plainV_dct {ds : List (Key × D)} (h : PlK (fun e => e.plain = true) ds) : plainV (.dct ds) := fun p => by
  unfold vald
  dsimp only
  cases e : dval ds (.inr p) with
  | none => rfl
  | some d =>
    obtain ⟨k', m⟩ := dval_mem e
    exact h _ m
abbrev N_is_dealing : List Str := ["group", "x", "a", "b"]
def t_is_dealing (K : PySem.W.Frag) (E : XK) : TS := (tSeq (tIfS (tNot (tB (tCl (sp_same_keys K) (WE0 E) (tCons (tVar 1) (tCons (tMt (He.ga K "Group") "people" (sp_Group_people K) (WE0 E) (tVar 0) tNil) tNil))))) (tRet (tC (.bl false))) tNext)
  (tSeq (tFor (iList K (tMt (He.ga K "Group") "people" (sp_Group_people K) (WE0 E) (tVar 0) tNil)) (gName 2) (tSeq (tAsg (tDGet (tVar 1) (tVar 2)) (gName 3))
  (tSeq (tIfS (tB (tIsN (tVar 3))) tCont tNext)
  (tIfS (tOr (tNot (tB (tCB (rIsi K) (tCons (tVar 3) (tCons (tC (.ty "str")) tNil))))) (tOr (tTest (tOp (rNotInG (He.ga K "Group") (sp_Group___contains__ K)) (tTup (tCons (tVar 2) (tCons (tVar 3) tNil))) (tVar 0))) (tTest (tOp (rNeX K) (tDGet (tVar 1) (tVar 3)) (tVar 2))))) (tRet (tC (.bl false))) tNext))))
  (tRet (tC (.bl true)))))
def sp_is_dealing (K : PySem.W.Frag) : Sp := fun vs H Q E => ∃ (p : Addr) (v : V) (B : Hp) (G : Grp) (d : D), vs = [.ref p, v] ∧ Same B H ∧ GAt K B p G ∧ Rep K B v d ∧ plainV d ∧ Ret B H Q fun _ r => r = .bl (isDeal G.names G.open d)
abbrev N_check_dealing : List Str := ["group", "x"]
def t_check_dealing (K : PySem.W.Frag) (E : XK) : TS := (tIfS (tNot (tB (tCl (sp_is_dealing K) (WE0 E) (tCons (tVar 0) (tCons (tVar 1) tNil))))) (tRz0 (He.ga K "NoDealing") (WE0 E)) tNext)
def sp_check_dealing (K : PySem.W.Frag) : Sp := fun vs H Q E => ∃ (p : Addr) (v : V) (B : Hp) (G : Grp) (d : D), vs = [.ref p, v] ∧ Same B H ∧ GAt K B p G ∧ Rep K B v d ∧ plainV d ∧ (isDeal G.names G.open d = true → Ret B H Q fun _ r => r = .non) ∧ (isDeal G.names G.open d = false → Thr0 K B H E "NoDealing")
/-! ### who would rather have whom -/
def part (d : D) (a : Str) : Option Str := match vald d a with
  | .str b => some b
  | _ => none
def strV : V → Option Str
  | .str c => some c
  | _ => none
def ratherO (row : List Str) (b : Str) : Option Str → Bool
  | none => true
  | some c => decide (row.idxOf b < row.idxOf c)
def rather (op : Str → List Str) (d : D) (a b : Str) : Bool := ratherO (op a) b (part d a)
def quarB (op : Str → List Str) (d : D) (a b : Str) : Bool := !decide (part d a = some b) && (rather op d a b && rather op d b a)
def quarF (op : Str → List Str) (d : D) : List Str → Bool
  | [a, b] => quarB op d a b
  | _ => false
def quars (xs : List Str) (op : Str → List Str) (d : D) : List (List Str) := (prsOf xs op).filter (quarF op d)
def isCalm (xs : List Str) (op : Str → List Str) (d : D) : Bool := isDeal xs op d && (quars xs op d).isEmpty
theorem get_idx {l : List Str} {x : Str} (m : x ∈ l) : l[l.idxOf x]? = some x := by
  have h := List.idxOf_lt_length_of_mem m
  rw [List.getElem?_eq_getElem h]
  exact congrArg some (List.getElem_idxOf h)
theorem vald_of {ds : List (Key × D)} {a : Str} {d : D} (h : dval ds (.inr a) = some d) : vald (.dct ds) a = d := by unfold vald; dsimp only; rw [h]; rfl
abbrev N_would_rather : List Str := ["group", "x", "a", "b"]
def t_would_rather (K : PySem.W.Frag) (E : XK) : TS := (tRet (tOrV (tIsN (tDGet (tVar 1) (tVar 2))) (tOp rLtI (tMt (He.ga K "Group") "rank" (sp_Group_rank K) (WE0 E) (tVar 0) (tCons (tVar 2) (tCons (tVar 3) tNil))) (tMt (He.ga K "Group") "rank" (sp_Group_rank K) (WE0 E) (tVar 0) (tCons (tVar 2) (tCons (tDGet (tVar 1) (tVar 2)) tNil))))))
def sp_would_rather (K : PySem.W.Frag) : Sp := fun vs H Q E => ∃ (p : Addr) (v : V) (B : Hp) (G : Grp) (ds : List (Key × D)) (a b : Str), vs = [.ref p, v, .str a, .str b] ∧ Same B H ∧ GAt K B p G ∧ Rep K B v (.dct ds) ∧ a ∈ G.names ∧ b ∈ G.open a ∧ (dval ds (.inr a) = some .non ∨ ∃ c, dval ds (.inr a) = some (.str c) ∧ c ∈ G.open a) ∧ Ret B H Q fun _ r => r = .bl (rather G.open (.dct ds) a b)
theorem Deal.dvals {xs : List Str} {op : Str → List Str} {ds : List (Key × D)} (h : Deal xs op (.dct ds)) {a : Str} (m : a ∈ xs) : dval ds (.inr a) = some .non ∨ ∃ c, dval ds (.inr a) = some (.str c) ∧ c ∈ op a := by
  obtain ⟨ds', e, _, hsome⟩ := sameKeys_dct h.sk
  cases e
  obtain ⟨d, hd⟩ := Option.isSome_iff_exists.mp (hsome a m)
  rcases h.ok a m with z | ⟨b, z, mb, _⟩
  · rw [vald_of hd] at z; rw [hd, z]; exact .inl rfl
  · rw [vald_of hd] at z; rw [hd, z]; exact .inr ⟨b, rfl, mb⟩
abbrev N_quarrels : List Str := ["group", "x", "rows", "a", "b"]
def t_quarrels (K : PySem.W.Frag) (E : XK) : TS := (tSeq (tDrop (tCl (sp_check_dealing K) (WE0 E) (tCons (tVar 0) (tCons (tVar 1) tNil))))
  (tSeq (tAsg (tLst tNil) (gName 2))
  (tSeq (tFor (iList K (tMt (He.ga K "Group") "pairs" (sp_Group_pairs K) (WE0 E) (tVar 0) tNil)) (gTup K 2 (gCons (gName 3) (gCons (gName 4) gNil))) (tIfS (tAnd (tTest (tOp rNe (tDGet (tVar 1) (tVar 3)) (tVar 4))) (tAnd (tB (tCl (sp_would_rather K) (WE0 E) (tCons (tVar 0) (tCons (tVar 1) (tCons (tVar 3) (tCons (tVar 4) tNil)))))) (tB (tCl (sp_would_rather K) (WE0 E) (tCons (tVar 0) (tCons (tVar 1) (tCons (tVar 4) (tCons (tVar 3) tNil)))))))) (tDrop (tBM K "list" rAppend (tVar 2) (tCons (tTup (tCons (tVar 3) (tCons (tVar 4) tNil))) tNil))) tNext))
  (tRet (tVar 2)))))
def sp_quarrels (K : PySem.W.Frag) : Sp := fun vs H Q E => ∃ (p : Addr) (v : V) (B : Hp) (G : Grp) (d : D), vs = [.ref p, v] ∧ Same B H ∧ GAt K B p G ∧ Rep K B v d ∧ plainV d ∧ (isDeal G.names G.open d = true → ∀ B' H' l vs, HS [] B H B' H' [(l, .lst vs)] → TRs B' vs (quars G.names G.open d) → Q (.ref l) H') ∧ (isDeal G.names G.open d = false → Thr0 K B H E "NoDealing")
theorem prsOf_get {xs : List Str} {f : Str → List Str} {k : List Str} (h : k ∈ prsOf xs f) : ∃ a b, k = [a, b] ∧ a ∈ xs ∧ b ∈ f a ∧ ltS a b := by
  unfold prsOf at h
  obtain ⟨a, ma, h⟩ := List.mem_flatMap.mp h
  unfold prsF at h
  obtain ⟨b, mb, rfl⟩ := List.mem_map.mp h
  obtain ⟨m1, m2⟩ := List.mem_filter.mp mb
  exact ⟨a, b, rfl, mem_sortS.mp ma, mem_sortS.mp m1, of_decide_eq_true m2⟩
end Q

set_option Elab.async false
set_option linter.all false
set_option maxRecDepth 100000
set_option maxHeartbeats 4000000
namespace Q
open PySem PySem.Spec PyProof.Rows L2
local macro_rules | `(tactic| walk_at "bf") => `(tactic| first | assumption | (refine' bstep (by assumption) ?r; case r => walk_at "bf") | fail)
local macro_rules | `(tactic| walk_at "rp") => `(tactic| first | assumption | exact Rep.int _ | exact Rep.bl _ | exact Rep.non | (refine' Rep.mono (by assumption) ?r; case r => walk_at "rp") | fail)
local macro_rules | `(tactic| walk_at "hf") => `(tactic| first | assumption | exact HS.up (by assumption) (by walk_at "bf") | exact HS.get (by assumption) List.mem_cons_self | exact HS.get (by assumption) (List.mem_cons_of_mem _ List.mem_cons_self) | exact HS.get (by assumption) (List.mem_cons_of_mem _ (List.mem_cons_of_mem _ List.mem_cons_self)) | exact HS.get (by assumption) (List.mem_cons_of_mem _ (List.mem_cons_of_mem _ (List.mem_cons_of_mem _ List.mem_cons_self))) | fail)
local macro_rules | `(tactic| walk_at "sl") => `(tactic| first | assumption | exact SqL.of (by walk_at "hf") | fail)
local macro_rules | `(tactic| walk_at "st") => `(tactic| first | assumption | exact SqT.of (by walk_at "hf") | fail)
local macro_rules | `(tactic| walk_at "sz") => `(tactic| first | assumption | (refine small_le ?_; first | assumption | omega | (simp; done) | (simp; omega)) | fail)
abbrev N_is_calm : List Str := ["group", "x"]
def t_is_calm (K : PySem.W.Frag) (E : XK) : TS := (tRet (tAndV (tCl (sp_is_dealing K) (WE0 E) (tCons (tVar 0) (tCons (tVar 1) tNil))) (tOp (rEqD K) (tCl (sp_quarrels K) (WE0 E) (tCons (tVar 0) (tCons (tVar 1) tNil))) (tLst tNil))))
def sp_is_calm (K : PySem.W.Frag) : Sp := fun vs H Q E => ∃ (p : Addr) (v : V) (B : Hp) (G : Grp) (d : D), vs = [.ref p, v] ∧ Same B H ∧ GAt K B p G ∧ Rep K B v d ∧ plainV d ∧ Ret B H Q fun _ r => r = .bl (isCalm G.names G.open d)
/-! ### the same by the law -/
/-- who is open to whom, as a law finds it -/
structure Mut (xs : List Str) (f : Str → List Str) : Prop where
  nd : xs.Nodup
  few : xs.length ≤ 16
  nm : ∀ x ∈ xs, okName x = true
  fn : ∀ a ∈ xs, (f a).Nodup
  fi : ∀ a ∈ xs, ∀ b ∈ f a, b ∈ xs ∧ a ∈ f b
  fs : ∀ a ∈ xs, a ∉ f a
theorem Mut.len {xs : List Str} {f : Str → List Str} (h : Mut xs f) {a : Str} (m : a ∈ xs) : (f a).length ≤ 16 := by
  have := nodup_len (h.fn a m) (fun b mb => (h.fi a m b mb).1)
  have := h.few
  omega
theorem TRs.del {B : Hp} {m : Addr} {kvs : List (Key × V)} (hm : B m = some (.dK kvs)) : ∀ {vs : List V} {ks : List (List Str)}, TRs B vs ks → TRs (L2.del B m) vs ks
  | _, _, .nil => .nil
  | _, _, .cons h r => .cons (by rw [del_ne fun z => by rw [z, hm] at h; cases h]; exact h) (TRs.del hm r)
def optV : Option Str → V
  | none => .non
  | some x => .str x
abbrev N__law_rather : List Str := ["_law_mutual_here", "_law_a", "_law_b", "_law_held"]
def t__law_rather (K : PySem.W.Frag) (E : XK) : TS := (tRet (tOrV (tIsN (tVar 3)) (tOp rLtI (tBM K "list" (rIndex K) (tDGet (tVar 0) (tVar 1)) (tCons (tVar 2) tNil)) (tBM K "list" (rIndex K) (tDGet (tVar 0) (tVar 1)) (tCons (tVar 3) tNil)))))
def sp__law_rather (K : PySem.W.Frag) : Sp := fun vs H Q E => ∃ (m : Addr) (kvs : List (Key × V)) (row : List Str) (l : Addr) (a b : Str) (h : Option Str), vs = [.ref m, .str a, .str b, optV h] ∧ H m = some (.dK kvs) ∧ valV kvs (.inr a) = some (.ref l) ∧ H l = some (.lst (row.map V.str)) ∧ row.Nodup ∧ b ∈ row ∧ (∀ c, h = some c → c ∈ row) ∧ Q (.bl (ratherO row b h)) H
abbrev N__law_quarrels : List Str := ["_law_mutual_here", "_law_x", "_law_rows", "_law_pair", "_law_a", "_law_b"]
def t__law_quarrels (K : PySem.W.Frag) (E : XK) : TS := (tSeq (tAsg (tLst tNil) (gName 2))
  (tSeq (tFor (iList K (tCl (sp__law_pairs K) (WE0 E) (tCons (tVar 0) tNil))) (gName 3) (tSeq (tAsg (tOp (rIxT K) (tVar 3) (tC (.int 0))) (gName 4))
  (tSeq (tAsg (tOp (rIxT K) (tVar 3) (tC (.int 1))) (gName 5))
  (tIfS (tAnd (tTest (tOp rNe (tDGet (tVar 1) (tVar 4)) (tVar 5))) (tAnd (tB (tCl (sp__law_rather K) (WE0 E) (tCons (tVar 0) (tCons (tVar 4) (tCons (tVar 5) (tCons (tDGet (tVar 1) (tVar 4)) tNil)))))) (tB (tCl (sp__law_rather K) (WE0 E) (tCons (tVar 0) (tCons (tVar 5) (tCons (tVar 4) (tCons (tDGet (tVar 1) (tVar 5)) tNil)))))))) (tDrop (tBM K "list" rAppend (tVar 2) (tCons (tTup (tCons (tVar 4) (tCons (tVar 5) tNil))) tNil))) tNext))))
  (tRet (tVar 2))))
def sp__law_quarrels (K : PySem.W.Frag) : Sp := fun vs H Q E => ∃ (m : Addr) (v : V) (kvs : List (Key × V)) (xs : List Str) (f : Str → List Str) (ds : List (Key × D)) (B : Hp), vs = [.ref m, v] ∧ Same B H ∧ B m = some (.dK kvs) ∧ WAt B xs kvs f ∧ Mut xs f ∧ Rep K B v (.dct ds) ∧ (∀ a ∈ xs, dval ds (.inr a) = some .non ∨ ∃ c, dval ds (.inr a) = some (.str c) ∧ c ∈ f a) ∧
  ∀ B' H' l vs, HS [] B H B' H' [(l, .lst vs)] → TRs B' vs (quars xs f (.dct ds)) → Q (.ref l) H'
abbrev N__law_is_dealing : List Str := ["_law_mutual_here", "_law_x", "_law_a"]
def t__law_is_dealing (K : PySem.W.Frag) (E : XK) : TS := (tSeq (tIfS (tOr (tNot (tB (tCB (rIsi K) (tCons (tVar 1) (tCons (tC (.ty "dict")) tNil))))) (tTest (tOp rNe (tCB rLenD (tCons (tVar 1) tNil)) (tCB rLenD (tCons (tVar 0) tNil))))) (tRet (tC (.bl false))) tNext)
  (tSeq (tLock (tFor (iKeys (tVar 0)) (gName 2) (tIfS (tB (tDNotIn (tVar 2) (tVar 1))) (tRet (tC (.bl false))) tNext)))
  (tSeq (tLock (tFor (iKeys (tVar 0)) (gName 2) (tIfS (tB (tNotN (tDGet (tVar 1) (tVar 2)))) (tIfS (tOr (tNot (tB (tCB (rIsi K) (tCons (tDGet (tVar 1) (tVar 2)) (tCons (tC (.ty "str")) tNil))))) (tOr (tTest (tOp (rIn K true) (tDGet (tVar 1) (tVar 2)) (tDGet (tVar 0) (tVar 2)))) (tTest (tOp (rNeX K) (tDGet (tVar 1) (tDGet (tVar 1) (tVar 2))) (tVar 2))))) (tRet (tC (.bl false))) tNext) tNext)))
  (tRet (tC (.bl true))))))
def sp__law_is_dealing (K : PySem.W.Frag) : Sp := fun vs H Q E => ∃ (m : Addr) (v : V) (kvs : List (Key × V)) (xs : List Str) (f : Str → List Str) (d : D) (B : Hp), vs = [.ref m, v] ∧ Same B H ∧ B m = none ∧ H m = some (.dK kvs) ∧ WAt B xs kvs f ∧ Mut xs f ∧ Rep K B v d ∧ plainV d ∧ Ret B H Q fun _ r => r = .bl (isDeal xs f d)
abbrev N__law_is_calm : List Str := ["_law_mutual_here", "_law_x"]
def t__law_is_calm (K : PySem.W.Frag) (E : XK) : TS := (tRet (tAndV (tCl (sp__law_is_dealing K) (WE0 E) (tCons (tVar 0) (tCons (tVar 1) tNil))) (tOp (rEqD K) (tCl (sp__law_quarrels K) (WE0 E) (tCons (tVar 0) (tCons (tVar 1) tNil))) (tLst tNil))))
def sp__law_is_calm (K : PySem.W.Frag) : Sp := fun vs H Q E => ∃ (m : Addr) (v : V) (kvs : List (Key × V)) (xs : List Str) (f : Str → List Str) (d : D) (B : Hp), vs = [.ref m, v] ∧ Same B H ∧ B m = none ∧ H m = some (.dK kvs) ∧ WAt B xs kvs f ∧ Mut xs f ∧ Rep K B v d ∧ plainV d ∧ Ret B H Q fun _ r => r = .bl (isCalm xs f d)
end Q

set_option Elab.async false
set_option linter.all false
set_option maxRecDepth 100000
set_option maxHeartbeats 4000000
namespace Q
open PySem PySem.Spec PyProof.Rows L2
local macro_rules | `(tactic| walk_at "bf") => `(tactic| first | assumption | (refine' bstep (by assumption) ?r; case r => walk_at "bf") | fail)
local macro_rules | `(tactic| walk_at "rp") => `(tactic| first | assumption | exact Rep.int _ | exact Rep.bl _ | exact Rep.non | (refine' Rep.mono (by assumption) ?r; case r => walk_at "rp") | fail)
local macro_rules | `(tactic| walk_at "hf") => `(tactic| first | assumption | exact HS.up (by assumption) (by walk_at "bf") | exact HS.get (by assumption) List.mem_cons_self | exact HS.get (by assumption) (List.mem_cons_of_mem _ List.mem_cons_self) | exact HS.get (by assumption) (List.mem_cons_of_mem _ (List.mem_cons_of_mem _ List.mem_cons_self)) | exact HS.get (by assumption) (List.mem_cons_of_mem _ (List.mem_cons_of_mem _ (List.mem_cons_of_mem _ List.mem_cons_self))) | fail)
local macro_rules | `(tactic| walk_at "sl") => `(tactic| first | assumption | exact SqL.of (by walk_at "hf") | fail)
local macro_rules | `(tactic| walk_at "st") => `(tactic| first | assumption | exact SqT.of (by walk_at "hf") | fail)
local macro_rules | `(tactic| walk_at "sz") => `(tactic| first | assumption | (refine small_le ?_; first | assumption | omega | (simp; done) | (simp; omega)) | fail)
/-! ### dealings that a law draws -/
/-- a dealing of some of the people -/
structure PDeal (xs : List Str) (f : Str → List Str) (ds : List (Key × D)) : Prop where
  st : StrK ds 16
  ok : ∀ a d, dval ds (.inr a) = some d → a ∈ xs ∧ (d = .non ∨ ∃ b, d = .str b ∧ b ∈ f a ∧ dval ds (.inr b) = some (.str a))
theorem keys_of {ds : List (Key × D)} {a : Str} (h : (Sum.inr a : Key) ∈ ds.map (·.1)) : ∃ d, dval ds (.inr a) = some d := Option.isSome_iff_exists.mp (dval_inK h)
theorem StrK.sub {ds : List (Key × D)} {m : Nat} {xs : List Str} (h : StrK ds m) (hx : ∀ a d, dval ds (.inr a) = some d → a ∈ xs) : ds.length ≤ xs.length := by
  obtain ⟨ks, e⟩ := h.st
  have nd := h.nd
  rw [e] at nd
  have ndk : ks.Nodup := (List.pairwise_map.mp nd).imp fun {a b} ne z => ne (by rw [z])
  have := nodup_len ndk (ys := xs) fun a ma => by
    obtain ⟨d, hd⟩ := keys_of (ds := ds) (a := a) (by rw [e]; exact List.mem_map.mpr ⟨a, ma, rfl⟩)
    exact hx a d hd
  have hl := congrArg List.length e
  rw [List.length_map, List.length_map] at hl
  omega
theorem StrK.sup {ds : List (Key × D)} {m : Nat} {xs : List Str} (h : StrK ds m) (nd : xs.Nodup) (hx : ∀ a ∈ xs, (dval ds (.inr a)).isSome = true) : xs.length ≤ ds.length := by
  have := nodup_len (xs := xs.map (Sum.inr : Str → Key)) (ys := ds.map (·.1)) (List.pairwise_map.mpr (nd.imp fun {a b} ne e => ne (Sum.inr.inj e))) fun k mk => by
    obtain ⟨a, ma, rfl⟩ := List.mem_map.mp mk
    obtain ⟨d, hd⟩ := Option.isSome_iff_exists.mp (hx a ma)
    exact List.mem_map.mpr ⟨(.inr a, d), dval_mem' hd, rfl⟩
  rw [List.length_map, List.length_map] at this
  exact this
theorem PDeal.deal {xs : List Str} {f : Str → List Str} {ds : List (Key × D)} (h : PDeal xs f ds) (nd : xs.Nodup) (hx : ∀ a ∈ xs, (dval ds (.inr a)).isSome = true) : Deal xs f (.dct ds) := by
  have h1 := h.st.sub fun a d e => (h.ok a d e).1
  have h2 := h.st.sup nd hx
  refine ⟨?_, fun a ma => ?_⟩
  · unfold sameKeys
    dsimp only
    rw [decide_eq_true (by omega : ds.length = xs.length), List.all_eq_true.mpr hx]
    rfl
  · obtain ⟨d, hd⟩ := Option.isSome_iff_exists.mp (hx a ma)
    rw [vald_of hd]
    rcases (h.ok a d hd).2 with rfl | ⟨b, rfl, mb, e⟩
    · exact .inl rfl
    · exact .inr ⟨b, rfl, mb, vald_of e⟩
theorem PDeal.nil {xs : List Str} {f : Str → List Str} : PDeal xs f [] := ⟨StrK.nil.up (by omega), fun a d e => by cases e⟩
theorem strK_of {ds : List (Key × D)} {m : Nat} {xs : List Str} (h : StrK ds m) (hx : ∀ a d, dval ds (.inr a) = some d → a ∈ xs) (hl : xs.length ≤ 16) : StrK ds 16 := ⟨h.nd, h.st, Nat.le_trans (h.sub hx) hl⟩
theorem PDeal.one {xs : List Str} {f : Str → List Str} {ds : List (Key × D)} {a : Str} (h : PDeal xs f ds) (hl : xs.length ≤ 16) (ma : a ∈ xs) (na : dval ds (.inr a) = none) : PDeal xs f (putD ds (.inr a) .non) := by
  have ok : ∀ c d, dval (putD ds (.inr a) .non) (.inr c) = some d → c ∈ xs ∧ (d = .non ∨ ∃ b, d = .str b ∧ b ∈ f c ∧ dval (putD ds (.inr a) .non) (.inr b) = some (.str c)) := fun c d e => by
    rw [dval_put] at e
    by_cases z : (Sum.inr c : Key) = .inr a
    · rw [if_pos z] at e
      cases e
      rw [Sum.inr.inj z]
      exact ⟨ma, .inl rfl⟩
    · rw [if_neg z] at e
      obtain ⟨h1, h2⟩ := h.ok c d e
      refine ⟨h1, h2.imp id fun ⟨b, e1, e2, e3⟩ => ⟨b, e1, e2, ?_⟩⟩
      rw [dval_put, if_neg fun z2 => by rw [z2, na] at e3; cases e3]
      exact e3
  exact ⟨strK_of h.st.put (fun c d e => (ok c d e).1) hl, ok⟩
theorem PDeal.two {xs : List Str} {f : Str → List Str} {ds : List (Key × D)} {a b : Str} (h : PDeal xs f ds) (mu : Mut xs f) (ma : a ∈ xs) (mb : b ∈ f a) (na : dval ds (.inr a) = none) (nb : dval ds (.inr b) = none) : PDeal xs f (putD (putD (putD ds (.inr a) .non) (.inr a) (.str b)) (.inr b) (.str a)) := by
  have hab : a ≠ b := fun z => mu.fs a ma (z ▸ mb)
  have hv : ∀ c, dval (putD (putD (putD ds (.inr a) .non) (.inr a) (.str b)) (.inr b) (.str a)) (.inr c) = if c = b then some (.str a) else if c = a then some (.str b) else dval ds (.inr c) := fun c => by
    rw [dval_put, dval_put, dval_put]
    by_cases e1 : c = b
    · rw [if_pos (by rw [e1]), if_pos e1]
    · rw [if_neg (fun z => e1 (Sum.inr.inj z)), if_neg e1]
      by_cases e2 : c = a
      · rw [if_pos (by rw [e2]), if_pos e2]
      · rw [if_neg (fun z => e2 (Sum.inr.inj z)), if_neg e2, if_neg (fun z => e2 (Sum.inr.inj z))]
  have ok : ∀ c d, dval (putD (putD (putD ds (.inr a) .non) (.inr a) (.str b)) (.inr b) (.str a)) (.inr c) = some d → c ∈ xs ∧ (d = .non ∨ ∃ b', d = .str b' ∧ b' ∈ f c ∧ dval (putD (putD (putD ds (.inr a) .non) (.inr a) (.str b)) (.inr b) (.str a)) (.inr b') = some (.str c)) := fun c d e => by
    rw [hv] at e
    by_cases e1 : c = b
    · rw [if_pos e1] at e
      cases e
      subst e1
      refine ⟨(mu.fi a ma c mb).1, .inr ⟨a, rfl, (mu.fi a ma c mb).2, ?_⟩⟩
      rw [hv, if_neg hab, if_pos rfl]
    · rw [if_neg e1] at e
      by_cases e2 : c = a
      · rw [if_pos e2] at e
        cases e
        subst e2
        refine ⟨ma, .inr ⟨b, rfl, mb, ?_⟩⟩
        rw [hv, if_pos rfl]
      · rw [if_neg e2] at e
        obtain ⟨h1, h2⟩ := h.ok c d e
        refine ⟨h1, h2.imp id fun ⟨b', e3, e4, e5⟩ => ⟨b', e3, e4, ?_⟩⟩
        rw [hv, if_neg (fun z => by rw [z, nb] at e5; cases e5), if_neg (fun z => by rw [z, na] at e5; cases e5)]
        exact e5
  exact ⟨strK_of h.st.put.put.put (fun c d e => (ok c d e).1) mu.few, ok⟩
/-- a dict of names to names or None shows the same in every heap -/
def SclK (K : PySem.W.Frag) (kvs : List (Key × V)) (ds : List (Key × D)) : Prop := ∀ B, RepK K B kvs ds
abbrev N__law_any_dealing : List Str := ["_law_state", "_law_mutual_here", "_law_x", "_law_a", "_law_free", "_law_at", "_law_b"]
def t__law_any_dealing (K : PySem.W.Frag) (E : XK) : TS := (tSeq (tAsg tDNewK (gName 2))
  (tSeq (tFor (iList K (tCl (sp__law_mixed K) (WE0 E) (tCons (tVar 0) (tCons (tCB (rSortL K) (tCons (tCB rListD (tCons (tVar 1) tNil)) tNil)) tNil)))) (gName 3) (tIfS (tB (tDNotIn (tVar 3) (tVar 2))) (tSeq (tAsg (tLc (iList K (tDGet (tVar 1) (tVar 3))) (gName 6) (tB (tDNotIn (tVar 6) (tVar 2))) (tVar 6) [6]) (gName 4))
  (tSeq (tAsg (tCl (sp__law_take K) (WE0 E) (tCons (tVar 0) (tCons (tOp rAddI (tCB (rLenA K) (tCons (tVar 4) tNil)) (tC (.int 1))) tNil))) (gName 5))
  (tSeq (sDPut (tVar 2) (tVar 3) (tC .non))
  (tIfS (tTest (tOp rLtI (tVar 5) (tCB (rLenA K) (tCons (tVar 4) tNil)))) (tSeq (sDPut (tVar 2) (tVar 3) (tOp (rIxL K) (tVar 4) (tVar 5)))
  (sDPut (tVar 2) (tOp (rIxL K) (tVar 4) (tVar 5)) (tVar 3))) tNext)))) tNext))
  (tRet (tVar 2))))
def sp__law_any_dealing (K : PySem.W.Frag) : Sp := fun vs H Q E => ∃ (p m : Addr) (a b : Int) (kvs : List (Key × V)) (xs : List Str) (f : Str → List Str) (B : Hp), vs = [.ref p, .ref m] ∧ Same B H ∧ B p = none ∧ H p = some (stO a b) ∧ VSt a b ∧ B m = some (.dK kvs) ∧ WAt B xs kvs f ∧ Mut xs f ∧
  ∀ B' H' a' b' xd kx ds, HS [p] B H B' H' [(p, stO a' b'), (xd, .dK kx)] → VSt a' b' → SclK K kx ds → Deal xs f (.dct ds) → StrK ds 16 → Q (.ref xd) H'
end Q

set_option Elab.async false
set_option linter.all false
set_option maxRecDepth 100000
set_option maxHeartbeats 4000000
namespace Q
open PySem PySem.Spec PyProof.Rows L2
local macro_rules | `(tactic| walk_at "bf") => `(tactic| first | assumption | (refine' bstep (by assumption) ?r; case r => walk_at "bf") | fail)
local macro_rules | `(tactic| walk_at "rp") => `(tactic| first | assumption | exact Rep.int _ | exact Rep.bl _ | exact Rep.non | (refine' Rep.mono (by assumption) ?r; case r => walk_at "rp") | fail)
local macro_rules | `(tactic| walk_at "hf") => `(tactic| first | assumption | exact HS.up (by assumption) (by walk_at "bf") | exact HS.get (by assumption) List.mem_cons_self | exact HS.get (by assumption) (List.mem_cons_of_mem _ List.mem_cons_self) | exact HS.get (by assumption) (List.mem_cons_of_mem _ (List.mem_cons_of_mem _ List.mem_cons_self)) | exact HS.get (by assumption) (List.mem_cons_of_mem _ (List.mem_cons_of_mem _ (List.mem_cons_of_mem _ List.mem_cons_self))) | fail)
local macro_rules | `(tactic| walk_at "sl") => `(tactic| first | assumption | exact SqL.of (by walk_at "hf") | fail)
local macro_rules | `(tactic| walk_at "st") => `(tactic| first | assumption | exact SqT.of (by walk_at "hf") | fail)
local macro_rules | `(tactic| walk_at "sz") => `(tactic| first | assumption | (refine small_le ?_; first | assumption | omega | (simp; done) | (simp; omega)) | fail)
/-! ### a dealing that is spoilt -/
def PlainK (ds : List (Key × D)) : Prop := PlK (fun e => e.plain = true) ds
theorem PlainK.put {ds : List (Key × D)} {k : Key} {d : D} (h : PlainK ds) (hd : d.plain = true) : PlainK (putD ds k d) := fun q m => by
  unfold putD at m
  split at m
  · obtain ⟨q', mq, rfl⟩ := List.mem_map.mp m
    split
    · exact hd
    · exact h q' mq
  · rcases List.mem_append.mp m with m | m
    · exact h q m
    · rw [List.mem_singleton.mp m]; exact hd
theorem PlainK.drop {ds : List (Key × D)} {k : Key} (h : PlainK ds) : PlainK (dropD ds k) := fun q m => h q (List.mem_filter.mp m).1
/-- a value that may be a dealing: plain, and a dict has texts as keys -/
def MayDeal (m : Nat) (d : D) : Prop := d.plain = true ∧ ∀ ds, d = .dct ds → StrK ds m ∧ PlainK ds
theorem MayDeal.plainV {m : Nat} {d : D} (h : MayDeal m d) : plainV d := by
  cases d with
  | dct ds => exact plainV_dct (h.2 ds rfl).2
  | _ => exact fun _ => rfl
abbrev N__law_spoilt : List Str := ["_law_state", "_law_names_here", "_law_x", "_law_kind", "_law_value_here", "_law_y", "_law_a", "_law_b"]
def t__law_spoilt (K : PySem.W.Frag) (E : XK) : TS := (tSeq (tAsg (tCl (sp__law_take K) (WE0 E) (tCons (tVar 0) (tCons (tC (.int 7)) tNil))) (gName 3))
  (tSeq (tAsg (tCl (sp__law_value K) (WE0 E) (tCons (tVar 0) tNil)) (gName 4))
  (tSeq (tIfS (tTest (tOp rEq (tVar 3) (tC (.int 5)))) (tRet (tVar 4)) tNext)
  (tSeq (tAsg (tCB rDictOf (tCons (tVar 2) tNil)) (gName 5))
  (tSeq (tIfS (tTr K (tVar 1)) (tSeq (tAsg (tOp (rIxL K) (tVar 1) (tCl (sp__law_take K) (WE0 E) (tCons (tVar 0) (tCons (tCB (rLenA K) (tCons (tVar 1) tNil)) tNil)))) (gName 6))
  (tSeq (tAsg (tOp (rIxL K) (tVar 1) (tCl (sp__law_take K) (WE0 E) (tCons (tVar 0) (tCons (tCB (rLenA K) (tCons (tVar 1) tNil)) tNil)))) (gName 7))
  (tSeq (tIfS (tTest (tOp rEq (tVar 3) (tC (.int 1)))) (sDPut (tVar 5) (tVar 6) (tVar 4)) tNext)
  (tSeq (tIfS (tOr (tTest (tOp rEq (tVar 3) (tC (.int 2)))) (tTest (tOp rEq (tVar 3) (tC (.int 6))))) (sDPut (tVar 5) (tVar 6) (tVar 7)) tNext)
  (tSeq (tIfS (tTest (tOp rEq (tVar 3) (tC (.int 6)))) (sDPut (tVar 5) (tVar 7) (tVar 6)) tNext)
  (tIfS (tAnd (tTest (tOp rEq (tVar 3) (tC (.int 3)))) (tB (tDIn (tVar 6) (tVar 5)))) (tDrop (tDPop1 (tVar 5) (tVar 6))) tNext)))))) tNext)
  (tSeq (tIfS (tTest (tOp rEq (tVar 3) (tC (.int 4)))) (sDPut (tVar 5) (tCl (sp__law_name K) (WE0 E) (tCons (tVar 0) (tCons (tVar 1) tNil))) (tC .non)) tNext)
  (tRet (tVar 5))))))))
def sp__law_spoilt (K : PySem.W.Frag) : Sp := fun vs H Q E => ∃ (p n x : Addr) (a b : Int) (xs : List Str) (kx : List (Key × V)) (ds : List (Key × D)) (m : Nat) (B : Hp), vs = [.ref p, .ref n, .ref x] ∧ Same B H ∧ B p = none ∧ H p = some (stO a b) ∧ VSt a b ∧ B n = some (.lst (xs.map V.str)) ∧ xs.length ≤ 25 ∧ (∀ x ∈ xs, okName x = true) ∧ B x = some (.dK kx) ∧ RepK K B kx ds ∧ StrK ds m ∧ PlainK ds ∧ 2 ≤ m ∧ m ≤ 1000 ∧
  ∀ B' H' a' b' v d, HS [p] B H B' H' [(p, stO a' b')] → VSt a' b' → Rep K B' v d → MayDeal (m + 4) d → Q v H'
/-! ### the same with its keys turned around -/
def turnV (kvs : List (Key × V)) (rs : List Str) : List (Key × V) := rs.map fun p => (.inr p, (valV kvs (.inr p)).getD .non)
def turnD (d : D) (rs : List Str) : List (Key × D) := rs.map fun p => (.inr p, vald d p)
theorem turnV_none {kvs : List (Key × V)} {rs : List Str} {x : Str} (h : x ∉ rs) : valV (turnV kvs rs) (.inr x) = none := valV_none_keys (by
  unfold turnV
  rw [List.map_map]
  intro z
  obtain ⟨y, hy, e⟩ := List.mem_map.mp z
  exact h (by rw [← Sum.inr.inj e]; exact hy))
abbrev N__law_turnedO : List Str := ["_law_x", "_law_turned_here", "_law_a"]
def t__law_turnedO (K : PySem.W.Frag) (E : XK) : TS := (tSeq (tAsg tDNewK (gName 1))
  (tSeq (tFor (iRev K (tCons (tCB (rSortL K) (tCons (tCB rListD (tCons (tVar 0) tNil)) tNil)) tNil)) (gName 2) (sDPut (tVar 1) (tVar 2) (tDGet (tVar 0) (tVar 2))))
  (tRet (tVar 1))))
def sp__law_turnedO (K : PySem.W.Frag) : Sp := fun vs H Q E => ∃ (d : Addr) (kvs : List (Key × V)) (ks : List Str) (B : Hp), vs = [.ref d] ∧ Same B H ∧ B d = some (.dK kvs) ∧ kvs.map (·.1) = ks.map Sum.inr ∧ ks.Nodup ∧ ks.length < 64 ∧
  ∀ B' H' T rs, HS [] B H B' H' [(T, .dK (turnV kvs rs))] → rs.Perm ks → Q (.ref T) H'
theorem pure__law_turnedO {K : PySem.W.Frag} {vs : List V} {H : Hp} {Q : VK} {E : XK} (h : sp__law_turnedO K vs H Q E) : t__law_turnedO K E { nx := fun _ H' => Q .non H', rt := Q } (start N__law_turnedO vs) H := by
  obtain ⟨d, kvs, ks, B, rfl, sB, bd, hk, nd, hl, k⟩ := h
  have hs := HS.start sB
  show t__law_turnedO K E _ [some (.ref d), none, none] H
  unfold t__law_turnedO
  ((with_reducible refine x_seq ?_); (with_reducible refine x_asg ?_); (with_reducible refine x_dnew ?_))
  refine new_M hs (fun T H1 hs1 _ => ?_)
  (((with_reducible refine x_gname ?_); try simp only [List.set_cons_zero, List.set_cons_succ]); (with_reducible refine x_seq ?_); (with_reducible refine x_for ?_))
  refine x_iRev ?_
  ((with_reducible refine x_cons ?_); (with_reducible refine x_cb ?_); (with_reducible refine x_cons ?_); (with_reducible refine x_cb ?_); (with_reducible refine x_cons ?_); ((with_reducible refine' x_var ?z164h ?_); case z164h => rfl); (with_reducible refine x_nil ?_))
  refine x_listD (hs1.up bd) ?_
  have hkk : (kvs.map fun kv => kV kv.1) = ks.map V.str := by
    have h2 := congrArg (List.map kV) hk
    rw [List.map_map, List.map_map] at h2
    exact h2
  rw [hkk]
  refine new_F hs1 (fun l B2 H2 hs2 sb2 el _ => ?_)
  ((with_reducible refine x_nil ?_); ((with_reducible refine' x_srtL ?z167h ?z167h2 ?_); (case z167h => walk_at "sl"); (case z167h2 => omega)))
  have pe : (sortS ks).Perm ks := sortS_perm ks
  generalize sortS ks = ys at pe ⊢
  refine new_F hs2 (fun l2 B3 H3 hs3 sb3 el2 _ => ?_)
  (with_reducible refine x_nil ?_)
  have bd3 := sb3 _ _ (sb2 _ _ bd)
  have ndy : ys.Nodup := pe.nodup_iff.mpr nd
  refine ⟨l2, _, rfl, SqL.of (hs3.up el2), ?_⟩
  refine l_rev (α := Nat × Option V) (σf := fun s => [some (.ref d), some (.ref T), s.2]) (Mf := fun s => [(T, .dK (turnV kvs (ys.reverse.take s.1)))]) (P := fun i s _ => s.1 = i) (s0 := (0, none)) hs3 el2 rfl (fun i x s B4 H4 hx sb4 hs4 pp => ?_) (fun s B4 H4 sb4 hs4 pp => ?_)
  · obtain ⟨i', s2⟩ := s
    dsimp only at pp hs4 ⊢
    subst pp
    rw [map_strs_rev] at hx
    obtain ⟨b, hb, rfl⟩ := strs_get hx
    have mb : b ∈ ks := pe.mem_iff.mp (List.mem_reverse.mp (List.mem_of_getElem? hb))
    have hil : i' < ys.reverse.length := (List.getElem?_eq_some_iff.mp hb).1
    have hyl := pe.length_eq
    rw [List.length_reverse] at hil
    obtain ⟨vb, evb⟩ : ∃ vb, valV kvs (.inr b) = some vb := by
      cases e : valV kvs (.inr b) with
      | some v => exact ⟨v, rfl⟩
      | none =>
        have h2 := valV_any (Sum.inr b : Key) kvs
        rw [e] at h2
        have : (Sum.inr b : Key) ∈ kvs.map (·.1) := by rw [hk]; exact List.mem_map.mpr ⟨b, mb, rfl⟩
        obtain ⟨q, mq, eq⟩ := List.mem_map.mp this
        exact absurd (List.any_eq_true.mpr ⟨q, mq, decide_eq_true eq⟩) (by rw [h2]; decide)
    (((with_reducible refine x_gname ?_); try simp only [List.set_cons_zero, List.set_cons_succ]); (with_reducible refine x_dputU ?_); (with_reducible refine x_dget ?_); ((with_reducible refine' x_var ?z172h ?_); case z172h => rfl); ((with_reducible refine' x_var ?z173h ?_); case z173h => rfl); ((with_reducible refine' x_dgS ?z174h ?z174h2 ?_); (case z174h => walk_at "hf"); (case z174h2 => assumption)); ((with_reducible refine' x_var ?z175h ?_); case z175h => rfl); ((with_reducible refine' x_var ?z176h ?_); case z176h => rfl))
    try (refine x_dgS (hs4.up (sb4 _ _ bd3)) evb ?_; fail)
    refine x_dput hs4 (by unfold turnV; rw [List.length_map, List.length_take]; omega) (fun H5 hs5 => ?_)
    refine ⟨(i' + 1, some _), B4, rfl, sb4, ?_, rfl⟩
    dsimp only
    rw [putK_new (turnV_none (notin_take ((List.reverse_perm ys).nodup_iff.mpr ndy) hb))] at hs5
    rw [take_snoc hb]
    unfold turnV
    rw [List.map_append]
    show HS [] B H B4 H5 [(T, .dK (turnV kvs (ys.reverse.take i') ++ [(.inr b, (valV kvs (.inr b)).getD .non)]))]
    rw [evb]
    exact hs5
  · obtain ⟨i', s2⟩ := s
    dsimp only at pp hs4 ⊢
    subst pp
    ((with_reducible refine x_ret ?_); ((with_reducible refine' x_var ?z178h ?_); case z178h => rfl))
    have e : ys.reverse.take (ys.map V.str).length = ys.reverse := List.take_of_length_le (by simp)
    rw [e] at hs4
    exact k B4 H4 T ys.reverse (hs.callN hs4) ((List.reverse_perm ys).trans pe)
/-- what is turned around shows the same -/
structure Alike (d e : D) : Prop where
  va : ∀ p, vald d p = vald e p
  sk : ∀ xs, sameKeys d xs = sameKeys e xs
end Q

set_option Elab.async false
set_option linter.all false
set_option maxRecDepth 100000
set_option maxHeartbeats 4000000
namespace Q
open PySem PySem.Spec PyProof.Rows L2
/-! ### more of dealings -/
theorem SclK.plain {K : PySem.W.Frag} {kvs : List (Key × V)} {ds : List (Key × D)} (h : SclK K kvs ds) : PlainK ds := by
  have : ∀ {kvs : List (Key × V)} {ds : List (Key × D)}, RepK K (fun _ => none) kvs ds → PlainK ds := by
    intro kvs
    induction kvs with
    | nil => intro ds r; cases r; exact fun q m => nomatch m
    | cons q r ih =>
      intro ds rr
      cases rr with
      | cons h1 h2 =>
        intro q m
        rcases List.mem_cons.mp m with rfl | m
        · cases h1 with
          | obj e _ => cases e
          | lst e _ _ => cases e
          | tup e _ => cases e
          | dct e _ => cases e
          | _ => rfl
        · exact ih h2 q m
  exact this (h _)
/-- two values that are not told apart by != -/
def NeNo (B : Hp) (u v : V) : Prop := u = v ∨ ∃ a c ks ls, u = .ref a ∧ v = .ref c ∧ B a = some (.dK ks) ∧ B c = some (.dK ls) ∧ ks.length = ls.length ∧ ∀ p ∈ ks, valV ls p.1 = some p.2 ∧ (flatV p.2 = true ∨ ∃ b, p.2 = .ref b)
theorem NeNo.mono {B B' : Hp} {u v : V} (s : Same B B') (h : NeNo B u v) : NeNo B' u v := h.imp id fun ⟨a, c, ks, ls, e1, e2, e3, e4, r⟩ => ⟨a, c, ks, ls, e1, e2, s _ _ e3, s _ _ e4, r⟩
theorem NeNo.ne {K : PySem.W.Frag} {S : List Addr} {B0 H0 B H : Hp} {M : List (Addr × HO)} {Q : VK} {u v : V} {d : D} (h : NeNo B u v) (hs : HS S B0 H0 B H M) (r : Rep K B v d) (hp : d.plain = true) (q : Q (.bl false) H) : rNeW K u v H Q := by
  rcases h with rfl | ⟨a, c, ks, ls, rfl, rfl, e1, e2, hl, hh⟩
  · exact .inl (neU_self hs r hp q)
  · exact .inr (.inr ⟨⟨a, c, ks, ls, rfl, rfl, hs.up e1, hs.up e2, hl, hh⟩, q⟩)
theorem NeNo.copy {K : PySem.W.Frag} {B : Hp} {a c : Addr} {kvs : List (Key × V)} {ds : List (Key × D)} {m : Nat} (ea : B a = some (.dK kvs)) (ec : B c = some (.dK kvs)) (rk : RepK K B kvs ds) (sk : StrK ds m) : NeNo B (.ref a) (.ref c) :=
  .inr ⟨a, c, kvs, kvs, rfl, rfl, ea, ec, rfl, fun p mp => ⟨valV_of_mem (by rw [rk.keysE]; exact sk.nd) mp, rk.flat p mp⟩⟩
theorem Alike.refl (d : D) : Alike d d := ⟨fun _ => rfl, fun _ => rfl⟩
end Q

set_option Elab.async false
set_option linter.all false
set_option maxRecDepth 100000
set_option maxHeartbeats 4000000
namespace Q
open PySem PySem.Spec PyProof.Rows L2
/-! ### sorted of tuples of tuples of texts -/
def lexTT : List (List Str) → List (List Str) → Bool
  | [], [] => false
  | [], _ :: _ => true
  | _ :: _, [] => false
  | x :: xs, y :: ys => if x = y then lexTT xs ys else lexT x y
def leTT (a b : List (List Str)) : Bool := !lexTT b a
def sortTT (l : List (List (List Str))) : List (List (List Str)) := l.mergeSort leTT
inductive IsTxs (h : Heap) : List Value → List (List Str) → Prop
  | nil : IsTxs h [] []
  | cons {u : Value} {us : List Value} {k : List Str} {ks : List (List Str)} : IsTx h u k → IsTxs h us ks → IsTxs h (u :: us) (k :: ks)
theorem IsTxs.length {h : Heap} : ∀ {us : List Value} {ks : List (List Str)}, IsTxs h us ks → us.length = ks.length
  | _, _, .nil => rfl
  | _, _, .cons _ r => by simp [IsTxs.length r]
theorem IsTxs.keeps {h h' : Heap} (k : ∀ b o, h.get? b = some o → o.cls = .type "tuple" → h'.get? b = some o) : ∀ {us : List Value} {ks : List (List Str)}, IsTxs h us ks → IsTxs h' us ks
  | _, _, .nil => .nil
  | _, _, .cons p r => .cons (p.keeps k) (IsTxs.keeps k r)
def IsTT (h : Heap) (v : Value) (ks : List (List Str)) : Prop := ∃ a o n us, v = .ref a ∧ h.get? a = some o ∧ o.cls = .type "tuple" ∧ o.data = .seq (List.toArray us) n ∧ IsTxs h us ks
theorem IsTT.keeps {h h' : Heap} {v : Value} {ks : List (List Str)} (p : IsTT h v ks) (k : ∀ b o, h.get? b = some o → o.cls = .type "tuple" → h'.get? b = some o) : IsTT h' v ks := by
  obtain ⟨a, o, n, us, e, ho, hc, hd, r⟩ := p
  exact ⟨a, o, n, us, e, k _ _ ho hc, hc, hd, r.keeps k⟩
section
variable {prog : Program} {w : World} {A : Around} {E : Value → Shared → Prop} {s : Shared}
end
/-- texts in tuples, in tuples -/
inductive TxS (H : Hp) : List V → List (List Str) → Prop
  | nil : TxS H [] []
  | cons {t : Addr} {k : List Str} {vs : List V} {ks : List (List Str)} : H t = some (.tup (k.map V.str)) → TxS H vs ks → TxS H (.ref t :: vs) (k :: ks)
def rSortX (K : PySem.W.Frag) : List V → Hp → VK → Prop := fun vs H Q => ∃ (a : Addr) (xs : List V) (k : V → List (List Str)), vs = [V.ref a] ∧ SqL K H a xs ∧ (∀ x ∈ xs, ∃ t us, x = V.ref t ∧ H t = some (.tup us) ∧ TxS H us (k x)) ∧ (2 ≤ xs.length → ∀ x ∈ xs, k x ≠ []) ∧
  ∀ ys p, ys.Perm xs → ys.map k = sortTT (xs.map k) → H p = none → Q (.ref p) (upd H p (.lst ys))
end Q

set_option Elab.async false
set_option linter.all false
set_option maxRecDepth 100000
set_option maxHeartbeats 4000000
namespace Q
open PySem PySem.Spec PyProof.Rows L2
/-! ### all calm dealings, found person by person (plain) -/
abbrev PM := Str → Option (Option Str)
def setP (m : PM) (a : Str) : Option Str → PM
  | none => fun c => if c = a then some none else m c
  | some b => fun c => if c = b then some (some a) else if c = a then some (some b) else m c
def waitL (xs : List Str) (m : PM) : List Str := (sortS xs).filter fun a => (m a).isNone
def freeP (m : PM) : Option Str → Bool
  | none => true
  | some b => (m b).isNone
/-- the choices of a person -/
def choP (op : Str → List Str) (a : Str) : List (Option Str) := none :: (op a).map some
def growG (xs : List Str) (op : Str → List Str) (tst : PM → Str → Option Str → Bool) : Nat → PM → List PM
  | 0, _ => []
  | n + 1, m => match waitL xs m with
    | [] => [m]
    | a :: _ => (choP op a).flatMap fun b => if (freeP m b && tst (setP m a b) a b) = true then growG xs op tst n (setP m a b) else []
def leaves (xs : List Str) (op : Str → List Str) : Nat → PM → List PM := growG xs op fun _ _ _ => true
def qP (op : Str → List Str) (m : PM) (a b : Str) : Bool := match m a, m b with
  | some va, some vb => !decide (va = some b) && (ratherO (op a) b va && ratherO (op b) a vb)
  | _, _ => false
def clashP (op : Str → List Str) (m : PM) (a : Str) : Bool := (op a).any fun c => qP op m a c
def calmM (xs : List Str) (op : Str → List Str) (m : PM) : Bool := xs.all fun a => (op a).all fun b => !qP op m a b
structure PMOk (xs : List Str) (op : Str → List Str) (m : PM) : Prop where
  dom : ∀ a v, m a = some v → a ∈ xs
  mu2 : ∀ a b, m a = some (some b) → b ∈ op a ∧ m b = some (some a)
theorem calmM_true {xs : List Str} {op : Str → List Str} {m : PM} : calmM xs op m = true ↔ ∀ a ∈ xs, ∀ b ∈ op a, qP op m a b = false := by
  unfold calmM
  rw [List.all_eq_true]
  refine ⟨fun h a ma b mb => ?_, fun h a ma => List.all_eq_true.mpr fun b mb => by rw [h a ma b mb]; rfl⟩
  have := List.all_eq_true.mp (h a ma) b mb
  simpa using this
theorem mem_wait {xs : List Str} {m : PM} {a : Str} : a ∈ waitL xs m ↔ a ∈ xs ∧ m a = none := by
  unfold waitL
  rw [List.mem_filter, mem_sortS, Option.isNone_iff_eq_none]
/-- a choice that may be made -/
def Can (op : Str → List Str) (m : PM) (a : Str) (b : Option Str) : Prop := m a = none ∧ ∀ b', b = some b' → b' ∈ op a ∧ m b' = none
theorem can_of {xs : List Str} {op : Str → List Str} {m : PM} {a : Str} {r : List Str} {b : Option Str} (hw : waitL xs m = a :: r) (mb : b ∈ choP op a) (hf : freeP m b = true) : Can op m a b := by
  have ha : a ∈ waitL xs m := by rw [hw]; exact List.mem_cons_self
  refine ⟨(mem_wait.mp ha).2, fun b' e => ?_⟩
  subst e
  unfold choP at mb
  rcases List.mem_cons.mp mb with z | z
  · cases z
  · obtain ⟨c, mc, e⟩ := List.mem_map.mp z
    cases e
    exact ⟨mc, Option.isNone_iff_eq_none.mp hf⟩
theorem setP_self {m : PM} {a : Str} {b : Option Str} (h : b ≠ some a) : setP m a b a = some b := by
  cases b with
  | none => unfold setP; exact if_pos rfl
  | some c =>
    unfold setP
    dsimp only
    rw [if_neg fun z => h (by rw [z]), if_pos rfl]
theorem setP_other {m : PM} {a b : Str} : setP m a (some b) b = some (some a) := by unfold setP; exact if_pos rfl
theorem setP_old {op : Str → List Str} {m : PM} {a c : Str} {b v : Option Str} (h : Can op m a b) (hc : m c = some v) : setP m a b c = some v := by
  have ha : c ≠ a := fun z => by rw [z, h.1] at hc; cases hc
  cases b with
  | none => unfold setP; dsimp only; rw [if_neg ha]; exact hc
  | some b' =>
    have hb : c ≠ b' := fun z => by rw [z, (h.2 b' rfl).2] at hc; cases hc
    unfold setP
    dsimp only
    rw [if_neg hb, if_neg ha]
    exact hc
theorem setP_cases {m : PM} {a c : Str} {b v : Option Str} (h : setP m a b c = some v) : (c = a ∧ v = b) ∨ (b = some c ∧ v = some a) ∨ m c = some v := by
  cases b with
  | none =>
    unfold setP at h
    dsimp only at h
    by_cases e : c = a
    · rw [if_pos e] at h; exact .inl ⟨e, by cases h; rfl⟩
    · rw [if_neg e] at h; exact .inr (.inr h)
  | some b' =>
    unfold setP at h
    dsimp only at h
    by_cases e1 : c = b'
    · rw [if_pos e1] at h; exact .inr (.inl ⟨by rw [e1], by cases h; rfl⟩)
    · rw [if_neg e1] at h
      by_cases e : c = a
      · rw [if_pos e] at h; exact .inl ⟨e, by cases h; rfl⟩
      · rw [if_neg e] at h; exact .inr (.inr h)
theorem PMOk.set {xs : List Str} {op : Str → List Str} {m : PM} {a : Str} {b : Option Str} (h : PMOk xs op m) (mu : Mut xs op) (ma : a ∈ xs) (hc : Can op m a b) : PMOk xs op (setP m a b) := by
  refine ⟨fun c v e => ?_, fun c d e => ?_⟩
  · rcases setP_cases e with ⟨rfl, _⟩ | ⟨rfl, _⟩ | e
    · exact ma
    · exact (mu.fi a ma c (hc.2 c rfl).1).1
    · exact h.dom c v e
  · rcases setP_cases e with ⟨rfl, rfl⟩ | ⟨rfl, e2⟩ | e
    · exact ⟨(hc.2 d rfl).1, setP_other⟩
    · cases e2
      refine ⟨(mu.fi a ma c (hc.2 c rfl).1).2, setP_self fun z => ?_⟩
      have : c = a := Option.some.inj z
      subst this
      exact mu.fs c ma (hc.2 c rfl).1
    · obtain ⟨h1, h2⟩ := h.mu2 c d e
      exact ⟨h1, setP_old hc h2⟩
/-- how the program looks for clashes -/
def tstP (op : Str → List Str) (m : PM) (a : Str) : Option Str → Bool
  | none => !clashP op m a
  | some b => !clashP op m a && !clashP op m b
theorem qP_symm {xs : List Str} {op : Str → List Str} {m : PM} (ok : PMOk xs op m) {a b : Str} (h : qP op m a b = true) : qP op m b a = true := by
  unfold qP at h ⊢
  cases e1 : m a with
  | none => rw [e1] at h; cases h
  | some va =>
    cases e2 : m b with
    | none => rw [e1, e2] at h; cases h
    | some vb =>
      rw [e1, e2] at h
      dsimp only at h ⊢
      obtain ⟨h1, h2⟩ := Bool.and_eq_true_iff.mp h
      obtain ⟨h2, h3⟩ := Bool.and_eq_true_iff.mp h2
      have : vb ≠ some a := fun z => by
        subst z
        have := (ok.mu2 b a e2).2
        rw [e1] at this
        cases this
        simp at h1
      rw [h2, h3, decide_eq_false this]
      rfl
/-- all calm ones, in the order in which they are found -/
def calms (xs : List Str) (op : Str → List Str) : List PM := (leaves xs op 18 fun _ => none).filter (calmM xs op)
theorem PMOk.nil {xs : List Str} {op : Str → List Str} : PMOk xs op fun _ => none := ⟨fun _ _ e => (nomatch e), fun _ _ e => (nomatch e)⟩
/-! ### how many -/
def invN : Nat → Nat
  | 0 => 1
  | 1 => 1
  | n + 2 => invN (n + 1) + (n + 1) * invN n
/-! ### what is found -/
/-- everybody has a partner or is alone -/
def FullP (xs : List Str) (m : PM) : Prop := ∀ a ∈ xs, ∃ v, m a = some v
theorem leaves_ok {xs : List Str} {op : Str → List Str} {tst : PM → Str → Option Str → Bool} (mu : Mut xs op) : ∀ {n : Nat} {m l : PM}, PMOk xs op m → l ∈ growG xs op tst n m → PMOk xs op l ∧ FullP xs l
  | 0, _, _, _, h => by cases h
  | n + 1, m, l, ok, h => by
    unfold growG at h
    split at h
    · rename_i hw
      rw [List.mem_singleton.mp h]
      refine ⟨ok, fun a ma => ?_⟩
      cases e : m a with
      | some v => exact ⟨v, rfl⟩
      | none =>
        have : a ∈ waitL xs m := mem_wait.mpr ⟨ma, e⟩
        rw [hw] at this
        cases this
    · rename_i a r hw
      obtain ⟨b, mb, h⟩ := List.mem_flatMap.mp h
      split at h
      · rename_i ht
        obtain ⟨hf, _⟩ := Bool.and_eq_true_iff.mp ht
        have ma : a ∈ xs := (mem_wait.mp (by rw [hw]; exact List.mem_cons_self)).1
        exact leaves_ok mu (ok.set mu ma (can_of hw mb hf)) h
      · cases h
theorem calms_mem {xs : List Str} {op : Str → List Str} (mu : Mut xs op) {m : PM} (h : m ∈ calms xs op) : PMOk xs op m ∧ FullP xs m ∧ calmM xs op m = true := by
  obtain ⟨h1, h2⟩ := List.mem_filter.mp h
  obtain ⟨h3, h4⟩ := leaves_ok mu PMOk.nil h1
  exact ⟨h3, h4, h2⟩
end Q

set_option Elab.async false
set_option linter.all false
set_option maxRecDepth 100000
set_option maxHeartbeats 4000000
namespace Q
open PySem PySem.Spec PyProof.Rows L2
local macro_rules | `(tactic| walk_at "bf") => `(tactic| first | assumption | (refine' bstep (by assumption) ?r; case r => walk_at "bf") | fail)
local macro_rules | `(tactic| walk_at "rp") => `(tactic| first | assumption | exact Rep.int _ | exact Rep.bl _ | exact Rep.non | (refine' Rep.mono (by assumption) ?r; case r => walk_at "rp") | fail)
local macro_rules | `(tactic| walk_at "hf") => `(tactic| first | assumption | exact HS.up (by assumption) (by walk_at "bf") | exact HS.get (by assumption) List.mem_cons_self | exact HS.get (by assumption) (List.mem_cons_of_mem _ List.mem_cons_self) | exact HS.get (by assumption) (List.mem_cons_of_mem _ (List.mem_cons_of_mem _ List.mem_cons_self)) | exact HS.get (by assumption) (List.mem_cons_of_mem _ (List.mem_cons_of_mem _ (List.mem_cons_of_mem _ List.mem_cons_self))) | fail)
local macro_rules | `(tactic| walk_at "sl") => `(tactic| first | assumption | exact SqL.of (by walk_at "hf") | fail)
local macro_rules | `(tactic| walk_at "st") => `(tactic| first | assumption | exact SqT.of (by walk_at "hf") | fail)
local macro_rules | `(tactic| walk_at "sz") => `(tactic| first | assumption | (refine small_le ?_; first | assumption | omega | (simp; done) | (simp; omega)) | fail)
/-! ### the program's search for calm dealings -/
abbrev N_Group___len__ : List Str := ["self"]
def t_Group___len__ (K : PySem.W.Frag) (E : XK) : TS := (tRet (tCB (rLenA K) (tCons (tFld K (tVar 0) "names") tNil)))
def sp_Group___len__ (K : PySem.W.Frag) : Sp := fun vs H Q E => ∃ (p : Addr) (B : Hp) (G : Grp), vs = [.ref p] ∧ Same B H ∧ GAt K B p G ∧ Ret B H Q fun _ r => r = .int (G.names.length : Nat)
abbrev N_check_size : List Str := ["group", "most"]
def t_check_size (K : PySem.W.Frag) (E : XK) : TS := (tIfS (tTest (tOp rGtI (tCB (rLenO (He.ga K "Group") (sp_Group___len__ K)) (tCons (tVar 0) tNil)) (tVar 1))) (tRz1 (He.ga K "TooMany") "most" (tVar 1) (WE0 E)) tNext)
def sp_check_size (K : PySem.W.Frag) : Sp := fun vs H Q E => ∃ (p : Addr) (i : Int) (B : Hp) (G : Grp), vs = [.ref p, .int i] ∧ Same B H ∧ GAt K B p G ∧ ((G.names.length : Int) ≤ i → Ret B H Q fun _ r => r = .non) ∧ (i < (G.names.length : Int) → Thr K B H E "TooMany" [("most", .int i)])
/-! ### written as pairs -/
def wrG (f : Str → Option Str) (a : Str) : Option (List Str) := match f a with
  | some b => if decide (a.cps.toList < b.cps.toList) = true then some [a, b] else none
  | none => none
def wrF (ks : List Str) (f : Str → Option Str) : List (List Str) := (sortS ks).filterMap (wrG f)
def SclD (ds : List (Key × D)) : Prop := ∀ a d, dval ds (.inr a) = some d → d = .non ∨ ∃ b, d = .str b
abbrev N_written : List Str := ["x", "a"]
def t_written (K : PySem.W.Frag) (E : XK) : TS := (tRet (tCB (rTupOf K) (tCons (tLc (iList K (tCB rSortD (tCons (tVar 0) tNil))) (gName 1) (tAnd (tB (tNotN (tDGet (tVar 0) (tVar 1)))) (tTest (tOp rLtS (tVar 1) (tDGet (tVar 0) (tVar 1))))) (tTup (tCons (tVar 1) (tCons (tDGet (tVar 0) (tVar 1)) tNil))) [1]) tNil)))
def sp_written (K : PySem.W.Frag) : Sp := fun vs H Q E => ∃ (x : Addr) (B : Hp) (kx : List (Key × V)) (ds : List (Key × D)) (ks : List Str), vs = [.ref x] ∧ Same B H ∧ B x = some (.dK kx) ∧ RepK K B kx ds ∧ SclD ds ∧ ds.map (·.1) = ks.map Sum.inr ∧ ks.length < 64 ∧
  ∀ B' H' t us, HS [] B H B' H' [] → B' t = some (.tup us) → TRs B' us (wrF ks (part (.dct ds))) → Q (.ref t) H'
/-! ### what is chosen so far, as a dict -/
def optD : Option Str → D
  | none => .non
  | some b => .str b
def RepM (ds : List (Key × D)) (m : PM) : Prop := ∀ a, dval ds (.inr a) = (m a).map optD
theorem RepM.part {ds : List (Key × D)} {m : PM} (h : RepM ds m) {a : Str} {v : Option Str} (e : m a = some v) : part (.dct ds) a = v := by
  have : dval ds (.inr a) = some (optD v) := by rw [h a, e]; rfl
  unfold Q.part
  rw [vald_of this]
  cases v <;> rfl
theorem RepM.scl {ds : List (Key × D)} {m : PM} (h : RepM ds m) : SclD ds := fun a d e => by
  rw [h a] at e
  cases e2 : m a with
  | none => rw [e2] at e; cases e
  | some v =>
    rw [e2] at e
    cases v with
    | none => cases e; exact .inl rfl
    | some b => cases e; exact .inr ⟨b, rfl⟩
theorem RepM.hasK {ds : List (Key × D)} {m : PM} (h : RepM ds m) (a : Str) : (dval ds (.inr a)).isSome = (m a).isSome := by rw [h a]; cases m a <;> rfl
theorem RepM.one {ds : List (Key × D)} {m : PM} (h : RepM ds m) {a : Str} : RepM (putD ds (.inr a) .non) (setP m a none) := fun c => by
  rw [dval_put]
  unfold setP
  dsimp only
  by_cases e : c = a
  · rw [if_pos (by rw [e]), if_pos e]; rfl
  · rw [if_neg fun z => e (Sum.inr.inj z), if_neg e]; exact h c
theorem RepM.two {ds : List (Key × D)} {m : PM} (h : RepM ds m) {a b : Str} : RepM (putD (putD ds (.inr a) (.str b)) (.inr b) (.str a)) (setP m a (some b)) := fun c => by
  rw [dval_put, dval_put]
  unfold setP
  dsimp only
  by_cases e1 : c = b
  · rw [if_pos (by rw [e1]), if_pos e1]; rfl
  · rw [if_neg fun z => e1 (Sum.inr.inj z), if_neg e1]
    by_cases e : c = a
    · rw [if_pos (by rw [e]), if_pos e]; rfl
    · rw [if_neg fun z => e (Sum.inr.inj z), if_neg e]; exact h c
/-- a dict of what is chosen -/
structure DictM (K : PySem.W.Frag) (kx : List (Key × V)) (ds : List (Key × D)) (m : PM) : Prop where
  scl : SclK K kx ds
  rep : RepM ds m
  st : StrK ds 16
theorem DictM.len {K : PySem.W.Frag} {kx : List (Key × V)} {ds : List (Key × D)} {m : PM} (h : DictM K kx ds m) : kx.length ≤ 16 := by
  have := (h.scl (fun _ => none)).length
  have := h.st.le
  omega
theorem DictM.get {K : PySem.W.Frag} {kx : List (Key × V)} {ds : List (Key × D)} {m : PM} (h : DictM K kx ds m) {a : Str} {v : Option Str} (e : m a = some v) : valV kx (.inr a) = some (optV v) := by
  have hd : dval ds (.inr a) = some (optD v) := by rw [h.rep a, e]; rfl
  obtain ⟨u, eu, ru⟩ := vald_get (h.scl (fun _ => none)) (p := a) (by rw [hd]; rfl)
  rw [vald_of hd] at ru
  rw [eu]
  cases v <;> (cases ru; rfl)
theorem DictM.has {K : PySem.W.Frag} {kx : List (Key × V)} {ds : List (Key × D)} {m : PM} (h : DictM K kx ds m) (a : Str) : (valV kx (.inr a)).isSome = (m a).isSome := by
  rw [repK_some (h.scl (fun _ => none)), h.rep.hasK]
theorem DictM.nil {K : PySem.W.Frag} : DictM K [] [] fun _ => none := ⟨fun _ => .nil, fun _ => rfl, StrK.nil.up (by omega)⟩
theorem DictM.put {K : PySem.W.Frag} {xs : List Str} {op : Str → List Str} {kx : List (Key × V)} {ds : List (Key × D)} {m : PM} (h : DictM K kx ds m) (mu : Mut xs op) (ok : PMOk xs op m) {a : Str} {b : Option Str} (ma : a ∈ xs) (can : Can op m a b) :
    (b = none → DictM K (putK kx (.inr a) .non) (putD ds (.inr a) .non) (setP m a b)) ∧ ∀ b', b = some b' → DictM K (putK (putK kx (.inr a) (.str b')) (.inr b') (.str a)) (putD (putD ds (.inr a) (.str b')) (.inr b') (.str a)) (setP m a b) := by
  have ok2 := ok.set mu ma can
  have al := okName_len (mu.nm a ma)
  refine ⟨fun e => ?_, fun b' e => ?_⟩
  · subst e
    have r := h.rep.one (a := a)
    exact ⟨fun B => (h.scl B).putD .non, r, strK_of h.st.put (fun c d e => by
      rw [r c] at e
      cases e2 : setP m a none c with
      | none => rw [e2] at e; cases e
      | some v => exact ok2.dom c v e2) mu.few⟩
  · subst e
    have bl := okName_len (mu.nm b' (mu.fi a ma b' (can.2 b' rfl).1).1)
    have r := h.rep.two (a := a) (b := b')
    exact ⟨fun B => ((h.scl B).putD (.str bl)).putD (.str al), r, strK_of h.st.put.put (fun c d e => by
      rw [r c] at e
      cases e2 : setP m a (some b') c with
      | none => rw [e2] at e; cases e
      | some v => exact ok2.dom c v e2) mu.few⟩
abbrev N_clashes : List Str := ["group", "x", "a", "c"]
def t_clashes (K : PySem.W.Frag) (E : XK) : TS := (tSeq (tFor (iList K (tMt (He.ga K "Group") "open_to" (sp_Group_open_to K) (WE0 E) (tVar 0) (tCons (tVar 2) tNil))) (gName 3) (tIfS (tAnd (tB (tDIn (tVar 3) (tVar 1))) (tAnd (tTest (tOp rNe (tDGet (tVar 1) (tVar 2)) (tVar 3))) (tAnd (tB (tCl (sp_would_rather K) (WE0 E) (tCons (tVar 0) (tCons (tVar 1) (tCons (tVar 2) (tCons (tVar 3) tNil)))))) (tB (tCl (sp_would_rather K) (WE0 E) (tCons (tVar 0) (tCons (tVar 1) (tCons (tVar 3) (tCons (tVar 2) tNil))))))))) (tRet (tC (.bl true))) tNext))
  (tRet (tC (.bl false))))
def sp_clashes (K : PySem.W.Frag) : Sp := fun vs H Q E => ∃ (p x : Addr) (a : Str) (B : Hp) (G : Grp) (kx : List (Key × V)) (ds : List (Key × D)) (m : PM), vs = [.ref p, .ref x, .str a] ∧ Same B H ∧ GAt K B p G ∧ B x = some (.dK kx) ∧ DictM K kx ds m ∧ PMOk G.names G.open m ∧ (m a).isSome = true ∧ Ret B H Q fun _ r => r = .bl (clashP G.open m a)
end Q

set_option Elab.async false
set_option linter.all false
set_option maxRecDepth 100000
set_option maxHeartbeats 4000000
namespace Q
open PySem PySem.Spec PyProof.Rows L2
local macro_rules | `(tactic| walk_at "bf") => `(tactic| first | assumption | (refine' bstep (by assumption) ?r; case r => walk_at "bf") | fail)
local macro_rules | `(tactic| walk_at "rp") => `(tactic| first | assumption | exact Rep.int _ | exact Rep.bl _ | exact Rep.non | (refine' Rep.mono (by assumption) ?r; case r => walk_at "rp") | fail)
local macro_rules | `(tactic| walk_at "hf") => `(tactic| first | assumption | exact HS.up (by assumption) (by walk_at "bf") | exact HS.get (by assumption) List.mem_cons_self | exact HS.get (by assumption) (List.mem_cons_of_mem _ List.mem_cons_self) | exact HS.get (by assumption) (List.mem_cons_of_mem _ (List.mem_cons_of_mem _ List.mem_cons_self)) | exact HS.get (by assumption) (List.mem_cons_of_mem _ (List.mem_cons_of_mem _ (List.mem_cons_of_mem _ List.mem_cons_self))) | fail)
local macro_rules | `(tactic| walk_at "sl") => `(tactic| first | assumption | exact SqL.of (by walk_at "hf") | fail)
local macro_rules | `(tactic| walk_at "st") => `(tactic| first | assumption | exact SqT.of (by walk_at "hf") | fail)
local macro_rules | `(tactic| walk_at "sz") => `(tactic| first | assumption | (refine small_le ?_; first | assumption | omega | (simp; done) | (simp; omega)) | fail)
/-! ### grow, calm -/
def wrM (xs : List Str) (m : PM) : List (List Str) := wrF xs fun a => (m a).join
/-- rows of dealings written as pairs -/
inductive WRs (B : Hp) : List V → List (List (List Str)) → Prop
  | nil : WRs B [] []
  | cons {t : Addr} {us vs : List V} {k : List (List Str)} {ks : List (List (List Str))} : B t = some (.tup us) → TRs B us k → WRs B vs ks → WRs B (.ref t :: vs) (k :: ks)
theorem WRs.mono {B B' : Hp} (s : Same B B') : ∀ {vs : List V} {ks : List (List (List Str))}, WRs B vs ks → WRs B' vs ks
  | _, _, .nil => .nil
  | _, _, .cons h t r => .cons (s _ _ h) (t.mono s) (WRs.mono s r)
theorem WRs.append {B : Hp} : ∀ {vs us : List V} {ks ls : List (List (List Str))}, WRs B vs ks → WRs B us ls → WRs B (vs ++ us) (ks ++ ls)
  | _, _, _, _, .nil, q => q
  | _, _, _, _, .cons h t r, q => .cons h t (WRs.append r q)
theorem WRs.len {B : Hp} : ∀ {vs : List V} {ks : List (List (List Str))}, WRs B vs ks → vs.length = ks.length
  | _, _, .nil => rfl
  | _, _, .cons _ _ r => by rw [List.length_cons, List.length_cons, WRs.len r]
theorem StrK.perm {ds : List (Key × D)} {m : Nat} {ks xs : List Str} (h : StrK ds m) (hk : ds.map (·.1) = ks.map Sum.inr) (nd : xs.Nodup) (h1 : ∀ a ∈ xs, (dval ds (.inr a)).isSome = true) (h2 : ∀ a d, dval ds (.inr a) = some d → a ∈ xs) : ks.Perm xs := by
  have ndk := h.nd
  rw [hk] at ndk
  have ndk : ks.Nodup := (List.pairwise_map.mp ndk).imp fun {a b} ne z => ne (by rw [z])
  refine (List.perm_ext_iff_of_nodup ndk nd).mpr fun a => ⟨fun m => ?_, fun m => ?_⟩
  · obtain ⟨d, hd⟩ := keys_of (ds := ds) (a := a) (by rw [hk]; exact List.mem_map.mpr ⟨a, m, rfl⟩)
    exact h2 a d hd
  · obtain ⟨d, hd⟩ := Option.isSome_iff_exists.mp (h1 a m)
    have : (Sum.inr a : Key) ∈ ds.map (·.1) := List.mem_map.mpr ⟨_, dval_mem' hd, rfl⟩
    rw [hk] at this
    obtain ⟨q, mq, e⟩ := List.mem_map.mp this
    rw [← Sum.inr.inj e]
    exact mq
abbrev growP (G : Grp) : Nat → PM → List PM := growG G.names G.open fun m a b => tstP G.open m a b
def spr_grow (K : PySem.W.Frag) : Nat → Sp
  | 0 => fun _ _ _ _ => False
  | n + 1 => fun vs H Q _ => ∃ (p x fo : Addr) (B : Hp) (G : Grp) (kx : List (Key × V)) (ds : List (Key × D)) (m : PM) (rows : List V), vs = [.ref p, .ref x, .ref fo] ∧ Same B H ∧ GAt K B p G ∧ B x = some (.dK kx) ∧ DictM K kx ds m ∧ PMOk G.names G.open m ∧ B fo = none ∧ H fo = some (.lst rows) ∧ (waitL G.names m).length ≤ n ∧ rows.length + (growP G (n + 1) m).length ≤ 100000 ∧
    ∀ B' H' rows', HS [fo] B H B' H' [(fo, .lst (rows ++ rows'))] → WRs B' rows' ((growP G (n + 1) m).map (wrM G.names)) → Q .non H'
abbrev N_grow : List Str := ["group", "x", "found", "waiting", "a", "b", "y"]
def t_grow (n : Nat) (K : PySem.W.Frag) (E : XK) : TS := (tSeq (tAsg (tLc (iList K (tCB (rSortL K) (tCons (tMt (He.ga K "Group") "people" (sp_Group_people K) (WE0 E) (tVar 0) tNil) tNil))) (gName 4) (tB (tDNotIn (tVar 4) (tVar 1))) (tVar 4) [4]) (gName 3))
  (tSeq (tIfS (tNot (tTr K (tVar 3))) (tSeq (tDrop (tBM K "list" rAppend (tVar 2) (tCons (tCl (sp_written K) (WE0 E) (tCons (tVar 1) tNil)) tNil)))
  tRetN) tNext)
  (tSeq (tAsg (tOp (rIxL K) (tVar 3) (tC (.int 0))) (gName 4))
  (tFor (iList K (tOp rCat (tLst (tCons (tC .non) tNil)) (tMt (He.ga K "Group") "open_to" (sp_Group_open_to K) (WE0 E) (tVar 0) (tCons (tVar 4) tNil)))) (gName 5) (tSeq (tIfS (tAnd (tB (tNotN (tVar 5))) (tB (tDIn (tVar 5) (tVar 1)))) tCont tNext)
  (tSeq (tAsg (tCB rDictOf (tCons (tVar 1) tNil)) (gName 6))
  (tSeq (sDPut (tVar 6) (tVar 4) (tVar 5))
  (tSeq (tIfS (tB (tNotN (tVar 5))) (sDPut (tVar 6) (tVar 5) (tVar 4)) tNext)
  (tIfS (tAnd (tNot (tB (tCl (sp_clashes K) (WE0 E) (tCons (tVar 0) (tCons (tVar 6) (tCons (tVar 4) tNil)))))) (tOr (tB (tIsN (tVar 5))) (tNot (tB (tCl (sp_clashes K) (WE0 E) (tCons (tVar 0) (tCons (tVar 6) (tCons (tVar 5) tNil)))))))) (tDrop (tCl (spr_grow K n) (WE0 E) (tCons (tVar 0) (tCons (tVar 6) (tCons (tVar 2) tNil))))) tNext)))))))))
def sp_grow (K : PySem.W.Frag) : Sp := spr_grow K 18
end Q

set_option Elab.async false
set_option linter.all false
set_option maxRecDepth 100000
set_option maxHeartbeats 4000000
namespace Q
open PySem PySem.Spec PyProof.Rows L2
/-! ### calm -/
theorem TRs.inj {B : Hp} : ∀ {us : List V} {k k' : List (List Str)}, TRs B us k → TRs B us k' → k = k'
  | _, _, _, .nil, h => by cases h; rfl
  | _, _, _, .cons h r, q => by
    cases q with
    | cons h' r' =>
      rw [h] at h'
      have e := HO.tup.inj (Option.some.inj h')
      have : ∀ {a b : List Str}, a.map V.str = b.map V.str → a = b := fun {a b} z => by
        have := congrArg (List.map fun v : V => match v with | .str x => x | _ => Str.empty) z
        rw [List.map_map, List.map_map] at this
        have idm : ∀ l : List Str, l.map ((fun v : V => match v with | .str x => x | _ => Str.empty) ∘ V.str) = l := fun l => by
          conv => rhs; rw [← List.map_id l]
          rfl
        rw [idm, idm] at this
        exact this
      rw [this e, TRs.inj r r']
open Classical in
/-- what a value shows -/
noncomputable def keyW (B : Hp) (v : V) : List (List Str) := if h : ∃ k, ∃ t us, v = .ref t ∧ B t = some (.tup us) ∧ TRs B us k then Classical.choose h else []
theorem keyW_eq {B : Hp} {t : Addr} {us : List V} {k : List (List Str)} (e : B t = some (.tup us)) (tr : TRs B us k) : keyW B (.ref t) = k := by
  unfold keyW
  have h : ∃ k, ∃ t' us, V.ref t = .ref t' ∧ B t' = some (.tup us) ∧ TRs B us k := ⟨k, t, us, rfl, e, tr⟩
  rw [dif_pos h]
  obtain ⟨t', us', e1, e2, e3⟩ := Classical.choose_spec h
  cases e1
  rw [e] at e2
  cases e2
  exact e3.inj tr
theorem WRs.keys {B : Hp} : ∀ {vs : List V} {ks : List (List (List Str))}, WRs B vs ks → vs.map (keyW B) = ks
  | _, _, .nil => rfl
  | _, _, .cons h t r => by rw [List.map_cons, keyW_eq h t, WRs.keys r]
/-- the calm dealings, written as pairs, in sorted order -/
def calmW (xs : List Str) (op : Str → List Str) : List (List (List Str)) := sortTT ((calms xs op).map (wrM xs))
abbrev N_calm : List Str := ["group", "found"]
def t_calm (K : PySem.W.Frag) (E : XK) : TS := (tSeq (tDrop (tCl (sp_check_size K) (WE0 E) (tCons (tVar 0) (tCons (tC (.int 10)) tNil))))
  (tSeq (tAsg (tLst tNil) (gName 1))
  (tSeq (tDrop (tCl (sp_grow K) (WE0 E) (tCons (tVar 0) (tCons tDNewK (tCons (tVar 1) tNil)))))
  (tRet (tCB (rSortX K) (tCons (tVar 1) tNil))))))
def sp_calm (K : PySem.W.Frag) : Sp := fun vs H Q E => ∃ (p : Addr) (B : Hp) (G : Grp), vs = [.ref p] ∧ Same B H ∧ GAt K B p G ∧ (G.names.length ≤ 10 → ∀ B' H' l ys, HS [] B H B' H' [(l, .lst ys)] → WRs B' ys (calmW G.names G.open) → Q (.ref l) H') ∧ (10 < G.names.length → Thr K B H E "TooMany" [("most", .int 10)])
end Q

set_option Elab.async false
set_option linter.all false
set_option maxRecDepth 100000
set_option maxHeartbeats 4000000
namespace Q
open PySem PySem.Spec PyProof.Rows L2
local macro_rules | `(tactic| walk_at "bf") => `(tactic| first | assumption | (refine' bstep (by assumption) ?r; case r => walk_at "bf") | fail)
local macro_rules | `(tactic| walk_at "rp") => `(tactic| first | assumption | exact Rep.int _ | exact Rep.bl _ | exact Rep.non | (refine' Rep.mono (by assumption) ?r; case r => walk_at "rp") | fail)
local macro_rules | `(tactic| walk_at "hf") => `(tactic| first | assumption | exact HS.up (by assumption) (by walk_at "bf") | exact HS.get (by assumption) List.mem_cons_self | exact HS.get (by assumption) (List.mem_cons_of_mem _ List.mem_cons_self) | exact HS.get (by assumption) (List.mem_cons_of_mem _ (List.mem_cons_of_mem _ List.mem_cons_self)) | exact HS.get (by assumption) (List.mem_cons_of_mem _ (List.mem_cons_of_mem _ (List.mem_cons_of_mem _ List.mem_cons_self))) | fail)
local macro_rules | `(tactic| walk_at "sl") => `(tactic| first | assumption | exact SqL.of (by walk_at "hf") | fail)
local macro_rules | `(tactic| walk_at "st") => `(tactic| first | assumption | exact SqT.of (by walk_at "hf") | fail)
local macro_rules | `(tactic| walk_at "sz") => `(tactic| first | assumption | (refine small_le ?_; first | assumption | omega | (simp; done) | (simp; omega)) | fail)
/-! ### the law's search -/
theorem mem_prsOf {xs : List Str} {f : Str → List Str} {a b : Str} (ma : a ∈ xs) (mb : b ∈ f a) (h : ltS a b) : [a, b] ∈ prsOf xs f := by
  unfold prsOf
  refine List.mem_flatMap.mpr ⟨a, mem_sortS.mpr ma, ?_⟩
  unfold prsF
  exact List.mem_map.mpr ⟨b, List.mem_filter.mpr ⟨mem_sortS.mpr mb, decide_eq_true h⟩, rfl⟩
theorem quarB_qP {op : Str → List Str} {ds : List (Key × D)} {m : PM} (h : RepM ds m) {a b : Str} {va vb : Option Str} (ea : m a = some va) (eb : m b = some vb) : quarB op (.dct ds) a b = qP op m a b := by
  unfold quarB rather qP
  rw [h.part ea, h.part eb, ea, eb]
theorem quars_calm {xs : List Str} {op : Str → List Str} {ds : List (Key × D)} {m : PM} (mu : Mut xs op) (h : RepM ds m) (ok : PMOk xs op m) (fl : FullP xs m) : (quars xs op (.dct ds)).isEmpty = calmM xs op m := by
  rw [Bool.eq_iff_iff, List.isEmpty_iff, calmM_true]
  unfold quars
  rw [List.filter_eq_nil_iff]
  constructor
  · intro z a ma b mb
    obtain ⟨mbx, mab⟩ := mu.fi a ma b mb
    obtain ⟨va, ea⟩ := fl a ma
    obtain ⟨vb, eb⟩ := fl b mbx
    have hab : a ≠ b := fun e => mu.fs a ma (e ▸ mb)
    cases hq : qP op m a b with
    | false => rfl
    | true =>
      rcases str_tri hab with l | l
      · have := z _ (mem_prsOf ma mb l)
        exact absurd (show quarB op (.dct ds) a b = true by rw [quarB_qP h ea eb]; exact hq) this
      · have := z _ (mem_prsOf mbx mab l)
        exact absurd (show quarB op (.dct ds) b a = true by rw [quarB_qP h eb ea]; exact qP_symm ok hq) this
  · intro z k mk hk
    obtain ⟨a, b, rfl, ma, mb, _⟩ := prsOf_get mk
    obtain ⟨va, ea⟩ := fl a ma
    obtain ⟨vb, eb⟩ := fl b (mu.fi a ma b mb).1
    have hk : quarB op (.dct ds) a b = true := hk
    rw [quarB_qP h ea eb, z a ma b mb] at hk
    cases hk
def lcal (xs : List Str) (f : Str → List Str) (n : Nat) (m : PM) : List PM := (leaves xs f n m).filter (calmM xs f)
/-- dealings as dicts -/
inductive DRs (K : PySem.W.Frag) (B : Hp) : List V → List PM → Prop
  | nil : DRs K B [] []
  | cons {t : Addr} {kx : List (Key × V)} {ds : List (Key × D)} {m : PM} {vs : List V} {ms : List PM} : B t = some (.dK kx) → DictM K kx ds m → DRs K B vs ms → DRs K B (.ref t :: vs) (m :: ms)
theorem DRs.mono {K : PySem.W.Frag} {B B' : Hp} (s : Same B B') : ∀ {vs : List V} {ms : List PM}, DRs K B vs ms → DRs K B' vs ms
  | _, _, .nil => .nil
  | _, _, .cons h d r => .cons (s _ _ h) d (DRs.mono s r)
theorem DRs.append {K : PySem.W.Frag} {B : Hp} : ∀ {vs us : List V} {ms ls : List PM}, DRs K B vs ms → DRs K B us ls → DRs K B (vs ++ us) (ms ++ ls)
  | _, _, _, _, .nil, q => q
  | _, _, _, _, .cons h d r, q => .cons h d (DRs.append r q)
theorem DRs.len {K : PySem.W.Frag} {B : Hp} : ∀ {vs : List V} {ms : List PM}, DRs K B vs ms → vs.length = ms.length
  | _, _, .nil => rfl
  | _, _, .cons _ _ r => by rw [List.length_cons, List.length_cons, DRs.len r]
theorem DRs.at {K : PySem.W.Frag} {B : Hp} : ∀ {vs : List V} {ms : List PM} {j : Nat} {v : V}, DRs K B vs ms → vs[j]? = some v → ∃ t kx ds m, v = .ref t ∧ ms[j]? = some m ∧ B t = some (.dK kx) ∧ DictM K kx ds m
  | _, _, _, _, .nil, e => by simp at e
  | _, _, 0, _, .cons h d _, e => by simp at e; subst e; exact ⟨_, _, _, _, rfl, rfl, h, d⟩
  | _, _, j + 1, v, .cons _ _ r, e => by
    obtain ⟨t, kx, ds, m, e1, e2, e3, e4⟩ := DRs.at r (j := j) (v := v) (by simpa using e)
    exact ⟨t, kx, ds, m, e1, by simpa using e2, e3, e4⟩
def spr__law_grow (K : PySem.W.Frag) : Nat → Sp
  | 0 => fun _ _ _ _ => False
  | n + 1 => fun vs H Q _ => ∃ (mu or x fo : Addr) (B : Hp) (xs : List Str) (f : Str → List Str) (kvm kx : List (Key × V)) (ds : List (Key × D)) (m : PM) (rows : List V), vs = [.ref mu, .ref or, .ref x, .ref fo] ∧ Same B H ∧ B mu = some (.dK kvm) ∧ WAt B xs kvm f ∧ Mut xs f ∧ B or = some (.lst ((sortS xs).map V.str)) ∧ B x = some (.dK kx) ∧ DictM K kx ds m ∧ PMOk xs f m ∧ B fo = none ∧ H fo = some (.lst rows) ∧ (waitL xs m).length ≤ n ∧ rows.length + (lcal xs f (n + 1) m).length ≤ 100000 ∧
    ∀ B' H' rows', HS [fo] B H B' H' [(fo, .lst (rows ++ rows'))] → DRs K B' rows' (lcal xs f (n + 1) m) → Q .non H'
abbrev N__law_grow : List Str := ["_law_mutual_here", "_law_order", "_law_x", "_law_found", "_law_waiting", "_law_a", "_law_b", "_law_y"]
def t__law_grow (n : Nat) (K : PySem.W.Frag) (E : XK) : TS := (tSeq (tAsg (tLc (iList K (tVar 1)) (gName 5) (tB (tDNotIn (tVar 5) (tVar 2))) (tVar 5) [5]) (gName 4))
  (tSeq (tIfS (tNot (tTr K (tVar 4))) (tSeq (tIfS (tTest (tOp (rEqD K) (tCl (sp__law_quarrels K) (WE0 E) (tCons (tVar 0) (tCons (tVar 2) tNil))) (tLst tNil))) (tDrop (tBM K "list" rAppend (tVar 3) (tCons (tVar 2) tNil))) tNext)
  tRetN) tNext)
  (tSeq (tAsg (tOp (rIxL K) (tVar 4) (tC (.int 0))) (gName 5))
  (tFor (iList K (tOp rCat (tLst (tCons (tC .non) tNil)) (tDGet (tVar 0) (tVar 5)))) (gName 6) (tIfS (tOr (tB (tIsN (tVar 6))) (tB (tDNotIn (tVar 6) (tVar 2)))) (tSeq (tAsg (tCB rDictOf (tCons (tVar 2) tNil)) (gName 7))
  (tSeq (sDPut (tVar 7) (tVar 5) (tVar 6))
  (tSeq (tIfS (tB (tNotN (tVar 6))) (sDPut (tVar 7) (tVar 6) (tVar 5)) tNext)
  (tDrop (tCl (spr__law_grow K n) (WE0 E) (tCons (tVar 0) (tCons (tVar 1) (tCons (tVar 7) (tCons (tVar 3) tNil))))))))) tNext)))))
def sp__law_grow (K : PySem.W.Frag) : Sp := spr__law_grow K 18
abbrev N__law_all_calm : List Str := ["_law_mutual_here", "_law_found"]
def t__law_all_calm (K : PySem.W.Frag) (E : XK) : TS := (tSeq (tAsg (tLst tNil) (gName 1))
  (tSeq (tDrop (tCl (sp__law_grow K) (WE0 E) (tCons (tVar 0) (tCons (tCB (rSortL K) (tCons (tCB rListD (tCons (tVar 0) tNil)) tNil)) (tCons tDNewK (tCons (tVar 1) tNil))))))
  (tRet (tVar 1))))
def sp__law_all_calm (K : PySem.W.Frag) : Sp := fun vs H Q E => ∃ (mu : Addr) (B : Hp) (xs : List Str) (f : Str → List Str) (kvm : List (Key × V)), vs = [.ref mu] ∧ Same B H ∧ B mu = some (.dK kvm) ∧ WAt B xs kvm f ∧ Mut xs f ∧ xs.length ≤ 10 ∧
  ∀ B' H' l rows, HS [] B H B' H' [(l, .lst rows)] → DRs K B' rows (calms xs f) → Q (.ref l) H'
abbrev N__law_written : List Str := ["_law_x", "_law_a"]
def t__law_written (K : PySem.W.Frag) (E : XK) : TS := (tRet (tCB (rTupOf K) (tCons (tLc (iList K (tCB (rSortL K) (tCons (tCB rListD (tCons (tVar 0) tNil)) tNil))) (gName 1) (tAnd (tB (tNotN (tDGet (tVar 0) (tVar 1)))) (tTest (tOp rLtS (tVar 1) (tDGet (tVar 0) (tVar 1))))) (tTup (tCons (tVar 1) (tCons (tDGet (tVar 0) (tVar 1)) tNil))) [1]) tNil)))
def sp__law_written (K : PySem.W.Frag) : Sp := sp_written K
/-! ### rows of written dealings are equal -/
def wrD (k : List (List Str)) : PyData := .tuple (k.map fun p => PyData.tuple (p.map PyData.str))
theorem WRs.dp {K : PySem.W.Frag} {B H : Hp} (s : Same B H) : ∀ {vs : List V} {ks : List (List (List Str))}, WRs B vs ks → DpAll K H vs (ks.map wrD)
  | _, _, .nil => .nil
  | _, _, .cons h t r => .cons (.tup (SqT.of (s _ _ h)) (t.dp s)) (WRs.dp s r)
end Q

set_option Elab.async false
set_option linter.all false
set_option maxRecDepth 100000
set_option maxHeartbeats 4000000
namespace Q
open PySem PySem.Spec PyProof.Rows L2
/-! ### more of the order of texts -/
def rLeS : R2 := fun x y H Q => ∃ i j, x = .str i ∧ y = .str j ∧ Q (.bl (!decide (j.cps.toList < i.cps.toList))) H
def rGtS : R2 := fun x y H Q => ∃ i j, x = .str i ∧ y = .str j ∧ Q (.bl (decide (j.cps.toList < i.cps.toList))) H
def rGeS : R2 := fun x y H Q => ∃ i j, x = .str i ∧ y = .str j ∧ Q (.bl (!decide (i.cps.toList < j.cps.toList))) H
section
variable {X : Cx} {x y : Str} {H : Hp} {Q : VK}
def rLenX (K : PySem.W.Frag) : List V → Hp → VK → Prop := fun xs H Q => rLenA K xs H Q ∨ rLenD xs H Q
theorem cLenX : CallR X (.builtin "len") (rLenX X.K) := fun pins s σ H xs us Q I r h => h.elim (fun h => cLenA pins s σ H xs us Q I r h) fun h => cLenD pins s σ H xs us Q I r h
end
end Q

set_option Elab.async false
set_option linter.all false
set_option maxRecDepth 100000
set_option maxHeartbeats 4000000
namespace Q
open PySem PySem.Spec PyProof.Rows L2
/-! ### y = [..], the name a cell -/
end Q

set_option Elab.async false
set_option linter.all false
set_option maxRecDepth 100000
set_option maxHeartbeats 4000000
namespace Q
open PySem PySem.Spec PyProof.Rows L2
local macro_rules | `(tactic| walk_at "bf") => `(tactic| first | assumption | (refine' bstep (by assumption) ?r; case r => walk_at "bf") | fail)
local macro_rules | `(tactic| walk_at "rp") => `(tactic| first | assumption | exact Rep.int _ | exact Rep.bl _ | exact Rep.non | (refine' Rep.mono (by assumption) ?r; case r => walk_at "rp") | fail)
local macro_rules | `(tactic| walk_at "hf") => `(tactic| first | assumption | exact HS.up (by assumption) (by walk_at "bf") | exact HS.get (by assumption) List.mem_cons_self | exact HS.get (by assumption) (List.mem_cons_of_mem _ List.mem_cons_self) | exact HS.get (by assumption) (List.mem_cons_of_mem _ (List.mem_cons_of_mem _ List.mem_cons_self)) | exact HS.get (by assumption) (List.mem_cons_of_mem _ (List.mem_cons_of_mem _ (List.mem_cons_of_mem _ List.mem_cons_self))) | fail)
local macro_rules | `(tactic| walk_at "sl") => `(tactic| first | assumption | exact SqL.of (by walk_at "hf") | fail)
local macro_rules | `(tactic| walk_at "st") => `(tactic| first | assumption | exact SqT.of (by walk_at "hf") | fail)
local macro_rules | `(tactic| walk_at "sz") => `(tactic| first | assumption | (refine small_le ?_; first | assumption | omega | (simp; done) | (simp; omega)) | fail)
/-! ### a dealing that is written as pairs -/
def updO (m : Str → Option Str) (a : Str) (v : Option Str) : Str → Option Str := fun c => if c = a then v else m c
def zipO (xs : List Str) (m : Str → Option Str) : List (Key × V) := xs.map fun a => (.inr a, optV (m a))
def zipOD (xs : List Str) (m : Str → Option Str) : List (Key × D) := xs.map fun a => (.inr a, optD (m a))
def fromGo (G : Grp) : List D → Str → (Str → Option Str) → Option (Str → Option Str)
  | [], _, m => some m
  | .tup [.str a, .str b] :: r, last, m => if (decide (a ∈ G.names) && decide (b ∈ G.open a)) && (!decide (b.cps.toList < a.cps.toList) && (decide (last.cps.toList < a.cps.toList) && (decide (m a = none) && decide (m b = none)))) then fromGo G r a (updO (updO m a (some b)) b (some a)) else none
  | _ :: _, _, _ => none
def fromP (G : Grp) : D → Option (Str → Option Str)
  | .tup ds => fromGo G ds "" fun _ => none
  | _ => none
abbrev N_from_pairs : List Str := ["group", "pairs", "x", "last", "row", "a", "b"]
def t_from_pairs (K : PySem.W.Frag) (E : XK) : TS := (tSeq (tIfS (tNot (tB (tCB (rIsi K) (tCons (tVar 1) (tCons (tC (.ty "tuple")) tNil))))) (tRz0 (He.ga K "NoDealing") (WE0 E)) tNext)
  (tSeq (tAsg (tDc (iList K (tMt (He.ga K "Group") "people" (sp_Group_people K) (WE0 E) (tVar 0) tNil)) (gName 5) tYes (tVar 5) (tC .non) [5]) (gName 2))
  (tSeq (tAsg (tC (.str "")) (gName 3))
  (tSeq (tFor (iTup K (tVar 1)) (gName 4) (tSeq (tIfS (tOr (tNot (tB (tCB (rIsi K) (tCons (tVar 4) (tCons (tC (.ty "tuple")) tNil))))) (tTest (tOp (rNotInG (He.ga K "Group") (sp_Group___contains__ K)) (tVar 4) (tVar 0)))) (tRz0 (He.ga K "NoDealing") (WE0 E)) tNext)
  (tSeq (tAsg (tVar 4) (gTup K 2 (gCons (gName 5) (gCons (gName 6) gNil))))
  (tSeq (tIfS (tOr (tTest (tOp rGtS (tVar 5) (tVar 6))) (tOr (tTest (tOp rLeS (tVar 5) (tVar 3))) (tOr (tB (tNotN (tDGet (tVar 2) (tVar 5)))) (tB (tNotN (tDGet (tVar 2) (tVar 6))))))) (tRz0 (He.ga K "NoDealing") (WE0 E)) tNext)
  (tSeq (sDPut (tVar 2) (tVar 5) (tVar 6))
  (tSeq (sDPut (tVar 2) (tVar 6) (tVar 5))
  (tAsg (tVar 5) (gName 3))))))))
  (tRet (tVar 2))))))
def sp_from_pairs (K : PySem.W.Frag) : Sp := fun vs H Q E => ∃ (p : Addr) (v : V) (B : Hp) (G : Grp) (d : D), vs = [.ref p, v] ∧ Same B H ∧ GAt K B p G ∧ Rep K B v d ∧ (∀ m, fromP G d = some m → ∀ B' H' x, HS [] B H B' H' [(x, .dK (zipO G.names m))] → Q (.ref x) H') ∧ (fromP G d = none → Thr0 K B H E "NoDealing")
/-! ### what was written is read back -/
def pairD : List Str → D := fun k => .tup (k.map D.str)
def wrT (k : List (List Str)) : D := .tup (k.map pairD)
end Q

set_option Elab.async false
set_option linter.all false
set_option maxRecDepth 100000
set_option maxHeartbeats 4000000
namespace Q
open PySem PySem.Spec PyProof.Rows L2
local macro_rules | `(tactic| walk_at "bf") => `(tactic| first | assumption | (refine' bstep (by assumption) ?r; case r => walk_at "bf") | fail)
local macro_rules | `(tactic| walk_at "rp") => `(tactic| first | assumption | exact Rep.int _ | exact Rep.bl _ | exact Rep.non | (refine' Rep.mono (by assumption) ?r; case r => walk_at "rp") | fail)
local macro_rules | `(tactic| walk_at "hf") => `(tactic| first | assumption | exact HS.up (by assumption) (by walk_at "bf") | exact HS.get (by assumption) List.mem_cons_self | exact HS.get (by assumption) (List.mem_cons_of_mem _ List.mem_cons_self) | exact HS.get (by assumption) (List.mem_cons_of_mem _ (List.mem_cons_of_mem _ List.mem_cons_self)) | exact HS.get (by assumption) (List.mem_cons_of_mem _ (List.mem_cons_of_mem _ (List.mem_cons_of_mem _ List.mem_cons_self))) | fail)
local macro_rules | `(tactic| walk_at "sl") => `(tactic| first | assumption | exact SqL.of (by walk_at "hf") | fail)
local macro_rules | `(tactic| walk_at "st") => `(tactic| first | assumption | exact SqT.of (by walk_at "hf") | fail)
local macro_rules | `(tactic| walk_at "sz") => `(tactic| first | assumption | (refine small_le ?_; first | assumption | omega | (simp; done) | (simp; omega)) | fail)
/-! ### the law's own comparison -/
theorem x_iteT {A B : Prop} {b : Bool} (hb : b = true) (h : A) : if b = true then A else B := by rw [if_pos hb]; exact h
theorem x_iteF {A B : Prop} {b : Bool} (hb : b = false) (h : B) : if b = true then A else B := by rw [if_neg (by rw [hb]; decide)]; exact h

def sameD : Nat → D → D → Bool
  | 0, _, _ => false
  | _ + 1, a, .non => match a with | .non => true | _ => false
  | _ + 1, a, .bl b => match a with | .bl c => decide (c = b) | _ => false
  | _ + 1, a, .int i => match a with | .int j => decide (j = i) | _ => false
  | _ + 1, a, .str x => match a with | .str y => decide (y = x) | _ => false
  | n + 1, a, .tup ds => match a with | .tup es => decide (es.length = ds.length) && (es.zip ds).all fun p => sameD n p.1 p.2 | _ => false
  | n + 1, a, .lst ds => match a with | .lst es => decide (es.length = ds.length) && (es.zip ds).all fun p => sameD n p.1 p.2 | _ => false
  | n + 1, a, .dct ds => match a with | .dct es => decide (es.length = ds.length) && ds.all (fun p => match dval es p.1 with | some e => sameD n e p.2 | none => false) | _ => false
  | _ + 1, _, .obj _ _ => false
/-- no dict within -/
def D.dfree (d : D) : Prop := ∀ (K : PySem.W.Frag) (B : Hp) (v : V) (x : Addr) (kvs : List (Key × V)), B x = some (.dK kvs) → Rep K B v d → Rep K (del B x) v d
/-- what may be due: at most n deep, dicts only of what has no dict within -/
def OkS : Nat → D → Prop
  | 0, _ => False
  | _ + 1, .non => True
  | _ + 1, .bl _ => True
  | _ + 1, .int _ => True
  | _ + 1, .str _ => True
  | n + 1, .tup ds => ds.length ≤ 100000 ∧ ∀ d ∈ ds, OkS n d
  | n + 1, .lst ds => ds.length ≤ 100000 ∧ ∀ d ∈ ds, OkS n d
  | n + 1, .dct ds => (∃ ks : List Str, ds.map (·.1) = ks.map Sum.inr) ∧ (ds.map (·.1)).Nodup ∧ ∀ q ∈ ds, q.2.dfree ∧ OkS n q.2
  | _ + 1, .obj _ _ => False
/-- what may be told against it -/
def OkT : Nat → D → D → Prop
  | 0, _, _ => True
  | n + 1, d, e => match d, e with
    | .tup es, .tup ds => ∀ (j : Nat) d e, es[j]? = some e → ds[j]? = some d → OkT n e d
    | .lst es, .lst ds => ∀ (j : Nat) d e, es[j]? = some e → ds[j]? = some d → OkT n e d
    | .dct es, .dct ds => ∀ (k : Key) d e, (k, d) ∈ ds → dval es k = some e → e.dfree ∧ OkT n e d
    | _, _ => True
def spr__law_same (K : PySem.W.Frag) : Nat → Sp
  | 0 => fun _ _ _ _ => False
  | n + 1 => fun vs H Q _ => ∃ (v u : V) (B : Hp) (d e : D), vs = [v, u] ∧ Same B H ∧ Rep K B v d ∧ Rep K B u e ∧ OkS (n + 1) e ∧ OkT (n + 1) d e ∧ Ret B H Q fun _ r => r = .bl (sameD (n + 1) d e)
abbrev N__law_same : List Str := ["_law_actual", "_law_due_here", "_law_k", "_law_key"]
def t__law_same (n : Nat) (K : PySem.W.Frag) (E : XK) : TS := (tSeq (tIfS (tB (tIsN (tVar 1))) (tRet (tIsN (tVar 0))) tNext)
  (tSeq (tIfS (tB (tCB (rIsi K) (tCons (tVar 1) (tCons (tC (.ty "bool")) tNil)))) (tRet (tAndV (tCB (rIsi K) (tCons (tVar 0) (tCons (tC (.ty "bool")) tNil))) (tOp rEq (tVar 0) (tVar 1)))) tNext)
  (tSeq (tIfS (tB (tCB (rIsi K) (tCons (tVar 1) (tCons (tC (.ty "int")) tNil)))) (tRet (tAndV (tCl (sp__law_is_integer K) (WE0 E) (tCons (tVar 0) tNil)) (tOp rEq (tVar 0) (tVar 1)))) tNext)
  (tSeq (tIfS (tB (tCB (rIsi K) (tCons (tVar 1) (tCons (tC (.ty "str")) tNil)))) (tRet (tAndV (tCB (rIsi K) (tCons (tVar 0) (tCons (tC (.ty "str")) tNil))) (tOp rEq (tVar 0) (tVar 1)))) tNext)
  (tSeq (tIfS (tAnd (tB (tCB (rIsi K) (tCons (tVar 1) (tCons (tC (.ty "tuple")) tNil)))) (tNot (tB (tCB (rIsi K) (tCons (tVar 0) (tCons (tC (.ty "tuple")) tNil)))))) (tRet (tC (.bl false))) tNext)
  (tSeq (tIfS (tAnd (tB (tCB (rIsi K) (tCons (tVar 1) (tCons (tC (.ty "list")) tNil)))) (tNot (tB (tCB (rIsi K) (tCons (tVar 0) (tCons (tC (.ty "list")) tNil)))))) (tRet (tC (.bl false))) tNext)
  (tSeq (tIfS (tOr (tB (tCB (rIsi K) (tCons (tVar 1) (tCons (tC (.ty "tuple")) tNil)))) (tB (tCB (rIsi K) (tCons (tVar 1) (tCons (tC (.ty "list")) tNil))))) (tSeq (tIfS (tTest (tOp rNe (tCB (rLenX K) (tCons (tVar 0) tNil)) (tCB (rLenX K) (tCons (tVar 1) tNil)))) (tRet (tC (.bl false))) tNext)
  (tSeq (tFor (iRng1 (tCons (tCB (rLenX K) (tCons (tVar 1) tNil)) tNil)) (gName 2) (tIfS (tNot (tB (tCl (spr__law_same K n) (WE0 E) (tCons (tOp (rIx K) (tVar 0) (tVar 2)) (tCons (tOp (rIx K) (tVar 1) (tVar 2)) tNil))))) (tRet (tC (.bl false))) tNext))
  (tRet (tC (.bl true))))) tNext)
  (tSeq (tIfS (tB (tCB (rIsi K) (tCons (tVar 1) (tCons (tC (.ty "dict")) tNil)))) (tSeq (tIfS (tOr (tNot (tB (tCB (rIsi K) (tCons (tVar 0) (tCons (tC (.ty "dict")) tNil))))) (tTest (tOp rNe (tCB (rLenX K) (tCons (tVar 0) tNil)) (tCB (rLenX K) (tCons (tVar 1) tNil))))) (tRet (tC (.bl false))) tNext)
  (tSeq (tLock (tFor (iKeys (tVar 1)) (gName 3) (tIfS (tOr (tB (tDNotIn (tVar 3) (tVar 0))) (tNot (tB (tCl (spr__law_same K n) (WE0 E) (tCons (tDGet (tVar 0) (tVar 3)) (tCons (tDGet (tVar 1) (tVar 3)) tNil)))))) (tRet (tC (.bl false))) tNext)))
  (tRet (tC (.bl true))))) tNext)
  (tRet (tOp rEq (tVar 0) (tVar 1)))))))))))
theorem use__law_same {K : PySem.W.Frag} {S : List Addr} {B0 H0 B H : Hp} {M : List (Addr × HO)} {Q : VK} {E : XK} {n : Nat} {v u : V} {d e : D} (hs : HS S B0 H0 B H M) (r : Rep K B v d) (re : Rep K B u e) (ok : OkS n e) (okt : OkT n d e)
    (k : ∀ B' H', Same B B' → HS S B0 H0 B' H' M → Q (.bl (sameD n d e)) H') : spr__law_same K n [v, u] H Q E := by
  cases n with
  | zero => exact ok.elim
  | succ n => exact ⟨v, u, B, d, e, rfl, hs.bh, r, re, ok, okt, fun B' H' v' c z => by rw [z]; exact k B' H' c.bb (hs.call c)⟩
theorem atI_natE {xs : List V} {i : Nat} {x : V} (h : xs[i]? = some x) : atI xs (i : Nat) = some x := by
  obtain ⟨hi, e⟩ := List.getElem?_eq_some_iff.mp h
  rw [atI_nat hi, e]
theorem dval_of_mem : ∀ {ds : List (Key × D)}, (ds.map (·.1)).Nodup → ∀ {q : Key × D}, q ∈ ds → dval ds q.1 = some q.2
  | p :: r, nd, q, m => by
    rw [List.map_cons, List.nodup_cons] at nd
    rcases List.mem_cons.mp m with e | m
    · subst e
      exact dval_pos rfl
    · rw [dval_neg fun z => nd.1 (List.mem_map.mpr ⟨q, m, z.symm⟩)]
      exact dval_of_mem nd.2 m
theorem zip_get {α β : Type} {es : List α} {ds : List β} {j : Nat} {e : α} {d : β} (h1 : es[j]? = some e) (h2 : ds[j]? = some d) : (es.zip ds)[j]? = some (e, d) := by
  rw [List.getElem?_zip_eq_some]
  exact ⟨h1, h2⟩
theorem zip_all {α β : Type} {p : α × β → Bool} {es : List α} {ds : List β} (hl : es.length = ds.length) (h : ∀ (j : Nat) e d, j < ds.length → es[j]? = some e → ds[j]? = some d → p (e, d) = true) : (es.zip ds).all p = true := by
  rw [List.all_eq_true]
  intro q mq
  obtain ⟨j, hj⟩ := List.mem_iff_getElem?.mp mq
  obtain ⟨h1, h2⟩ := List.getElem?_zip_eq_some.mp (show (es.zip ds)[j]? = some (q.1, q.2) from hj)
  exact h j q.1 q.2 (List.getElem?_eq_some_iff.mp h2).1 h1 h2
/-- two rows, item by item: the loop of both kinds -/
theorem same_loop {K : PySem.W.Frag} {B H : Hp} {Q : VK} {E : XK} {n : Nat} {a0 a1 : Addr} {xs ys : List V} {es ds : List D} {z3 : Option V} {De : Ends} (hs : HS [] B H B H []) (rs : Reps K B xs es) (re : Reps K B ys ds) (hl : es.length = ds.length) (hz : ds.length ≤ 100000) (ok : ∀ d ∈ ds, OkS n d) (okt : ∀ (j : Nat) d e, es[j]? = some e → ds[j]? = some d → OkT n e d)
    (ix0 : ∀ {H' : Hp} {i : Nat} {x : V} {R : VK}, Same B H' → xs[i]? = some x → R x H' → rIx K (.ref a0) (.int (i : Nat)) H' R) (ix1 : ∀ {H' : Hp} {i : Nat} {x : V} {R : VK}, Same B H' → ys[i]? = some x → R x H' → rIx K (.ref a1) (.int (i : Nat)) H' R) (len1 : ∀ {R : VK}, R (.int (ds.length : Nat)) H → rLenX K [.ref a1] H R)
    (hrt : De.rt = Q) (k : Ret B H Q fun _ r => r = .bl ((es.zip ds).all fun p => sameD n p.1 p.2)) :
    tSeq (tFor (iRng1 (tCons (tCB (rLenX K) (tCons (tVar 1) tNil)) tNil)) (gName 2) (tIfS (tNot (tB (tCl (spr__law_same K n) (WE0 E) (tCons (tOp (rIx K) (tVar 0) (tVar 2)) (tCons (tOp (rIx K) (tVar 1) (tVar 2)) tNil))))) (tRet (tC (.bl false))) tNext)) (tRet (tC (.bl true))) De [some (.ref a0), some (.ref a1), none, z3] H := by
  refine x_seq (x_for (x_iRng1 (x_cons (x_cb (x_cons (x_var rfl (x_nil (len1 (x_nil ?_)))))))))
  refine ⟨_, rfl, by omega, by omega, ?_⟩
  have en : ((ds.length : Nat) : Int).toNat = ds.length := by omega
  rw [en]
  refine l_range (α := Option V) (σf := fun z => [some (.ref a0), some (.ref a1), z, z3]) (Mf := fun _ => []) (P := fun i _ _ => ∀ j e d, j < i → es[j]? = some e → ds[j]? = some d → sameD n e d = true) (s0 := none) hs (fun _ _ _ z => absurd z (Nat.not_lt_zero _)) (fun i z B1 H1 hi sb1 hs1 pp => ?_) (fun z B1 H1 sb1 hs1 pp => ?_)
  · have l1 := rs.length
    have l2 := re.length
    have hx : xs[i]? = some (xs[i]'(by omega)) := List.getElem?_eq_getElem (by omega)
    have hy : ys[i]? = some (ys[i]'(by omega)) := List.getElem?_eq_getElem (by omega)
    obtain ⟨e, he, rx⟩ := rs.get hx
    obtain ⟨d, hd, ry⟩ := re.get hy
    rw [Int.zero_add]
    refine x_gname (x_if (x_not (x_tB (x_cl (x_cons (x_op (x_var rfl (x_var rfl ?_))))))))
    refine ix0 (sb1.trans hs1.bh) hx ?_
    refine x_cons (x_op (x_var rfl (x_var rfl ?_)))
    refine ix1 (sb1.trans hs1.bh) hy ?_
    refine x_nil ?_
    refine use__law_same hs1 (rx.mono sb1) (ry.mono sb1) (ok d (List.mem_of_getElem? hd)) (okt i d e he hd) (fun B2 H2 sb2 hs2 => ?_)
    refine x_exb ?_
    refine x_ite (fun h => ?_) (fun h => ?_)
    · refine x_ret (x_c ?_)
      show De.rt _ _
      rw [hrt]
      refine k B2 H2 _ hs2 (congrArg V.bl ?_)
      symm
      rw [List.all_eq_false]
      exact ⟨(e, d), List.mem_of_getElem? (zip_get he hd), by simpa using h⟩
    · refine x_next ?_
      refine ⟨some _, B2, rfl, sb1.trans sb2, hs2, fun j e' d' hj he' hd' => ?_⟩
      by_cases z : j = i
      · subst z
        rw [he] at he'
        rw [hd] at hd'
        cases he'
        cases hd'
        simpa using h
      · exact pp j e' d' (by omega) he' hd'
  · show tRet (tC (.bl true)) De [some (.ref a0), some (.ref a1), z, z3] H1
    refine x_ret (x_c ?_)
    rw [hrt]
    exact k B1 H1 _ hs1 (congrArg V.bl (zip_all hl fun j e d hj he hd => pp j e d hj he hd).symm)
theorem pure__law_same {n : Nat} {K : PySem.W.Frag} {vs : List V} {H : Hp} {Q : VK} {E : XK} (h : spr__law_same K (n + 1) vs H Q E) : t__law_same n K E { nx := fun _ H' => Q .non H', rt := Q } (start N__law_same vs) H := by
  obtain ⟨v, u, B, d, e, rfl, sB, r, re, ok, okt, k⟩ := h
  have hs := HS.start sB
  show t__law_same n K E _ [some v, some u, none, none] H
  unfold t__law_same
  have re0 := re
  cases re with
  | non =>
    ((with_reducible refine x_seq ?_); (with_reducible refine x_if ?_); (with_reducible refine x_tB ?_); (with_reducible refine x_isN ?_); ((with_reducible refine' x_var ?z5h ?_); case z5h => rfl); (with_reducible refine x_exb ?_); ((refine' x_iteT ?z7h ?_); case z7h => rfl); (with_reducible refine x_ret ?_); (with_reducible refine x_isN ?_); ((with_reducible refine' x_var ?z10h ?_); case z10h => rfl))
    refine k B H _ hs (congrArg V.bl ?_)
    cases r <;> first | rfl | exact decide_eq_false nofun
  | bl b =>
    ((with_reducible refine x_seq ?_); (with_reducible refine x_if ?_); (with_reducible refine x_tB ?_); (with_reducible refine x_isN ?_); ((with_reducible refine' x_var ?z15h ?_); case z15h => rfl); (with_reducible refine x_exb ?_); ((refine' x_iteF ?z17h ?_); case z17h => rfl); (with_reducible refine x_next ?_); (with_reducible refine x_seq ?_); (with_reducible refine x_if ?_); (with_reducible refine x_tB ?_); (with_reducible refine x_cb ?_); (with_reducible refine x_cons ?_); ((with_reducible refine' x_var ?z24h ?_); case z24h => rfl); (with_reducible refine x_cons ?_); (with_reducible refine x_c ?_); (with_reducible refine x_nil ?_); ((with_reducible refine' x_isiD ?z28h1 ?z28h2 ?z28h3 ?_); (case z28h1 => assumption); (case z28h2 => walk_at "rp"); (case z28h3 => decide)); (with_reducible refine x_exb ?_); ((refine' x_iteT ?z30h ?_); case z30h => rfl); (with_reducible refine x_ret ?_); (with_reducible refine x_andV ?_); (with_reducible refine x_cb ?_); (with_reducible refine x_cons ?_); ((with_reducible refine' x_var ?z35h ?_); case z35h => rfl); (with_reducible refine x_cons ?_); (with_reducible refine x_c ?_); (with_reducible refine x_nil ?_); ((with_reducible refine' x_isiD ?z39h1 ?z39h2 ?z39h3 ?_); (case z39h1 => assumption); (case z39h2 => walk_at "rp"); (case z39h3 => decide)); (with_reducible refine x_exb ?_))
    cases r with
    | bl c =>
      (((refine' x_iteT ?z41h ?_); case z41h => rfl); (with_reducible refine x_op ?_); ((with_reducible refine' x_var ?z43h ?_); case z43h => rfl); ((with_reducible refine' x_var ?z44h ?_); case z44h => rfl); ((with_reducible refine' x_eq ?z45h ?_); case z45h => rfl))
      refine k B H _ hs (congrArg V.bl ?_)
      show decide (V.bl c = V.bl b) = decide (c = b)
      exact decide_eq_decide.mpr ⟨fun z => by injection z, fun z => by rw [z]⟩
    | _ =>
      ((refine' x_iteF ?z46h ?_); case z46h => rfl)
      exact k B H _ hs rfl
  | int i =>
    ((with_reducible refine x_seq ?_); (with_reducible refine x_if ?_); (with_reducible refine x_tB ?_); (with_reducible refine x_isN ?_); ((with_reducible refine' x_var ?z51h ?_); case z51h => rfl); (with_reducible refine x_exb ?_); ((refine' x_iteF ?z53h ?_); case z53h => rfl); (with_reducible refine x_next ?_); (with_reducible refine x_seq ?_); (with_reducible refine x_if ?_); (with_reducible refine x_tB ?_); (with_reducible refine x_cb ?_); (with_reducible refine x_cons ?_); ((with_reducible refine' x_var ?z60h ?_); case z60h => rfl); (with_reducible refine x_cons ?_); (with_reducible refine x_c ?_); (with_reducible refine x_nil ?_); ((with_reducible refine' x_isiD ?z64h1 ?z64h2 ?z64h3 ?_); (case z64h1 => assumption); (case z64h2 => walk_at "rp"); (case z64h3 => decide)); (with_reducible refine x_exb ?_); ((refine' x_iteF ?z66h ?_); case z66h => rfl); (with_reducible refine x_next ?_); (with_reducible refine x_seq ?_); (with_reducible refine x_if ?_); (with_reducible refine x_tB ?_); (with_reducible refine x_cb ?_); (with_reducible refine x_cons ?_); ((with_reducible refine' x_var ?z73h ?_); case z73h => rfl); (with_reducible refine x_cons ?_); (with_reducible refine x_c ?_); (with_reducible refine x_nil ?_); ((with_reducible refine' x_isiD ?z77h1 ?z77h2 ?z77h3 ?_); (case z77h1 => assumption); (case z77h2 => walk_at "rp"); (case z77h3 => decide)); (with_reducible refine x_exb ?_); ((refine' x_iteT ?z79h ?_); case z79h => rfl); (with_reducible refine x_ret ?_); (with_reducible refine x_andV ?_); (with_reducible refine x_cl ?_); (with_reducible refine x_cons ?_); ((with_reducible refine' x_var ?z84h ?_); case z84h => rfl); (with_reducible refine x_nil ?_))
    refine use__law_is_integer hs r (fun B1 H1 sb1 hs1 => ?_)
    cases r with
    | int j =>
      refine ⟨true, rfl, ?_⟩
      ((with_reducible refine x_tt _ _ ?_); (with_reducible refine x_op ?_); ((with_reducible refine' x_var ?z88h ?_); case z88h => rfl); ((with_reducible refine' x_var ?z89h ?_); case z89h => rfl); ((with_reducible refine' x_eq ?z90h ?_); case z90h => rfl))
      refine k B1 H1 _ hs1 (congrArg V.bl ?_)
      show decide (V.int j = V.int i) = decide (j = i)
      exact decide_eq_decide.mpr ⟨fun z => by injection z, fun z => by rw [z]⟩
    | _ =>
      refine ⟨false, rfl, ?_⟩
      (with_reducible refine x_ff _ _ ?_)
      exact k B1 H1 _ hs1 rfl
  | @str x hx =>
    ((with_reducible refine x_seq ?_); (with_reducible refine x_if ?_); (with_reducible refine x_tB ?_); (with_reducible refine x_isN ?_); ((with_reducible refine' x_var ?z96h ?_); case z96h => rfl); (with_reducible refine x_exb ?_); ((refine' x_iteF ?z98h ?_); case z98h => rfl); (with_reducible refine x_next ?_); (with_reducible refine x_seq ?_); (with_reducible refine x_if ?_); (with_reducible refine x_tB ?_); (with_reducible refine x_cb ?_); (with_reducible refine x_cons ?_); ((with_reducible refine' x_var ?z105h ?_); case z105h => rfl); (with_reducible refine x_cons ?_); (with_reducible refine x_c ?_); (with_reducible refine x_nil ?_); ((with_reducible refine' x_isiD ?z109h1 ?z109h2 ?z109h3 ?_); (case z109h1 => assumption); (case z109h2 => walk_at "rp"); (case z109h3 => decide)); (with_reducible refine x_exb ?_); ((refine' x_iteF ?z111h ?_); case z111h => rfl); (with_reducible refine x_next ?_); (with_reducible refine x_seq ?_); (with_reducible refine x_if ?_); (with_reducible refine x_tB ?_); (with_reducible refine x_cb ?_); (with_reducible refine x_cons ?_); ((with_reducible refine' x_var ?z118h ?_); case z118h => rfl); (with_reducible refine x_cons ?_); (with_reducible refine x_c ?_); (with_reducible refine x_nil ?_); ((with_reducible refine' x_isiD ?z122h1 ?z122h2 ?z122h3 ?_); (case z122h1 => assumption); (case z122h2 => walk_at "rp"); (case z122h3 => decide)); (with_reducible refine x_exb ?_); ((refine' x_iteF ?z124h ?_); case z124h => rfl); (with_reducible refine x_next ?_); (with_reducible refine x_seq ?_); (with_reducible refine x_if ?_); (with_reducible refine x_tB ?_); (with_reducible refine x_cb ?_); (with_reducible refine x_cons ?_); ((with_reducible refine' x_var ?z131h ?_); case z131h => rfl); (with_reducible refine x_cons ?_); (with_reducible refine x_c ?_); (with_reducible refine x_nil ?_); ((with_reducible refine' x_isiD ?z135h1 ?z135h2 ?z135h3 ?_); (case z135h1 => assumption); (case z135h2 => walk_at "rp"); (case z135h3 => decide)); (with_reducible refine x_exb ?_); ((refine' x_iteT ?z137h ?_); case z137h => rfl); (with_reducible refine x_ret ?_); (with_reducible refine x_andV ?_); (with_reducible refine x_cb ?_); (with_reducible refine x_cons ?_); ((with_reducible refine' x_var ?z142h ?_); case z142h => rfl); (with_reducible refine x_cons ?_); (with_reducible refine x_c ?_); (with_reducible refine x_nil ?_); ((with_reducible refine' x_isiD ?z146h1 ?z146h2 ?z146h3 ?_); (case z146h1 => assumption); (case z146h2 => walk_at "rp"); (case z146h3 => decide)); (with_reducible refine x_exb ?_))
    cases r with
    | @str y hy =>
      (((refine' x_iteT ?z148h ?_); case z148h => rfl); (with_reducible refine x_op ?_); ((with_reducible refine' x_var ?z150h ?_); case z150h => rfl); ((with_reducible refine' x_var ?z151h ?_); case z151h => rfl); ((with_reducible refine' x_eq ?z152h ?_); case z152h => rfl))
      refine k B H _ hs (congrArg V.bl ?_)
      show decide (V.str y = V.str x) = decide (y = x)
      exact decide_eq_decide.mpr ⟨fun z => by injection z, fun z => by rw [z]⟩
    | _ =>
      ((refine' x_iteF ?z153h ?_); case z153h => rfl)
      exact k B H _ hs rfl
  | @tup a1 ys ds e1 rs1 =>
    ((with_reducible refine x_seq ?_); (with_reducible refine x_if ?_); (with_reducible refine x_tB ?_); (with_reducible refine x_isN ?_); ((with_reducible refine' x_var ?z158h ?_); case z158h => rfl); (with_reducible refine x_exb ?_); ((refine' x_iteF ?z160h ?_); case z160h => rfl); (with_reducible refine x_next ?_); (with_reducible refine x_seq ?_); (with_reducible refine x_if ?_); (with_reducible refine x_tB ?_); (with_reducible refine x_cb ?_); (with_reducible refine x_cons ?_); ((with_reducible refine' x_var ?z167h ?_); case z167h => rfl); (with_reducible refine x_cons ?_); (with_reducible refine x_c ?_); (with_reducible refine x_nil ?_); ((with_reducible refine' x_isiD ?z171h1 ?z171h2 ?z171h3 ?_); (case z171h1 => assumption); (case z171h2 => walk_at "rp"); (case z171h3 => decide)); (with_reducible refine x_exb ?_); ((refine' x_iteF ?z173h ?_); case z173h => rfl); (with_reducible refine x_next ?_); (with_reducible refine x_seq ?_); (with_reducible refine x_if ?_); (with_reducible refine x_tB ?_); (with_reducible refine x_cb ?_); (with_reducible refine x_cons ?_); ((with_reducible refine' x_var ?z180h ?_); case z180h => rfl); (with_reducible refine x_cons ?_); (with_reducible refine x_c ?_); (with_reducible refine x_nil ?_); ((with_reducible refine' x_isiD ?z184h1 ?z184h2 ?z184h3 ?_); (case z184h1 => assumption); (case z184h2 => walk_at "rp"); (case z184h3 => decide)); (with_reducible refine x_exb ?_); ((refine' x_iteF ?z186h ?_); case z186h => rfl); (with_reducible refine x_next ?_); (with_reducible refine x_seq ?_); (with_reducible refine x_if ?_); (with_reducible refine x_tB ?_); (with_reducible refine x_cb ?_); (with_reducible refine x_cons ?_); ((with_reducible refine' x_var ?z193h ?_); case z193h => rfl); (with_reducible refine x_cons ?_); (with_reducible refine x_c ?_); (with_reducible refine x_nil ?_); ((with_reducible refine' x_isiD ?z197h1 ?z197h2 ?z197h3 ?_); (case z197h1 => assumption); (case z197h2 => walk_at "rp"); (case z197h3 => decide)); (with_reducible refine x_exb ?_); ((refine' x_iteF ?z199h ?_); case z199h => rfl); (with_reducible refine x_next ?_); (with_reducible refine x_seq ?_); (with_reducible refine x_if ?_); (with_reducible refine x_and ?_); (with_reducible refine x_tB ?_); (with_reducible refine x_cb ?_); (with_reducible refine x_cons ?_); ((with_reducible refine' x_var ?z207h ?_); case z207h => rfl); (with_reducible refine x_cons ?_); (with_reducible refine x_c ?_); (with_reducible refine x_nil ?_); ((with_reducible refine' x_isiD ?z211h1 ?z211h2 ?z211h3 ?_); (case z211h1 => assumption); (case z211h2 => walk_at "rp"); (case z211h3 => decide)); (with_reducible refine x_exb ?_); ((refine' x_iteT ?z213h ?_); case z213h => rfl); (with_reducible refine x_not ?_); (with_reducible refine x_tB ?_); (with_reducible refine x_cb ?_); (with_reducible refine x_cons ?_); ((with_reducible refine' x_var ?z218h ?_); case z218h => rfl); (with_reducible refine x_cons ?_); (with_reducible refine x_c ?_); (with_reducible refine x_nil ?_); ((with_reducible refine' x_isiD ?z222h1 ?z222h2 ?z222h3 ?_); (case z222h1 => assumption); (case z222h2 => walk_at "rp"); (case z222h3 => decide)); (with_reducible refine x_exb ?_))
    have r0 := r
    cases r with
    | @tup a0 xs es e0 rs0 =>
      have l0 := rs0.length
      have l1 := rs1.length
      have hlen0 : ∀ {R : VK}, R (.int (es.length : Nat)) H → rLenX K [.ref a0] H R := fun hR => .inl (x_lenT (SqT.of (hs.up e0)) (by rw [l0]; exact hR))
      have hlen1 : ∀ {R : VK}, R (.int (ds.length : Nat)) H → rLenX K [.ref a1] H R := fun hR => .inl (x_lenT (SqT.of (hs.up e1)) (by rw [l1]; exact hR))
      (((refine' x_iteF ?z224h ?_); case z224h => rfl); (with_reducible refine x_next ?_); (with_reducible refine x_seq ?_); (with_reducible refine x_if ?_); (with_reducible refine x_and ?_); (with_reducible refine x_tB ?_); (with_reducible refine x_cb ?_); (with_reducible refine x_cons ?_); ((with_reducible refine' x_var ?z232h ?_); case z232h => rfl); (with_reducible refine x_cons ?_); (with_reducible refine x_c ?_); (with_reducible refine x_nil ?_); ((with_reducible refine' x_isiD ?z236h1 ?z236h2 ?z236h3 ?_); (case z236h1 => assumption); (case z236h2 => walk_at "rp"); (case z236h3 => decide)); (with_reducible refine x_exb ?_); ((refine' x_iteF ?z238h ?_); case z238h => rfl); (with_reducible refine x_ff _ _ ?_); (with_reducible refine x_next ?_); (with_reducible refine x_seq ?_); (with_reducible refine x_if ?_); (with_reducible refine x_or ?_); (with_reducible refine x_tB ?_); (with_reducible refine x_cb ?_); (with_reducible refine x_cons ?_); ((with_reducible refine' x_var ?z247h ?_); case z247h => rfl); (with_reducible refine x_cons ?_); (with_reducible refine x_c ?_); (with_reducible refine x_nil ?_); ((with_reducible refine' x_isiD ?z251h1 ?z251h2 ?z251h3 ?_); (case z251h1 => assumption); (case z251h2 => walk_at "rp"); (case z251h3 => decide)); (with_reducible refine x_exb ?_); ((refine' x_iteT ?z253h ?_); case z253h => rfl); (with_reducible refine x_tt _ _ ?_); (with_reducible refine x_seq ?_); (with_reducible refine x_if ?_); (with_reducible refine x_test ?_); (with_reducible refine x_op ?_); (with_reducible refine x_cb ?_); (with_reducible refine x_cons ?_); ((with_reducible refine' x_var ?z261h ?_); case z261h => rfl); (with_reducible refine x_nil ?_))
      refine hlen0 ?_
      ((with_reducible refine x_cb ?_); (with_reducible refine x_cons ?_); ((with_reducible refine' x_var ?z265h ?_); case z265h => rfl); (with_reducible refine x_nil ?_))
      refine hlen1 ?_
      (((with_reducible refine' x_ne ?z267h ?_); case z267h => rfl); (with_reducible refine x_exb ?_))
      refine x_ite (fun h => ?_) (fun h => ?_)
      · ((with_reducible refine x_ret ?_); (with_reducible refine x_c ?_))
        refine k B H _ hs (congrArg V.bl ?_)
        show false = (decide (es.length = ds.length) && _)
        rw [decide_eq_false fun z => by rw [z] at h; simp at h]
        rfl
      · have hl : es.length = ds.length := by
          have h2 := of_decide_eq_true (Bool.not_eq_false' .. ▸ h)
          injection h2 with h2
          omega
        refine x_next ?_
        refine same_loop hs rs0 rs1 hl ok.1 ok.2 okt (fun {H' i x R} s hx hR => .inr (.inl (x_ixT (SqT.of (s _ _ e0)) (by rw [atI_natE hx]) hR))) (fun {H' i x R} s hx hR => .inr (.inl (x_ixT (SqT.of (s _ _ e1)) (by rw [atI_natE hx]) hR))) hlen1 rfl ?_
        refine fun B' H' v' c z => k B' H' v' c ?_
        rw [z]
        refine congrArg V.bl ?_
        show _ = (decide (es.length = ds.length) && _)
        rw [decide_eq_true hl, Bool.true_and]
    | _ =>
      (((refine' x_iteT ?z271h ?_); case z271h => rfl); (with_reducible refine x_ret ?_); (with_reducible refine x_c ?_))
      exact k B H _ hs rfl
  | @lst a1 ys ds e1 hz1 rs1 =>
    ((with_reducible refine x_seq ?_); (with_reducible refine x_if ?_); (with_reducible refine x_tB ?_); (with_reducible refine x_isN ?_); ((with_reducible refine' x_var ?z278h ?_); case z278h => rfl); (with_reducible refine x_exb ?_); ((refine' x_iteF ?z280h ?_); case z280h => rfl); (with_reducible refine x_next ?_); (with_reducible refine x_seq ?_); (with_reducible refine x_if ?_); (with_reducible refine x_tB ?_); (with_reducible refine x_cb ?_); (with_reducible refine x_cons ?_); ((with_reducible refine' x_var ?z287h ?_); case z287h => rfl); (with_reducible refine x_cons ?_); (with_reducible refine x_c ?_); (with_reducible refine x_nil ?_); ((with_reducible refine' x_isiD ?z291h1 ?z291h2 ?z291h3 ?_); (case z291h1 => assumption); (case z291h2 => walk_at "rp"); (case z291h3 => decide)); (with_reducible refine x_exb ?_); ((refine' x_iteF ?z293h ?_); case z293h => rfl); (with_reducible refine x_next ?_); (with_reducible refine x_seq ?_); (with_reducible refine x_if ?_); (with_reducible refine x_tB ?_); (with_reducible refine x_cb ?_); (with_reducible refine x_cons ?_); ((with_reducible refine' x_var ?z300h ?_); case z300h => rfl); (with_reducible refine x_cons ?_); (with_reducible refine x_c ?_); (with_reducible refine x_nil ?_); ((with_reducible refine' x_isiD ?z304h1 ?z304h2 ?z304h3 ?_); (case z304h1 => assumption); (case z304h2 => walk_at "rp"); (case z304h3 => decide)); (with_reducible refine x_exb ?_); ((refine' x_iteF ?z306h ?_); case z306h => rfl); (with_reducible refine x_next ?_); (with_reducible refine x_seq ?_); (with_reducible refine x_if ?_); (with_reducible refine x_tB ?_); (with_reducible refine x_cb ?_); (with_reducible refine x_cons ?_); ((with_reducible refine' x_var ?z313h ?_); case z313h => rfl); (with_reducible refine x_cons ?_); (with_reducible refine x_c ?_); (with_reducible refine x_nil ?_); ((with_reducible refine' x_isiD ?z317h1 ?z317h2 ?z317h3 ?_); (case z317h1 => assumption); (case z317h2 => walk_at "rp"); (case z317h3 => decide)); (with_reducible refine x_exb ?_); ((refine' x_iteF ?z319h ?_); case z319h => rfl); (with_reducible refine x_next ?_); (with_reducible refine x_seq ?_); (with_reducible refine x_if ?_); (with_reducible refine x_and ?_); (with_reducible refine x_tB ?_); (with_reducible refine x_cb ?_); (with_reducible refine x_cons ?_); ((with_reducible refine' x_var ?z327h ?_); case z327h => rfl); (with_reducible refine x_cons ?_); (with_reducible refine x_c ?_); (with_reducible refine x_nil ?_); ((with_reducible refine' x_isiD ?z331h1 ?z331h2 ?z331h3 ?_); (case z331h1 => assumption); (case z331h2 => walk_at "rp"); (case z331h3 => decide)); (with_reducible refine x_exb ?_); ((refine' x_iteF ?z333h ?_); case z333h => rfl); (with_reducible refine x_ff _ _ ?_); (with_reducible refine x_next ?_); (with_reducible refine x_seq ?_); (with_reducible refine x_if ?_); (with_reducible refine x_and ?_); (with_reducible refine x_tB ?_); (with_reducible refine x_cb ?_); (with_reducible refine x_cons ?_); ((with_reducible refine' x_var ?z342h ?_); case z342h => rfl); (with_reducible refine x_cons ?_); (with_reducible refine x_c ?_); (with_reducible refine x_nil ?_); ((with_reducible refine' x_isiD ?z346h1 ?z346h2 ?z346h3 ?_); (case z346h1 => assumption); (case z346h2 => walk_at "rp"); (case z346h3 => decide)); (with_reducible refine x_exb ?_); ((refine' x_iteT ?z348h ?_); case z348h => rfl); (with_reducible refine x_not ?_); (with_reducible refine x_tB ?_); (with_reducible refine x_cb ?_); (with_reducible refine x_cons ?_); ((with_reducible refine' x_var ?z353h ?_); case z353h => rfl); (with_reducible refine x_cons ?_); (with_reducible refine x_c ?_); (with_reducible refine x_nil ?_); ((with_reducible refine' x_isiD ?z357h1 ?z357h2 ?z357h3 ?_); (case z357h1 => assumption); (case z357h2 => walk_at "rp"); (case z357h3 => decide)); (with_reducible refine x_exb ?_))
    have r0 := r
    cases r with
    | @lst a0 xs es e0 hz0 rs0 =>
      have l0 := rs0.length
      have l1 := rs1.length
      have hlen0 : ∀ {R : VK}, R (.int (es.length : Nat)) H → rLenX K [.ref a0] H R := fun hR => .inl (x_lenL (SqL.of (hs.up e0)) (by rw [l0]; exact hR))
      have hlen1 : ∀ {R : VK}, R (.int (ds.length : Nat)) H → rLenX K [.ref a1] H R := fun hR => .inl (x_lenL (SqL.of (hs.up e1)) (by rw [l1]; exact hR))
      (((refine' x_iteF ?z359h ?_); case z359h => rfl); (with_reducible refine x_next ?_); (with_reducible refine x_seq ?_); (with_reducible refine x_if ?_); (with_reducible refine x_or ?_); (with_reducible refine x_tB ?_); (with_reducible refine x_cb ?_); (with_reducible refine x_cons ?_); ((with_reducible refine' x_var ?z367h ?_); case z367h => rfl); (with_reducible refine x_cons ?_); (with_reducible refine x_c ?_); (with_reducible refine x_nil ?_); ((with_reducible refine' x_isiD ?z371h1 ?z371h2 ?z371h3 ?_); (case z371h1 => assumption); (case z371h2 => walk_at "rp"); (case z371h3 => decide)); (with_reducible refine x_exb ?_); ((refine' x_iteF ?z373h ?_); case z373h => rfl); (with_reducible refine x_tB ?_); (with_reducible refine x_cb ?_); (with_reducible refine x_cons ?_); ((with_reducible refine' x_var ?z377h ?_); case z377h => rfl); (with_reducible refine x_cons ?_); (with_reducible refine x_c ?_); (with_reducible refine x_nil ?_); ((with_reducible refine' x_isiD ?z381h1 ?z381h2 ?z381h3 ?_); (case z381h1 => assumption); (case z381h2 => walk_at "rp"); (case z381h3 => decide)); (with_reducible refine x_exb ?_); ((refine' x_iteT ?z383h ?_); case z383h => rfl); (with_reducible refine x_seq ?_); (with_reducible refine x_if ?_); (with_reducible refine x_test ?_); (with_reducible refine x_op ?_); (with_reducible refine x_cb ?_); (with_reducible refine x_cons ?_); ((with_reducible refine' x_var ?z390h ?_); case z390h => rfl); (with_reducible refine x_nil ?_))
      refine hlen0 ?_
      ((with_reducible refine x_cb ?_); (with_reducible refine x_cons ?_); ((with_reducible refine' x_var ?z394h ?_); case z394h => rfl); (with_reducible refine x_nil ?_))
      refine hlen1 ?_
      (((with_reducible refine' x_ne ?z396h ?_); case z396h => rfl); (with_reducible refine x_exb ?_))
      refine x_ite (fun h => ?_) (fun h => ?_)
      · ((with_reducible refine x_ret ?_); (with_reducible refine x_c ?_))
        refine k B H _ hs (congrArg V.bl ?_)
        show false = (decide (es.length = ds.length) && _)
        rw [decide_eq_false fun z => by rw [z] at h; simp at h]
        rfl
      · have hl : es.length = ds.length := by
          have h2 := of_decide_eq_true (Bool.not_eq_false' .. ▸ h)
          injection h2 with h2
          omega
        refine x_next ?_
        refine same_loop hs rs0 rs1 hl ok.1 ok.2 okt (fun {H' i x R} s hx hR => .inl (x_ixL (SqL.of (s _ _ e0)) (by rw [atI_natE hx]) hR)) (fun {H' i x R} s hx hR => .inl (x_ixL (SqL.of (s _ _ e1)) (by rw [atI_natE hx]) hR)) hlen1 rfl ?_
        refine fun B' H' v' c z => k B' H' v' c ?_
        rw [z]
        refine congrArg V.bl ?_
        show _ = (decide (es.length = ds.length) && _)
        rw [decide_eq_true hl, Bool.true_and]
    | _ =>
      (((refine' x_iteT ?z400h ?_); case z400h => rfl); (with_reducible refine x_ret ?_); (with_reducible refine x_c ?_))
      exact k B H _ hs rfl
  | @dct a1 k1 ds e1 rk1 =>
    ((with_reducible refine x_seq ?_); (with_reducible refine x_if ?_); (with_reducible refine x_tB ?_); (with_reducible refine x_isN ?_); ((with_reducible refine' x_var ?z407h ?_); case z407h => rfl); (with_reducible refine x_exb ?_); ((refine' x_iteF ?z409h ?_); case z409h => rfl); (with_reducible refine x_next ?_); (with_reducible refine x_seq ?_); (with_reducible refine x_if ?_); (with_reducible refine x_tB ?_); (with_reducible refine x_cb ?_); (with_reducible refine x_cons ?_); ((with_reducible refine' x_var ?z416h ?_); case z416h => rfl); (with_reducible refine x_cons ?_); (with_reducible refine x_c ?_); (with_reducible refine x_nil ?_); ((with_reducible refine' x_isiD ?z420h1 ?z420h2 ?z420h3 ?_); (case z420h1 => assumption); (case z420h2 => walk_at "rp"); (case z420h3 => decide)); (with_reducible refine x_exb ?_); ((refine' x_iteF ?z422h ?_); case z422h => rfl); (with_reducible refine x_next ?_); (with_reducible refine x_seq ?_); (with_reducible refine x_if ?_); (with_reducible refine x_tB ?_); (with_reducible refine x_cb ?_); (with_reducible refine x_cons ?_); ((with_reducible refine' x_var ?z429h ?_); case z429h => rfl); (with_reducible refine x_cons ?_); (with_reducible refine x_c ?_); (with_reducible refine x_nil ?_); ((with_reducible refine' x_isiD ?z433h1 ?z433h2 ?z433h3 ?_); (case z433h1 => assumption); (case z433h2 => walk_at "rp"); (case z433h3 => decide)); (with_reducible refine x_exb ?_); ((refine' x_iteF ?z435h ?_); case z435h => rfl); (with_reducible refine x_next ?_); (with_reducible refine x_seq ?_); (with_reducible refine x_if ?_); (with_reducible refine x_tB ?_); (with_reducible refine x_cb ?_); (with_reducible refine x_cons ?_); ((with_reducible refine' x_var ?z442h ?_); case z442h => rfl); (with_reducible refine x_cons ?_); (with_reducible refine x_c ?_); (with_reducible refine x_nil ?_); ((with_reducible refine' x_isiD ?z446h1 ?z446h2 ?z446h3 ?_); (case z446h1 => assumption); (case z446h2 => walk_at "rp"); (case z446h3 => decide)); (with_reducible refine x_exb ?_); ((refine' x_iteF ?z448h ?_); case z448h => rfl); (with_reducible refine x_next ?_); (with_reducible refine x_seq ?_); (with_reducible refine x_if ?_); (with_reducible refine x_and ?_); (with_reducible refine x_tB ?_); (with_reducible refine x_cb ?_); (with_reducible refine x_cons ?_); ((with_reducible refine' x_var ?z456h ?_); case z456h => rfl); (with_reducible refine x_cons ?_); (with_reducible refine x_c ?_); (with_reducible refine x_nil ?_); ((with_reducible refine' x_isiD ?z460h1 ?z460h2 ?z460h3 ?_); (case z460h1 => assumption); (case z460h2 => walk_at "rp"); (case z460h3 => decide)); (with_reducible refine x_exb ?_); ((refine' x_iteF ?z462h ?_); case z462h => rfl); (with_reducible refine x_ff _ _ ?_); (with_reducible refine x_next ?_); (with_reducible refine x_seq ?_); (with_reducible refine x_if ?_); (with_reducible refine x_and ?_); (with_reducible refine x_tB ?_); (with_reducible refine x_cb ?_); (with_reducible refine x_cons ?_); ((with_reducible refine' x_var ?z471h ?_); case z471h => rfl); (with_reducible refine x_cons ?_); (with_reducible refine x_c ?_); (with_reducible refine x_nil ?_); ((with_reducible refine' x_isiD ?z475h1 ?z475h2 ?z475h3 ?_); (case z475h1 => assumption); (case z475h2 => walk_at "rp"); (case z475h3 => decide)); (with_reducible refine x_exb ?_); ((refine' x_iteF ?z477h ?_); case z477h => rfl); (with_reducible refine x_ff _ _ ?_); (with_reducible refine x_next ?_); (with_reducible refine x_seq ?_); (with_reducible refine x_if ?_); (with_reducible refine x_or ?_); (with_reducible refine x_tB ?_); (with_reducible refine x_cb ?_); (with_reducible refine x_cons ?_); ((with_reducible refine' x_var ?z486h ?_); case z486h => rfl); (with_reducible refine x_cons ?_); (with_reducible refine x_c ?_); (with_reducible refine x_nil ?_); ((with_reducible refine' x_isiD ?z490h1 ?z490h2 ?z490h3 ?_); (case z490h1 => assumption); (case z490h2 => walk_at "rp"); (case z490h3 => decide)); (with_reducible refine x_exb ?_); ((refine' x_iteF ?z492h ?_); case z492h => rfl); (with_reducible refine x_tB ?_); (with_reducible refine x_cb ?_); (with_reducible refine x_cons ?_); ((with_reducible refine' x_var ?z496h ?_); case z496h => rfl); (with_reducible refine x_cons ?_); (with_reducible refine x_c ?_); (with_reducible refine x_nil ?_); ((with_reducible refine' x_isiD ?z500h1 ?z500h2 ?z500h3 ?_); (case z500h1 => assumption); (case z500h2 => walk_at "rp"); (case z500h3 => decide)); (with_reducible refine x_exb ?_); ((refine' x_iteF ?z502h ?_); case z502h => rfl); (with_reducible refine x_next ?_); (with_reducible refine x_seq ?_); (with_reducible refine x_if ?_); (with_reducible refine x_tB ?_); (with_reducible refine x_cb ?_); (with_reducible refine x_cons ?_); ((with_reducible refine' x_var ?z509h ?_); case z509h => rfl); (with_reducible refine x_cons ?_); (with_reducible refine x_c ?_); (with_reducible refine x_nil ?_); ((with_reducible refine' x_isiD ?z513h1 ?z513h2 ?z513h3 ?_); (case z513h1 => assumption); (case z513h2 => walk_at "rp"); (case z513h3 => decide)); (with_reducible refine x_exb ?_); ((refine' x_iteT ?z515h ?_); case z515h => rfl); (with_reducible refine x_seq ?_); (with_reducible refine x_if ?_); (with_reducible refine x_or ?_); (with_reducible refine x_not ?_); (with_reducible refine x_tB ?_); (with_reducible refine x_cb ?_); (with_reducible refine x_cons ?_); ((with_reducible refine' x_var ?z523h ?_); case z523h => rfl); (with_reducible refine x_cons ?_); (with_reducible refine x_c ?_); (with_reducible refine x_nil ?_); ((with_reducible refine' x_isiD ?z527h1 ?z527h2 ?z527h3 ?_); (case z527h1 => assumption); (case z527h2 => walk_at "rp"); (case z527h3 => decide)); (with_reducible refine x_exb ?_))
    have r0 := r
    cases r with
    | @dct a0 k0 es e0 rk0 =>
      have l0 := rk0.length
      have l1 := rk1.length
      obtain ⟨⟨ks, hks⟩, nd, okv⟩ := ok
      (((refine' x_iteF ?z529h ?_); case z529h => rfl); (with_reducible refine x_test ?_); (with_reducible refine x_op ?_); (with_reducible refine x_cb ?_); (with_reducible refine x_cons ?_); ((with_reducible refine' x_var ?z534h ?_); case z534h => rfl); (with_reducible refine x_nil ?_))
      refine .inr (x_lenD (hs.up e0) ?_)
      ((with_reducible refine x_cb ?_); (with_reducible refine x_cons ?_); ((with_reducible refine' x_var ?z538h ?_); case z538h => rfl); (with_reducible refine x_nil ?_))
      refine .inr (x_lenD (hs.up e1) ?_)
      (((with_reducible refine' x_ne ?z540h ?_); case z540h => rfl); (with_reducible refine x_exb ?_))
      refine x_ite (fun h => ?_) (fun h => ?_)
      · ((with_reducible refine x_ret ?_); (with_reducible refine x_c ?_))
        refine k B H _ hs (congrArg V.bl ?_)
        show false = (decide (es.length = ds.length) && _)
        rw [decide_eq_false fun z => by rw [l0, l1, z] at h; simp at h]
        rfl
      have hl : es.length = ds.length := by
        have h2 := of_decide_eq_true (Bool.not_eq_false' .. ▸ h)
        injection h2 with h2
        omega
      refine x_next ?_
      have hkk : k1.map (·.1) = ks.map Sum.inr := by rw [rk1.keysE]; exact hks
      have hs2 := HS.startS (Same.del (d := a1) hs.bh) del_same (hs.up e1)
      have back : ∀ {o : Obj} {B2 H2 : Hp} {b : Bool}, HS [a1] (del B a1) H B2 H2 [(a1, .frz o (.dK k1))] → b = sameD (n + 1) (.dct es) (.dct ds) → Q (.bl b) (upd H2 a1 (.dK k1)) := fun {o B2 H2 b} h2 z => by
        have c := HS.refreeze e1 (h2.set0 (o' := .dK k1))
        exact k _ _ _ c (by rw [z])
      have dk : ∀ x, (.inr x : Key) ∈ ds.map (·.1) → ∃ dx, dval ds (.inr x) = some dx ∧ (Sum.inr x, dx) ∈ ds := fun x mx => by
        obtain ⟨dx, hdx⟩ := Option.isSome_iff_exists.mp (dval_inK mx)
        exact ⟨dx, hdx, dval_mem' hdx⟩
      refine x_seq ?_
      refine l_keys (α := Option V) (σf := fun z => [some (.ref a0), some (.ref a1), none, z]) (Mf := fun _ => []) (P := fun i _ _ => ∀ x ∈ ks.take i, ∀ dx, dval ds (.inr x) = some dx → ∃ ex, dval es (.inr x) = some ex ∧ sameD n ex dx = true) (s0 := none) hkk hs2 (fun x mx => by simp at mx) (fun H' Qv q => ⟨_, rfl, q⟩) (fun o i x z B2 H2 hx sb2 hs2 pp => ?_) (fun z B2 H2 sb2 hs2 pp => ?_)
      · have mxk : (Sum.inr x : Key) ∈ ds.map (·.1) := by rw [hks]; exact List.mem_map.mpr ⟨x, List.mem_of_getElem? hx, rfl⟩
        obtain ⟨dx, hdx, mdx⟩ := dk x mxk
        have rd0 : Rd H2 a0 (.dK k0) := by
          by_cases z : a0 = a1
          · subst z
            rw [e0] at e1
            cases e1
            exact .inr ⟨o, hs2.get List.mem_cons_self⟩
          · exact .inl (hs2.up (sb2 _ _ (by rw [del_ne z]; exact e0)))
        refine x_gname (x_if (x_or (x_tB (x_dnin (x_var rfl (x_var rfl ?_))))))
        refine ⟨a0, _, rfl, .inl ⟨k0, .inr x, rd0, rfl, rfl⟩, ?_⟩
        rw [repK_some rk0]
        refine x_exb ?_
        refine x_ite (fun h1 => ?_) (fun h1 => ?_)
        · refine x_tt _ _ ?_
          refine x_ret (x_c ?_)
          refine ⟨hs2.get List.mem_cons_self, back hs2 ?_⟩
          show false = (decide (es.length = ds.length) && ds.all fun p => match dval es p.1 with | some e => sameD n e p.2 | none => false)
          symm
          rw [Bool.and_eq_false_iff]
          refine .inr (List.all_eq_false.mpr ⟨_, mdx, ?_⟩)
          have : dval es (.inr x) = none := by
            cases e : dval es (.inr x) with
            | none => rfl
            | some _ => rw [e] at h1; cases h1
          dsimp only
          rw [this]
          simp
        have hse : (dval es (.inr x)).isSome = true := by simpa using h1
        obtain ⟨ex, hex⟩ := Option.isSome_iff_exists.mp hse
        obtain ⟨vx, evx, rvx⟩ := vald_get rk0 hse
        rw [vald_of hex] at rvx
        obtain ⟨ux, eux, rux⟩ := vald_get rk1 (p := x) (by rw [hdx]; rfl)
        rw [vald_of hdx] at rux
        obtain ⟨dfd, okd⟩ := okv _ mdx
        obtain ⟨dfe, okte⟩ := okt _ dx ex mdx hex
        refine x_not (x_tB (x_cl (x_cons (x_dget (x_var rfl (x_var rfl ?_))))))
        refine ⟨a0, vx, rfl, .inl ⟨k0, .inr x, rd0, rfl, evx.symm⟩, ?_⟩
        refine x_cons (x_dget (x_var rfl (x_var rfl ?_)))
        refine x_dgF (hs2.get List.mem_cons_self) eux ?_
        refine x_nil ?_
        refine use__law_same hs2 ((dfe K B vx a1 k1 e1 rvx).mono sb2) ((dfd K B ux a1 k1 e1 rux).mono sb2) okd okte (fun B3 H3 sb3 hs3 => ?_)
        refine x_exb ?_
        refine x_ite (fun h2 => ?_) (fun h2 => ?_)
        · refine x_ret (x_c ?_)
          refine ⟨hs3.get List.mem_cons_self, back hs3 ?_⟩
          show false = (decide (es.length = ds.length) && ds.all fun p => match dval es p.1 with | some e => sameD n e p.2 | none => false)
          symm
          rw [Bool.and_eq_false_iff]
          refine .inr (List.all_eq_false.mpr ⟨_, mdx, ?_⟩)
          dsimp only
          rw [hex]
          simpa using h2
        · refine x_next ?_
          refine ⟨some _, B3, rfl, sb2.trans sb3, hs3, fun y my dy hdy => ?_⟩
          rw [take_snoc hx] at my
          rcases List.mem_append.mp my with my | my
          · exact pp y my dy hdy
          · rw [List.mem_singleton.mp my] at hdy ⊢
            rw [hdx] at hdy
            cases hdy
            exact ⟨ex, hex, by simpa using h2⟩
      · rw [List.take_length] at pp
        have c := HS.refreeze e1 hs2
        ((with_reducible refine x_ret ?_); (with_reducible refine x_c ?_))
        refine k _ _ _ c (congrArg V.bl ?_)
        show true = (decide (es.length = ds.length) && ds.all fun p => match dval es p.1 with | some e => sameD n e p.2 | none => false)
        rw [decide_eq_true hl, Bool.true_and]
        symm
        rw [List.all_eq_true]
        intro q mq
        have mk : q.1 ∈ ds.map (·.1) := List.mem_map.mpr ⟨q, mq, rfl⟩
        rw [hks] at mk
        obtain ⟨x, mx, ex⟩ := List.mem_map.mp mk
        have hq : dval ds (.inr x) = some q.2 := by
          rw [ex]
          exact dval_of_mem nd mq
        obtain ⟨e', he', hs'⟩ := pp x mx q.2 hq
        rw [← ex]
        rw [he']
        exact hs'
    | _ =>
      (((refine' x_iteT ?z546h ?_); case z546h => rfl); (with_reducible refine x_tt _ _ ?_); (with_reducible refine x_ret ?_); (with_reducible refine x_c ?_))
      exact k B H _ hs rfl
  | obj _ _ => exact ok.elim
def sp__law_same (K : PySem.W.Frag) : Sp := spr__law_same K 90
end Q

set_option Elab.async false
set_option linter.all false
set_option maxRecDepth 100000
set_option maxHeartbeats 4000000
namespace Q
open PySem PySem.Spec PyProof.Rows L2
/-! ### the plain law: what the law would have read, and what is read -/
def dueGo (xs : List Str) (f : Str → List Str) : List D → (Str → Option Str) → Option (Str → Option Str)
  | [], m => some m
  | .tup [.str a, .str b] :: r, m => if (decide (a ∈ xs) && decide (b ∈ f a)) && (decide (m a = none) && decide (m b = none)) then dueGo xs f r (updO (updO m a (some b)) b (some a)) else none
  | _ :: _, _ => none
theorem dueGo_step {xs : List Str} {f : Str → List Str} {a b : Str} {r : List D} {m : Str → Option Str} : dueGo xs f (.tup [.str a, .str b] :: r) m = if (decide (a ∈ xs) && decide (b ∈ f a)) && (decide (m a = none) && decide (m b = none)) then dueGo xs f r (updO (updO m a (some b)) b (some a)) else none := by
  conv => lhs; unfold dueGo
def isPr : D → Bool
  | .tup [.str _, .str _] => true
  | _ => false
theorem isPr_true {d : D} (h : isPr d = true) : ∃ a b, d = .tup [.str a, .str b] := by
  unfold isPr at h
  split at h
  · exact ⟨_, _, rfl⟩
  · cases h
theorem dueGo_bad {xs : List Str} {f : Str → List Str} {d : D} {r : List D} {m : Str → Option Str} (h : isPr d = false) : dueGo xs f (d :: r) m = none := by
  unfold dueGo
  split
  · rename_i e; cases e
  · rename_i e; cases e; cases h
  · rfl
def InvD (xs : List Str) (f : Str → List Str) (m : Str → Option Str) : Prop := ∀ a b, m a = some b → a ∈ xs ∧ b ∈ f a ∧ m b = some a
def hdLt (k l : List Str) : Prop := ltS (k.headD "") (l.headD "")
/-- what the law would have read of a row of pairs -/
def DueOk (xs : List Str) (f : Str → List Str) (d : D) (m : Str → Option Str) : Prop := ∃ ds, d = .tup ds ∧ dueGo xs f ds (fun _ => none) = some m ∧ (wrF xs m).map pairD = ds
theorem dueGo_congr {xs : List Str} {f g : Str → List Str} (h : ∀ a ∈ xs, f a = g a) : ∀ {ds : List D} {m : Str → Option Str}, dueGo xs f ds m = dueGo xs g ds m
  | [], _ => rfl
  | d :: r, m => by
    cases hp : isPr d with
    | false => rw [dueGo_bad hp, dueGo_bad hp]
    | true =>
      obtain ⟨a, b, rfl⟩ := isPr_true hp
      rw [dueGo_step, dueGo_step]
      by_cases ma : a ∈ xs
      · rw [h a ma, dueGo_congr h]
      · rw [decide_eq_false ma, Bool.false_and, Bool.false_and]
        rfl
theorem DueOk.congr {xs : List Str} {f g : Str → List Str} (h : ∀ a ∈ xs, f a = g a) {d : D} {m : Str → Option Str} (k : DueOk xs f d m) : DueOk xs g d m := by
  obtain ⟨ds, e, h1, h2⟩ := k
  exact ⟨ds, e, by rw [← dueGo_congr h]; exact h1, h2⟩
end Q

set_option Elab.async false
set_option linter.all false
set_option maxRecDepth 100000
set_option maxHeartbeats 4000000
namespace Q
open PySem PySem.Spec PyProof.Rows L2
local macro_rules | `(tactic| walk_at "bf") => `(tactic| first | assumption | (refine' bstep (by assumption) ?r; case r => walk_at "bf") | fail)
local macro_rules | `(tactic| walk_at "rp") => `(tactic| first | assumption | exact Rep.int _ | exact Rep.bl _ | exact Rep.non | (refine' Rep.mono (by assumption) ?r; case r => walk_at "rp") | fail)
local macro_rules | `(tactic| walk_at "hf") => `(tactic| first | assumption | exact HS.up (by assumption) (by walk_at "bf") | exact HS.get (by assumption) List.mem_cons_self | exact HS.get (by assumption) (List.mem_cons_of_mem _ List.mem_cons_self) | exact HS.get (by assumption) (List.mem_cons_of_mem _ (List.mem_cons_of_mem _ List.mem_cons_self)) | exact HS.get (by assumption) (List.mem_cons_of_mem _ (List.mem_cons_of_mem _ (List.mem_cons_of_mem _ List.mem_cons_self))) | fail)
local macro_rules | `(tactic| walk_at "sl") => `(tactic| first | assumption | exact SqL.of (by walk_at "hf") | fail)
local macro_rules | `(tactic| walk_at "st") => `(tactic| first | assumption | exact SqT.of (by walk_at "hf") | fail)
local macro_rules | `(tactic| walk_at "sz") => `(tactic| first | assumption | (refine small_le ?_; first | assumption | omega | (simp; done) | (simp; omega)) | fail)
theorem Deal.keys {xs : List Str} {op : Str → List Str} {ds : List (Key × D)} {m : Nat} (dl : Deal xs op (.dct ds)) (nd : xs.Nodup) (st : StrK ds m) : ∃ ks : List Str, ds.map (·.1) = ks.map Sum.inr ∧ ks.Perm xs ∧ SclD ds := by
  obtain ⟨ks, hk⟩ := st.st
  obtain ⟨ds', e, hlen, hsome⟩ := sameKeys_dct dl.sk
  cases e
  have ndk := st.nd
  rw [hk] at ndk
  have ndk : ks.Nodup := (List.pairwise_map.mp ndk).imp fun {a b} ne z => ne (by rw [z])
  have hl := congrArg List.length hk
  rw [List.length_map, List.length_map] at hl
  have inK : ∀ {a : Str} {d : D}, dval ds (.inr a) = some d → a ∈ ks := fun {a d} e => by
    have : (Sum.inr a : Key) ∈ ds.map (·.1) := List.mem_map.mpr ⟨_, dval_mem' e, rfl⟩
    rw [hk] at this
    obtain ⟨y, my, e⟩ := List.mem_map.mp this
    rw [← Sum.inr.inj e]
    exact my
  have h1 : ∀ x ∈ xs, x ∈ ks := fun x mx => by
    obtain ⟨d, hd⟩ := Option.isSome_iff_exists.mp (hsome x mx)
    exact inK hd
  have h2 : ∀ x ∈ ks, x ∈ xs := fun x mx => Classical.byContradiction fun z => by
    have := nodup_len (xs := x :: xs) (ys := ks) (List.nodup_cons.mpr ⟨z, nd⟩) fun y my => by
      rcases List.mem_cons.mp my with rfl | my
      · exact mx
      · exact h1 y my
    rw [List.length_cons] at this
    omega
  refine ⟨ks, hk, (List.perm_ext_iff_of_nodup ndk nd).mpr fun a => ⟨h2 a, h1 a⟩, fun a d e => ?_⟩
  rcases dl.dvals (h2 a (inK e)) with z | ⟨c, z, _⟩
  · rw [z] at e; exact .inl (Option.some.inj e).symm
  · rw [z] at e; exact .inr ⟨c, (Option.some.inj e).symm⟩
theorem Deal.mate {xs : List Str} {op : Str → List Str} {d : D} (dl : Deal xs op d) {a b : Str} (ma : a ∈ xs) (e : part d a = some b) : b ∈ op a ∧ part d b = some a := by
  rcases dl.ok a ma with z | ⟨c, z1, z2, z3⟩
  · unfold part at e; rw [z] at e; cases e
  · unfold part at e ⊢
    rw [z1] at e
    cases e
    exact ⟨z2, by rw [z3]⟩
abbrev N_as_pairs : List Str := ["group", "x"]
def t_as_pairs (K : PySem.W.Frag) (E : XK) : TS := (tSeq (tDrop (tCl (sp_check_dealing K) (WE0 E) (tCons (tVar 0) (tCons (tVar 1) tNil))))
  (tRet (tCl (sp_written K) (WE0 E) (tCons (tVar 1) tNil))))
def sp_as_pairs (K : PySem.W.Frag) : Sp := fun vs H Q E => ∃ (p : Addr) (v : V) (B : Hp) (G : Grp) (d : D) (m : Nat), vs = [.ref p, v] ∧ Same B H ∧ GAt K B p G ∧ Rep K B v d ∧ MayDeal m d ∧ m < 64 ∧
  (isDeal G.names G.open d = true → ∀ B' H' t us, HS [] B H B' H' [] → B' t = some (.tup us) → TRs B' us (wrF G.names (part d)) → Q (.ref t) H') ∧ (isDeal G.names G.open d = false → Thr0 K B H E "NoDealing")
abbrev N__law_written_back : List Str := ["_law_group_here", "_law_x", "_law_told"]
def t__law_written_back (K : PySem.W.Frag) (E : XK) : TS := (tSeq (tAsg (tC .non) (gName 2))
  (tSeq (tTryOnly K (.ref (He.ga K "NoDealing")) (fun a1 cls1 d1 => (tAsg (tC (.str "refused")) (gName 2))) (WE0 E) (fun W1 => (tAsg (tCl (sp_as_pairs K) W1 (tCons (tVar 0) (tCons (tVar 1) tNil))) (gName 2))))
  (tRet (tVar 2))))
def sp__law_written_back (K : PySem.W.Frag) : Sp := fun vs H Q E => ∃ (p : Addr) (v : V) (B : Hp) (G : Grp) (d : D) (m : Nat), vs = [.ref p, v] ∧ Same B H ∧ GAt K B p G ∧ Rep K B v d ∧ MayDeal m d ∧ m < 64 ∧
  (isDeal G.names G.open d = true → ∀ B' H' t us, HS [] B H B' H' [] → B' t = some (.tup us) → TRs B' us (wrF G.names (part d)) → Q (.ref t) H') ∧ (isDeal G.names G.open d = false → Ret B H Q fun _ r => r = .str "refused")
abbrev N__law_read14 : List Str := ["_law_group_here", "_law_row", "_law_told"]
def t__law_read14 (K : PySem.W.Frag) (E : XK) : TS := (tSeq (tAsg (tC .non) (gName 2))
  (tSeq (tTryOnly K (.ref (He.ga K "NoDealing")) (fun a1 cls1 d1 => (tAsg (tC (.str "refused")) (gName 2))) (WE0 E) (fun W1 => (tAsg (tCl (sp_from_pairs K) W1 (tCons (tVar 0) (tCons (tVar 1) tNil))) (gName 2))))
  (tRet (tVar 2))))
def sp__law_read14 (K : PySem.W.Frag) : Sp := fun vs H Q E => ∃ (p : Addr) (v : V) (B : Hp) (G : Grp) (d : D), vs = [.ref p, v] ∧ Same B H ∧ GAt K B p G ∧ Rep K B v d ∧
  (∀ m, fromP G d = some m → ∀ B' H' x, HS [] B H B' H' [] → B' x = some (.dK (zipO G.names m)) → Q (.ref x) H') ∧ (fromP G d = none → Ret B H Q fun _ r => r = .str "refused")
abbrev N__law_due14 : List Str := ["_law_mutual_here", "_law_row", "_law_x", "_law_a", "_law_pair", "_law_b"]
def t__law_due14 (K : PySem.W.Frag) (E : XK) : TS := (tSeq (tIfS (tNot (tB (tCB (rIsi K) (tCons (tVar 1) (tCons (tC (.ty "tuple")) tNil))))) (tRet (tC (.str "refused"))) tNext)
  (tSeq (tAsg tDNewK (gName 2))
  (tSeq (tLock (tFor (iKeys (tVar 0)) (gName 3) (sDPut (tVar 2) (tVar 3) (tC .non))))
  (tSeq (tFor (iTup K (tVar 1)) (gName 4) (tSeq (tIfS (tOr (tNot (tB (tCB (rIsi K) (tCons (tVar 4) (tCons (tC (.ty "tuple")) tNil))))) (tTest (tOp rNe (tCB (rLenA K) (tCons (tVar 4) tNil)) (tC (.int 2))))) (tRet (tC (.str "refused"))) tNext)
  (tSeq (tAsg (tOp (rIxT K) (tVar 4) (tC (.int 0))) (gName 3))
  (tSeq (tAsg (tOp (rIxT K) (tVar 4) (tC (.int 1))) (gName 5))
  (tSeq (tIfS (tOr (tNot (tB (tCB (rIsi K) (tCons (tVar 3) (tCons (tC (.ty "str")) tNil))))) (tOr (tNot (tB (tCB (rIsi K) (tCons (tVar 5) (tCons (tC (.ty "str")) tNil))))) (tOr (tB (tDNotIn (tVar 3) (tVar 0))) (tTest (tOp (rIn K true) (tVar 5) (tDGet (tVar 0) (tVar 3))))))) (tRet (tC (.str "refused"))) tNext)
  (tSeq (tIfS (tOr (tB (tNotN (tDGet (tVar 2) (tVar 3)))) (tB (tNotN (tDGet (tVar 2) (tVar 5))))) (tRet (tC (.str "refused"))) tNext)
  (tSeq (sDPut (tVar 2) (tVar 3) (tVar 5))
  (sDPut (tVar 2) (tVar 5) (tVar 3)))))))))
  (tSeq (tIfS (tTest (tOp (rNeD K) (tCl (sp__law_written K) (WE0 E) (tCons (tVar 2) tNil)) (tVar 1))) (tRet (tC (.str "refused"))) tNext)
  (tRet (tVar 2)))))))
def sp__law_due14 (K : PySem.W.Frag) : Sp := fun vs H Q E => ∃ (m : Addr) (v : V) (kvs : List (Key × V)) (xs : List Str) (f : Str → List Str) (d : D) (B : Hp), vs = [.ref m, v] ∧ Same B H ∧ B m = none ∧ H m = some (.dK kvs) ∧ WAt B xs kvs f ∧ Mut xs f ∧ Rep K B v d ∧
  (∀ g, DueOk xs f d g → ∀ B' H' x, HS [] B H B' H' [] → B' x = some (.dK (zipO xs g)) → Q (.ref x) H') ∧ ((∀ g, ¬ DueOk xs f d g) → Ret B H Q fun _ r => r = .str "refused")
end Q

set_option Elab.async false
set_option linter.all false
set_option maxRecDepth 100000
set_option maxHeartbeats 4000000
namespace Q
open PySem PySem.Spec PyProof.Rows L2
local macro_rules | `(tactic| walk_at "bf") => `(tactic| first | assumption | (refine' bstep (by assumption) ?r; case r => walk_at "bf") | fail)
local macro_rules | `(tactic| walk_at "rp") => `(tactic| first | assumption | exact Rep.int _ | exact Rep.bl _ | exact Rep.non | (refine' Rep.mono (by assumption) ?r; case r => walk_at "rp") | fail)
local macro_rules | `(tactic| walk_at "hf") => `(tactic| first | assumption | exact HS.up (by assumption) (by walk_at "bf") | exact HS.get (by assumption) List.mem_cons_self | exact HS.get (by assumption) (List.mem_cons_of_mem _ List.mem_cons_self) | exact HS.get (by assumption) (List.mem_cons_of_mem _ (List.mem_cons_of_mem _ List.mem_cons_self)) | exact HS.get (by assumption) (List.mem_cons_of_mem _ (List.mem_cons_of_mem _ (List.mem_cons_of_mem _ List.mem_cons_self))) | fail)
local macro_rules | `(tactic| walk_at "sl") => `(tactic| first | assumption | exact SqL.of (by walk_at "hf") | fail)
local macro_rules | `(tactic| walk_at "st") => `(tactic| first | assumption | exact SqT.of (by walk_at "hf") | fail)
local macro_rules | `(tactic| walk_at "sz") => `(tactic| first | assumption | (refine small_le ?_; first | assumption | omega | (simp; done) | (simp; omega)) | fail)
abbrev N__law_spoilt_row : List Str := ["_law_state", "_law_names_here", "_law_row", "_law_kind", "_law_value_here", "_law_pairs", "_law_at", "_law_other"]
def t__law_spoilt_row (K : PySem.W.Frag) (E : XK) : TS := (tSeq (tAsg (tCl (sp__law_take K) (WE0 E) (tCons (tVar 0) (tCons (tC (.int 8)) tNil))) (gName 3))
  (tSeq (tAsg (tCl (sp__law_value K) (WE0 E) (tCons (tVar 0) tNil)) (gName 4))
  (tSeq (tIfS (tTest (tOp rEq (tVar 3) (tC (.int 1)))) (tRet (tVar 4)) tNext)
  (tSeq (tIfS (tTest (tOp rEq (tVar 3) (tC (.int 2)))) (tRet (tCB (rListOf K) (tCons (tVar 2) tNil))) tNext)
  (tSeq (tAsg (tCB (rListOf K) (tCons (tVar 2) tNil)) (gName 5))
  (tSeq (tAsg (tCl (sp__law_take K) (WE0 E) (tCons (tVar 0) (tCons (tOp rAddI (tCB (rLenA K) (tCons (tVar 5) tNil)) (tC (.int 1))) tNil))) (gName 6))
  (tSeq (tAsg (tCl (sp__law_take K) (WE0 E) (tCons (tVar 0) (tCons (tOp rAddI (tCB (rLenA K) (tCons (tVar 5) tNil)) (tC (.int 1))) tNil))) (gName 7))
  (tSeq (tIfS (tTest (tOp rEq (tVar 3) (tC (.int 3)))) (tDrop (tBM K "list" rInsert (tVar 5) (tCons (tVar 6) (tCons (tVar 4) tNil)))) tNext)
  (tSeq (tIfS (tAnd (tTest (tOp rEq (tVar 3) (tC (.int 4)))) (tTest (tOp rGtI (tCB (rLenA K) (tCons (tVar 1) tNil)) (tC (.int 1))))) (tDrop (tBM K "list" rInsert (tVar 5) (tCons (tVar 6) (tCons (tTup (tCons (tOp (rIxL K) (tVar 1) (tCl (sp__law_take K) (WE0 E) (tCons (tVar 0) (tCons (tCB (rLenA K) (tCons (tVar 1) tNil)) tNil)))) (tCons (tOp (rIxL K) (tVar 1) (tCl (sp__law_take K) (WE0 E) (tCons (tVar 0) (tCons (tCB (rLenA K) (tCons (tVar 1) tNil)) tNil)))) tNil))) tNil)))) tNext)
  (tSeq (tIfS (tAnd (tTest (tOp rLtI (tVar 6) (tCB (rLenA K) (tCons (tVar 2) tNil)))) (tTest (tOp rLtI (tVar 7) (tCB (rLenA K) (tCons (tVar 2) tNil))))) (tSeq (tIfS (tTest (tOp rEq (tVar 3) (tC (.int 5)))) (tSeq (tAsg (tOp (rIxT K) (tVar 2) (tVar 7)) (gSub (tVar 5) (tVar 6) rSetL))
  (tAsg (tOp (rIxT K) (tVar 2) (tVar 6)) (gSub (tVar 5) (tVar 7) rSetL))) tNext)
  (tSeq (tIfS (tTest (tOp rEq (tVar 3) (tC (.int 6)))) (tAsg (tTup (tCons (tOp (rIxT K) (tOp (rIxT K) (tVar 2) (tVar 6)) (tC (.int 1))) (tCons (tOp (rIxT K) (tOp (rIxT K) (tVar 2) (tVar 6)) (tC (.int 0))) tNil))) (gSub (tVar 5) (tVar 6) rSetL)) tNext)
  (tIfS (tTest (tOp rEq (tVar 3) (tC (.int 7)))) (tDrop (tBM K "list" rInsert (tVar 5) (tCons (tVar 7) (tCons (tOp (rIxT K) (tVar 2) (tVar 6)) tNil)))) tNext))) tNext)
  (tRet (tCB (rTupOf K) (tCons (tVar 5) tNil)))))))))))))
def sp__law_spoilt_row (K : PySem.W.Frag) : Sp := fun vs H Q E => ∃ (p n t : Addr) (a b : Int) (xs : List Str) (us : List V) (ks : List (List Str)) (B : Hp), vs = [.ref p, .ref n, .ref t] ∧ Same B H ∧ B p = none ∧ H p = some (stO a b) ∧ VSt a b ∧ B n = some (.lst (xs.map V.str)) ∧ xs.length ≤ 25 ∧ (∀ x ∈ xs, okName x = true) ∧ B t = some (.tup us) ∧ TRs B us ks ∧ (∀ k ∈ ks, ∃ a b : Str, k = [a, b] ∧ a.length ≤ 1000000 ∧ b.length ≤ 1000000) ∧ us.length ≤ 64 ∧
  ∀ B' H' a' b' v d, HS [p] B H B' H' [(p, stO a' b')] → VSt a' b' → Rep K B' v d → Q v H'
end Q

set_option Elab.async false
set_option linter.all false
set_option maxRecDepth 100000
set_option maxHeartbeats 4000000
namespace Q
open PySem PySem.Spec PyProof.Rows L2
local macro_rules | `(tactic| walk_at "bf") => `(tactic| first | assumption | (refine' bstep (by assumption) ?r; case r => walk_at "bf") | fail)
local macro_rules | `(tactic| walk_at "rp") => `(tactic| first | assumption | exact Rep.int _ | exact Rep.bl _ | exact Rep.non | (refine' Rep.mono (by assumption) ?r; case r => walk_at "rp") | fail)
local macro_rules | `(tactic| walk_at "hf") => `(tactic| first | assumption | exact HS.up (by assumption) (by walk_at "bf") | exact HS.get (by assumption) List.mem_cons_self | exact HS.get (by assumption) (List.mem_cons_of_mem _ List.mem_cons_self) | exact HS.get (by assumption) (List.mem_cons_of_mem _ (List.mem_cons_of_mem _ List.mem_cons_self)) | exact HS.get (by assumption) (List.mem_cons_of_mem _ (List.mem_cons_of_mem _ (List.mem_cons_of_mem _ List.mem_cons_self))) | fail)
local macro_rules | `(tactic| walk_at "sl") => `(tactic| first | assumption | exact SqL.of (by walk_at "hf") | fail)
local macro_rules | `(tactic| walk_at "st") => `(tactic| first | assumption | exact SqT.of (by walk_at "hf") | fail)
local macro_rules | `(tactic| walk_at "sz") => `(tactic| first | assumption | (refine small_le ?_; first | assumption | omega | (simp; done) | (simp; omega)) | fail)
/-! ### wishes of rings of told sizes -/
abbrev N__law_ring_wishes : List Str := ["_law_state", "_law_names_here", "_law_sizes", "_law_order", "_law_wishes_here", "_law_at", "_law_turn", "_law_size", "_law_block", "_law_k", "_law_ring", "_law_head", "_law_tail", "_law_b"]
def t__law_ring_wishes (K : PySem.W.Frag) (E : XK) : TS := (tSeq (tAsg (tCl (sp__law_mixed K) (WE0 E) (tCons (tVar 0) (tCons (tVar 1) tNil))) (gName 3))
  (tSeq (tAsg tDNewK (gName 4))
  (tSeq (tAsg (tC (.int 0)) (gName 5))
  (tSeq (tFor (iRng1 (tCons (tCB (rLenA K) (tCons (tVar 3) tNil)) tNil)) (gName 6) (tSeq (tAsg (tC (.int 0)) (gName 7))
  (tSeq (tIfS (tTest (tOp rLtI (tVar 5) (tCB (rLenA K) (tCons (tVar 3) tNil)))) (tAsg (tOp (rIxL K) (tVar 2) (tCl (sp__law_take K) (WE0 E) (tCons (tVar 0) (tCons (tCB (rLenA K) (tCons (tVar 2) tNil)) tNil)))) (gName 7)) tNext)
  (tSeq (tAsg (tSl (rSlL K) (tVar 3) (tPart (tVar 5)) (tPart (tOp rAddI (tVar 5) (tVar 7)))) (gName 8))
  (tSeq (tAug 5 (tVar 7) (ipI fun i j => i + j))
  (tFor (iRng1 (tCons (tCB (rLenA K) (tCons (tVar 8) tNil)) tNil)) (gName 9) (tSeq (tAsg (tOp rCat (tSl (rSlL K) (tVar 8) (tPart (tOp rAddI (tVar 9) (tC (.int 1)))) tNoPart) (tSl (rSlL K) (tVar 8) tNoPart (tPart (tVar 9)))) (gName 10))
  (tSeq (tAsg (tSl (rSlL K) (tVar 10) tNoPart (tPart (tC (.int 1)))) (gName 11))
  (tSeq (tIfS (tTest (tOp rGtI (tCB (rLenA K) (tCons (tVar 10) tNil)) (tC (.int 1)))) (tAsg (tLst (tCons (tOp (rIxL K) (tVar 10) (tC (.int 0))) (tCons (tOp (rIxL K) (tVar 10) (tUn rNegI (tC (.int 1)))) tNil))) (gName 11)) tNext)
  (tSeq (tAsg (tCl (sp__law_mixed K) (WE0 E) (tCons (tVar 0) (tCons (tLc (iList K (tCl (sp__law_others K) (WE0 E) (tCons (tVar 1) (tCons (tOp (rIxL K) (tVar 8) (tVar 9)) tNil)))) (gName 13) (tTest (tOp (rIn K true) (tVar 13) (tVar 11))) (tVar 13) [13]) tNil))) (gName 12))
  (tSeq (tAsg (tSl (rSlL K) (tVar 12) tNoPart (tPart (tCl (sp__law_take K) (WE0 E) (tCons (tVar 0) (tCons (tOp rAddI (tCB (rLenA K) (tCons (tVar 12) tNil)) (tC (.int 1))) tNil))))) (gName 12))
  (tSeq (tIfS (tAnd (tTr K (tVar 12)) (tTest (tOp rEq (tCl (sp__law_take K) (WE0 E) (tCons (tVar 0) (tCons (tC (.int 6)) tNil))) (tC (.int 0))))) (tSeq (tAsg (tOp rCat (tSl (rSlL K) (tVar 12) tNoPart (tPart (tC (.int 1)))) (tVar 11)) (gName 11))
  (tAsg (tSl (rSlL K) (tVar 12) (tPart (tC (.int 1))) tNoPart) (gName 12))) tNext)
  (sDPut (tVar 4) (tOp (rIxL K) (tVar 8) (tVar 9)) (tOp rCat (tVar 11) (tVar 12)))))))))))))))
  (tRet (tVar 4))))))
def sp__law_ring_wishes (K : PySem.W.Frag) : Sp := fun vs H Q E => ∃ (p t sz : Addr) (szs : List Nat) (B : Hp), vs = [.ref p, .ref t, .ref sz] ∧ Same B H ∧ B sz = some (.lst (szs.map fun n : Nat => V.int (n : Int))) ∧ 0 < szs.length ∧ szs.length ≤ 1000 ∧ (∀ n ∈ szs, 1 ≤ n ∧ n ≤ 7) ∧
  ∃ (a b : Int) (xs : List Str), B p = none ∧ H p = some (stO a b) ∧ VSt a b ∧ B t = some (.lst (xs.map V.str)) ∧ xs.length ≤ 25 ∧ xs.Nodup ∧
  ∀ B' H' a' b' w kvs done, HS [p] B H B' H' [(p, stO a' b'), (w, .dK kvs)] → VSt a' b' → done.Perm xs → WRows B' xs done kvs → Q (.ref w) H'
abbrev N__law_many : List Str := ["_law_state", "_law_top"]
def t__law_many (K : PySem.W.Frag) (E : XK) : TS := (tRet (tCB rMax2 (tCons (tCl (sp__law_take K) (WE0 E) (tCons (tVar 0) (tCons (tOp rAddI (tVar 1) (tC (.int 1))) tNil))) (tCons (tCl (sp__law_take K) (WE0 E) (tCons (tVar 0) (tCons (tOp rAddI (tVar 1) (tC (.int 1))) tNil))) tNil))))
def sp__law_many (K : PySem.W.Frag) : Sp := fun vs H Q E => ∃ (p : Addr) (top : Nat) (a b : Int) (B : Hp), vs = [.ref p, .int (top : Nat)] ∧ Same B H ∧ B p = none ∧ H p = some (stO a b) ∧ VSt a b ∧ top ≤ 1000 ∧ ∀ B' H' a' b' (n : Nat), HS [p] B H B' H' [(p, stO a' b')] → VSt a' b' → n ≤ top → Q (.int (n : Nat)) H'
end Q

set_option Elab.async false
set_option linter.all false
set_option maxRecDepth 100000
set_option maxHeartbeats 4000000
namespace Q
open PySem PySem.Spec PyProof.Rows L2
local macro_rules | `(tactic| walk_at "bf") => `(tactic| first | assumption | (refine' bstep (by assumption) ?r; case r => walk_at "bf") | fail)
local macro_rules | `(tactic| walk_at "rp") => `(tactic| first | assumption | exact Rep.int _ | exact Rep.bl _ | exact Rep.non | (refine' Rep.mono (by assumption) ?r; case r => walk_at "rp") | fail)
local macro_rules | `(tactic| walk_at "hf") => `(tactic| first | assumption | exact HS.up (by assumption) (by walk_at "bf") | exact HS.get (by assumption) List.mem_cons_self | exact HS.get (by assumption) (List.mem_cons_of_mem _ List.mem_cons_self) | exact HS.get (by assumption) (List.mem_cons_of_mem _ (List.mem_cons_of_mem _ List.mem_cons_self)) | exact HS.get (by assumption) (List.mem_cons_of_mem _ (List.mem_cons_of_mem _ (List.mem_cons_of_mem _ List.mem_cons_self))) | fail)
local macro_rules | `(tactic| walk_at "sl") => `(tactic| first | assumption | exact SqL.of (by walk_at "hf") | fail)
local macro_rules | `(tactic| walk_at "st") => `(tactic| first | assumption | exact SqT.of (by walk_at "hf") | fail)
local macro_rules | `(tactic| walk_at "sz") => `(tactic| first | assumption | (refine small_le ?_; first | assumption | omega | (simp; done) | (simp; omega)) | fail)
/-! ### wishes whose rows may still be changed -/
def RowsOk (xs rs : List Str) (ws : Str → List Str) : Prop := ∀ q ∈ rs, RowOk xs q (ws q)
theorem RowsOk.new {xs rs : List Str} {ws : Str → List Str} {x : Str} {row : List Str} (h : RowsOk xs rs ws) (hr : RowOk xs x row) : RowsOk xs (rs ++ [x]) (updW ws x row) := fun q mq => by
  by_cases e : q = x
  · rw [e, updW_eq]; exact hr
  · rw [updW_ne e]
    rcases List.mem_append.mp mq with m | m
    · exact h q m
    · exact absurd (List.mem_singleton.mp m) e
theorem RowsOk.over {xs rs : List Str} {ws : Str → List Str} {x : Str} {row : List Str} (h : RowsOk xs rs ws) (hr : RowOk xs x row) : RowsOk xs rs (updW ws x row) := fun q mq => by
  by_cases e : q = x
  · rw [e, updW_eq]; exact hr
  · rw [updW_ne e]
    exact h q mq
abbrev N__law_side_wishesM : List Str := ["_law_state", "_law_names_here", "_law_order", "_law_left", "_law_right", "_law_turned", "_law_wishes_here", "_law_k"]
def t__law_side_wishesM (K : PySem.W.Frag) (E : XK) : TS := (tSeq (tAsg (tCl (sp__law_mixed K) (WE0 E) (tCons (tVar 0) (tCons (tVar 1) tNil))) (gName 2))
  (tSeq (tAsg (tSl (rSlL K) (tVar 2) tNoPart (tPart (tOp rDivI (tCB (rLenA K) (tCons (tVar 2) tNil)) (tC (.int 2))))) (gName 3))
  (tSeq (tAsg (tSl (rSlL K) (tVar 2) (tPart (tOp rDivI (tCB (rLenA K) (tCons (tVar 2) tNil)) (tC (.int 2)))) tNoPart) (gName 4))
  (tSeq (tAsg (tCl (sp__law_take K) (WE0 E) (tCons (tVar 0) (tCons (tC (.int 2)) tNil))) (gName 5))
  (tSeq (tAsg tDNewK (gName 6))
  (tSeq (tFor (iRng1 (tCons (tCB (rLenA K) (tCons (tVar 3) tNil)) tNil)) (gName 7) (tSeq (sDPut (tVar 6) (tOp (rIxL K) (tVar 3) (tVar 7)) (tOp rCat (tSl (rSlL K) (tVar 4) (tPart (tVar 7)) tNoPart) (tSl (rSlL K) (tVar 4) tNoPart (tPart (tVar 7)))))
  (tIfS (tTest (tOp rEq (tVar 5) (tC (.int 0)))) (sDPut (tVar 6) (tOp (rIxL K) (tVar 3) (tVar 7)) (tCl (sp__law_mixed K) (WE0 E) (tCons (tVar 0) (tCons (tVar 4) tNil)))) tNext)))
  (tSeq (tFor (iRng1 (tCons (tCB (rLenA K) (tCons (tVar 4) tNil)) tNil)) (gName 7) (tSeq (sDPut (tVar 6) (tOp (rIxL K) (tVar 4) (tVar 7)) (tOp rCat (tSl (rSlL K) (tVar 3) (tPart (tOp rAddI (tVar 7) (tC (.int 1)))) tNoPart) (tSl (rSlL K) (tVar 3) tNoPart (tPart (tOp rAddI (tVar 7) (tC (.int 1)))))))
  (tIfS (tTest (tOp rEq (tVar 5) (tC (.int 0)))) (sDPut (tVar 6) (tOp (rIxL K) (tVar 4) (tVar 7)) (tCl (sp__law_mixed K) (WE0 E) (tCons (tVar 0) (tCons (tVar 3) tNil)))) tNext)))
  (tRet (tVar 6)))))))))
def spWM (p t : Addr) (H : Hp) (Q : VK) : Prop := ∃ (a b : Int) (xs : List Str) (B : Hp), Same B H ∧ B p = none ∧ H p = some (stO a b) ∧ VSt a b ∧ B t = some (.lst (xs.map V.str)) ∧ xs.length ≤ 25 ∧ xs.Nodup ∧
  ∀ B' H' a' b' w done f ws, HS [p] B H B' H' ((p, stO a' b') :: (w, .dK (zipF done f)) :: lsF done f ws) → VSt a' b' → done.Perm xs → RowsOk xs done ws → Q (.ref w) H'
def sp__law_side_wishesM (K : PySem.W.Frag) : Sp := fun vs H Q E => ∃ (p t : Addr), vs = [.ref p, .ref t] ∧ spWM p t H Q
end Q

set_option Elab.async false
set_option linter.all false
set_option maxRecDepth 100000
set_option maxHeartbeats 4000000
namespace Q
open PySem PySem.Spec PyProof.Rows L2
theorem HS.stillLS {S : List Addr} {B0 H0 : Hp} {M : List (Addr × HO)} : ∀ {N : List (Addr × HO)} {B H : Hp}, HS S B0 H0 B H (N ++ M) → (∀ q ∈ N, q.1 ∉ S) → ∃ B', HS S B0 H0 B' H M ∧ Same B B' ∧ ∀ q ∈ N, B' q.1 = some q.2
  | [], B, H, h, _ => ⟨B, h, Same.refl _, fun _ m => (nomatch m)⟩
  | (p, o) :: N, B, H, h, hn => by
    obtain ⟨h1, s1⟩ := HS.still (p := p) (o := o) h (hn _ List.mem_cons_self)
    obtain ⟨B', h2, s2, h3⟩ := HS.stillLS h1 fun q m => hn q (List.mem_cons_of_mem _ m)
    refine ⟨B', h2, s1.trans s2, fun q m => ?_⟩
    rcases List.mem_cons.mp m with rfl | m
    · exact s2 _ _ upd_same
    · exact h3 q m
theorem HS.ne_rest {S : List Addr} {B0 H0 B H : Hp} {p : Addr} {o : HO} {M : List (Addr × HO)} (h : HS S B0 H0 B H ((p, o) :: M)) {q : Addr × HO} (m : q ∈ M) : q.1 ≠ p := fun e => by
  have := h.nd
  rw [List.map_cons, List.nodup_cons] at this
  exact this.1 (List.mem_map.mpr ⟨q, m, e⟩)
theorem rows_still {B0 H0 B H : Hp} {p w : Addr} {o u : HO} {xs done : List Str} {f : Str → Addr} {ws : Str → List Str} (h : HS [p] B0 H0 B H ((p, o) :: (w, u) :: lsF done f ws)) (ok : RowsOk xs done ws) : ∃ B', HS [p] B0 H0 B' H [(p, o), (w, u)] ∧ Same B B' ∧ WRows B' xs done (zipF done f) := by
  have h0 : HS [p] B0 H0 B H (lsF done f ws ++ [(p, o), (w, u)]) := h.perm (List.perm_append_comm (l₁ := [(p, o), (w, u)]))
  obtain ⟨B', h1, s1, h2⟩ := HS.stillLS h0 fun q m => by
    have := h.ne_rest (List.mem_cons_of_mem _ m)
    simpa using this
  refine ⟨B', h1, s1, done.map f, List.length_map _, (zipK_map done f).symm, fun j q a e1 e2 => ?_⟩
  rw [List.getElem?_map, e1] at e2
  cases e2
  have mq := List.mem_of_getElem? e1
  exact ⟨ws q, h2 (f q, .lst ((ws q).map V.str)) (List.mem_map.mpr ⟨q, mq, rfl⟩), ok q mq⟩
theorem spWM.w {p t : Addr} {H : Hp} {Q : VK} (h : spW p t H Q) : spWM p t H Q := by
  obtain ⟨a, b, xs, B, sB, bp, hp, hv, ht, hl, nd, k⟩ := h
  refine ⟨a, b, xs, B, sB, bp, hp, hv, ht, hl, nd, fun B' H' a' b' w done f ws c v' pe ok => ?_⟩
  obtain ⟨B2, c2, s2, wr⟩ := rows_still c ok
  exact k B2 H' a' b' w _ done c2 v' pe wr
abbrev N__law_wishesM : List Str := ["_law_state", "_law_names_here", "_law_mode"]
def t__law_wishesM (K : PySem.W.Frag) (E : XK) : TS := (tSeq (tAsg (tCl (sp__law_take K) (WE0 E) (tCons (tVar 0) (tCons (tC (.int 9)) tNil))) (gName 2))
  (tSeq (tIfS (tTest (tOp rGtI (tVar 2) (tC (.int 6)))) (tRet (tCl (sp__law_block_wishes K) (WE0 E) (tCons (tVar 0) (tCons (tVar 1) tNil)))) tNext)
  (tSeq (tIfS (tTest (tOp rGtI (tVar 2) (tC (.int 4)))) (tRet (tCl (sp__law_side_wishesM K) (WE0 E) (tCons (tVar 0) (tCons (tVar 1) tNil)))) tNext)
  (tRet (tCl (sp__law_plain_wishes K) (WE0 E) (tCons (tVar 0) (tCons (tVar 1) (tCons (tVar 2) tNil))))))))
def sp__law_wishesM (K : PySem.W.Frag) : Sp := fun vs H Q E => ∃ (p t : Addr), vs = [.ref p, .ref t] ∧ spW p t H Q
theorem RowOk.ins {names row : List Str} {p y : Str} {i : Nat} (h : RowOk names p row) (h1 : y ∉ row) (h2 : y ≠ p) (h3 : y ∈ names) : RowOk names p (row.take i ++ [y] ++ row.drop i) := by
  refine RowOk.perm (row := y :: row) ⟨List.nodup_cons.mpr ⟨h1, h.1⟩, fun m => ?_, fun q m => ?_⟩ (ins_perm row i y)
  · rcases List.mem_cons.mp m with z | z
    · exact h2 z.symm
    · exact h.2.1 z
  · rcases List.mem_cons.mp m with z | z
    · rw [z]; exact h3
    · exact h.2.2 q z
abbrev N__law_near_side_wishes : List Str := ["_law_state", "_law_names_here", "_law_wishes_here", "_law_a", "_law_turn", "_law_others_here", "_law_b"]
def t__law_near_side_wishes (K : PySem.W.Frag) (E : XK) : TS := (tSeq (tAsg (tCl (sp__law_side_wishesM K) (WE0 E) (tCons (tVar 0) (tCons (tVar 1) tNil))) (gName 2))
  (tSeq (tFor (iList K (tVar 1)) (gName 3) (tFor (iRng1 (tCons (tCl (sp__law_take K) (WE0 E) (tCons (tVar 0) (tCons (tC (.int 3)) tNil))) tNil)) (gName 4) (tSeq (tAsg (tLc (iList K (tCl (sp__law_others K) (WE0 E) (tCons (tVar 1) (tCons (tVar 3) tNil)))) (gName 6) (tTest (tOp (rIn K true) (tVar 6) (tDGet (tVar 2) (tVar 3)))) (tVar 6) [6]) (gName 5))
  (tIfS (tTr K (tVar 5)) (tDrop (tBM K "list" rInsert (tDGet (tVar 2) (tVar 3)) (tCons (tCl (sp__law_take K) (WE0 E) (tCons (tVar 0) (tCons (tOp rAddI (tCB (rLenA K) (tCons (tDGet (tVar 2) (tVar 3)) tNil)) (tC (.int 1))) tNil))) (tCons (tOp (rIxL K) (tVar 5) (tCl (sp__law_take K) (WE0 E) (tCons (tVar 0) (tCons (tCB (rLenA K) (tCons (tVar 5) tNil)) tNil)))) tNil)))) tNext))))
  (tRet (tVar 2))))
def sp__law_near_side_wishes (K : PySem.W.Frag) : Sp := fun vs H Q E => ∃ (p t : Addr), vs = [.ref p, .ref t] ∧ spW p t H Q
end Q

set_option Elab.async false
set_option linter.all false
set_option maxRecDepth 100000
set_option maxHeartbeats 4000000
namespace Q
open PySem PySem.Spec PyProof.Rows L2
abbrev N__law_quiet_group : List Str := ["_law_state", "_law_top", "_law_mode", "_law_names_here"]
def t__law_quiet_group (K : PySem.W.Frag) (E : XK) : TS := (tSeq (tAsg (tCl (sp__law_take K) (WE0 E) (tCons (tVar 0) (tCons (tC (.int 7)) tNil))) (gName 2))
  (tSeq (tAsg (tCl (sp__law_names K) (WE0 E) (tCons (tVar 0) (tCons (tCl (sp__law_many K) (WE0 E) (tCons (tVar 0) (tCons (tVar 1) tNil))) tNil))) (gName 3))
  (tSeq (tIfS (tTest (tOp rLtI (tVar 2) (tC (.int 2)))) (tRet (tTup (tCons (tVar 3) (tCons (tCl (sp__law_wishesM K) (WE0 E) (tCons (tVar 0) (tCons (tVar 3) tNil))) tNil)))) tNext)
  (tSeq (tIfS (tTest (tOp rEq (tVar 2) (tC (.int 2)))) (tRet (tTup (tCons (tVar 3) (tCons (tCl (sp__law_side_wishesM K) (WE0 E) (tCons (tVar 0) (tCons (tVar 3) tNil))) tNil)))) tNext)
  (tSeq (tIfS (tTest (tOp rEq (tVar 2) (tC (.int 3)))) (tRet (tTup (tCons (tVar 3) (tCons (tCl (sp__law_near_side_wishes K) (WE0 E) (tCons (tVar 0) (tCons (tVar 3) tNil))) tNil)))) tNext)
  (tRet (tTup (tCons (tVar 3) (tCons (tCl (sp__law_ring_wishes K) (WE0 E) (tCons (tVar 0) (tCons (tVar 3) (tCons (tLst (tCons (tC (.int 4)) (tCons (tC (.int 2)) (tCons (tC (.int 6)) (tCons (tC (.int 4)) (tCons (tC (.int 3)) (tCons (tC (.int 4)) tNil))))))) tNil)))) tNil)))))))))
def sp__law_quiet_group (K : PySem.W.Frag) : Sp := fun vs H Q E => ∃ (p : Addr) (top : Nat) (a b : Int) (B : Hp), vs = [.ref p, .int (top : Nat)] ∧ Same B H ∧ B p = none ∧ H p = some (stO a b) ∧ VSt a b ∧ top ≤ 24 ∧
  ∀ B' H' a' b' T n w xs kvs done ws, HS [p] B H B' H' [(p, stO a' b'), (w, .dK kvs)] → VSt a' b' → B' T = some (.tup [.ref n, .ref w]) → B' n = some (.lst (xs.map V.str)) → xs.length ≤ top → Drawn xs done ws → WAt B' done kvs ws → Q (.ref T) H'
end Q

set_option Elab.async false
set_option linter.all false
set_option maxRecDepth 100000
set_option maxHeartbeats 4000000
namespace Q
open PySem PySem.Spec PyProof.Rows L2
local macro_rules | `(tactic| walk_at "bf") => `(tactic| first | assumption | (refine' bstep (by assumption) ?r; case r => walk_at "bf") | fail)
local macro_rules | `(tactic| walk_at "rp") => `(tactic| first | assumption | exact Rep.int _ | exact Rep.bl _ | exact Rep.non | (refine' Rep.mono (by assumption) ?r; case r => walk_at "rp") | fail)
local macro_rules | `(tactic| walk_at "hf") => `(tactic| first | assumption | exact HS.up (by assumption) (by walk_at "bf") | exact HS.get (by assumption) List.mem_cons_self | exact HS.get (by assumption) (List.mem_cons_of_mem _ List.mem_cons_self) | exact HS.get (by assumption) (List.mem_cons_of_mem _ (List.mem_cons_of_mem _ List.mem_cons_self)) | exact HS.get (by assumption) (List.mem_cons_of_mem _ (List.mem_cons_of_mem _ (List.mem_cons_of_mem _ List.mem_cons_self))) | fail)
local macro_rules | `(tactic| walk_at "sl") => `(tactic| first | assumption | exact SqL.of (by walk_at "hf") | fail)
local macro_rules | `(tactic| walk_at "st") => `(tactic| first | assumption | exact SqT.of (by walk_at "hf") | fail)
local macro_rules | `(tactic| walk_at "sz") => `(tactic| first | assumption | (refine small_le ?_; first | assumption | omega | (simp; done) | (simp; omega)) | fail)
/-! ### the law's own search for calm dealings -/
abbrev N__law_fits : List Str := ["_law_mutual_here", "_law_x", "_law_a", "_law_c"]
def t__law_fits (K : PySem.W.Frag) (E : XK) : TS := (tSeq (tFor (iList K (tDGet (tVar 0) (tVar 2))) (gName 3) (tIfS (tAnd (tB (tDIn (tVar 3) (tVar 1))) (tAnd (tTest (tOp rNe (tDGet (tVar 1) (tVar 2)) (tVar 3))) (tAnd (tB (tCl (sp__law_rather K) (WE0 E) (tCons (tVar 0) (tCons (tVar 2) (tCons (tVar 3) (tCons (tDGet (tVar 1) (tVar 2)) tNil)))))) (tB (tCl (sp__law_rather K) (WE0 E) (tCons (tVar 0) (tCons (tVar 3) (tCons (tVar 2) (tCons (tDGet (tVar 1) (tVar 3)) tNil))))))))) (tRet (tC (.bl false))) tNext))
  (tRet (tC (.bl true))))
def sp__law_fits (K : PySem.W.Frag) : Sp := fun vs H Q E => ∃ (mua x : Addr) (a : Str) (B : Hp) (xs : List Str) (f : Str → List Str) (kvm kx : List (Key × V)) (ds : List (Key × D)) (m : PM), vs = [.ref mua, .ref x, .str a] ∧ Same B H ∧ B mua = some (.dK kvm) ∧ WAt B xs kvm f ∧ Mut xs f ∧ B x = some (.dK kx) ∧ DictM K kx ds m ∧ PMOk xs f m ∧ (m a).isSome = true ∧ Ret B H Q fun _ r => r = .bl (!clashP f m a)
def gcal (xs : List Str) (f : Str → List Str) : Nat → PM → List PM := growG xs f fun m a b => tstP f m a b
def spr__law_grow_calm (K : PySem.W.Frag) : Nat → Sp
  | 0 => fun _ _ _ _ => False
  | n + 1 => fun vs H Q _ => ∃ (mu or x fo : Addr) (B : Hp) (xs : List Str) (f : Str → List Str) (kvm kx : List (Key × V)) (ds : List (Key × D)) (m : PM) (rows : List V), vs = [.ref mu, .ref or, .ref x, .ref fo] ∧ Same B H ∧ B mu = some (.dK kvm) ∧ WAt B xs kvm f ∧ Mut xs f ∧ B or = some (.lst ((sortS xs).map V.str)) ∧ B x = some (.dK kx) ∧ DictM K kx ds m ∧ PMOk xs f m ∧ B fo = none ∧ H fo = some (.lst rows) ∧ (waitL xs m).length ≤ n ∧ rows.length + (gcal xs f (n + 1) m).length ≤ 100000 ∧
    ∀ B' H' rows', HS [fo] B H B' H' [(fo, .lst (rows ++ rows'))] → DRs K B' rows' (gcal xs f (n + 1) m) → Q .non H'
abbrev N__law_grow_calm : List Str := ["_law_mutual_here", "_law_order", "_law_x", "_law_found", "_law_waiting", "_law_a", "_law_b", "_law_y"]
def t__law_grow_calm (n : Nat) (K : PySem.W.Frag) (E : XK) : TS := (tSeq (tAsg (tLc (iList K (tVar 1)) (gName 5) (tB (tDNotIn (tVar 5) (tVar 2))) (tVar 5) [5]) (gName 4))
  (tSeq (tIfS (tNot (tTr K (tVar 4))) (tSeq (tDrop (tBM K "list" rAppend (tVar 3) (tCons (tVar 2) tNil)))
  tRetN) tNext)
  (tSeq (tAsg (tOp (rIxL K) (tVar 4) (tC (.int 0))) (gName 5))
  (tFor (iList K (tOp rCat (tLst (tCons (tC .non) tNil)) (tDGet (tVar 0) (tVar 5)))) (gName 6) (tIfS (tOr (tB (tIsN (tVar 6))) (tB (tDNotIn (tVar 6) (tVar 2)))) (tSeq (tAsg (tCB rDictOf (tCons (tVar 2) tNil)) (gName 7))
  (tSeq (sDPut (tVar 7) (tVar 5) (tVar 6))
  (tSeq (tIfS (tB (tNotN (tVar 6))) (sDPut (tVar 7) (tVar 6) (tVar 5)) tNext)
  (tIfS (tAnd (tB (tCl (sp__law_fits K) (WE0 E) (tCons (tVar 0) (tCons (tVar 7) (tCons (tVar 5) tNil))))) (tOr (tB (tIsN (tVar 6))) (tB (tCl (sp__law_fits K) (WE0 E) (tCons (tVar 0) (tCons (tVar 7) (tCons (tVar 6) tNil))))))) (tDrop (tCl (spr__law_grow_calm K n) (WE0 E) (tCons (tVar 0) (tCons (tVar 1) (tCons (tVar 7) (tCons (tVar 3) tNil)))))) tNext)))) tNext)))))
def sp__law_grow_calm (K : PySem.W.Frag) : Sp := spr__law_grow_calm K 18
abbrev N__law_calm : List Str := ["_law_mutual_here", "_law_found"]
def t__law_calm (K : PySem.W.Frag) (E : XK) : TS := (tSeq (tAsg (tLst tNil) (gName 1))
  (tSeq (tDrop (tCl (sp__law_grow_calm K) (WE0 E) (tCons (tVar 0) (tCons (tCB (rSortL K) (tCons (tCB rListD (tCons (tVar 0) tNil)) tNil)) (tCons tDNewK (tCons (tVar 1) tNil))))))
  (tRet (tVar 1))))
def sp__law_calm (K : PySem.W.Frag) : Sp := fun vs H Q E => ∃ (mu : Addr) (B : Hp) (xs : List Str) (f : Str → List Str) (kvm : List (Key × V)), vs = [.ref mu] ∧ Same B H ∧ B mu = some (.dK kvm) ∧ WAt B xs kvm f ∧ Mut xs f ∧ xs.length ≤ 10 ∧
  ∀ B' H' l rows, HS [] B H B' H' [(l, .lst rows)] → DRs K B' rows (calms xs f) → Q (.ref l) H'
end Q

set_option Elab.async false
set_option linter.all false
set_option maxRecDepth 100000
set_option maxHeartbeats 4000000
namespace Q
open PySem PySem.Spec PyProof.Rows L2
/-! ### all calm dealings as dicts -/
def dM (xs : List Str) : List Addr → List (Str → Option Str) → List (Addr × HO)
  | a :: al, f :: fs => (a, .dK (zipO xs f)) :: dM xs al fs
  | _, _ => []
def frd (G : Grp) (k : List (List Str)) : Str → Option Str := (fromP G (wrT k)).getD fun _ => none
def calmF (G : Grp) : List (Str → Option Str) := (calmW G.names G.open).map (frd G)
theorem WRs.at {B : Hp} : ∀ {vs : List V} {ks : List (List (List Str))} {j : Nat} {v : V}, WRs B vs ks → vs[j]? = some v → ∃ t us k, v = .ref t ∧ ks[j]? = some k ∧ B t = some (.tup us) ∧ TRs B us k
  | _, _, _, _, .nil, e => by simp at e
  | _, _, 0, _, .cons h d _, e => by simp at e; subst e; exact ⟨_, _, _, rfl, rfl, h, d⟩
  | _, _, j + 1, v, .cons _ _ r, e => by
    obtain ⟨t, us, k, e1, e2, e3, e4⟩ := WRs.at r (j := j) (v := v) (by simpa using e)
    exact ⟨t, us, k, e1, by simpa using e2, e3, e4⟩
abbrev N_all_calm : List Str := ["group", "rows", "row"]
def t_all_calm (K : PySem.W.Frag) (E : XK) : TS := (tSeq (tAsg (tCl (sp_calm K) (WE0 E) (tCons (tVar 0) tNil)) (gName 1))
  (tSeq (tIfS (tNot (tTr K (tVar 1))) (tRz0 (He.ga K "NoCalm") (WE0 E)) tNext)
  (tRet (tLc (iList K (tVar 1)) (gName 2) tYes (tCl (sp_from_pairs K) W0 (tCons (tVar 0) (tCons (tVar 2) tNil))) [2]))))
def sp_all_calm (K : PySem.W.Frag) : Sp := fun vs H Q E => ∃ (p : Addr) (B : Hp) (G : Grp), vs = [.ref p] ∧ Same B H ∧ GAt K B p G ∧
  (G.names.length ≤ 10 → calms G.names G.open ≠ [] → ∀ B' H' l al, HS [] B H B' H' ((l, .lst (al.map V.ref)) :: dM G.names al (calmF G)) → al.length = (calmF G).length → Q (.ref l) H') ∧
  (G.names.length ≤ 10 → calms G.names G.open = [] → Thr0 K B H E "NoCalm") ∧ (10 < G.names.length → Thr K B H E "TooMany" [("most", .int 10)])
end Q

set_option Elab.async false
set_option linter.all false
set_option maxRecDepth 100000
set_option maxHeartbeats 4000000
namespace Q
open PySem PySem.Spec PyProof.Rows L2
/-! ### the beginning of many laws, and who may be whose -/
abbrev N_check_person : List Str := ["group", "value"]
def t_check_person (K : PySem.W.Frag) (E : XK) : TS := (tIfS (tOr (tNot (tB (tCB (rIsi K) (tCons (tVar 1) (tCons (tC (.ty "str")) tNil))))) (tTest (tOp (rNotInG (He.ga K "Group") (sp_Group___contains__ K)) (tVar 1) (tVar 0)))) (tRz1 (He.ga K "NoPerson") "value" (tVar 1) (WE0 E)) tNext)
def sp_check_person (K : PySem.W.Frag) : Sp := fun vs H Q E => ∃ (p : Addr) (v : V) (B : Hp) (G : Grp) (d : D), vs = [.ref p, v] ∧ Same B H ∧ GAt K B p G ∧ Rep K B v d ∧ (G.has d = true → Ret B H Q fun _ r => r = .non) ∧ (G.has d = false → Thr K B H E "NoPerson" [("value", v)])
end Q

set_option Elab.async false
set_option linter.all false
set_option maxRecDepth 100000
set_option maxHeartbeats 4000000
namespace Q
open PySem PySem.Spec PyProof.Rows L2
local macro_rules | `(tactic| walk_at "bf") => `(tactic| first | assumption | (refine' bstep (by assumption) ?r; case r => walk_at "bf") | fail)
local macro_rules | `(tactic| walk_at "rp") => `(tactic| first | assumption | exact Rep.int _ | exact Rep.bl _ | exact Rep.non | (refine' Rep.mono (by assumption) ?r; case r => walk_at "rp") | fail)
local macro_rules | `(tactic| walk_at "hf") => `(tactic| first | assumption | exact HS.up (by assumption) (by walk_at "bf") | exact HS.get (by assumption) List.mem_cons_self | exact HS.get (by assumption) (List.mem_cons_of_mem _ List.mem_cons_self) | exact HS.get (by assumption) (List.mem_cons_of_mem _ (List.mem_cons_of_mem _ List.mem_cons_self)) | exact HS.get (by assumption) (List.mem_cons_of_mem _ (List.mem_cons_of_mem _ (List.mem_cons_of_mem _ List.mem_cons_self))) | fail)
local macro_rules | `(tactic| walk_at "sl") => `(tactic| first | assumption | exact SqL.of (by walk_at "hf") | fail)
local macro_rules | `(tactic| walk_at "st") => `(tactic| first | assumption | exact SqT.of (by walk_at "hf") | fail)
local macro_rules | `(tactic| walk_at "sz") => `(tactic| first | assumption | (refine small_le ?_; first | assumption | omega | (simp; done) | (simp; omega)) | fail)
/-! ### the partners that somebody may have -/
def mayL (op : Str → List Str) (fs : List (Str → Option Str)) (a : Str) : List Str := (op a).filter fun b => fs.any fun f => decide (f a = some b)
/-- dicts at told places: what each has at a key -/
def DAts (B : Hp) (ks : List Str) : List V → List (Str → Option Str) → Prop := fun vs fs => vs.length = fs.length ∧ ∀ (j : Nat) (v : V), vs[j]? = some v → ∃ (t : Addr) (kx : List (Key × V)) (f : Str → Option Str), v = .ref t ∧ fs[j]? = some f ∧ B t = some (.dK kx) ∧ ∀ a ∈ ks, valV kx (.inr a) = some (optV (f a))
theorem DAts.mono {B B' : Hp} {ks : List Str} {vs : List V} {fs : List (Str → Option Str)} (s : Same B B') (h : DAts B ks vs fs) : DAts B' ks vs fs := ⟨h.1, fun j v e => by
  obtain ⟨t, kx, f, h1, h2, h3, h4⟩ := h.2 j v e
  exact ⟨t, kx, f, h1, h2, s _ _ h3, h4⟩⟩
abbrev N_chosen : List Str := ["group", "dealings", "a", "partners", "x", "b"]
def t_chosen (K : PySem.W.Frag) (E : XK) : TS := (tSeq (tAsg (tLc (iList K (tVar 1)) (gName 4) tYes (tDGet (tVar 4) (tVar 2)) [4]) (gName 3))
  (tRet (tLc (iList K (tMt (He.ga K "Group") "open_to" (sp_Group_open_to K) (WE0 E) (tVar 0) (tCons (tVar 2) tNil))) (gName 5) (tTest (tOp (rIn K false) (tVar 5) (tVar 3))) (tVar 5) [5])))
def sp_chosen (K : PySem.W.Frag) : Sp := fun vs H Q E => ∃ (p l : Addr) (a : Str) (B : Hp) (G : Grp) (us : List V) (fs : List (Str → Option Str)), vs = [.ref p, .ref l, .str a] ∧ Same B H ∧ GAt K B p G ∧ a ∈ G.names ∧ B l = some (.lst us) ∧ DAts B G.names us fs ∧ fs.length ≤ 100000 ∧ ∀ B' H' r, HS [] B H B' H' [(r, .lst ((mayL G.open fs a).map V.str))] → Q (.ref r) H'
abbrev N_may : List Str := ["group", "a"]
def t_may (K : PySem.W.Frag) (E : XK) : TS := (tSeq (tDrop (tCl (sp_check_person K) (WE0 E) (tCons (tVar 0) (tCons (tVar 1) tNil))))
  (tRet (tCl (sp_chosen K) (WE0 E) (tCons (tVar 0) (tCons (tCl (sp_all_calm K) (WE0 E) (tCons (tVar 0) tNil)) (tCons (tVar 1) tNil))))))
def sp_may (K : PySem.W.Frag) : Sp := fun vs H Q E => ∃ (p : Addr) (a : Str) (B : Hp) (G : Grp), vs = [.ref p, .str a] ∧ Same B H ∧ GAt K B p G ∧ a ∈ G.names ∧ G.names.length ≤ 10 ∧ calms G.names G.open ≠ [] ∧ ∀ B' H' r, HS [] B H B' H' [(r, .lst ((mayL G.open (calmF G) a).map V.str))] → Q (.ref r) H'
abbrev N_best : List Str := ["group", "a", "row"]
def t_best (K : PySem.W.Frag) (E : XK) : TS := (tSeq (tAsg (tCl (sp_may K) (WE0 E) (tCons (tVar 0) (tCons (tVar 1) tNil))) (gName 2))
  (tSeq (tIfS (tNot (tTr K (tVar 2))) (tRet (tC .non)) tNext)
  (tRet (tOp (rIxL K) (tVar 2) (tC (.int 0))))))
def sp_best (K : PySem.W.Frag) : Sp := fun vs H Q E => ∃ (p : Addr) (a : Str) (B : Hp) (G : Grp), vs = [.ref p, .str a] ∧ Same B H ∧ GAt K B p G ∧ a ∈ G.names ∧ G.names.length ≤ 10 ∧ calms G.names G.open ≠ [] ∧ Ret B H Q fun _ r => r = optV (mayL G.open (calmF G) a).head?
abbrev N_worst : List Str := ["group", "a", "row"]
def t_worst (K : PySem.W.Frag) (E : XK) : TS := (tSeq (tAsg (tCl (sp_may K) (WE0 E) (tCons (tVar 0) (tCons (tVar 1) tNil))) (gName 2))
  (tSeq (tIfS (tNot (tTr K (tVar 2))) (tRet (tC .non)) tNext)
  (tRet (tOp (rIxL K) (tVar 2) (tUn rNegI (tC (.int 1)))))))
def sp_worst (K : PySem.W.Frag) : Sp := fun vs H Q E => ∃ (p : Addr) (a : Str) (B : Hp) (G : Grp), vs = [.ref p, .str a] ∧ Same B H ∧ GAt K B p G ∧ a ∈ G.names ∧ G.names.length ≤ 10 ∧ calms G.names G.open ≠ [] ∧ Ret B H Q fun _ r => r = optV (mayL G.open (calmF G) a).getLast?
abbrev N__law_may : List Str := ["_law_mutual_here", "_law_found", "_law_a", "_law_partners", "_law_x", "_law_b"]
def t__law_may (K : PySem.W.Frag) (E : XK) : TS := (tSeq (tAsg (tLc (iList K (tVar 1)) (gName 4) tYes (tDGet (tVar 4) (tVar 2)) [4]) (gName 3))
  (tRet (tLc (iList K (tDGet (tVar 0) (tVar 2))) (gName 5) (tTest (tOp (rIn K false) (tVar 5) (tVar 3))) (tVar 5) [5])))
def sp__law_may (K : PySem.W.Frag) : Sp := fun vs H Q E => ∃ (mua l : Addr) (a : Str) (B : Hp) (xs : List Str) (f : Str → List Str) (kvm : List (Key × V)) (us : List V) (fs : List (Str → Option Str)), vs = [.ref mua, .ref l, .str a] ∧ Same B H ∧ B mua = some (.dK kvm) ∧ WAt B xs kvm f ∧ Mut xs f ∧ a ∈ xs ∧ B l = some (.lst us) ∧ DAts B xs us fs ∧ fs.length ≤ 100000 ∧ ∀ B' H' r, HS [] B H B' H' [(r, .lst ((mayL f fs a).map V.str))] → Q (.ref r) H'
end Q

set_option Elab.async false
set_option linter.all false
set_option maxRecDepth 100000
set_option maxHeartbeats 4000000
namespace Q
open PySem PySem.Spec PyProof.Rows L2
/-! ### what stood still may change again -/
theorem same_delR {B B' : Hp} {x : Addr} (s : Same B B') (h : B x = none) : Same B (del B' x) := fun b o e => by
  have ne : b ≠ x := fun z => by rw [z, h] at e; cases e
  rw [del_ne ne]
  exact s _ _ e
end Q

set_option Elab.async false
set_option linter.all false
set_option maxRecDepth 100000
set_option maxHeartbeats 4000000
namespace Q
open PySem PySem.Spec PyProof.Rows L2
/-! ### dealings as functions -/
def pmF (m : PM) : Str → Option Str := fun a => (m a).join
/-! ### the law's comparison of plain things -/
abbrev remA (B : Hp) (m : Addr) : Hp := del B m
theorem DRs.del {K : PySem.W.Frag} {B : Hp} {m la : Addr} {kvm : List (Key × V)} {a : Str} (hm : B m = some (.dK kvm)) : ∀ {vs : List V} {ms : List PM}, DRs K B vs ms → (∀ p ∈ ms, ∃ v, p a = some v) → valV kvm (.inr a) = some (.ref la) → DRs K (remA B m) vs ms
  | _, _, .nil, _, _ => .nil
  | _, _, .cons (t := t) (kx := kx) (m := p) h d r, fl, ev => by
    refine .cons ?_ d (DRs.del hm r (fun q mq => fl q (List.mem_cons_of_mem _ mq)) ev)
    have ne : t ≠ m := fun z => by
      rw [z, hm] at h
      cases h
      obtain ⟨v, hv⟩ := fl p List.mem_cons_self
      have := d.get hv
      rw [ev] at this
      cases v <;> cases this
    unfold remA
    rw [del_ne ne]
    exact h
end Q

set_option Elab.async false
set_option linter.all false
set_option maxRecDepth 100000
set_option maxHeartbeats 4000000
namespace Q
open PySem PySem.Spec PyProof.Rows L2
/-! ### calm dealings that were found, as dicts -/
theorem HS.one {S : List Addr} {B0 H0 B H : Hp} {x : Addr} {o : HO} : ∀ {M N : List (Addr × HO)}, HS S B0 H0 B H (M ++ N) → (x, o) ∈ M → HS S B0 H0 B H ((x, o) :: N)
  | q :: M, N, h, m => by
    rcases List.mem_cons.mp m with rfl | m
    · have : ∀ {M : List (Addr × HO)}, HS S B0 H0 B H ((x, o) :: (M ++ N)) → HS S B0 H0 B H ((x, o) :: N) := fun {M} => by
        induction M with
        | nil => exact id
        | cons p M ih => exact fun h => ih h.swap.drop
      exact this h
    · exact HS.one h.drop m
abbrev N_with_pair : List Str := ["group", "a", "b", "wanted", "x"]
def t_with_pair (K : PySem.W.Frag) (E : XK) : TS := (tSeq (tDrop (tCl (sp_check_person K) (WE0 E) (tCons (tVar 0) (tCons (tVar 1) tNil))))
  (tSeq (tDrop (tCl (sp_check_person K) (WE0 E) (tCons (tVar 0) (tCons (tVar 2) tNil))))
  (tSeq (tAsg (tVar 2) (gName 3))
  (tSeq (tIfS (tTest (tOp rEq (tVar 1) (tVar 2))) (tAsg (tC .non) (gName 3)) tNext)
  (tSeq (tFor (iList K (tCl (sp_all_calm K) (WE0 E) (tCons (tVar 0) tNil))) (gName 4) (tIfS (tTest (tOp rEq (tDGet (tVar 4) (tVar 1)) (tVar 3))) (tRet (tVar 4)) tNext))
  (tRet (tC .non)))))))
def wantO (a b : Str) : Option Str := if a = b then none else some b
def sp_with_pair (K : PySem.W.Frag) : Sp := fun vs H Q E => ∃ (p : Addr) (a b : Str) (B : Hp) (G : Grp), vs = [.ref p, .str a, .str b] ∧ Same B H ∧ GAt K B p G ∧ a ∈ G.names ∧ b ∈ G.names ∧ G.names.length ≤ 10 ∧ calms G.names G.open ≠ [] ∧
  (∀ f ∈ calmF G, f a = wantO a b → ∀ B' H' x, HS [] B H B' H' [(x, .dK (zipO G.names f))] → Q (.ref x) H') ∧ ((∀ f ∈ calmF G, f a ≠ wantO a b) → Ret B H Q fun _ r => r = .non)
end Q

set_option Elab.async false
set_option linter.all false
set_option maxRecDepth 100000
set_option maxHeartbeats 4000000
namespace Q
open PySem PySem.Spec PyProof.Rows L2
abbrev N_both : List Str := ["group", "a", "x", "b", "y", "found"]
def t_both (K : PySem.W.Frag) (E : XK) : TS := (tSeq (tDrop (tCl (sp_check_person K) (WE0 E) (tCons (tVar 0) (tCons (tVar 1) tNil))))
  (tSeq (tIfS (tB (tNotN (tVar 2))) (tDrop (tCl (sp_check_person K) (WE0 E) (tCons (tVar 0) (tCons (tVar 2) tNil)))) tNext)
  (tSeq (tDrop (tCl (sp_check_person K) (WE0 E) (tCons (tVar 0) (tCons (tVar 3) tNil))))
  (tSeq (tIfS (tB (tNotN (tVar 4))) (tDrop (tCl (sp_check_person K) (WE0 E) (tCons (tVar 0) (tCons (tVar 4) tNil)))) tNext)
  (tSeq (tFor (iList K (tCl (sp_all_calm K) (WE0 E) (tCons (tVar 0) tNil))) (gName 5) (tIfS (tAnd (tTest (tOp rEq (tDGet (tVar 5) (tVar 1)) (tVar 2))) (tTest (tOp rEq (tDGet (tVar 5) (tVar 3)) (tVar 4)))) (tRet (tVar 5)) tNext))
  (tRet (tC .non)))))))
def sp_both (K : PySem.W.Frag) : Sp := fun vs H Q E => ∃ (p : Addr) (a b : Str) (xo yo : Option Str) (B : Hp) (G : Grp), vs = [.ref p, .str a, optV xo, .str b, optV yo] ∧ Same B H ∧ GAt K B p G ∧ a ∈ G.names ∧ b ∈ G.names ∧ (∀ c, xo = some c → c ∈ G.names) ∧ (∀ c, yo = some c → c ∈ G.names) ∧ G.names.length ≤ 10 ∧ calms G.names G.open ≠ [] ∧
  (∀ f ∈ calmF G, f a = xo → f b = yo → ∀ B' H' x, HS [] B H B' H' [(x, .dK (zipO G.names f))] → Q (.ref x) H') ∧ ((∀ f ∈ calmF G, f a = xo → f b ≠ yo) → Ret B H Q fun _ r => r = .non)
abbrev N__law_both_fits : List Str := ["_law_group", "_law_mutual_here", "_law_found", "_law_a", "_law_x", "_law_b", "_law_y", "_law_told", "_law_z"]
def t__law_both_fits (K : PySem.W.Frag) (E : XK) : TS := (tSeq (tAsg (tCl (sp_both K) (WE0 E) (tCons (tVar 0) (tCons (tVar 3) (tCons (tVar 4) (tCons (tVar 5) (tCons (tVar 6) tNil)))))) (gName 7))
  (tSeq (tIfS (tNot (tTr K (tLc (iList K (tVar 2)) (gName 8) (tAnd (tTest (tOp rEq (tDGet (tVar 8) (tVar 3)) (tVar 4))) (tTest (tOp rEq (tDGet (tVar 8) (tVar 5)) (tVar 6)))) (tVar 8) [8]))) (tRet (tIsN (tVar 7))) tNext)
  (tSeq (tIfS (tOr (tNot (tB (tCl (sp__law_is_calm K) (WE0 E) (tCons (tVar 1) (tCons (tVar 7) tNil))))) (tOr (tTest (tOp rNe (tDGet (tVar 7) (tVar 3)) (tVar 4))) (tTest (tOp rNe (tDGet (tVar 7) (tVar 5)) (tVar 6))))) (tRet (tC (.bl false))) tNext)
  (tSeq (tDrop (tBM0 K "dict" rDClear (tVar 7)))
  (tRet (tC (.bl true)))))))
def sp__law_both_fits (K : PySem.W.Frag) : Sp := fun vs H Q E => ∃ (p m l : Addr) (a b : Str) (xo yo : Option Str) (B : Hp) (G : Grp) (xs : List Str) (f : Str → List Str) (kvm : List (Key × V)) (us : List V), vs = [.ref p, .ref m, .ref l, .str a, optV xo, .str b, optV yo] ∧ Same B H ∧ B m = none ∧ H m = some (.dK kvm) ∧ WAt B xs kvm f ∧ Mut xs f ∧ GAt K B p G ∧ G.names = xs ∧ (∀ a ∈ xs, G.open a = f a) ∧ a ∈ xs ∧ b ∈ xs ∧ (∀ c, xo = some c → c ∈ xs) ∧ (∀ c, yo = some c → c ∈ xs) ∧ xs.length ≤ 10 ∧ calms xs f ≠ [] ∧ B l = some (.lst us) ∧ DAts B xs us ((calms xs f).map pmF) ∧ Ret B H Q fun _ r => r = .bl true
end Q

set_option Elab.async false
set_option linter.all false
set_option maxRecDepth 100000
set_option maxHeartbeats 4000000
namespace Q
open PySem PySem.Spec PyProof.Rows L2
abbrev N__law_calm_rows : List Str := ["_law_mutual_here", "_law_x"]
def t__law_calm_rows (K : PySem.W.Frag) (E : XK) : TS := (tRet (tCB (rSortX K) (tCons (tLc (iList K (tCl (sp__law_calm K) (WE0 E) (tCons (tVar 0) tNil))) (gName 1) tYes (tCl (sp__law_written K) W0 (tCons (tVar 1) tNil)) [1]) tNil)))
def sp__law_calm_rows (K : PySem.W.Frag) : Sp := fun vs H Q E => ∃ (mu : Addr) (B : Hp) (xs : List Str) (f : Str → List Str) (kvm : List (Key × V)), vs = [.ref mu] ∧ Same B H ∧ B mu = some (.dK kvm) ∧ WAt B xs kvm f ∧ Mut xs f ∧ xs.length ≤ 10 ∧
  ∀ B' H' l ys, HS [] B H B' H' [(l, .lst ys)] → WRs B' ys (calmW xs f) → Q (.ref l) H'
end Q

set_option Elab.async false
set_option linter.all false
set_option maxRecDepth 100000
set_option maxHeartbeats 4000000
namespace Q
open PySem PySem.Spec PyProof.Rows L2
/-! ### two groups with the same people -/
abbrev N_check_two : List Str := ["one", "other"]
def t_check_two (K : PySem.W.Frag) (E : XK) : TS := (tSeq (tIfS (tTest (tOp (rNeD K) (tCB (rSortL K) (tCons (tMt (He.ga K "Group") "people" (sp_Group_people K) (WE0 E) (tVar 0) tNil) tNil)) (tCB (rSortL K) (tCons (tMt (He.ga K "Group") "people" (sp_Group_people K) (WE0 E) (tVar 1) tNil) tNil)))) (tRz0 (He.ga K "UnlikePeople") (WE0 E)) tNext)
  (tDrop (tCl (sp_check_size K) (WE0 E) (tCons (tVar 0) (tCons (tC (.int 8)) tNil)))))
def sp_check_two (K : PySem.W.Frag) : Sp := fun vs H Q E => ∃ (p q : Addr) (B : Hp) (G G' : Grp), vs = [.ref p, .ref q] ∧ Same B H ∧ GAt K B p G ∧ GAt K B q G' ∧ (sortS G.names ≠ sortS G'.names → Thr0 K B H E "UnlikePeople") ∧ (sortS G.names = sortS G'.names → (8 < G.names.length → Thr K B H E "TooMany" [("most", .int 8)]) ∧ (G.names.length ≤ 8 → Ret B H Q fun _ r => r = .non))
abbrev N_alike : List Str := ["one", "other"]
def t_alike (K : PySem.W.Frag) (E : XK) : TS := (tSeq (tDrop (tCl (sp_check_two K) (WE0 E) (tCons (tVar 0) (tCons (tVar 1) tNil))))
  (tRet (tOp (rEqD K) (tCl (sp_calm K) (WE0 E) (tCons (tVar 0) tNil)) (tCl (sp_calm K) (WE0 E) (tCons (tVar 1) tNil)))))
def sp_alike (K : PySem.W.Frag) : Sp := fun vs H Q E => ∃ (p q : Addr) (B : Hp) (G G' : Grp), vs = [.ref p, .ref q] ∧ Same B H ∧ GAt K B p G ∧ GAt K B q G' ∧ (sortS G.names ≠ sortS G'.names → Thr0 K B H E "UnlikePeople") ∧ (sortS G.names = sortS G'.names → (8 < G.names.length → Thr K B H E "TooMany" [("most", .int 8)]) ∧ (G.names.length ≤ 8 → Ret B H Q fun _ r => r = .bl (decide (calmW G.names G.open = calmW G'.names G'.open))))
abbrev N_harmless : List Str := ["group", "a", "k"]
def t_harmless (K : PySem.W.Frag) (E : XK) : TS := (tRet (tCl (sp_alike K) (WE0 E) (tCons (tVar 0) (tCons (tMt (He.ga K "Group") "exchanged" (sp_Group_exchanged K) (WE0 E) (tVar 0) (tCons (tVar 1) (tCons (tVar 2) tNil))) tNil))))
def sp_harmless (K : PySem.W.Frag) : Sp := fun vs H Q E => ∃ (p : Addr) (x a b : Str) (k : Nat) (B : Hp) (G : Grp), vs = [.ref p, .str x, .int (k : Nat)] ∧ Same B H ∧ GAt K B p G ∧ x ∈ G.names ∧ (G.open x)[k]? = some a ∧ (G.open x)[k + 1]? = some b ∧ G.names.length ≤ 8 ∧
  ∀ G' : Grp, G'.Ok → G'.names = G.names → (∀ z ∈ G.names, G'.wish z = updW G.wish x ((G.wish x).map (swp a b)) z) → Ret B H Q fun _ r => r = .bl (decide (calmW G.names G.open = calmW G'.names G'.open))
abbrev N_needless : List Str := ["group", "a", "b"]
def t_needless (K : PySem.W.Frag) (E : XK) : TS := (tRet (tCl (sp_alike K) (WE0 E) (tCons (tVar 0) (tCons (tMt (He.ga K "Group") "struck" (sp_Group_struck K) (WE0 E) (tVar 0) (tCons (tVar 1) (tCons (tVar 2) tNil))) tNil))))
def sp_needless (K : PySem.W.Frag) : Sp := fun vs H Q E => ∃ (p : Addr) (x y : Str) (B : Hp) (G : Grp), vs = [.ref p, .str x, .str y] ∧ Same B H ∧ GAt K B p G ∧ x ∈ G.names ∧ y ∈ G.open x ∧ G.names.length ≤ 8 ∧
  ∀ G' : Grp, G'.Ok → G'.names = G.names → (∀ z ∈ G.names, G'.wish z = updW G.wish x ((G.wish x).filter fun b => !decide (b = y)) z) → Ret B H Q fun _ r => r = .bl (decide (calmW G.names G.open = calmW G'.names G'.open))
end Q

set_option Elab.async false
set_option linter.all false
set_option maxRecDepth 100000
set_option maxHeartbeats 4000000
namespace Q
open PySem PySem.Spec PyProof.Rows L2
/-! ### x in a tuple, by == of nested data -/
def rInET (K : PySem.W.Frag) : R2 := fun x y H Q => ∃ (a : Addr) (xs : List V) (e : V → Bool) (n : Nat), y = .ref a ∧ n ≤ 60 ∧ SqT K H a xs ∧ (∀ v ∈ xs, (∃ b, v = .ref b) ∧ EqA K H n v x (e v)) ∧ Q (.bl (xs.any e)) H
end Q

set_option Elab.async false
set_option linter.all false
set_option maxRecDepth 100000
set_option maxHeartbeats 4000000
namespace Q
open PySem PySem.Spec PyProof.Rows L2
/-! ### x is True, x is False (of a bool) -/
def rIsB : R2 := fun x y H Q => ∃ b c : Bool, x = .bl b ∧ y = .bl c ∧ Q (.bl (b == c)) H
end Q

set_option Elab.async false
set_option linter.all false
set_option maxRecDepth 100000
set_option maxHeartbeats 4000000
namespace Q
open PySem PySem.Spec PyProof.Rows L2
/-! ### seats that ask and seats that hold: plain theory -/
abbrev OF := Str → Option Str
theorem ra_some {row : List Str} {b c : Str} : ratherO row b (some c) = true ↔ row.idxOf b < row.idxOf c := decide_eq_true_iff
theorem idx_inj {row : List Str} {a b : Str} (ha : a ∈ row) (hb : b ∈ row) (h : row.idxOf a = row.idxOf b) : a = b := by
  have h1 := get_idx ha
  have h2 := get_idx hb
  rw [h, h2] at h1
  exact (Option.some.inj h1).symm
structure SM (xs : List Str) (f : Str → List Str) (A H : OF) : Prop where
  inv : ∀ a ∈ xs, ∀ b ∈ xs, A a = some b ↔ H b = some a
  oa : ∀ a ∈ xs, ∀ b, A a = some b → b ∈ f a
  oh : ∀ a ∈ xs, ∀ b, H a = some b → b ∈ f a
  st : ∀ a ∈ xs, ∀ b ∈ f a, ratherO (f a) b (A a) = true → ratherO (f b) a (H b) = true → False
theorem SM.dual {xs : List Str} {f : Str → List Str} {A H : OF} (mu : Mut xs f) (h : SM xs f A H) : SM xs f H A :=
  ⟨fun a ma b mb => (h.inv b mb a ma).symm, h.oh, h.oa, fun a ma b mb r1 r2 => h.st b (mu.fi a ma b mb).1 a (mu.fi a ma b mb).2 r2 r1⟩
theorem SM.ah {xs : List Str} {f : Str → List Str} {A H : OF} (mu : Mut xs f) (h : SM xs f A H) {a b : Str} (ma : a ∈ xs) (e : A a = some b) : b ∈ xs ∧ H b = some a := by
  have mb := (mu.fi a ma b (h.oa a ma b e)).1
  exact ⟨mb, (h.inv a ma b mb).mp e⟩
theorem SM.ha {xs : List Str} {f : Str → List Str} {A H : OF} (mu : Mut xs f) (h : SM xs f A H) {a b : Str} (ma : a ∈ xs) (e : H a = some b) : b ∈ xs ∧ A b = some a := (h.dual mu).ah mu ma e
/-- everybody likes the asked one at least as much as the holder -/
def IOr (xs : List Str) (f : Str → List Str) (A H : OF) : Prop := ∀ a ∈ xs, ∀ c, H a = some c → ∃ b, A a = some b ∧ (f a).idxOf b ≤ (f a).idxOf c
def DomE (xs : List Str) (A H : OF) : Prop := ∀ a ∈ xs, (A a).isSome = (H a).isSome
/-! ### the first one behind the asked one who would take a -/
theorem find_drop {l : List Str} (nd : l.Nodup) {n : Nat} {p : Str → Bool} {c : Str} (h : (l.drop n).find? p = some c) : c ∈ l ∧ n ≤ l.idxOf c ∧ p c = true ∧ ∀ d ∈ l, n ≤ l.idxOf d → l.idxOf d < l.idxOf c → p d = false := by
  obtain ⟨hp, i, hi, e, hmin⟩ := List.find?_eq_some_iff_getElem.mp h
  have hl : n + i < l.length := by rw [List.length_drop] at hi; omega
  rw [List.getElem_drop] at e
  have ei : l.idxOf c = n + i := by rw [← e]; exact nd.idxOf_getElem _ hl
  refine ⟨by rw [← e]; exact List.getElem_mem _, by omega, hp, fun d md h1 h2 => ?_⟩
  have hd := get_idx md
  have hj : l.idxOf d - n < i := by omega
  have := hmin (l.idxOf d - n) hj
  rw [List.getElem_drop] at this
  have e2 : l[n + (l.idxOf d - n)]'(by omega) = d := by
    have e3 : n + (l.idxOf d - n) = l.idxOf d := by omega
    have := (List.getElem?_eq_some_iff.mp hd).2
    simp only [e3]
    exact this
  rw [e2] at this
  simpa using this
theorem find_drop_ex {l : List Str} {n : Nat} {p : Str → Bool} {d : Str} (md : d ∈ l) (h1 : n ≤ l.idxOf d) (hp : p d = true) : ∃ c, (l.drop n).find? p = some c := by
  have hd := get_idx md
  have hm : d ∈ l.drop n := by
    refine List.mem_of_getElem? (i := l.idxOf d - n) ?_
    rw [List.getElem?_drop, show n + (l.idxOf d - n) = l.idxOf d by omega]
    exact hd
  exact Option.isSome_iff_exists.mp (List.find?_isSome.mpr ⟨d, hm, hp⟩)
def lowO (f : Str → List Str) (A H : OF) (a : Str) : Option Str := match A a with
  | none => none
  | some b => ((f a).drop ((f a).idxOf b + 1)).find? fun c => ratherO (f c) a (H c)
theorem low_spec {f : Str → List Str} {A H : OF} {a b c : Str} (nd : (f a).Nodup) (e : A a = some b) (h : lowO f A H a = some c) : c ∈ f a ∧ (f a).idxOf b < (f a).idxOf c ∧ ratherO (f c) a (H c) = true ∧ ∀ d ∈ f a, (f a).idxOf b < (f a).idxOf d → (f a).idxOf d < (f a).idxOf c → ratherO (f d) a (H d) = false := by
  unfold lowO at h
  rw [e] at h
  obtain ⟨h1, h2, h3, h4⟩ := find_drop nd h
  exact ⟨h1, h2, h3, h4⟩
theorem low_ask {f : Str → List Str} {A H : OF} {a c : Str} (h : lowO f A H a = some c) : ∃ b, A a = some b := by
  unfold lowO at h
  cases e : A a with
  | none => rw [e] at h; cases h
  | some b => exact ⟨b, rfl⟩
theorem low_ex {f : Str → List Str} {A H : OF} {a b d : Str} (nd : (f a).Nodup) (e : A a = some b) (md : d ∈ f a) (h1 : (f a).idxOf b < (f a).idxOf d) (h2 : ratherO (f d) a (H d) = true) : ∃ c, lowO f A H a = some c ∧ (f a).idxOf c ≤ (f a).idxOf d := by
  obtain ⟨c, hc⟩ := find_drop_ex (n := (f a).idxOf b + 1) (p := fun c => ratherO (f c) a (H c)) md h1 h2
  have hc' : lowO f A H a = some c := by unfold lowO; rw [e]; exact hc
  refine ⟨c, hc', ?_⟩
  obtain ⟨_, _, _, h4⟩ := low_spec nd e hc'
  refine Nat.le_of_not_lt fun h => ?_
  have := h4 d md h1 h
  rw [h2] at this
  cases this
def stepO (f : Str → List Str) (A H : OF) (a : Str) : Option Str := (lowO f A H a).bind H
theorem step_low {f : Str → List Str} {A H : OF} {a e : Str} (h : stepO f A H a = some e) : ∃ c, lowO f A H a = some c ∧ H c = some e := Option.bind_eq_some_iff.mp h
/-! ### a cycle is passed on -/
structure CycP (step : OF) (cyc : List Str) : Prop where
  nd : cyc.Nodup
  nx : ∀ a ∈ cyc, ∃ b ∈ cyc, step a = some b
  pv : ∀ b ∈ cyc, ∃ a ∈ cyc, step a = some b
  inj : ∀ a ∈ cyc, ∀ b ∈ cyc, step a = step b → a = b
  ind : ∀ P : Str → Prop, (∃ a ∈ cyc, P a) → (∀ a ∈ cyc, ∀ b ∈ cyc, step a = some b → P b → P a) → ∀ a ∈ cyc, P a
def nAs (low A : OF) (cyc : List Str) : OF := fun a => if a ∈ cyc then low a else A a
def nHo (low H : OF) (cyc : List Str) : OF := fun b => match cyc.find? fun a => decide (low a = some b) with
  | some a => some a
  | none => H b
section
variable {xs : List Str} {f : Str → List Str} {A H : OF} {cyc : List Str}
theorem cyc_low (mu : Mut xs f) (h : SM xs f A H) (cp : CycP (stepO f A H) cyc) (cx : ∀ a ∈ cyc, a ∈ xs) {a : Str} (ma : a ∈ cyc) : ∃ c e, lowO f A H a = some c ∧ c ∈ xs ∧ H c = some e ∧ e ∈ cyc ∧ A e = some c ∧ stepO f A H a = some e := by
  obtain ⟨e, me, hs⟩ := cp.nx a ma
  obtain ⟨c, h1, h2⟩ := step_low hs
  obtain ⟨b, eb⟩ := low_ask h1
  have mc := (low_spec (mu.fn a (cx a ma)) eb h1).1
  have mcx := (mu.fi a (cx a ma) c mc).1
  exact ⟨c, e, h1, mcx, h2, me, (h.ha mu mcx h2).2, hs⟩
theorem low_inj (cp : CycP (stepO f A H) cyc) {a b c : Str} (ma : a ∈ cyc) (mb : b ∈ cyc) (h1 : lowO f A H a = some c) (h2 : lowO f A H b = some c) : a = b :=
  cp.inj a ma b mb (by unfold stepO; rw [h1, h2])
theorem nHo_low (cp : CycP (stepO f A H) cyc) {a c : Str} (ma : a ∈ cyc) (h1 : lowO f A H a = some c) : nHo (lowO f A H) H cyc c = some a := by
  unfold nHo
  cases e : cyc.find? fun a => decide (lowO f A H a = some c) with
  | none =>
    have := List.find?_eq_none.mp e a ma
    rw [decide_eq_true h1] at this
    exact absurd rfl this
  | some b =>
    have h2 := List.find?_some e
    have mb := List.mem_of_find?_eq_some e
    exact congrArg some (low_inj cp mb ma (of_decide_eq_true h2) h1)
theorem nHo_cases {b e : Str} (h : nHo (lowO f A H) H cyc b = some e) : (e ∈ cyc ∧ lowO f A H e = some b) ∨ ((∀ a ∈ cyc, lowO f A H a ≠ some b) ∧ H b = some e) := by
  unfold nHo at h
  cases e' : cyc.find? fun a => decide (lowO f A H a = some b) with
  | none =>
    rw [e'] at h
    exact .inr ⟨fun a ma z => by
      have := List.find?_eq_none.mp e' a ma
      rw [decide_eq_true z] at this
      exact absurd rfl this, h⟩
  | some a =>
    rw [e'] at h
    have h2 := List.find?_some e'
    have mb := List.mem_of_find?_eq_some e'
    cases h
    exact .inl ⟨mb, of_decide_eq_true h2⟩
end
end Q

set_option Elab.async false
set_option linter.all false
set_option maxRecDepth 100000
set_option maxHeartbeats 4000000
namespace Q
open PySem PySem.Spec PyProof.Rows L2
/-! ### cycles of steps -/
def cyF (step : OF) : Nat → List Str → Option Str → List Str × Option Str
  | 0, acc, o => (acc, o)
  | _ + 1, acc, none => (acc, none)
  | n + 1, acc, some a => if a ∈ acc then (acc, some a) else cyF step n (acc ++ [a]) (step a)
def cyO (step : OF) (s : Str) : Option (List Str) := if (cyF step 17 [s] (step s)).2 = some s then some (cyF step 17 [s] (step s)).1 else none
def itO (step : OF) (s : Str) : Nat → Option Str
  | 0 => some s
  | n + 1 => (itO step s n).bind step
structure OrbI (step : OF) (s : Str) (acc : List Str) (o : Option Str) : Prop where
  at_ : ∀ i, i < acc.length → acc[i]? = itO step s i
  nx : o = itO step s acc.length
  nd : acc.Nodup
  ne : 0 < acc.length
theorem cyF_spec {step : OF} {s : Str} {xs : List Str} (hx : ∀ i a, itO step s i = some a → a ∈ xs) : ∀ {n : Nat} {acc : List Str} {o : Option Str}, OrbI step s acc o → xs.length < n + acc.length → OrbI step s (cyF step n acc o).1 (cyF step n acc o).2 ∧ ((cyF step n acc o).2 = none ∨ ∃ a ∈ (cyF step n acc o).1, (cyF step n acc o).2 = some a)
  | 0, acc, o, h, hf => by
    exfalso
    have := nodup_len h.nd (ys := xs) fun a ma => by
      obtain ⟨i, hi⟩ := List.mem_iff_getElem?.mp ma
      have hl := (List.getElem?_eq_some_iff.mp hi).1
      exact hx i a (by rw [← h.at_ i hl]; exact hi)
    omega
  | n + 1, acc, none, h, _ => ⟨h, .inl rfl⟩
  | n + 1, acc, some a, h, hf => by
    unfold cyF
    split
    · rename_i ma
      exact ⟨h, .inr ⟨a, ma, rfl⟩⟩
    · rename_i ma
      refine cyF_spec hx ⟨fun i hi => ?_, ?_, ?_, by rw [List.length_append]; exact Nat.lt_of_lt_of_le h.ne (Nat.le_add_right _ _)⟩ (by rw [List.length_append, List.length_singleton]; omega)
      · rw [List.length_append, List.length_singleton] at hi
        by_cases hl : i < acc.length
        · rw [List.getElem?_append_left hl]
          exact h.at_ i hl
        · have e : i = acc.length := by omega
          subst e
          rw [List.getElem?_append_right (Nat.le_refl _), Nat.sub_self, ← h.nx]
          rfl
      · rw [List.length_append, List.length_singleton]
        show step a = (itO step s acc.length).bind step
        rw [← h.nx]
        rfl
      · rw [List.nodup_append]
        exact ⟨h.nd, by simp, fun x mx y my e => ma (by
          have := List.mem_singleton.mp my
          rw [← this, ← e]
          exact mx)⟩
theorem OrbI.init {step : OF} {s : Str} : OrbI step s [s] (step s) := ⟨fun i hi => by
  have : i = 0 := by simpa using hi
  subst this
  rfl, rfl, by simp, by simp⟩
theorem nd_at {l : List Str} (nd : l.Nodup) {i j : Nat} {a : Str} (h1 : l[i]? = some a) (h2 : l[j]? = some a) : i = j := by
  obtain ⟨l1, e1⟩ := List.getElem?_eq_some_iff.mp h1
  obtain ⟨l2, e2⟩ := List.getElem?_eq_some_iff.mp h2
  have := nd.idxOf_getElem i l1
  rw [e1] at this
  have h3 := nd.idxOf_getElem j l2
  rw [e2] at h3
  omega
theorem OrbI.cyc {step : OF} {s : Str} {acc : List Str} (h : OrbI step s acc (some s)) : CycP step acc ∧ s ∈ acc := by
  have a0 : acc[0]? = some s := h.at_ 0 h.ne
  have stp : ∀ {i : Nat} {a : Str}, acc[i]? = some a → step a = itO step s (i + 1) := fun {i a} hi => by
    have hl := (List.getElem?_eq_some_iff.mp hi).1
    show _ = (itO step s i).bind step
    rw [← h.at_ i hl, hi]
    rfl
  have lst : itO step s acc.length = some s := h.nx.symm
  have nxt : ∀ {i : Nat} {a : Str}, acc[i]? = some a → (i + 1 < acc.length ∧ step a = acc[i + 1]?) ∨ (i + 1 = acc.length ∧ step a = some s) := fun {i a} hi => by
    have hl := (List.getElem?_eq_some_iff.mp hi).1
    by_cases e : i + 1 < acc.length
    · exact .inl ⟨e, by rw [stp hi, h.at_ _ e]⟩
    · have e : i + 1 = acc.length := by omega
      exact .inr ⟨e, by rw [stp hi, e, lst]⟩
  have hpos := h.ne
  refine ⟨⟨h.nd, fun a ma => ?_, fun b mb => ?_, fun a ma b mb e => ?_, fun P ⟨a, ma, pa⟩ cl b mb => ?_⟩, List.mem_of_getElem? a0⟩
  · obtain ⟨i, hi⟩ := List.mem_iff_getElem?.mp ma
    rcases nxt hi with ⟨hl, e⟩ | ⟨_, e⟩
    · exact ⟨acc[i + 1], List.getElem_mem _, by rw [e]; exact List.getElem?_eq_getElem hl⟩
    · exact ⟨s, List.mem_of_getElem? a0, e⟩
  · obtain ⟨i, hi⟩ := List.mem_iff_getElem?.mp mb
    have hl := (List.getElem?_eq_some_iff.mp hi).1
    cases i with
    | zero =>
      rw [a0] at hi
      cases hi
      have hm : acc[acc.length - 1]? = some (acc[acc.length - 1]'(by omega)) := List.getElem?_eq_getElem _
      refine ⟨_, List.mem_of_getElem? hm, ?_⟩
      rcases nxt hm with ⟨hl, _⟩ | ⟨_, e⟩
      · omega
      · exact e
    | succ j =>
      have hm : acc[j]? = some (acc[j]'(by omega)) := List.getElem?_eq_getElem _
      refine ⟨_, List.mem_of_getElem? hm, ?_⟩
      rcases nxt hm with ⟨_, e⟩ | ⟨hl, _⟩
      · rw [e, hi]
      · omega
  · obtain ⟨i, hi⟩ := List.mem_iff_getElem?.mp ma
    obtain ⟨j, hj⟩ := List.mem_iff_getElem?.mp mb
    have key : i = j := by
      rcases nxt hi with ⟨l1, e1⟩ | ⟨l1, e1⟩ <;> rcases nxt hj with ⟨l2, e2⟩ | ⟨l2, e2⟩
      · rw [e1, e2, List.getElem?_eq_getElem l2] at e
        have := nd_at h.nd e (List.getElem?_eq_getElem l2)
        omega
      · rw [e1, e2] at e
        have := nd_at h.nd e a0
        omega
      · rw [e1, e2] at e
        have := nd_at h.nd e.symm a0
        omega
      · omega
    subst key
    rw [hi] at hj
    exact Option.some.inj hj
  · have down : ∀ (j i : Nat), i ≤ j → ∀ {x y : Str}, acc[i]? = some x → acc[j]? = some y → P y → P x := by
      intro j
      induction j with
      | zero =>
        intro i hi x y hx hy py
        have : i = 0 := by omega
        subst this
        rw [hx] at hy
        cases hy
        exact py
      | succ j ih =>
        intro i hi x y hx hy py
        by_cases e : i = j + 1
        · subst e
          rw [hx] at hy
          cases hy
          exact py
        · have hl := (List.getElem?_eq_some_iff.mp hy).1
          have hm : acc[j]? = some (acc[j]'(by omega)) := List.getElem?_eq_getElem _
          refine ih i (by omega) hx hm (cl _ (List.mem_of_getElem? hm) y (List.mem_of_getElem? hy) ?_ py)
          rcases nxt hm with ⟨_, e⟩ | ⟨hl, _⟩
          · rw [e, hy]
          · omega
    obtain ⟨i, hi⟩ := List.mem_iff_getElem?.mp ma
    obtain ⟨j, hj⟩ := List.mem_iff_getElem?.mp mb
    have p0 : P s := down i 0 (Nat.zero_le _) a0 hi pa
    have hm : acc[acc.length - 1]? = some (acc[acc.length - 1]'(by omega)) := List.getElem?_eq_getElem _
    have pm := cl _ (List.mem_of_getElem? hm) s (List.mem_of_getElem? a0) (by
      rcases nxt hm with ⟨hl, _⟩ | ⟨_, e⟩
      · omega
      · exact e) p0
    have hl := (List.getElem?_eq_some_iff.mp hj).1
    exact down (acc.length - 1) j (by omega) hj hm pm
theorem cyO_cyc {step : OF} {s : Str} {xs cyc : List Str} (hx : ∀ i a, itO step s i = some a → a ∈ xs) (hl : xs.length ≤ 16) (h : cyO step s = some cyc) : CycP step cyc ∧ (∀ a ∈ cyc, a ∈ xs) ∧ s ∈ cyc ∧ ∀ a ∈ cyc, ∃ n, itO step s n = some a := by
  obtain ⟨o, _⟩ := cyF_spec hx (n := 17) OrbI.init (by simp; omega)
  unfold cyO at h
  split at h
  · rename_i e
    cases h
    rw [e] at o
    have orb : ∀ a ∈ (cyF step 17 [s] (step s)).1, ∃ n, itO step s n = some a := fun a ma => by
      obtain ⟨i, hi⟩ := List.mem_iff_getElem?.mp ma
      exact ⟨i, by rw [← o.at_ i (List.getElem?_eq_some_iff.mp hi).1]; exact hi⟩
    exact ⟨o.cyc.1, fun a ma => (orb a ma).elim fun n hn => hx n a hn, o.cyc.2, orb⟩
  · cases h
theorem it_none {step : OF} {s : Str} {m : Nat} (h : itO step s m = none) : ∀ t, itO step s (m + t) = none
  | 0 => h
  | t + 1 => by
    show (itO step s (m + t)).bind step = none
    rw [it_none h t]
    rfl
theorem it_det {step : OF} {s : Str} {m i : Nat} (h : itO step s m = itO step s i) : ∀ t, itO step s (m + t) = itO step s (i + t)
  | 0 => h
  | t + 1 => by
    show (itO step s (m + t)).bind step = (itO step s (i + t)).bind step
    rw [it_det h t]
theorem it_mul {step : OF} {s : Str} {k : Nat} (h : itO step s k = some s) : ∀ (j n : Nat), itO step s (k * j + n) = itO step s n
  | 0, n => by rw [Nat.mul_zero, Nat.zero_add]
  | j + 1, n => by
    rw [Nat.mul_add, Nat.mul_one, Nat.add_assoc, it_mul h j]
    have : itO step s k = itO step s 0 := h
    rw [it_det this n, Nat.zero_add]
theorem cyO_ex {step : OF} {s : Str} {xs : List Str} (hx : ∀ i a, itO step s i = some a → a ∈ xs) (hl : xs.length ≤ 16) {k : Nat} (hk : 0 < k) (h : itO step s k = some s) : ∃ cyc, cyO step s = some cyc := by
  obtain ⟨o, e⟩ := cyF_spec hx (n := 17) OrbI.init (by simp; omega)
  unfold cyO
  generalize cyF step 17 [s] (step s) = r at o e
  obtain ⟨acc, q⟩ := r
  dsimp only at o e ⊢
  have hm : ∀ m : Nat, m ≤ k * m := fun m => Nat.le_mul_of_pos_left m hk
  rcases e with rfl | ⟨a, ma, rfl⟩
  · exfalso
    have h1 := it_none o.nx.symm (k * acc.length - acc.length)
    rw [show acc.length + (k * acc.length - acc.length) = k * acc.length + 0 by have := hm acc.length; omega, it_mul h] at h1
    cases h1
  · obtain ⟨i, hi⟩ := List.mem_iff_getElem?.mp ma
    have hl := (List.getElem?_eq_some_iff.mp hi).1
    have h1 : itO step s acc.length = itO step s i := by rw [← o.nx, ← o.at_ i hl, hi]
    have h2 := it_det h1 (k * i - i)
    rw [show i + (k * i - i) = k * i + 0 by have := hm i; omega, it_mul h, show acc.length + (k * i - i) = k * i + (acc.length - i) by have := hm i; omega, it_mul h] at h2
    have hi0 : i = 0 := by
      refine Nat.eq_zero_of_not_pos fun hp => ?_
      have h3 := o.at_ (acc.length - i) (by omega)
      rw [h2] at h3
      have := nd_at o.nd h3 (o.at_ 0 o.ne)
      omega
    subst hi0
    rw [o.at_ 0 o.ne] at hi
    have : a = s := (Option.some.inj hi).symm
    rw [this, if_pos rfl]
    exact ⟨_, rfl⟩
/-! ### where two would rather have each other, a cycle can be passed on -/
def ioB (xs : List Str) (f : Str → List Str) (A H : OF) : Bool := xs.all fun a => match A a, H a with
  | some b, some c => decide ((f a).idxOf b ≤ (f a).idxOf c)
  | _, _ => true
structure SSt (xs : List Str) (f : Str → List Str) (A H : OF) : Prop where
  sm : SM xs f A H
  dm : DomE xs A H
  io : IOr xs f A H
section
variable {xs : List Str} {f : Str → List Str} {A H : OF}
theorem D_low (mu : Mut xs f) (s : SSt xs f A H) {a b c : Str} (ma : a ∈ xs) (ea : A a = some b) (eh : H a = some c) (ne : b ≠ c) :
    ∃ l e, lowO f A H a = some l ∧ l ∈ xs ∧ H l = some e ∧ e ∈ xs ∧ A e = some l ∧ (f a).idxOf l ≤ (f a).idxOf c ∧ ∃ c', H e = some c' ∧ l ≠ c' := by
  have mb := s.sm.oa a ma b ea
  have mc := s.sm.oh a ma c eh
  obtain ⟨mcx, hac⟩ := s.sm.ha mu ma eh
  have nda := mu.fn a ma
  obtain ⟨b', eb', hle⟩ := s.io a ma c eh
  rw [ea] at eb'
  cases eb'
  have hlt : (f a).idxOf b < (f a).idxOf c := by
    have : (f a).idxOf b ≠ (f a).idxOf c := fun z => ne (idx_inj mb mc z)
    omega
  have hcacc : ratherO (f c) a (H c) = true := by
    cases ehc : H c with
    | none => rfl
    | some e =>
      obtain ⟨a', ea', hle2⟩ := s.io c mcx e ehc
      rw [hac] at ea'
      cases ea'
      rw [ra_some]
      have hne : a ≠ e := fun z => by
        subst z
        have := (s.sm.ha mu mcx ehc).2
        rw [ea] at this
        exact ne (Option.some.inj this)
      have : (f c).idxOf a ≠ (f c).idxOf e := fun z => hne (idx_inj (mu.fi a ma c mc).2 (s.sm.oh c mcx e ehc) z)
      omega
  obtain ⟨l, hl, hll⟩ := low_ex nda ea mc hlt hcacc
  obtain ⟨ml, l1, l2, l3⟩ := low_spec nda ea hl
  obtain ⟨mlx, mal⟩ := mu.fi a ma l ml
  have two : l = c ∨ ratherO (f a) l (H a) = true := by
    by_cases e : l = c
    · exact .inl e
    · have : (f a).idxOf l ≠ (f a).idxOf c := fun z => e (idx_inj ml mc z)
      rw [eh, ra_some]
      exact .inr (by omega)
  have nl : ¬ (ratherO (f a) l (H a) = true ∧ ratherO (f l) a (A l) = true) := fun ⟨h1, h2⟩ => s.sm.st l mlx a mal h2 h1
  have hsome : ∃ e, H l = some e := by
    cases ehl : H l with
    | some e => exact ⟨e, rfl⟩
    | none =>
      exfalso
      have hd := s.dm l mlx
      rw [ehl] at hd
      have hal : A l = none := by
        cases z : A l with
        | none => rfl
        | some y => rw [z] at hd; cases hd
      rcases two with rfl | h1
      · rw [hac] at hal
        cases hal
      · exact nl ⟨h1, by rw [hal]; rfl⟩
  obtain ⟨e, ehl⟩ := hsome
  obtain ⟨mex, hae⟩ := s.sm.ha mu mlx ehl
  have hde := s.dm e mex
  rw [hae] at hde
  obtain ⟨c', ec'⟩ := Option.isSome_iff_exists.mp hde.symm
  refine ⟨l, e, hl, mlx, ehl, mex, hae, hll, c', ec', fun z => ?_⟩
  subst z
  have hal := (s.sm.ha mu mex ec').2
  rcases two with rfl | h1
  · rw [hac] at hal
    cases hal
    rw [hae] at ea
    cases ea
    exact ne rfl
  · refine nl ⟨h1, ?_⟩
    rw [hal]
    rw [ehl] at l2
    exact l2
theorem quarrel_low (mu : Mut xs f) (s : SSt xs f A H) {a b : Str} (ma : a ∈ xs) (mb : b ∈ f a) (h1 : ratherO (f a) b (H a) = true) (h2 : ratherO (f b) a (H b) = true) : ∃ d c, A a = some d ∧ H a = some c ∧ d ≠ c ∧ lowO f A H a ≠ H a := by
  have hna : ¬ ratherO (f a) b (A a) = true := fun z => s.sm.st a ma b mb z h2
  cases ea : A a with
  | none => rw [ea] at hna; exact absurd rfl hna
  | some d =>
    rw [ea, ra_some] at hna
    have hd := s.dm a ma
    rw [ea] at hd
    obtain ⟨c, ec⟩ := Option.isSome_iff_exists.mp hd.symm
    rw [ec, ra_some] at h1
    have md := s.sm.oa a ma d ea
    have hbd : b ≠ d := fun z => by
      subst z
      rw [(s.sm.ah mu ma ea).2, ra_some] at h2
      omega
    have : (f a).idxOf d ≠ (f a).idxOf b := fun z => hbd (idx_inj md mb z).symm
    obtain ⟨l, hl, hll⟩ := low_ex (mu.fn a ma) ea mb (by omega) h2
    refine ⟨d, c, rfl, ec, fun z => ?_, fun z => ?_⟩
    · subst z
      omega
    · rw [hl, ec] at z
      cases z
      omega
variable {cyc : List Str}
/-- what is wrong where everybody stays in order no longer -/
theorem viol_bad (mu : Mut xs f) (s : SSt xs f A H) (cp : CycP (stepO f A H) cyc) (cx : ∀ a ∈ cyc, a ∈ xs) (cd : ∀ a ∈ cyc, ∃ b c, A a = some b ∧ H a = some c ∧ b ≠ c) (h : ioB xs f (nAs (lowO f A H) A cyc) (nHo (lowO f A H) H cyc) ≠ true) :
    ∀ r ∈ cyc, lowO f A H r = H r ∧ ∃ r' ∈ cyc, A r = some r' := by
  let Vi : Str → Prop := fun p => p ∈ xs ∧ ∃ b c, nAs (lowO f A H) A cyc p = some b ∧ nHo (lowO f A H) H cyc p = some c ∧ (f p).idxOf c < (f p).idxOf b
  have vex : ∃ p, Vi p := by
    have h := Bool.eq_false_iff.mpr h
    rw [ioB, List.all_eq_false] at h
    obtain ⟨p, mp, hp⟩ := h
    refine ⟨p, mp, ?_⟩
    cases e1 : nAs (lowO f A H) A cyc p with
    | none => rw [e1] at hp; exact absurd rfl hp
    | some b =>
      cases e2 : nHo (lowO f A H) H cyc p with
      | none => rw [e1, e2] at hp; exact absurd rfl hp
      | some c =>
        rw [e1, e2] at hp
        exact ⟨b, c, rfl, rfl, Nat.lt_of_not_le fun z => hp (decide_eq_true z)⟩
  have main : ∀ p, Vi p → p ∈ cyc ∧ ∃ e ∈ cyc, A p = some e ∧ lowO f A H e = some p ∧ H e = some p := by
    rintro p ⟨mp, b, c, e1, e2, lt⟩
    rcases nHo_cases e2 with ⟨mc, hl⟩ | ⟨hn, hb⟩
    · -- c asks p anew
      have mcx := cx c mc
      obtain ⟨b0, c0, ea0, eh0, ne0⟩ := cd c mc
      obtain ⟨l, e, hl', mlx, _, _, _, hle, _⟩ := D_low mu s mcx ea0 eh0 ne0
      rw [hl] at hl'
      cases hl'
      obtain ⟨mpc, _, hacc, _⟩ := low_spec (mu.fn c mcx) ea0 hl
      have mcp := (mu.fi c mcx p mpc).2
      have key : A p = some c ∨ (∃ d, A p = some d ∧ (f p).idxOf d < (f p).idxOf c ∧ ratherO (f c) p (H c) = true) := by
        by_cases z : H c = some p
        · exact .inl (s.sm.ha mu mcx z).2
        · have hr : ratherO (f c) p (H c) = true := by
            rw [eh0, ra_some]
            rw [eh0] at z
            have : (f c).idxOf p ≠ (f c).idxOf c0 := fun w => z (by rw [idx_inj mpc (s.sm.oh c mcx c0 eh0) w])
            omega
          have hna : ¬ ratherO (f p) c (A p) = true := fun w => s.sm.st p mp c mcp w hr
          cases eap : A p with
          | none => rw [eap] at hna; exact absurd rfl hna
          | some d =>
            rw [eap, ra_some] at hna
            by_cases w : d = c
            · subst w; exact .inl rfl
            · have : (f p).idxOf d ≠ (f p).idxOf c := fun q => w (idx_inj (s.sm.oa p mp d eap) mcp q)
              exact .inr ⟨d, rfl, by omega, hr⟩
      have mpcy : p ∈ cyc := Classical.byContradiction fun np => by
        unfold nAs at e1
        rw [if_neg np] at e1
        rcases key with z | ⟨d, z, z2, _⟩
        · rw [z] at e1
          cases e1
          omega
        · rw [z] at e1
          cases e1
          omega
      refine ⟨mpcy, c, mc, ?_⟩
      rcases key with z | ⟨d, z, z2, z3⟩
      · exact ⟨z, hl, (s.sm.ah mu mp z).2⟩
      · exfalso
        unfold nAs at e1
        rw [if_pos mpcy] at e1
        obtain ⟨_, _, _, l4⟩ := low_spec (mu.fn p mp) z e1
        have := l4 c mcp z2 lt
        rw [z3] at this
        cases this
    · exfalso
      unfold nAs at e1
      split at e1
      · rename_i mc
        obtain ⟨b0, c0, ea0, eh0, ne0⟩ := cd p mc
        obtain ⟨l, e, hl', _, _, _, _, hle, _⟩ := D_low mu s mp ea0 eh0 ne0
        rw [e1] at hl'
        cases hl'
        rw [hb] at eh0
        cases eh0
        omega
      · obtain ⟨b', eb', hle⟩ := s.io p mp c hb
        rw [e1] at eb'
        cases eb'
        omega
  have nextV : ∀ p, Vi p → ∃ e ∈ cyc, A p = some e ∧ lowO f A H e = some p ∧ H e = some p ∧ Vi e := by
    intro p vp
    obtain ⟨mpc, e, me, ae, le, he⟩ := main p vp
    refine ⟨e, me, ae, le, he, cx e me, ?_⟩
    obtain ⟨x, mx, hs⟩ := cp.pv p mpc
    obtain ⟨c, hl, hc⟩ := step_low hs
    obtain ⟨c', e', hl', mcx, _⟩ := cyc_low mu s.sm cp cx mx
    rw [hl] at hl'
    cases hl'
    have := (s.sm.ha mu mcx hc).2
    rw [ae] at this
    cases this
    obtain ⟨b0, c0, ea0, _, _⟩ := cd x mx
    have hacc := (low_spec (mu.fn x (cx x mx)) ea0 hl).2.2.1
    rw [he, ra_some] at hacc
    exact ⟨p, x, by unfold nAs; rw [if_pos me]; exact le, nHo_low cp mx hl, hacc⟩
  have all : ∀ r ∈ cyc, Vi r := by
    obtain ⟨p, vp⟩ := vex
    refine cp.ind Vi ⟨p, (main p vp).1, vp⟩ fun a ma b mb hs vb => ?_
    obtain ⟨e, me, ae, le, he, ve⟩ := nextV b vb
    obtain ⟨e2, me2, ae2, le2, he2, ve2⟩ := nextV e ve
    obtain ⟨c, hl, hc⟩ := step_low hs
    obtain ⟨c', e', hl', mcx, _⟩ := cyc_low mu s.sm cp cx ma
    rw [hl] at hl'
    cases hl'
    have := (s.sm.ha mu mcx hc).2
    rw [ae] at this
    cases this
    rw [low_inj cp ma me2 hl le2]
    exact ve2
  intro r mr
  obtain ⟨_, r', mr', ar, _⟩ := main r (all r mr)
  refine ⟨?_, r', mr', ar⟩
  obtain ⟨r2, mr2, hs⟩ := cp.nx r mr
  obtain ⟨e, me, ae, le, he, ve⟩ := nextV r2 (all r2 mr2)
  obtain ⟨e2, me2, ae2, le2, he2, ve2⟩ := nextV e ve
  obtain ⟨c, hl, hc⟩ := step_low hs
  obtain ⟨c', e', hl', mcx, _⟩ := cyc_low mu s.sm cp cx mr
  rw [hl] at hl'
  cases hl'
  have := (s.sm.ha mu mcx hc).2
  rw [ae] at this
  cases this
  have e3 := low_inj cp mr me2 hl le2
  subst e3
  rw [le2, he2]
/-- nobody comes from outside into a bad cycle -/
theorem bad_closed (mu : Mut xs f) (s : SSt xs f A H) (cx : ∀ a ∈ cyc, a ∈ xs) (bad : ∀ r ∈ cyc, lowO f A H r = H r ∧ ∃ r' ∈ cyc, A r = some r') {a b c r : Str} (ma : a ∈ xs) (ea : A a = some b) (eh : H a = some c) (ne : b ≠ c) (hs : stepO f A H a = some r) (mr : r ∈ cyc) : a ∈ cyc := by
  obtain ⟨l, e, hl, mlx, ehl, mex, hae, hle, _⟩ := D_low mu s ma ea eh ne
  obtain ⟨l', hl', hr'⟩ := step_low hs
  rw [hl] at hl'
  cases hl'
  rw [ehl] at hr'
  cases hr'
  obtain ⟨_, l2, mlc, al2⟩ := bad _ mr
  rw [hae] at al2
  cases al2
  obtain ⟨ml, _, hacc, _⟩ := low_spec (mu.fn a ma) ea hl
  rw [ehl, ra_some] at hacc
  obtain ⟨lowl, r', mr', al⟩ := bad l mlc
  by_cases z : c = l
  · subst z
    have := (s.sm.ha mu ma eh).2
    rw [al] at this
    cases this
    exact mr'
  · exfalso
    have mal := (mu.fi a ma l ml).2
    have hlt : (f a).idxOf l < (f a).idxOf c := by
      have : (f a).idxOf l ≠ (f a).idxOf c := fun w => z (idx_inj ml (s.sm.oh a ma c eh) w).symm
      omega
    have hr : ratherO (f a) l (H a) = true := by rw [eh, ra_some]; exact hlt
    have hna : ¬ ratherO (f l) a (A l) = true := fun w => s.sm.st l mlx a mal w hr
    rw [al, ra_some] at hna
    have hne : r' ≠ a := fun w => by
      subst w
      have := (s.sm.ah mu mlx al).2
      rw [eh] at this
      exact z (Option.some.inj this)
    have : (f l).idxOf r' ≠ (f l).idxOf a := fun w => hne (idx_inj (s.sm.oa l mlx r' al) mal w)
    obtain ⟨y, hy, hyl⟩ := low_ex (mu.fn l mlx) al mal (by omega) hr
    rw [lowl, ehl] at hy
    cases hy
    omega
theorem D_orbit (mu : Mut xs f) (s : SSt xs f A H) {a b c : Str} (ma : a ∈ xs) (ea : A a = some b) (eh : H a = some c) (ne : b ≠ c) : ∀ n, ∃ e b' c', itO (stepO f A H) a n = some e ∧ e ∈ xs ∧ A e = some b' ∧ H e = some c' ∧ b' ≠ c'
  | 0 => ⟨a, b, c, rfl, ma, ea, eh, ne⟩
  | n + 1 => by
    obtain ⟨e, b', c', h1, h2, h3, h4, h5⟩ := D_orbit mu s ma ea eh ne n
    obtain ⟨l, e2, hl, _, ehl, mex, hae, _, c2, hc2, hne⟩ := D_low mu s h2 h3 h4 h5
    refine ⟨e2, l, c2, ?_, mex, hae, hc2, hne⟩
    show (itO (stepO f A H) a n).bind (stepO f A H) = some e2
    rw [h1]
    show (lowO f A H e).bind H = some e2
    rw [hl]
    exact ehl
theorem it_from {step : OF} {a s : Str} {i : Nat} (h : itO step a i = some s) : ∀ n, itO step s n = itO step a (i + n)
  | 0 => h.symm
  | n + 1 => by
    show (itO step s n).bind step = (itO step a (i + n)).bind step
    rw [it_from h n]
theorem quarrel_pass (mu : Mut xs f) (s : SSt xs f A H) {a b : Str} (ma : a ∈ xs) (mb : b ∈ f a) (h1 : ratherO (f a) b (H a) = true) (h2 : ratherO (f b) a (H b) = true) :
    ∃ st ∈ xs, ∃ cyc, cyO (stepO f A H) st = some cyc ∧ ioB xs f (nAs (lowO f A H) A cyc) (nHo (lowO f A H) H cyc) = true := by
  obtain ⟨d, c, ea, eh, ne, hlow⟩ := quarrel_low mu s ma mb h1 h2
  have orb := D_orbit mu s ma ea eh ne
  have dup : ∃ i j : Nat, i < j ∧ itO (stepO f A H) a i = itO (stepO f A H) a j := Classical.byContradiction fun hn => by
    have nd : ((List.range (xs.length + 1)).map fun i => (itO (stepO f A H) a i).getD "").Nodup := by
      refine List.pairwise_map.mpr (List.pairwise_lt_range.imp fun {i j} lt => fun (e : (itO (stepO f A H) a i).getD "" = (itO (stepO f A H) a j).getD "") => hn ⟨i, j, lt, ?_⟩)
      obtain ⟨u, _, _, hu, _⟩ := orb i
      obtain ⟨v, _, _, hv, _⟩ := orb j
      rw [hu, hv] at e ⊢
      have e : u = v := e
      rw [e]
    have := nodup_len nd (ys := xs) fun y my => by
      obtain ⟨i, _, rfl⟩ := List.mem_map.mp my
      obtain ⟨u, _, _, hu, mx, _⟩ := orb i
      rw [hu]
      exact mx
    rw [List.length_map, List.length_range] at this
    omega
  obtain ⟨i, j, lt, hij⟩ := dup
  obtain ⟨st, b', c', hst, mst, ea', eh', ne'⟩ := orb i
  have hx : ∀ n x, itO (stepO f A H) st n = some x → x ∈ xs := fun n x hn => by
    obtain ⟨u, _, _, hu, mu', _⟩ := D_orbit mu s mst ea' eh' ne' n
    rw [hn] at hu
    cases hu
    exact mu'
  obtain ⟨cyc, hc⟩ := cyO_ex hx mu.few (k := j - i) (by omega) (by rw [it_from hst, show i + (j - i) = j by omega, ← hij, hst])
  refine ⟨st, mst, cyc, hc, Classical.byContradiction fun hio => ?_⟩
  obtain ⟨cp, cx, ms, orb2⟩ := cyO_cyc hx mu.few hc
  have cd : ∀ x ∈ cyc, ∃ b c, A x = some b ∧ H x = some c ∧ b ≠ c := fun x mx => by
    obtain ⟨n, hn⟩ := orb2 x mx
    obtain ⟨u, b1, c1, hu, _, h3, h4, h5⟩ := D_orbit mu s mst ea' eh' ne' n
    rw [hn] at hu
    cases hu
    exact ⟨b1, c1, h3, h4, h5⟩
  have bad := viol_bad mu s cp cx cd hio
  have back : ∀ n, n ≤ i → ∃ e, itO (stepO f A H) a (i - n) = some e ∧ e ∈ cyc := by
    intro n
    induction n with
    | zero => intro _; exact ⟨st, hst, ms⟩
    | succ n ih =>
      intro hn
      obtain ⟨e, he, me⟩ := ih (by omega)
      obtain ⟨e2, b2, c2, he2, m2, ea2, eh2, ne2⟩ := orb (i - (n + 1))
      refine ⟨e2, he2, bad_closed mu s cx bad m2 ea2 eh2 ne2 ?_ me⟩
      rw [show i - n = (i - (n + 1)) + 1 by omega] at he
      have he : (itO (stepO f A H) a (i - (n + 1))).bind (stepO f A H) = some e := he
      rw [he2] at he
      exact he
  obtain ⟨e, he, me⟩ := back i (Nat.le_refl _)
  rw [Nat.sub_self] at he
  cases he
  exact hlow (bad a me).1
end
end Q

set_option Elab.async false
set_option linter.all false
set_option maxRecDepth 100000
set_option maxHeartbeats 4000000
namespace Q
open PySem PySem.Spec PyProof.Rows L2
/-! ### all ask until nobody asks any more: plain theory -/
structure AskI (xs : List Str) (f : Str → List Str) (A H : OF) (n : Str → Nat) (free : List Str) : Prop where
  inv : ∀ a ∈ xs, ∀ b ∈ xs, A a = some b ↔ H b = some a
  at_ : ∀ a ∈ xs, ∀ b, A a = some b → ∃ k, n a = k + 1 ∧ (f a)[k]? = some b
  oh : ∀ b ∈ xs, ∀ a, H b = some a → a ∈ xs
  ref : ∀ a ∈ xs, ∀ j b, j < n a → (f a)[j]? = some b → A a = some b ∨ ∃ c, H b = some c ∧ (f b).idxOf c < (f b).idxOf a
  fr : ∀ a ∈ xs, A a = none → a ∈ free ∨ (f a).length ≤ n a
  fi : ∀ a ∈ free, a ∈ xs ∧ A a = none
  nd : free.Nodup
  nl : ∀ a ∈ xs, n a ≤ (f a).length
  opt : ∀ A' H', SM xs f A' H' → ∀ a ∈ xs, ∀ j b, j < n a → (f a)[j]? = some b → A a ≠ some b → A' a ≠ some b
section
variable {xs : List Str} {f : Str → List Str} {A H : OF} {n : Str → Nat} {fr : List Str} {a b : Str}
theorem AskI.init {ys : List Str} (nd : ys.Nodup) (h : ∀ x, x ∈ ys ↔ x ∈ xs) : AskI xs f (fun _ => none) (fun _ => none) (fun _ => 0) ys :=
  ⟨fun _ _ _ _ => ⟨fun z => (nomatch z), fun z => (nomatch z)⟩, fun _ _ _ z => (nomatch z), fun _ _ _ z => (nomatch z), fun _ _ _ _ z => absurd z (Nat.not_lt_zero _), fun a ma _ => .inl ((h a).mpr ma), fun a ma => ⟨(h a).mp ma, rfl⟩, nd, fun _ _ => Nat.zero_le _, fun _ _ _ _ _ _ _ z => absurd z (Nat.not_lt_zero _)⟩
theorem AskI.last (h : AskI xs f A H n (fr ++ [a])) : a ∈ xs ∧ A a = none ∧ fr.Nodup ∧ a ∉ fr := by
  obtain ⟨h1, h2⟩ := h.fi a (by simp)
  have nd := h.nd
  rw [List.nodup_append] at nd
  exact ⟨h1, h2, nd.1, fun m => nd.2.2 a m a (by simp) rfl⟩
/-- nobody is left to be asked -/
theorem AskI.done (h : AskI xs f A H n (fr ++ [a])) (hn : (f a).length ≤ n a) : AskI xs f A H n fr := by
  obtain ⟨ma, ha, nd, na⟩ := h.last
  refine ⟨h.inv, h.at_, h.oh, h.ref, fun x mx hx => ?_, fun x mx => h.fi x (List.mem_append_left _ mx), nd, h.nl, h.opt⟩
  rcases h.fr x mx hx with m | m
  · rcases List.mem_append.mp m with m | m
    · exact .inl m
    · rw [List.mem_singleton.mp m]
      exact .inr hn
  · exact .inr m
/-- who holds a place at b: everybody dearer refused before -/
theorem AskI.hold (mu : Mut xs f) (h : AskI xs f A H n fr) {c : Str} (mb : b ∈ xs) (hb : H b = some c) : c ∈ xs ∧ A c = some b ∧ b ∈ f c ∧ n c = (f c).idxOf b + 1 := by
  have mc := h.oh b mb c hb
  have hc := (h.inv c mc b mb).mpr hb
  obtain ⟨k, h1, h2⟩ := h.at_ c mc b hc
  obtain ⟨hl, e⟩ := List.getElem?_eq_some_iff.mp h2
  refine ⟨mc, hc, List.mem_of_getElem? h2, ?_⟩
  rw [h1, ← e, (mu.fn c mc).idxOf_getElem]
theorem AskI.rather (mu : Mut xs f) (h : AskI xs f A H n fr) {A' H' : OF} (s : SM xs f A' H') {c : Str} (mb : b ∈ xs) (hb : H b = some c) (ne : A' c ≠ some b) : ratherO (f c) b (A' c) = true := by
  obtain ⟨mc, hc, mbc, hn⟩ := h.hold mu mb hb
  cases e : A' c with
  | none => rfl
  | some d =>
    rw [ra_some]
    have md := s.oa c mc d e
    have hdb : d ≠ b := fun z => ne (by rw [e, z])
    have : (f c).idxOf b ≠ (f c).idxOf d := fun z => hdb (idx_inj mbc md z).symm
    refine Nat.lt_of_not_le fun hle => ?_
    exact h.opt A' H' s c mc ((f c).idxOf d) d (by omega) (get_idx md) (fun z => by rw [hc] at z; exact hdb (Option.some.inj z).symm) e
theorem AskI.ratherF (h : AskI xs f A H n fr) {A' H' : OF} (s : SM xs f A' H') (ma : a ∈ xs) (ha : A a = none) (mu : Mut xs f) (hb : (f a)[n a]? = some b) (ne : A' a ≠ some b) : ratherO (f a) b (A' a) = true := by
  cases e : A' a with
  | none => rfl
  | some d =>
    rw [ra_some]
    have md := s.oa a ma d e
    have mb := List.mem_of_getElem? hb
    have hdb : d ≠ b := fun z => ne (by rw [e, z])
    have : (f a).idxOf b ≠ (f a).idxOf d := fun z => hdb (idx_inj mb md z).symm
    have eb : (f a).idxOf b = n a := by
      obtain ⟨hl, e⟩ := List.getElem?_eq_some_iff.mp hb
      rw [← e, (mu.fn a ma).idxOf_getElem]
    refine Nat.lt_of_not_le fun hle => ?_
    exact h.opt A' H' s a ma ((f a).idxOf d) d (by omega) (get_idx md) (fun z => by rw [ha] at z; cases z) e
theorem AskI.refuse (mu : Mut xs f) (h : AskI xs f A H n (fr ++ [a])) (hb : (f a)[n a]? = some b) {c : Str} (hc : H b = some c) (lt : (f b).idxOf c < (f b).idxOf a) : AskI xs f A H (updW n a (n a + 1)) (fr ++ [a]) := by
  obtain ⟨ma, ha, nd, na⟩ := h.last
  have mba := List.mem_of_getElem? hb
  obtain ⟨mb, mab⟩ := mu.fi a ma b mba
  obtain ⟨mc, hAc, mbc, hnc⟩ := h.hold mu mb hc
  have hlen := (List.getElem?_eq_some_iff.mp hb).1
  have un : ∀ {x : Str}, x ≠ a → updW n a (n a + 1) x = n x := fun e => updW_ne e
  refine ⟨h.inv, fun x mx y e => ?_, h.oh, fun x mx j y hj hy => ?_, fun x mx hx => ?_, h.fi, h.nd, fun x mx => ?_, fun A' H' s x mx j y hj hy e => ?_⟩
  · have : x ≠ a := fun z => by rw [z, ha] at e; cases e
    rw [un this]
    exact h.at_ x mx y e
  · by_cases z : x = a
    · subst z
      rw [updW_eq] at hj
      by_cases hjn : j = n x
      · subst hjn
        rw [hb] at hy
        cases hy
        exact .inr ⟨c, hc, lt⟩
      · exact h.ref x mx j y (by omega) hy
    · rw [un z] at hj
      exact h.ref x mx j y hj hy
  · by_cases z : x = a
    · subst z
      exact .inl (by simp)
    · rw [un z]
      exact h.fr x mx hx
  · by_cases z : x = a
    · subst z
      rw [updW_eq]
      omega
    · rw [un z]
      exact h.nl x mx
  · by_cases z : x = a
    · subst z
      rw [updW_eq] at hj
      by_cases hjn : j = n x
      · subst hjn
        rw [hb] at hy
        cases hy
        intro e2
        have hca : c ≠ x := fun w => by rw [w, ha] at hAc; cases hAc
        have hH := (s.ah mu mx e2).2
        have hne : A' c ≠ some b := fun w => by
          have := (s.ah mu mc w).2
          rw [hH] at this
          exact hca (Option.some.inj this).symm
        exact s.st c mc b mbc (h.rather mu s mb hc hne) (by rw [hH, ra_some]; exact lt)
      · exact h.opt A' H' s x mx j y (by omega) hy e
    · rw [un z] at hj
      exact h.opt A' H' s x mx j y hj hy e
/-- the place is free, or the one who held it must go -/
theorem AskI.takeN (mu : Mut xs f) (h : AskI xs f A H n (fr ++ [a])) (hb : (f a)[n a]? = some b) (hc : H b = none) : AskI xs f (updW A a (some b)) (updW H b (some a)) (updW n a (n a + 1)) fr := by
  obtain ⟨ma, ha, nd, na⟩ := h.last
  have mba := List.mem_of_getElem? hb
  obtain ⟨mb, mab⟩ := mu.fi a ma b mba
  have hlen := (List.getElem?_eq_some_iff.mp hb).1
  refine ⟨fun x mx y my => ?_, fun x mx y e => ?_, fun y my x e => ?_, fun x mx j y hj hy => ?_, fun x mx hx => ?_, fun x mx => ?_, nd, fun x mx => ?_, fun A' H' s x mx j y hj hy e => ?_⟩
  · by_cases z1 : x = a
    · subst z1
      rw [updW_eq]
      by_cases z2 : y = b
      · subst z2
        rw [updW_eq]
        exact ⟨fun _ => rfl, fun _ => rfl⟩
      · rw [updW_ne z2]
        exact ⟨fun w => absurd (Option.some.inj w).symm z2, fun w => by
          have := (h.inv x mx y my).mpr w
          rw [ha] at this
          cases this⟩
    · rw [updW_ne z1]
      by_cases z2 : y = b
      · subst z2
        rw [updW_eq]
        exact ⟨fun w => (by
          have := (h.inv x mx y my).mp w
          rw [hc] at this
          cases this), fun w => absurd (Option.some.inj w).symm z1⟩
      · rw [updW_ne z2]
        exact h.inv x mx y my
  · by_cases z : x = a
    · subst z
      rw [updW_eq] at e ⊢
      cases e
      exact ⟨n x, rfl, hb⟩
    · rw [updW_ne z] at e ⊢
      exact h.at_ x mx y e
  · by_cases z : y = b
    · subst z
      rw [updW_eq] at e
      cases e
      exact ma
    · rw [updW_ne z] at e
      exact h.oh y my x e
  · by_cases z : x = a
    · subst z
      rw [updW_eq] at hj ⊢
      by_cases hjn : j = n x
      · subst hjn
        rw [hb] at hy
        cases hy
        exact .inl rfl
      · rcases h.ref x mx j y (by omega) hy with w | ⟨c, h1, h2⟩
        · rw [ha] at w; cases w
        · have : y ≠ b := fun q => by rw [q, hc] at h1; cases h1
          exact .inr ⟨c, by rw [updW_ne this]; exact h1, h2⟩
    · rw [updW_ne z] at hj ⊢
      rcases h.ref x mx j y hj hy with w | ⟨c, h1, h2⟩
      · exact .inl w
      · have : y ≠ b := fun q => by rw [q, hc] at h1; cases h1
        exact .inr ⟨c, by rw [updW_ne this]; exact h1, h2⟩
  · by_cases z : x = a
    · subst z
      rw [updW_eq] at hx
      cases hx
    · rw [updW_ne z] at hx ⊢
      rcases h.fr x mx hx with m | m
      · rcases List.mem_append.mp m with m | m
        · exact .inl m
        · exact absurd (List.mem_singleton.mp m) z
      · exact .inr m
  · have hx : x ≠ a := fun z => na (by rw [← z]; exact mx)
    obtain ⟨h1, h2⟩ := h.fi x (List.mem_append_left _ mx)
    exact ⟨h1, by rw [updW_ne hx]; exact h2⟩
  · by_cases z : x = a
    · subst z
      rw [updW_eq]
      omega
    · rw [updW_ne z]
      exact h.nl x mx
  · by_cases z : x = a
    · subst z
      rw [updW_eq] at hj e
      by_cases hjn : j = n x
      · subst hjn
        rw [hb] at hy
        cases hy
        exact absurd rfl e
      · exact h.opt A' H' s x mx j y (by omega) hy (by rw [ha]; exact fun w => (nomatch w))
    · rw [updW_ne z] at hj e
      exact h.opt A' H' s x mx j y hj hy e
theorem AskI.takeS (mu : Mut xs f) (h : AskI xs f A H n (fr ++ [a])) (hb : (f a)[n a]? = some b) {c : Str} (hc : H b = some c) (lt : ¬ (f b).idxOf c < (f b).idxOf a) : AskI xs f (updW (updW A a (some b)) c none) (updW H b (some a)) (updW n a (n a + 1)) (fr ++ [c]) := by
  obtain ⟨ma, ha, nd, na⟩ := h.last
  have mba := List.mem_of_getElem? hb
  obtain ⟨mb, mab⟩ := mu.fi a ma b mba
  have hlen := (List.getElem?_eq_some_iff.mp hb).1
  obtain ⟨mc, hAc, mbc, hnc⟩ := h.hold mu mb hc
  have hca : c ≠ a := fun w => by rw [w, ha] at hAc; cases hAc
  have mcb := (mu.fi c mc b mbc).2
  have lt2 : (f b).idxOf a < (f b).idxOf c := by
    have : (f b).idxOf c ≠ (f b).idxOf a := fun z => hca (idx_inj mcb mab z)
    omega
  have ua : updW (updW A a (some b)) c none a = some b := by rw [updW_ne (Ne.symm hca), updW_eq]
  have uc : updW (updW A a (some b)) c none c = none := updW_eq
  have uo : ∀ {x : Str}, x ≠ a → x ≠ c → updW (updW A a (some b)) c none x = A x := fun e1 e2 => by rw [updW_ne e2, updW_ne e1]
  have only : ∀ {x : Str}, x ∈ xs → A x = some b → x = c := fun {x} mx e => by
    have := (h.inv x mx b mb).mp e
    rw [hc] at this
    exact (Option.some.inj this).symm
  refine ⟨fun x mx y my => ?_, fun x mx y e => ?_, fun y my x e => ?_, fun x mx j y hj hy => ?_, fun x mx hx => ?_, fun x mx => ?_, ?_, fun x mx => ?_, fun A' H' s x mx j y hj hy e => ?_⟩
  · by_cases z1 : x = a
    · subst z1
      rw [ua]
      by_cases z2 : y = b
      · subst z2
        rw [updW_eq]
        exact ⟨fun _ => rfl, fun _ => rfl⟩
      · rw [updW_ne z2]
        exact ⟨fun w => absurd (Option.some.inj w).symm z2, fun w => by
          have := (h.inv x mx y my).mpr w
          rw [ha] at this
          cases this⟩
    · by_cases z3 : x = c
      · subst z3
        rw [uc]
        by_cases z2 : y = b
        · subst z2
          rw [updW_eq]
          exact ⟨fun w => (nomatch w), fun w => absurd (Option.some.inj w).symm z1⟩
        · rw [updW_ne z2]
          exact ⟨fun w => (nomatch w), fun w => by
            have := (h.inv x mx y my).mpr w
            rw [hAc] at this
            exact absurd (Option.some.inj this).symm z2⟩
      · rw [uo z1 z3]
        by_cases z2 : y = b
        · subst z2
          rw [updW_eq]
          exact ⟨fun w => absurd (only mx w) z3, fun w => absurd (Option.some.inj w).symm z1⟩
        · rw [updW_ne z2]
          exact h.inv x mx y my
  · by_cases z : x = a
    · subst z
      rw [ua] at e
      rw [updW_eq]
      cases e
      exact ⟨n x, rfl, hb⟩
    · by_cases z3 : x = c
      · subst z3
        rw [uc] at e
        cases e
      · rw [uo z z3] at e
        rw [updW_ne z]
        exact h.at_ x mx y e
  · by_cases z : y = b
    · subst z
      rw [updW_eq] at e
      cases e
      exact ma
    · rw [updW_ne z] at e
      exact h.oh y my x e
  · have better : ∀ {y : Str}, (∃ d, H y = some d ∧ (f y).idxOf d < (f y).idxOf x) → ∃ d, updW H b (some a) y = some d ∧ (f y).idxOf d < (f y).idxOf x := fun {y} ⟨d, h1, h2⟩ => by
      by_cases q : y = b
      · subst q
        rw [hc] at h1
        cases h1
        exact ⟨a, updW_eq, by omega⟩
      · exact ⟨d, by rw [updW_ne q]; exact h1, h2⟩
    by_cases z : x = a
    · subst z
      rw [updW_eq] at hj
      rw [ua]
      by_cases hjn : j = n x
      · subst hjn
        rw [hb] at hy
        cases hy
        exact .inl rfl
      · rcases h.ref x mx j y (by omega) hy with w | w
        · rw [ha] at w; cases w
        · exact .inr (better w)
    · rw [updW_ne z] at hj
      by_cases z3 : x = c
      · subst z3
        rcases h.ref x mx j y hj hy with w | w
        · rw [hAc] at w
          cases w
          exact .inr ⟨a, updW_eq, lt2⟩
        · exact .inr (better w)
      · rw [uo z z3]
        rcases h.ref x mx j y hj hy with w | w
        · exact .inl w
        · exact .inr (better w)
  · by_cases z : x = a
    · subst z
      rw [ua] at hx
      cases hx
    · by_cases z3 : x = c
      · subst z3
        exact .inl (by simp)
      · rw [uo z z3] at hx
        rw [updW_ne z]
        rcases h.fr x mx hx with m | m
        · rcases List.mem_append.mp m with m | m
          · exact .inl (List.mem_append_left _ m)
          · exact absurd (List.mem_singleton.mp m) z
        · exact .inr m
  · rcases List.mem_append.mp mx with mx | mx
    · obtain ⟨h1, h2⟩ := h.fi x (List.mem_append_left _ mx)
      have hx : x ≠ a := fun z => na (by rw [← z]; exact mx)
      have hx2 : x ≠ c := fun z => by rw [z, hAc] at h2; cases h2
      exact ⟨h1, by rw [uo hx hx2]; exact h2⟩
    · rw [List.mem_singleton.mp mx]
      exact ⟨mc, uc⟩
  · rw [List.nodup_append]
    refine ⟨nd, by simp, fun x mx y my e => ?_⟩
    rw [List.mem_singleton.mp my] at e
    subst e
    have := (h.fi x (List.mem_append_left _ mx)).2
    rw [hAc] at this
    cases this
  · by_cases z : x = a
    · subst z
      rw [updW_eq]
      omega
    · rw [updW_ne z]
      exact h.nl x mx
  · by_cases z : x = a
    · subst z
      rw [updW_eq] at hj
      rw [ua] at e
      by_cases hjn : j = n x
      · subst hjn
        rw [hb] at hy
        cases hy
        exact absurd rfl e
      · exact h.opt A' H' s x mx j y (by omega) hy (by rw [ha]; exact fun w => (nomatch w))
    · rw [updW_ne z] at hj
      by_cases z3 : x = c
      · subst z3
        by_cases q : y = b
        · subst q
          intro e2
          have hH := (s.ah mu mx e2).2
          have hne : A' a ≠ some y := fun w => by
            have := (s.ah mu ma w).2
            rw [hH] at this
            exact hca (Option.some.inj this)
          exact s.st a ma y mba (h.ratherF s ma ha mu hb hne) (by rw [hH, ra_some]; exact lt2)
        · exact h.opt A' H' s x mx j y hj hy (by rw [hAc]; exact fun w => q (Option.some.inj w).symm)
      · rw [uo z z3] at e
        exact h.opt A' H' s x mx j y hj hy e
end
end Q

set_option Elab.async false
set_option linter.all false
set_option maxRecDepth 100000
set_option maxHeartbeats 4000000
namespace Q
open PySem PySem.Spec PyProof.Rows L2
/-! ### halves, rings, plain halves: plain theory -/
structure PermF (xs : List Str) (x y : Str → Str) : Prop where
  inx : ∀ a ∈ xs, x a ∈ xs
  iny : ∀ a ∈ xs, y a ∈ xs
  yx : ∀ a ∈ xs, y (x a) = a
  xy : ∀ a ∈ xs, x (y a) = a
structure HalfF (xs : List Str) (f : Str → List Str) (x y : Str → Str) : Prop where
  pm : PermF xs x y
  op : ∀ a ∈ xs, x a ≠ a → x a ∈ f a
  ord : ∀ a ∈ xs, x a ≠ y a → (f a).idxOf (x a) ≤ (f a).idxOf (y a)
  nq : ∀ a ∈ xs, ∀ b ∈ f a, (y a = a ∨ (f a).idxOf b < (f a).idxOf (y a)) → (y b = b ∨ (f b).idxOf a < (f b).idxOf (y b)) → False
def oG (A : OF) : Str → Str := fun a => (A a).getD a
theorem SSt.half {xs : List Str} {f : Str → List Str} {A H : OF} (mu : Mut xs f) (s : SSt xs f A H) (np : ∀ st ∈ xs, ∀ cyc, cyO (stepO f A H) st = some cyc → ioB xs f (nAs (lowO f A H) A cyc) (nHo (lowO f A H) H cyc) ≠ true) : HalfF xs f (oG A) (oG H) := by
  have two : ∀ {A H : OF}, SM xs f A H → DomE xs A H → ∀ a ∈ xs, oG A a ∈ xs ∧ oG H (oG A a) = a := fun {A H} sm dm a ma => by
    unfold oG
    cases e : A a with
    | none =>
      have := dm a ma
      rw [e] at this
      have hn : H a = none := by
        cases z : H a with
        | none => rfl
        | some _ => rw [z] at this; cases this
      refine ⟨ma, ?_⟩
      show (H a).getD a = a
      rw [hn]
      rfl
    | some b =>
      obtain ⟨mb, hb⟩ := sm.ah mu ma e
      refine ⟨mb, ?_⟩
      show (H b).getD b = a
      rw [hb]
      rfl
  have dd : DomE xs H A := fun a ma => (s.dm a ma).symm
  have rat : ∀ {a b : Str}, a ∈ xs → (oG H a = a ∨ (f a).idxOf b < (f a).idxOf (oG H a)) → ratherO (f a) b (H a) = true := fun {a b} ma h => by
    cases e : H a with
    | none => rfl
    | some c =>
      have mc := s.sm.oh a ma c e
      have hc : oG H a = c := by unfold oG; rw [e]; rfl
      rw [hc] at h
      rcases h with h | h
      · exact absurd (by rw [h] at mc; exact mc) (mu.fs a ma)
      · rw [ra_some]; exact h
  refine ⟨⟨fun a ma => (two s.sm s.dm a ma).1, fun a ma => (two (s.sm.dual mu) dd a ma).1, fun a ma => (two s.sm s.dm a ma).2, fun a ma => (two (s.sm.dual mu) dd a ma).2⟩, fun a ma ne => ?_, fun a ma ne => ?_, fun a ma b mb h1 h2 => ?_⟩
  · unfold oG at ne ⊢
    cases e : A a with
    | none => rw [e] at ne; exact absurd rfl ne
    | some b => exact s.sm.oa a ma b e
  · cases e : H a with
    | none =>
      have := s.dm a ma
      rw [e] at this
      have hn : A a = none := by
        cases z : A a with
        | none => rfl
        | some _ => rw [z] at this; cases this
      unfold oG at ne
      rw [e, hn] at ne
      exact absurd rfl ne
    | some c =>
      obtain ⟨b, hb, hle⟩ := s.io a ma c e
      unfold oG
      rw [e, hb]
      exact hle
  · obtain ⟨st, mst, cyc, h3, h4⟩ := quarrel_pass mu s ma mb (rat ma h1) (rat (mu.fi a ma b mb).1 h2)
    exact np st mst cyc h3 h4
/-! ### rings -/
def sO (x : Str → Str) : OF := fun a => some (x a)
def ringL (x : Str → Str) (s : Str) : List Str := (cyF (sO x) 17 [s] (some (x s))).1
section
variable {xs : List Str} {x y : Str → Str}
theorem PermF.inj (h : PermF xs x y) {a b : Str} (ma : a ∈ xs) (mb : b ∈ xs) (e : x a = x b) : a = b := by
  rw [← h.yx a ma, e, h.yx b mb]
theorem PermF.orb (h : PermF xs x y) {s : Str} (ms : s ∈ xs) : ∀ n, ∃ a ∈ xs, itO (sO x) s n = some a
  | 0 => ⟨s, ms, rfl⟩
  | n + 1 => by
    obtain ⟨a, ma, e⟩ := h.orb ms n
    refine ⟨x a, h.inx a ma, ?_⟩
    show (itO (sO x) s n).bind (sO x) = _
    rw [e]
    rfl
theorem PermF.back (h : PermF xs x y) {s : Str} (ms : s ∈ xs) {m i : Nat} (e : itO (sO x) s (m + 1) = itO (sO x) s (i + 1)) : itO (sO x) s m = itO (sO x) s i := by
  obtain ⟨a, ma, ea⟩ := h.orb ms m
  obtain ⟨b, mb, eb⟩ := h.orb ms i
  have e : (itO (sO x) s m).bind (sO x) = (itO (sO x) s i).bind (sO x) := e
  rw [ea, eb] at e
  have e : some (x a) = some (x b) := e
  rw [ea, eb, h.inj ma mb (Option.some.inj e)]
/-- what comes again is the first one -/
theorem OrbI.again (h : PermF xs x y) {s : Str} (ms : s ∈ xs) {acc : List Str} {a : Str} (o : OrbI (sO x) s acc (some a)) (ma : a ∈ acc) : a = s := by
  obtain ⟨i, hi⟩ := List.mem_iff_getElem?.mp ma
  have hl := (List.getElem?_eq_some_iff.mp hi).1
  have hn := o.ne
  cases i with
  | zero =>
    have := o.at_ 0 hn
    rw [hi] at this
    exact Option.some.inj this
  | succ j =>
    exfalso
    have h1 : itO (sO x) s ((acc.length - 1) + 1) = itO (sO x) s (j + 1) := by
      rw [show (acc.length - 1) + 1 = acc.length by omega, ← o.nx, ← o.at_ _ hl, hi]
    have h2 := h.back ms h1
    rw [← o.at_ _ (by omega), ← o.at_ _ (by omega)] at h2
    have h3 : acc[j]? = some (acc[j]'(by omega)) := List.getElem?_eq_getElem _
    have := nd_at o.nd (h2.trans h3) h3
    omega
theorem OrbI.uniq {s : Str} {acc acc' : List Str} (o : OrbI (sO x) s acc (some s)) (o' : OrbI (sO x) s acc' (some s)) : acc = acc' := by
  have le : ∀ {acc acc' : List Str}, OrbI (sO x) s acc (some s) → OrbI (sO x) s acc' (some s) → acc'.length ≤ acc.length := fun {acc acc'} o o' => Nat.le_of_not_lt fun lt => by
    have h1 := o'.at_ acc.length lt
    rw [← o.nx] at h1
    have := nd_at o'.nd h1 (o'.at_ 0 o'.ne)
    have := o.ne
    omega
  have hl : acc.length = acc'.length := Nat.le_antisymm (le o' o) (le o o')
  refine List.ext_getElem? fun i => ?_
  by_cases hi : i < acc.length
  · rw [o.at_ i hi, o'.at_ i (by omega)]
  · rw [List.getElem?_eq_none (by omega), List.getElem?_eq_none (by omega)]
theorem OrbI.inxs (h : PermF xs x y) {s : Str} (ms : s ∈ xs) {acc : List Str} {q : Option Str} (o : OrbI (sO x) s acc q) : ∀ a ∈ acc, a ∈ xs := fun a ma => by
  obtain ⟨i, hi⟩ := List.mem_iff_getElem?.mp ma
  obtain ⟨b, mb, eb⟩ := h.orb ms i
  rw [← o.at_ i (List.getElem?_eq_some_iff.mp hi).1, hi] at eb
  cases eb
  exact mb
theorem ring_orb (h : PermF xs x y) (hl : xs.length ≤ 16) {s : Str} (ms : s ∈ xs) : OrbI (sO x) s (ringL x s) (some s) := by
  have hx : ∀ i a, itO (sO x) s i = some a → a ∈ xs := fun i a e => by
    obtain ⟨b, mb, eb⟩ := h.orb ms i
    rw [e] at eb
    cases eb
    exact mb
  obtain ⟨o, e⟩ := cyF_spec hx (n := 17) (OrbI.init (step := sO x) (s := s)) (by simp; omega)
  rcases e with e | ⟨a, ma, e⟩
  · exfalso
    rw [e] at o
    obtain ⟨b, _, eb⟩ := h.orb ms (cyF (sO x) 17 [s] (sO x s)).1.length
    rw [← o.nx] at eb
    cases eb
  · rw [e] at o
    have := o.again h ms ma
    subst this
    exact o
theorem ring_cyc (h : PermF xs x y) (hl : xs.length ≤ 16) {s : Str} (ms : s ∈ xs) : CycP (sO x) (ringL x s) ∧ s ∈ ringL x s := (ring_orb h hl ms).cyc
theorem ring_in (h : PermF xs x y) (hl : xs.length ≤ 16) {s : Str} (ms : s ∈ xs) : ∀ a ∈ ringL x s, a ∈ xs := (ring_orb h hl ms).inxs h ms
/-- the next one, the one before, are in the same ring -/
theorem ring_nx (h : PermF xs x y) (hl : xs.length ≤ 16) {s a : Str} (ms : s ∈ xs) (ma : a ∈ ringL x s) : x a ∈ ringL x s := by
  obtain ⟨b, mb, e⟩ := (ring_cyc h hl ms).1.nx a ma
  have e : some (x a) = some b := e
  rw [Option.some.inj e]
  exact mb
theorem ring_pv (h : PermF xs x y) (hl : xs.length ≤ 16) {s a : Str} (ms : s ∈ xs) (ma : a ∈ ringL x s) : y a ∈ ringL x s := by
  obtain ⟨b, mb, e⟩ := (ring_cyc h hl ms).1.pv a ma
  have e : some (x b) = some a := e
  rw [← Option.some.inj e, h.yx b (ring_in h hl ms b mb)]
  exact mb
/-- a ring of one of its people has the same people -/
theorem ring_same (h : PermF xs x y) (hl : xs.length ≤ 16) {s a : Str} (ms : s ∈ xs) (ma : a ∈ ringL x s) : ∀ b, b ∈ ringL x a ↔ b ∈ ringL x s := by
  have sub : ∀ {s a : Str}, s ∈ xs → a ∈ ringL x s → ∀ b ∈ ringL x a, b ∈ ringL x s := fun {s a} ms ma => by
    have mx := ring_in h hl ms a ma
    refine (ring_cyc h hl mx).1.ind (fun b => b ∈ ringL x s) ⟨a, (ring_cyc h hl mx).2, ma⟩ fun u mu v mv e hv => ?_
    have e : some (x u) = some v := e
    have := ring_pv h hl ms hv
    rw [← Option.some.inj e, h.yx u (ring_in h hl mx u mu)] at this
    exact this
  have back : s ∈ ringL x a := by
    have mx := ring_in h hl ms a ma
    have := (ring_cyc h hl ms).1.ind (fun b => s ∈ ringL x b) ⟨s, (ring_cyc h hl ms).2, (ring_cyc h hl ms).2⟩ (fun u mu v mv e hv => by
      have e : some (x u) = some v := e
      have mux := ring_in h hl ms u mu
      have mvx := ring_in h hl ms v mv
      exact sub mux (by rw [← Option.some.inj e]; exact ring_nx h hl mux (ring_cyc h hl mux).2) s hv) a ma
    exact this
  exact fun b => ⟨sub ms ma b, sub (ring_in h hl ms a ma) back b⟩
theorem ring_lenEq (h : PermF xs x y) (hl : xs.length ≤ 16) {s a : Str} (ms : s ∈ xs) (ma : a ∈ ringL x s) : (ringL x a).length = (ringL x s).length := by
  have mx := ring_in h hl ms a ma
  exact Nat.le_antisymm (nodup_len (ring_orb h hl mx).nd fun b mb => (ring_same h hl ms ma b).mp mb) (nodup_len (ring_orb h hl ms).nd fun b mb => (ring_same h hl ms ma b).mpr mb)
/-! ### all rings -/
def ringsF (x : Str → Str) : List Str → List Str → List (List Str)
  | [], _ => []
  | s :: r, seen => if s ∈ seen then ringsF x r seen else ringL x s :: ringsF x r (seen ++ ringL x s)
def ringsA (x : Str → Str) (xs : List Str) : List (List Str) := ringsF x (sortS xs) []
/-- what was seen is closed -/
def Clo (x : Str → Str) (xs seen : List Str) : Prop := ∀ s ∈ xs, s ∈ seen → ∀ b ∈ ringL x s, b ∈ seen
theorem Clo.add (h : PermF xs x y) (hl : xs.length ≤ 16) {seen : List Str} (c : Clo x xs seen) {s : Str} (ms : s ∈ xs) : Clo x xs (seen ++ ringL x s) := fun t mt m b mb => by
  rcases List.mem_append.mp m with m | m
  · exact List.mem_append_left _ (c t mt m b mb)
  · exact List.mem_append_right _ ((ring_same h hl ms m b).mp mb)
theorem ringsF_spec (h : PermF xs x y) (hl : xs.length ≤ 16) : ∀ {l seen : List Str}, (∀ s ∈ l, s ∈ xs) → Clo x xs seen →
    (∀ r ∈ ringsF x l seen, ∃ s ∈ l, r = ringL x s ∧ ∀ b ∈ r, b ∉ seen) ∧ (∀ s ∈ l, s ∈ seen ∨ ∃ r ∈ ringsF x l seen, s ∈ r) ∧ (ringsF x l seen).Pairwise fun r t => ∀ a ∈ r, a ∉ t
  | [], _, _, _ => ⟨fun _ z => (nomatch z), fun _ z => (nomatch z), List.Pairwise.nil⟩
  | s :: l, seen, hx, c => by
    have ms := hx s List.mem_cons_self
    have hx2 : ∀ t ∈ l, t ∈ xs := fun t mt => hx t (List.mem_cons_of_mem _ mt)
    unfold ringsF
    split
    · rename_i m
      obtain ⟨h1, h2, h3⟩ := ringsF_spec h hl hx2 c
      refine ⟨fun r mr => ?_, fun t mt => ?_, h3⟩
      · obtain ⟨t, mt, e⟩ := h1 r mr
        exact ⟨t, List.mem_cons_of_mem _ mt, e⟩
      · rcases List.mem_cons.mp mt with rfl | mt
        · exact .inl m
        · exact h2 t mt
    · rename_i m
      obtain ⟨h1, h2, h3⟩ := ringsF_spec h hl hx2 (c.add h hl ms)
      refine ⟨fun r mr => ?_, fun t mt => ?_, ?_⟩
      · rcases List.mem_cons.mp mr with rfl | mr
        · refine ⟨s, List.mem_cons_self, rfl, fun b mb hb => m ?_⟩
          exact c b (ring_in h hl ms b mb) hb s ((ring_same h hl ms mb s).mpr (ring_cyc h hl ms).2)
        · obtain ⟨t, mt, e, hn⟩ := h1 r mr
          exact ⟨t, List.mem_cons_of_mem _ mt, e, fun b mb hb => hn b mb (List.mem_append_left _ hb)⟩
      · rcases List.mem_cons.mp mt with rfl | mt
        · exact .inr ⟨_, List.mem_cons_self, (ring_cyc h hl ms).2⟩
        · rcases h2 t mt with w | ⟨r, mr, w⟩
          · rcases List.mem_append.mp w with w | w
            · exact .inl w
            · exact .inr ⟨_, List.mem_cons_self, w⟩
          · exact .inr ⟨r, List.mem_cons_of_mem _ mr, w⟩
      · rw [List.pairwise_cons]
        refine ⟨fun r mr a ma har => ?_, h3⟩
        obtain ⟨t, mt, e, hn⟩ := h1 r mr
        exact hn a har (List.mem_append_right _ ma)
theorem Clo.nil : Clo x xs [] := fun _ _ z => (nomatch z)
theorem ringsA_of (h : PermF xs x y) (hl : xs.length ≤ 16) {r : List Str} (mr : r ∈ ringsA x xs) : ∃ s ∈ xs, r = ringL x s := by
  obtain ⟨s, ms, e, _⟩ := (ringsF_spec h hl (fun s ms => mem_sortS.mp ms) Clo.nil).1 r mr
  exact ⟨s, mem_sortS.mp ms, e⟩
theorem ringsA_ex (h : PermF xs x y) (hl : xs.length ≤ 16) {a : Str} (ma : a ∈ xs) : ∃ r ∈ ringsA x xs, a ∈ r := by
  rcases (ringsF_spec h hl (l := sortS xs) (fun s ms => mem_sortS.mp ms) Clo.nil).2.1 a (mem_sortS.mpr ma) with w | w
  · cases w
  · exact w
theorem ringsA_pw (h : PermF xs x y) (hl : xs.length ≤ 16) : (ringsA x xs).Pairwise fun r t => ∀ a ∈ r, a ∉ t := (ringsF_spec h hl (fun s ms => mem_sortS.mp ms) Clo.nil).2.2
/-! ### even rings of four or more are split -/
def ev4 (r : List Str) : Bool := decide (4 ≤ r.length) && decide (r.length % 2 = 0)
def xr1 (i : Nat) : Nat := if i % 2 = 0 then i + 1 else i - 1
def splitR (r : List Str) (a : Str) : Str := r.getD (xr1 (r.idxOf a)) a
def plS (y : Str → Str) (r : List Str) : Str → Str := fun a => if ev4 r = true ∧ a ∈ r then splitR r a else y a
def plF (x : Str → Str) (xs : List Str) : Str → Str := (ringsA x xs).foldl plS x
theorem plS_fold_out : ∀ {rs : List (List Str)} {y : Str → Str} {a : Str}, (∀ r ∈ rs, a ∉ r) → (rs.foldl plS y) a = y a
  | [], _, _, _ => rfl
  | r :: rs, y, a, h => by
    rw [List.foldl_cons, plS_fold_out fun t mt => h t (List.mem_cons_of_mem _ mt)]
    unfold plS
    rw [if_neg fun z => h r List.mem_cons_self z.2]
theorem plS_fold_in : ∀ {rs : List (List Str)} {y : Str → Str} {a : Str} {r : List Str}, rs.Pairwise (fun r t => ∀ a ∈ r, a ∉ t) → r ∈ rs → a ∈ r → (rs.foldl plS y) a = if ev4 r = true then splitR r a else y a
  | [], _, _, _, _, h, _ => nomatch h
  | t :: rs, y, a, r, pw, mr, ma => by
    rw [List.pairwise_cons] at pw
    rw [List.foldl_cons]
    by_cases hat : a ∈ t
    · have e : r = t := by
        rcases List.mem_cons.mp mr with e | mr
        · exact e
        · exact absurd ma (pw.1 r mr a hat)
      subst e
      rw [plS_fold_out fun u mu => pw.1 u mu a ma]
      show (if ev4 r = true ∧ a ∈ r then splitR r a else y a) = _
      by_cases h4 : ev4 r = true
      · rw [if_pos ⟨h4, ma⟩, if_pos h4]
      · rw [if_neg (fun z => h4 z.1 : ¬ (ev4 r = true ∧ a ∈ r)), if_neg h4]
    · have mr : r ∈ rs := by
        rcases List.mem_cons.mp mr with e | mr
        · subst e; exact absurd ma hat
        · exact mr
      rw [plS_fold_in pw.2 mr ma]
      have e : plS y t a = y a := if_neg fun z => hat z.2
      rw [e]
theorem plF_at (h : PermF xs x y) (hl : xs.length ≤ 16) {a : Str} (ma : a ∈ xs) : ∃ s ∈ xs, a ∈ ringL x s ∧ plF x xs a = if ev4 (ringL x s) = true then splitR (ringL x s) a else x a := by
  obtain ⟨r, mr, har⟩ := ringsA_ex h hl ma
  obtain ⟨s, ms, rfl⟩ := ringsA_of h hl mr
  exact ⟨s, ms, har, plS_fold_in (ringsA_pw h hl) mr har⟩
/-- within a split ring: the next one or the one before, and back -/
theorem split_in (h : PermF xs x y) (hl : xs.length ≤ 16) {s a : Str} (ms : s ∈ xs) (ma : a ∈ ringL x s) (h4 : ev4 (ringL x s) = true) :
    splitR (ringL x s) a ∈ ringL x s ∧ splitR (ringL x s) (splitR (ringL x s) a) = a ∧ (splitR (ringL x s) a = x a ∨ splitR (ringL x s) a = y a) ∧ splitR (ringL x s) a ≠ a := by
  have o := ring_orb h hl ms
  obtain ⟨l4, l2⟩ := Bool.and_eq_true_iff.mp h4
  have l4 := of_decide_eq_true l4
  have l2 := of_decide_eq_true l2
  have hin := ring_in h hl ms
  generalize ringL x s = r at o ma l4 l2 hin
  have hi := get_idx ma
  have hil := List.idxOf_lt_length_of_mem ma
  have nxt : ∀ {i : Nat} {u v : Str}, r[i]? = some u → r[i + 1]? = some v → x u = v := fun {i u v} hu hv => by
    have l1 := (List.getElem?_eq_some_iff.mp hu).1
    have l2 := (List.getElem?_eq_some_iff.mp hv).1
    have e1 := o.at_ _ l1
    have e2 := o.at_ _ l2
    rw [hu] at e1
    rw [hv] at e2
    have e2 : some v = (itO (sO x) s i).bind (sO x) := e2
    rw [← e1] at e2
    exact (Option.some.inj e2).symm
  generalize hg : r.idxOf a = i at hi hil
  have key : ∀ {j : Nat} {u : Str}, r[j]? = some u → splitR r u = r.getD (xr1 j) u := fun {j u} hu => by
    unfold splitR
    obtain ⟨hj, e⟩ := List.getElem?_eq_some_iff.mp hu
    have : r.idxOf u = j := by rw [← e, o.nd.idxOf_getElem]
    rw [this]
  have gd : ∀ {j : Nat} {u v : Str}, r[j]? = some v → r.getD j u = v := fun {j u v} hv => by
    rw [List.getD_eq_getElem?_getD, hv]
    rfl
  by_cases hp : i % 2 = 0
  · have hj : i + 1 < r.length := by omega
    have hb : r[i + 1]? = some r[i + 1] := List.getElem?_eq_getElem hj
    have e1 : splitR r a = r[i + 1] := by rw [key hi, xr1, if_pos hp, gd hb]
    have e2 : splitR r r[i + 1] = a := by
      rw [key hb, xr1, if_neg (by omega), show i + 1 - 1 = i by omega, gd hi]
    rw [e1]
    refine ⟨List.getElem_mem _, e2, .inl (nxt hi hb).symm, fun z => ?_⟩
    rw [z] at hb
    have := nd_at o.nd hb hi
    omega
  · have hj : i - 1 < r.length := by omega
    have hb : r[i - 1]? = some r[i - 1] := List.getElem?_eq_getElem hj
    have e1 : splitR r a = r[i - 1] := by rw [key hi, xr1, if_neg hp, gd hb]
    have e2 : splitR r r[i - 1] = a := by
      rw [key hb, xr1, if_pos (by omega), gd (by rw [show i - 1 + 1 = i by omega]; exact hi)]
    have hxb : x r[i - 1] = a := nxt hb (by rw [show i - 1 + 1 = i by omega]; exact hi)
    rw [e1]
    refine ⟨List.getElem_mem _, e2, .inr ?_, fun z => ?_⟩
    · rw [← hxb, h.yx _ (hin _ (List.getElem_mem _))]
    · rw [z] at hb
      have := nd_at o.nd hb hi
      omega
end
/-- what stands in a plain half: as in the half, or two by two -/
theorem HalfF.plain {xs : List Str} {f : Str → List Str} {x y : Str → Str} (mu : Mut xs f) (h : HalfF xs f x y) : ∃ z', HalfF xs f (plF x xs) z' ∧ ∀ a ∈ xs, plF x xs (plF x xs a) = a ∨ (ringL (plF x xs) a).length % 2 = 1 := by
  have hl := mu.few
  have pm := h.pm
  let z := plF x xs
  let E : Str → Prop := fun a => ev4 (ringL x a) = true
  have evE : ∀ {s a : Str}, s ∈ xs → a ∈ ringL x s → ev4 (ringL x a) = ev4 (ringL x s) := fun {s a} ms ma => by
    unfold ev4
    rw [ring_lenEq pm hl ms ma]
  have hz : ∀ {a : Str}, a ∈ xs → (ev4 (ringL x a) = true ∧ z a ∈ xs ∧ ev4 (ringL x (z a)) = true ∧ z (z a) = a ∧ (z a = x a ∨ z a = y a) ∧ z a ≠ a) ∨ (ev4 (ringL x a) = false ∧ z a = x a) := fun {a} ma => by
    obtain ⟨s, ms, has, e⟩ := plF_at pm hl ma
    have he := evE ms has
    cases h4 : ev4 (ringL x s) with
    | false =>
      rw [h4, if_neg (by decide)] at e
      exact .inr ⟨by rw [he, h4], e⟩
    | true =>
      rw [h4, if_pos rfl] at e
      obtain ⟨q1, q2, q3, q4⟩ := split_in pm hl ms has h4
      have e0 : z a = splitR (ringL x s) a := e
      have mz : z a ∈ ringL x s := by rw [e0]; exact q1
      have mzx := ring_in pm hl ms _ mz
      obtain ⟨t, mt, hat, e'⟩ := plF_at pm hl mzx
      have : ev4 (ringL x t) = true := by rw [← evE mt hat, evE ms mz, h4]
      have hzz : z (z a) = splitR (ringL x s) (z a) := by
        obtain ⟨r, mr, har⟩ := ringsA_ex pm hl ma
        have e1 := plS_fold_in (y := x) (ringsA_pw pm hl) mr har
        obtain ⟨s', ms', rfl⟩ := ringsA_of pm hl mr
        have h4' : ev4 (ringL x s') = true := by rw [← evE ms' har, he, h4]
        obtain ⟨p1, p2, _, _⟩ := split_in pm hl ms' har h4'
        rw [if_pos h4'] at e1
        have e1 : z a = splitR (ringL x s') a := e1
        have e2 := plS_fold_in (y := x) (ringsA_pw pm hl) mr (show z a ∈ ringL x s' by rw [e1]; exact p1)
        rw [if_pos h4'] at e2
        have e2 : z (z a) = splitR (ringL x s') (z a) := e2
        rw [e2, e1, p2, ← e1, e0, q2]
      refine .inl ⟨by rw [he, h4], mzx, by rw [evE ms mz, h4], ?_, ?_, ?_⟩
      · rw [hzz, e0, q2]
      · rw [e0]; exact q3
      · rw [e0]; exact q4
  let z' : Str → Str := fun a => if ev4 (ringL x a) = true then z a else y a
  have zE : ∀ {a : Str}, ev4 (ringL x a) = true → z' a = z a := fun e => if_pos e
  have zO : ∀ {a : Str}, ev4 (ringL x a) = false → z' a = y a := fun e => if_neg (by rw [e]; decide)
  have evx : ∀ {a : Str}, a ∈ xs → ev4 (ringL x (x a)) = ev4 (ringL x a) := fun ma => evE ma (ring_nx pm hl ma (ring_cyc pm hl ma).2)
  have evy : ∀ {a : Str}, a ∈ xs → ev4 (ringL x (y a)) = ev4 (ringL x a) := fun ma => evE ma (ring_pv pm hl ma (ring_cyc pm hl ma).2)
  have better : ∀ {a b : Str}, a ∈ xs → (z' a = a ∨ (f a).idxOf b < (f a).idxOf (z' a)) → (y a = a ∨ (f a).idxOf b < (f a).idxOf (y a)) := fun {a b} ma hb => by
    rcases hz ma with ⟨e, _, _, _, q, ne⟩ | ⟨e, _⟩
    · rw [zE e] at hb
      rcases hb with hb | hb
      · exact absurd hb ne
      · rcases q with q | q
        · rw [q] at hb
          by_cases w : x a = y a
          · rw [w] at hb; exact .inr hb
          · exact .inr (Nat.lt_of_lt_of_le hb (h.ord a ma w))
        · rw [q] at hb; exact .inr hb
    · rw [zO e] at hb
      exact hb
  have pz : PermF xs z z' := by
    refine ⟨fun a ma => ?_, fun a ma => ?_, fun a ma => ?_, fun a ma => ?_⟩
    · rcases hz ma with ⟨_, m, _⟩ | ⟨_, e⟩
      · exact m
      · rw [e]
        exact pm.inx a ma
    · rcases hz ma with ⟨e, m, _⟩ | ⟨e, _⟩
      · rw [zE e]; exact m
      · rw [zO e]; exact pm.iny a ma
    · rcases hz ma with ⟨e, m, e2, zz, _⟩ | ⟨e, q⟩
      · rw [zE e2]
        exact zz
      · rw [q, zO (by rw [evx ma]; exact e), pm.yx a ma]
    · rcases hz ma with ⟨e, m, e2, zz, _⟩ | ⟨e, q⟩
      · rw [zE e]; exact zz
      · rw [zO e]
        rcases hz (pm.iny a ma) with ⟨e3, _⟩ | ⟨_, q3⟩
        · rw [evy ma, e] at e3; cases e3
        · rw [q3, pm.xy a ma]
  refine ⟨z', ⟨pz, fun a ma ne => ?_, fun a ma ne => ?_, fun a ma b mb h1 h2 => ?_⟩, fun a ma => ?_⟩
  · rcases hz ma with ⟨e, m, e2, zz, q, ne2⟩ | ⟨e, q⟩
    · show z a ∈ f a
      rcases q with q | q
      · rw [q] at ne2 ⊢
        exact h.op a ma ne2
      · rw [q] at ne2 ⊢
        have := h.op (y a) (pm.iny a ma) (by rw [pm.xy a ma]; exact Ne.symm ne2)
        rw [pm.xy a ma] at this
        exact (mu.fi (y a) (pm.iny a ma) a this).2
    · have ne : z a ≠ a := ne
      show z a ∈ f a
      rw [q] at ne ⊢
      exact h.op a ma ne
  · rcases hz ma with ⟨e, _⟩ | ⟨e, q⟩
    · exact absurd (zE e).symm ne
    · have ne : z a ≠ z' a := ne
      show (f a).idxOf (z a) ≤ (f a).idxOf (z' a)
      rw [q, zO e] at ne ⊢
      exact h.ord a ma ne
  · exact h.nq a ma b mb (better ma h1) (better (mu.fi a ma b mb).1 h2)
  · rcases hz ma with ⟨_, _, _, zz, _⟩ | ⟨e, q⟩
    · exact .inl zz
    · have hall : ∀ b ∈ ringL x a, z b = x b := fun b mb => by
        rcases hz (ring_in pm hl ma b mb) with ⟨e3, _⟩ | ⟨_, q3⟩
        · rw [evE ma mb, e] at e3; cases e3
        · exact q3
      have o := ring_orb pm hl ma
      have it : ∀ n, itO (sO z) a n = itO (sO x) a n := fun n => by
        induction n with
        | zero => rfl
        | succ n ih =>
          show (itO (sO z) a n).bind (sO z) = (itO (sO x) a n).bind (sO x)
          rw [ih]
          obtain ⟨b, mb, eb⟩ := pm.orb ma n
          rw [eb]
          show some (z b) = some (x b)
          have hb : b ∈ ringL x a := by
            have key : ∀ n, ∀ b, itO (sO x) a n = some b → b ∈ ringL x a := fun n => by
              induction n with
              | zero => intro b e; cases e; exact (ring_cyc pm hl ma).2
              | succ n ih =>
                intro b e
                obtain ⟨c, mc, ec⟩ := pm.orb ma n
                have e : (itO (sO x) a n).bind (sO x) = some b := e
                rw [ec] at e
                have e : some (x c) = some b := e
                rw [← Option.some.inj e]
                exact ring_nx pm hl ma (ih c ec)
            exact key n b eb
          rw [hall b hb]
      have oz : OrbI (sO z) a (ringL x a) (some a) := ⟨fun i hi => by rw [it]; exact o.at_ i hi, by rw [it]; exact o.nx, o.nd, o.ne⟩
      cases hev : decide ((ringL x a).length % 2 = 0) with
      | false =>
        have hodd : (ringL x a).length % 2 = 1 := by
          have := of_decide_eq_false hev
          omega
        have := oz.uniq (ring_orb pz hl ma)
        exact .inr (by show (ringL z a).length % 2 = 1; rw [← this]; exact hodd)
      | true =>
        have h2 : (ringL x a).length % 2 = 0 := of_decide_eq_true hev
        have hlt : (ringL x a).length < 4 := by
          refine Nat.lt_of_not_le fun z4 => ?_
          have : ev4 (ringL x a) = true := Bool.and_eq_true_iff.mpr ⟨decide_eq_true z4, hev⟩
          rw [e] at this
          cases this
        have hp := o.ne
        have e2 : (ringL x a).length = 2 := by omega
        left
        show z (z a) = a
        have h1 : itO (sO z) a 2 = some a := by rw [← e2]; exact oz.nx.symm
        exact Option.some.inj h1
end Q

set_option Elab.async false
set_option linter.all false
set_option maxRecDepth 100000
set_option maxHeartbeats 4000000
namespace Q
open PySem PySem.Spec PyProof.Rows L2
/-! ### the seats as functions: asking, passing on, the half that is found -/
structure AskS where
  A : OF
  H : OF
  n : Str → Nat
  free : List Str
def askStep (f : Str → List Str) (s : AskS) (a : Str) (fr : List Str) : AskS := match (f a)[s.n a]? with
  | none => ⟨s.A, s.H, s.n, fr⟩
  | some b => match s.H b with
    | none => ⟨updW s.A a (some b), updW s.H b (some a), updW s.n a (s.n a + 1), fr⟩
    | some c => if (f b).idxOf c < (f b).idxOf a then ⟨s.A, s.H, updW s.n a (s.n a + 1), fr ++ [a]⟩ else ⟨updW (updW s.A a (some b)) c none, updW s.H b (some a), updW s.n a (s.n a + 1), fr ++ [c]⟩
def askS (f : Str → List Str) : Nat → AskS → AskS
  | 0, s => s
  | m + 1, s => match s.free.getLast? with
    | none => s
    | some a => askS f m (askStep f s a s.free.dropLast)
def AskS.Ok (xs : List Str) (f : Str → List Str) (s : AskS) : Prop := AskI xs f s.A s.H s.n s.free
theorem AskS.Ok.step {xs : List Str} {f : Str → List Str} {s : AskS} {a : Str} {fr : List Str} (mu : Mut xs f) (h : s.Ok xs f) (e : s.free = fr ++ [a]) : (askStep f s a fr).Ok xs f := by
  have h : AskI xs f s.A s.H s.n (fr ++ [a]) := by rw [← e]; exact h
  unfold askStep
  cases hb : (f a)[s.n a]? with
  | none => exact h.done (List.getElem?_eq_none_iff.mp hb)
  | some b =>
    dsimp only
    cases hc : s.H b with
    | none => exact h.takeN mu hb hc
    | some c =>
      dsimp only
      split
      · rename_i lt
        exact h.refuse mu hb hc lt
      · rename_i lt
        exact h.takeS mu hb hc lt
/-- how much is still to be asked -/
def remN (xs : List Str) (f : Str → List Str) (n : Str → Nat) : Nat := (xs.map fun a => (f a).length - n a).sum
def AskS.left (xs : List Str) (f : Str → List Str) (s : AskS) : Nat := remN xs f s.n + s.free.length
def ask0 (ks : List Str) : AskS := ⟨fun _ => none, fun _ => none, fun _ => 0, ks⟩
def askF (f : Str → List Str) (ks : List Str) : AskS := askS f 400 (ask0 ks)
/-! ### passing on -/
def passC (f : Str → List Str) (xs : List Str) (A H : OF) (st : Str) : Option (OF × OF) := match cyO (stepO f A H) st with
  | none => none
  | some cyc => if ioB xs f (nAs (lowO f A H) A cyc) (nHo (lowO f A H) H cyc) = true then some (nAs (lowO f A H) A cyc, nHo (lowO f A H) H cyc) else none
def passF (f : Str → List Str) (xs : List Str) (A H : OF) : Option (OF × OF) := xs.findSome? (passC f xs A H)
/-- how far down everybody asks -/
def sumA (xs : List Str) (f : Str → List Str) (A : OF) : Nat := (xs.map fun a => match A a with | none => 0 | some b => (f a).idxOf b).sum
def goF (f : Str → List Str) (xs : List Str) : Nat → OF × OF → OF × OF
  | 0, s => s
  | m + 1, s => match passF f xs s.1 s.2 with
    | none => s
    | some t => goF f xs m t
def go0 (f : Str → List Str) (xs : List Str) : OF × OF := goF f xs 300 ((askF f xs).A, (askF f xs).H)
/-- the half that is found -/
def hfF (f : Str → List Str) (xs : List Str) : Str → Str := plF (oG (go0 f xs).1) xs
end Q

set_option Elab.async false
set_option linter.all false
set_option maxRecDepth 100000
set_option maxHeartbeats 4000000
namespace Q
open PySem PySem.Spec PyProof.Rows L2
/-! ### dicts with told keys; while -/
def zipV (ks : List Str) (g : Str → V) : List (Key × V) := ks.map fun a => (.inr a, g a)
theorem zipV_val {ks : List Str} {g : Str → V} {a : Str} (m : a ∈ ks) : valV (zipV ks g) (.inr a) = some (g a) := by
  induction ks with
  | nil => cases m
  | cons x r ih =>
    show valV (((Sum.inr x : Key), g x) :: zipV r g) (.inr a) = _
    by_cases e : x = a
    · subst e
      exact valV_pos (p := ((Sum.inr x : Key), g x)) rfl
    · rw [valV_neg (p := ((Sum.inr x : Key), g x)) (fun z => e (Sum.inr.inj z))]
      exact ih ((List.mem_cons.mp m).resolve_left fun z => e z.symm)
theorem zipV_none {ks : List Str} {g : Str → V} {a : Str} (m : a ∉ ks) : valV (zipV ks g) (.inr a) = none := by
  induction ks with
  | nil => rfl
  | cons x r ih =>
    show valV (((Sum.inr x : Key), g x) :: zipV r g) (.inr a) = _
    rw [valV_neg (p := ((Sum.inr x : Key), g x)) (fun z => m (by rw [← Sum.inr.inj z]; exact List.mem_cons_self))]
    exact ih fun z => m (List.mem_cons_of_mem _ z)
theorem zipV_put {ks : List Str} {g : Str → V} {a : Str} {v : V} (m : a ∈ ks) : putK (zipV ks g) (.inr a) v = zipV ks (updW g a v) := by
  unfold putK
  rw [if_pos (by rw [valV_any, zipV_val m]; rfl)]
  unfold zipV
  rw [List.map_map]
  refine List.map_congr_left fun p _ => ?_
  show (if (Sum.inr p : Key) = .inr a then ((Sum.inr p : Key), v) else ((Sum.inr p : Key), g p)) = ((Sum.inr p : Key), updW g a v p)
  by_cases e : p = a
  · rw [if_pos (by rw [e]), e, updW_eq]
  · rw [if_neg fun z => e (Sum.inr.inj z), updW_ne e]
theorem zipV_congr {ks : List Str} {g h : Str → V} (e : ∀ a ∈ ks, g a = h a) : zipV ks g = zipV ks h := List.map_congr_left fun a m => by rw [e a m]
theorem zipV_new {ks : List Str} {g : Str → V} {a : Str} {v : V} (m : a ∉ ks) : putK (zipV ks g) (.inr a) v = zipV (ks ++ [a]) (updW g a v) := by
  rw [putK_new (zipV_none m)]
  unfold zipV
  rw [List.map_append]
  show _ = _ ++ [(Sum.inr a, updW g a v a)]
  rw [updW_eq]
  congr 1
  exact List.map_congr_left fun p mp => by rw [updW_ne fun z => m (by rw [← z]; exact mp)]
theorem zipV_snoc {ks : List Str} {g : Str → V} {i : Nat} {a : Str} (nd : ks.Nodup) (h : ks[i]? = some a) : putK (zipV (ks.take i) g) (.inr a) (g a) = zipV (ks.take (i + 1)) g := by
  have m : a ∉ ks.take i := fun m => by
    obtain ⟨j, hj⟩ := List.mem_iff_getElem?.mp m
    have hl := (List.getElem?_eq_some_iff.mp hj).1
    rw [List.length_take] at hl
    rw [List.getElem?_take, if_pos (by omega)] at hj
    have := (List.getElem?_eq_some_iff.mp hj)
    have h1 := nd.idxOf_getElem j this.1
    rw [this.2] at h1
    have h2 := (List.getElem?_eq_some_iff.mp h)
    have h3 := nd.idxOf_getElem i h2.1
    rw [h2.2] at h3
    omega
  rw [zipV_new m, take_snoc h]
  refine zipV_congr fun b _ => ?_
  by_cases e : b = a
  · rw [e, updW_eq]
  · rw [updW_ne e]
theorem zipV_keys {ks : List Str} {g : Str → V} : (zipV ks g).map (·.1) = ks.map Sum.inr := by unfold zipV; rw [List.map_map]; rfl
theorem zipV_len {ks : List Str} {g : Str → V} : (zipV ks g).length = ks.length := List.length_map _
def oV (A : OF) : Str → V := fun a => optV (A a)
def WI {α : Type} (S : List Addr) (B0 H0 B : Hp) (σf : α → L2.St) (Mf : α → List (Addr × HO)) (P : Nat → α → Hp → Prop) (m : Nat) (σ : L2.St) (H : Hp) : Prop := ∃ s B1, σ = σf s ∧ Same B B1 ∧ HS S B0 H0 B1 H (Mf s) ∧ P m s B1
/-! ### the first one behind who would take a -/
abbrev N_lower : List Str := ["lists", "asks", "holds", "a", "row", "c", "held"]
def t_lower (K : PySem.W.Frag) (E : XK) : TS := (tSeq (tIfS (tB (tIsN (tDGet (tVar 1) (tVar 3)))) (tRet (tC .non)) tNext)
  (tSeq (tAsg (tDGet (tVar 0) (tVar 3)) (gName 4))
  (tSeq (tFor (iList K (tSl (rSlL K) (tVar 4) (tPart (tOp rAddI (tBM K "list" (rIndex K) (tVar 4) (tCons (tDGet (tVar 1) (tVar 3)) tNil)) (tC (.int 1)))) tNoPart)) (gName 5) (tSeq (tAsg (tDGet (tVar 2) (tVar 5)) (gName 6))
  (tIfS (tOr (tB (tIsN (tVar 6))) (tTest (tOp rGtI (tBM K "list" (rIndex K) (tDGet (tVar 0) (tVar 5)) (tCons (tVar 6) tNil)) (tBM K "list" (rIndex K) (tDGet (tVar 0) (tVar 5)) (tCons (tVar 3) tNil))))) (tRet (tVar 5)) tNext)))
  (tRet (tC .non)))))
def sp_lower (K : PySem.W.Frag) : Sp := fun vs H Q E => ∃ (L pa ph : Addr) (a : Str) (B : Hp) (xs : List Str) (f : Str → List Str) (kvs : List (Key × V)) (o : Obj) (A Hd : OF), vs = [.ref L, .ref pa, .ref ph, .str a] ∧ Same B H ∧ B L = none ∧ H L = some (.frz o (.dK kvs)) ∧ WAt B xs kvs f ∧ Mut xs f ∧ B pa = some (.dK (zipV xs (oV A))) ∧ B ph = some (.dK (zipV xs (oV Hd))) ∧ SM xs f A Hd ∧ a ∈ xs ∧ Ret B H Q fun _ r => r = optV (lowO f A Hd a)
/-! ### a cycle from somebody on -/
abbrev N_cycle_from : List Str := ["start", "step", "cycle", "a"]
def t_cycle_from (K : PySem.W.Frag) (E : XK) : TS := (tSeq (tAsg (tLst (tCons (tVar 0) tNil)) (gName 2))
  (tSeq (tAsg (tDGet (tVar 1) (tVar 0)) (gName 3))
  (tSeq (tWhile (tAnd (tB (tNotN (tVar 3))) (tTest (tOp (rIn K true) (tVar 3) (tVar 2)))) (tSeq (tDrop (tBM K "list" rAppend (tVar 2) (tCons (tVar 3) tNil)))
  (tAsg (tDGet (tVar 1) (tVar 3)) (gName 3))))
  (tSeq (tIfS (tTest (tOp rNe (tVar 3) (tVar 0))) (tRet (tC .non)) tNext)
  (tRet (tVar 2))))))
def sp_cycle_from (K : PySem.W.Frag) : Sp := fun vs H Q E => ∃ (ps : Addr) (s : Str) (B : Hp) (xs : List Str) (stp : OF), vs = [.str s, .ref ps] ∧ Same B H ∧ B ps = some (.dK (zipV xs (oV stp))) ∧ xs.length ≤ 16 ∧ (∀ i a, itO stp s i = some a → a ∈ xs) ∧
  (cyO stp s = none → Ret B H Q fun _ r => r = .non) ∧ (∀ cyc, cyO stp s = some cyc → ∀ B' H' l, HS [] B H B' H' [(l, .lst (cyc.map V.str))] → Q (.ref l) H')
end Q

set_option Elab.async false
set_option linter.all false
set_option maxRecDepth 100000
set_option maxHeartbeats 4000000
namespace Q
open PySem PySem.Spec PyProof.Rows L2
/-! ### walks over a dict: a comprehension; a dict that is locked already -/
/-! ### is everybody in order -/
abbrev N_in_order : List Str := ["lists", "asks", "holds", "a"]
def t_in_order (K : PySem.W.Frag) (E : XK) : TS := (tSeq (tFor (iKeys (tVar 0)) (gName 3) (tIfS (tAnd (tB (tNotN (tDGet (tVar 1) (tVar 3)))) (tTest (tOp rGtI (tBM K "list" (rIndex K) (tDGet (tVar 0) (tVar 3)) (tCons (tDGet (tVar 1) (tVar 3)) tNil)) (tBM K "list" (rIndex K) (tDGet (tVar 0) (tVar 3)) (tCons (tDGet (tVar 2) (tVar 3)) tNil))))) (tRet (tC (.bl false))) tNext))
  (tRet (tC (.bl true))))
def sp_in_order (K : PySem.W.Frag) : Sp := fun vs H Q E => ∃ (L pa ph : Addr) (B : Hp) (xs : List Str) (f : Str → List Str) (kvs : List (Key × V)) (o : Obj) (A Hd : OF), vs = [.ref L, .ref pa, .ref ph] ∧ Same B H ∧ B L = none ∧ H L = some (.frz o (.dK kvs)) ∧ WAt B xs kvs f ∧ Mut xs f ∧ B pa = some (.dK (zipV xs (oV A))) ∧ B ph = some (.dK (zipV xs (oV Hd))) ∧ SM xs f A Hd ∧ DomE xs A Hd ∧ Ret B H Q fun _ r => r = .bl (ioB xs f A Hd)
end Q

set_option Elab.async false
set_option linter.all false
set_option maxRecDepth 100000
set_option maxHeartbeats 4000000
namespace Q
open PySem PySem.Spec PyProof.Rows L2
/-! ### all ask until nobody asks any more -/
def nV (n : Str → Nat) : Str → V := fun a => .int (n a : Nat)
abbrev N_ask_all : List Str := ["lists", "asks", "holds", "asked", "free", "a", "b", "held"]
def t_ask_all (K : PySem.W.Frag) (E : XK) : TS := (tSeq (tLock (tAsg (tDc (iKeys (tVar 0)) (gName 5) tYes (tVar 5) (tC .non) [5]) (gName 1)))
  (tSeq (tLock (tAsg (tDc (iKeys (tVar 0)) (gName 5) tYes (tVar 5) (tC .non) [5]) (gName 2)))
  (tSeq (tLock (tAsg (tDc (iKeys (tVar 0)) (gName 5) tYes (tVar 5) (tC (.int 0)) [5]) (gName 3)))
  (tSeq (tAsg (tCB rListD (tCons (tVar 0) tNil)) (gName 4))
  (tSeq (tWhile (tTr K (tVar 4)) (tSeq (tAsg (tBM0 K "list" rPop (tVar 4)) (gName 5))
  (tSeq (tIfS (tTest (tOp rGeI (tDGet (tVar 3) (tVar 5)) (tCB (rLenA K) (tCons (tDGet (tVar 0) (tVar 5)) tNil)))) tCont tNext)
  (tSeq (tAsg (tOp (rIxL K) (tDGet (tVar 0) (tVar 5)) (tDGet (tVar 3) (tVar 5))) (gName 6))
  (tSeq (sDAug (tVar 3) (tVar 5) (tC (.int 1)) rAdd)
  (tSeq (tAsg (tDGet (tVar 2) (tVar 6)) (gName 7))
  (tSeq (tIfS (tAnd (tB (tNotN (tVar 7))) (tTest (tOp rLtI (tBM K "list" (rIndex K) (tDGet (tVar 0) (tVar 6)) (tCons (tVar 7) tNil)) (tBM K "list" (rIndex K) (tDGet (tVar 0) (tVar 6)) (tCons (tVar 5) tNil))))) (tSeq (tDrop (tBM K "list" rAppend (tVar 4) (tCons (tVar 5) tNil)))
  tCont) tNext)
  (tSeq (sDPut (tVar 2) (tVar 6) (tVar 5))
  (tSeq (sDPut (tVar 1) (tVar 5) (tVar 6))
  (tIfS (tB (tNotN (tVar 7))) (tSeq (sDPut (tVar 1) (tVar 7) (tC .non))
  (tDrop (tBM K "list" rAppend (tVar 4) (tCons (tVar 7) tNil)))) tNext))))))))))
  (tRet (tTup (tCons (tVar 1) (tCons (tVar 2) tNil)))))))))
def sp_ask_all (K : PySem.W.Frag) : Sp := fun vs H Q E => ∃ (L : Addr) (B : Hp) (xs : List Str) (f : Str → List Str) (kvs : List (Key × V)), vs = [.ref L] ∧ Same B H ∧ B L = none ∧ H L = some (.dK kvs) ∧ WAt B xs kvs f ∧ Mut xs f ∧
  ∀ B' H' T pa ph, HS [L] B H B' H' [(L, .dK kvs)] → B' T = some (.tup [.ref pa, .ref ph]) → B' pa = some (.dK (zipV xs (oV (askF f xs).A))) → B' ph = some (.dK (zipV xs (oV (askF f xs).H))) → Q (.ref T) H'
end Q

set_option Elab.async false
set_option linter.all false
set_option maxRecDepth 100000
set_option maxHeartbeats 4000000
namespace Q
open PySem PySem.Spec PyProof.Rows L2
/-! ### one cycle is passed on -/
abbrev N_passed_on : List Str := ["lists", "asks", "holds", "low", "step", "a", "start", "cycle", "new_asks", "new_holds"]
def t_passed_on (K : PySem.W.Frag) (E : XK) : TS := (tSeq (tLock (tAsg (tDc (iKeys (tVar 0)) (gName 5) tYes (tVar 5) (tCl (sp_lower K) W0 (tCons (tVar 0) (tCons (tVar 1) (tCons (tVar 2) (tCons (tVar 5) tNil))))) [5]) (gName 3)))
  (tSeq (tAsg tDNewK (gName 4))
  (tSeq (tLock (tFor (iKeys (tVar 0)) (gName 5) (tSeq (sDPut (tVar 4) (tVar 5) (tC .non))
  (tIfS (tB (tNotN (tDGet (tVar 3) (tVar 5)))) (sDPut (tVar 4) (tVar 5) (tDGet (tVar 2) (tDGet (tVar 3) (tVar 5)))) tNext))))
  (tSeq (tLock (tFor (iKeys (tVar 0)) (gName 6) (tSeq (tAsg (tCl (sp_cycle_from K) (WE0 E) (tCons (tVar 6) (tCons (tVar 4) tNil))) (gName 7))
  (tSeq (tIfS (tB (tIsN (tVar 7))) tCont tNext)
  (tSeq (tAsg (tCB rDictOf (tCons (tVar 1) tNil)) (gName 8))
  (tSeq (tAsg (tCB rDictOf (tCons (tVar 2) tNil)) (gName 9))
  (tSeq (tFor (iList K (tVar 7)) (gName 5) (tSeq (sDPut (tVar 8) (tVar 5) (tDGet (tVar 3) (tVar 5)))
  (sDPut (tVar 9) (tDGet (tVar 3) (tVar 5)) (tVar 5))))
  (tIfS (tB (tCl (sp_in_order K) (WE0 E) (tCons (tVar 0) (tCons (tVar 8) (tCons (tVar 9) tNil))))) (tRet (tTup (tCons (tVar 8) (tCons (tVar 9) tNil)))) tNext))))))))
  (tRet (tC .non))))))
def sp_passed_on (K : PySem.W.Frag) : Sp := fun vs H Q E => ∃ (L pa ph : Addr) (B : Hp) (xs : List Str) (f : Str → List Str) (kvs : List (Key × V)) (A Hd : OF), vs = [.ref L, .ref pa, .ref ph] ∧ Same B H ∧ B L = none ∧ H L = some (.dK kvs) ∧ WAt B xs kvs f ∧ Mut xs f ∧ B pa = some (.dK (zipV xs (oV A))) ∧ B ph = some (.dK (zipV xs (oV Hd))) ∧ SSt xs f A Hd ∧
  (passF f xs A Hd = none → ∀ B' H', HS [L] B H B' H' [(L, .dK kvs)] → Q .non H') ∧
  (∀ r, passF f xs A Hd = some r → ∀ B' H' T pa' ph', HS [L] B H B' H' [(L, .dK kvs)] → B' T = some (.tup [.ref pa', .ref ph']) → B' pa' = some (.dK (zipV xs (oV r.1))) → B' ph' = some (.dK (zipV xs (oV r.2))) → Q (.ref T) H')
end Q

set_option Elab.async false
set_option linter.all false
set_option maxRecDepth 100000
set_option maxHeartbeats 4000000
namespace Q
open PySem PySem.Spec PyProof.Rows L2
/-! ### rings, plain halves, the half that is found -/
def sV (x : Str → Str) : Str → V := fun a => .str (x a)
theorem zipV_isSome {ks : List Str} {g : Str → V} {a : Str} : (valV (zipV ks g) (.inr a)).isSome = decide (a ∈ ks) := by
  by_cases m : a ∈ ks
  · rw [zipV_val m, decide_eq_true m]; rfl
  · rw [zipV_none m, decide_eq_false m]; rfl
def bT : Str → V := fun _ => .bl true
abbrev N_rings_of : List Str := ["x", "rows", "seen", "start", "ring", "a"]
def t_rings_of (K : PySem.W.Frag) (E : XK) : TS := (tSeq (tAsg (tLst tNil) (gName 1))
  (tSeq (tAsg tDNewK (gName 2))
  (tSeq (tFor (iList K (tCB rSortD (tCons (tVar 0) tNil))) (gName 3) (tSeq (tIfS (tB (tDIn (tVar 3) (tVar 2))) tCont tNext)
  (tSeq (tAsg (tLst (tCons (tVar 3) tNil)) (gName 4))
  (tSeq (sDPut (tVar 2) (tVar 3) (tC (.bl true)))
  (tSeq (tAsg (tDGet (tVar 0) (tVar 3)) (gName 5))
  (tSeq (tWhile (tTest (tOp rNe (tVar 5) (tVar 3))) (tSeq (tDrop (tBM K "list" rAppend (tVar 4) (tCons (tVar 5) tNil)))
  (tSeq (sDPut (tVar 2) (tVar 5) (tC (.bl true)))
  (tAsg (tDGet (tVar 0) (tVar 5)) (gName 5)))))
  (tDrop (tBM K "list" rAppend (tVar 1) (tCons (tCB (rTupOf K) (tCons (tVar 4) tNil)) tNil)))))))))
  (tRet (tVar 1)))))
def sp_rings_of (K : PySem.W.Frag) : Sp := fun vs H Q E => ∃ (px : Addr) (B : Hp) (xs ks : List Str) (x y : Str → Str), vs = [.ref px] ∧ Same B H ∧ B px = some (.dK (zipV ks (sV x))) ∧ PermF xs x y ∧ ks.Perm xs ∧ xs.Nodup ∧ xs.length ≤ 16 ∧
  ∀ B' H' l rows, HS [] B H B' H' [(l, .lst rows)] → TRs B' rows (ringsA x xs) → Q (.ref l) H'
end Q

set_option Elab.async false
set_option linter.all false
set_option maxRecDepth 100000
set_option maxHeartbeats 4000000
namespace Q
open PySem PySem.Spec PyProof.Rows L2
/-! ### even rings are split -/
def plW (y : Str → Str) (r : List Str) (n : Nat) : Str → Str := fun a => if a ∈ r.take (2 * n) then splitR r a else y a
abbrev N_plain : List Str := ["x", "y", "ring", "at"]
def t_plain (K : PySem.W.Frag) (E : XK) : TS := (tSeq (tAsg (tCB rDictOf (tCons (tVar 0) tNil)) (gName 1))
  (tSeq (tFor (iList K (tCl (sp_rings_of K) (WE0 E) (tCons (tVar 0) tNil))) (gName 2) (tIfS (tAnd (tTest (tOp rGeI (tCB (rLenA K) (tCons (tVar 2) tNil)) (tC (.int 4)))) (tTest (tOp rEq (tOp rModI (tCB (rLenA K) (tCons (tVar 2) tNil)) (tC (.int 2))) (tC (.int 0))))) (tFor (iRng3 (tCons (tC (.int 0)) (tCons (tCB (rLenA K) (tCons (tVar 2) tNil)) (tCons (tC (.int 2)) tNil)))) (gName 3) (tSeq (sDPut (tVar 1) (tOp (rIxT K) (tVar 2) (tVar 3)) (tOp (rIxT K) (tVar 2) (tOp rAddI (tVar 3) (tC (.int 1)))))
  (sDPut (tVar 1) (tOp (rIxT K) (tVar 2) (tOp rAddI (tVar 3) (tC (.int 1)))) (tOp (rIxT K) (tVar 2) (tVar 3))))) tNext))
  (tRet (tVar 1))))
def sp_plain (K : PySem.W.Frag) : Sp := fun vs H Q E => ∃ (px : Addr) (B : Hp) (xs ks : List Str) (x y : Str → Str), vs = [.ref px] ∧ Same B H ∧ B px = some (.dK (zipV ks (sV x))) ∧ PermF xs x y ∧ ks.Perm xs ∧ xs.Nodup ∧ xs.length ≤ 16 ∧
  ∀ B' H' r, HS [] B H B' H' [(r, .dK (zipV ks (sV (plF x xs))))] → Q (.ref r) H'
end Q

set_option Elab.async false
set_option linter.all false
set_option maxRecDepth 100000
set_option maxHeartbeats 4000000
namespace Q
open PySem PySem.Spec PyProof.Rows L2
/-! ### the half that is found -/
abbrev N_find_half : List Str := ["group", "lists", "told", "x", "a", "asks", "holds"]
def t_find_half (K : PySem.W.Frag) (E : XK) : TS := (tSeq (tAsg (tDc (iList K (tCB (rSortL K) (tCons (tMt (He.ga K "Group") "people" (sp_Group_people K) (WE0 E) (tVar 0) tNil) tNil))) (gName 4) tYes (tVar 4) (tMt (He.ga K "Group") "open_to" (sp_Group_open_to K) W0 (tVar 0) (tCons (tVar 4) tNil)) [4]) (gName 1))
  (tSeq (tAsg (tCl (sp_ask_all K) (WE0 E) (tCons (tVar 1) tNil)) (gTup K 2 (gCons (gName 5) (gCons (gName 6) gNil))))
  (tSeq (tAsg (tCl (sp_passed_on K) (WE0 E) (tCons (tVar 1) (tCons (tVar 5) (tCons (tVar 6) tNil)))) (gName 2))
  (tSeq (tWhile (tB (tNotN (tVar 2))) (tSeq (tAsg (tVar 2) (gTup K 2 (gCons (gName 5) (gCons (gName 6) gNil))))
  (tAsg (tCl (sp_passed_on K) (WE0 E) (tCons (tVar 1) (tCons (tVar 5) (tCons (tVar 6) tNil)))) (gName 2))))
  (tSeq (tAsg tDNewK (gName 3))
  (tSeq (tLock (tFor (iKeys (tVar 1)) (gName 4) (tSeq (sDPut (tVar 3) (tVar 4) (tVar 4))
  (tIfS (tB (tNotN (tDGet (tVar 5) (tVar 4)))) (sDPut (tVar 3) (tVar 4) (tDGet (tVar 5) (tVar 4))) tNext))))
  (tRet (tCl (sp_plain K) (WE0 E) (tCons (tVar 3) tNil)))))))))
def sp_find_half (K : PySem.W.Frag) : Sp := fun vs H Q E => ∃ (p : Addr) (B : Hp) (G : Grp), vs = [.ref p] ∧ Same B H ∧ GAt K B p G ∧
  ∀ B' H' r, HS [] B H B' H' [(r, .dK (zipV (sortS G.names) (sV (hfF G.open (sortS G.names)))))] → Q (.ref r) H'
abbrev N_half : List Str := ["group"]
def t_half (K : PySem.W.Frag) (E : XK) : TS := (tRet (tCl (sp_find_half K) (WE0 E) (tCons (tVar 0) tNil)))
def sp_half (K : PySem.W.Frag) : Sp := sp_find_half K
/-! ### a calm dealing, or none -/
def invO (x : Str → Str) : OF := fun a => if x a = a then none else some (x a)
abbrev N_dealing : List Str := ["group", "x", "y", "a"]
def t_dealing (K : PySem.W.Frag) (E : XK) : TS := (tSeq (tAsg (tCl (sp_find_half K) (WE0 E) (tCons (tVar 0) tNil)) (gName 1))
  (tSeq (tAsg tDNewK (gName 2))
  (tSeq (tFor (iList K (tMt (He.ga K "Group") "people" (sp_Group_people K) (WE0 E) (tVar 0) tNil)) (gName 3) (tSeq (tIfS (tTest (tOp rNe (tDGet (tVar 1) (tDGet (tVar 1) (tVar 3))) (tVar 3))) (tRet (tC .non)) tNext)
  (tSeq (sDPut (tVar 2) (tVar 3) (tC .non))
  (tIfS (tTest (tOp rNe (tDGet (tVar 1) (tVar 3)) (tVar 3))) (sDPut (tVar 2) (tVar 3) (tDGet (tVar 1) (tVar 3))) tNext))))
  (tRet (tVar 2)))))
def sp_dealing (K : PySem.W.Frag) : Sp := fun vs H Q E => ∃ (p : Addr) (B : Hp) (G : Grp), vs = [.ref p] ∧ Same B H ∧ GAt K B p G ∧
  ((∃ a ∈ G.names, hfF G.open (sortS G.names) (hfF G.open (sortS G.names) a) ≠ a) → Ret B H Q fun _ r => r = .non) ∧
  ((∀ a ∈ G.names, hfF G.open (sortS G.names) (hfF G.open (sortS G.names) a) = a) → ∀ B' H' r, HS [] B H B' H' [(r, .dK (zipV G.names (oV (invO (hfF G.open (sortS G.names))))))] → Q (.ref r) H')
end Q

set_option Elab.async false
set_option linter.all false
set_option maxRecDepth 100000
set_option maxHeartbeats 4000000
namespace Q
open PySem PySem.Spec PyProof.Rows L2
/-! ### values that may be halves: plain facts -/
theorem perm_of_len {α : Type} [DecidableEq α] : ∀ {l l' : List α}, l.Nodup → (∀ x ∈ l, x ∈ l') → l'.length = l.length → l.Perm l'
  | [], l', _, _, h => by
    have : l' = [] := List.length_eq_zero_iff.mp h
    rw [this]
  | x :: r, l', nd, hin, h => by
    rw [List.nodup_cons] at nd
    have mx := hin x List.mem_cons_self
    have ih : r.Perm (l'.erase x) := perm_of_len nd.2 (fun y my => (List.mem_erase_of_ne fun (e : y = x) => nd.1 (by rw [← e]; exact my)).mpr (hin y (List.mem_cons_of_mem _ my))) (by
      rw [List.length_erase_of_mem mx, h, List.length_cons]
      omega)
    exact (ih.cons x).trans (List.perm_cons_erase mx).symm
def valS (d : D) (a : Str) : Str := match vald d a with
  | .str b => b
  | _ => ""
def isS : D → Bool
  | .str _ => true
  | _ => false
def hasF (xs : List Str) (d : D) : Bool := sameKeys d xs && ((xs.all fun a => isS (vald d a) && decide (valS d a ∈ xs)) && decide ((xs.map (valS d)).Nodup))
structure HasF (xs : List Str) (d : D) : Prop where
  sk : sameKeys d xs = true
  st : ∀ a ∈ xs, vald d a = .str (valS d a) ∧ valS d a ∈ xs
  nd : (xs.map (valS d)).Nodup
/-- the one before -/
def befF (xs : List Str) (x : Str → Str) (b : Str) : Str := (xs.find? fun a => decide (x a = b)).getD b
theorem permF_of {xs : List Str} {x : Str → Str} (nd : xs.Nodup) (hin : ∀ a ∈ xs, x a ∈ xs) (ndx : (xs.map x).Nodup) : PermF xs x (befF xs x) := by
  have inj : ∀ {a b : Str}, a ∈ xs → b ∈ xs → x a = x b → a = b := fun {a b} ma mb e => by
    obtain ⟨i, hi⟩ := List.mem_iff_getElem?.mp ma
    obtain ⟨j, hj⟩ := List.mem_iff_getElem?.mp mb
    have h1 : (xs.map x)[i]? = some (x a) := by rw [List.getElem?_map, hi]; rfl
    have h2 : (xs.map x)[j]? = some (x a) := by rw [List.getElem?_map, hj, e]; rfl
    have := nd_at ndx h1 h2
    subst this
    rw [hi] at hj
    exact Option.some.inj hj
  have fnd : ∀ {a : Str}, a ∈ xs → befF xs x (x a) = a := fun {a} ma => by
    unfold befF
    cases e : xs.find? fun c => decide (x c = x a) with
    | none =>
      have := List.find?_eq_none.mp e a ma
      rw [decide_eq_true rfl] at this
      exact absurd rfl this
    | some c =>
      have h0 := List.find?_some e
      have h1 := of_decide_eq_true h0
      exact inj (List.mem_of_find?_eq_some e) ma h1
  have pe := perm_of_len ndx (fun y my => by
    obtain ⟨a, ma, rfl⟩ := List.mem_map.mp my
    exact hin a ma) (List.length_map _).symm
  have sur : ∀ b ∈ xs, ∃ a ∈ xs, x a = b := fun b mb => by
    obtain ⟨a, ma, e⟩ := List.mem_map.mp (pe.mem_iff.mpr mb)
    exact ⟨a, ma, e⟩
  refine ⟨hin, fun b mb => ?_, fun a ma => fnd ma, fun b mb => ?_⟩
  · obtain ⟨a, ma, rfl⟩ := sur b mb
    rw [fnd ma]
    exact ma
  · obtain ⟨a, ma, rfl⟩ := sur b mb
    rw [fnd ma]
theorem HasF.perm {xs : List Str} {d : D} (nd : xs.Nodup) (h : HasF xs d) : PermF xs (valS d) (befF xs (valS d)) := permF_of nd (fun a ma => (h.st a ma).2) h.nd
def lkB (f : Str → List Str) (y : Str → Str) (a b : Str) : Bool := decide (y a = a) || decide ((f a).idxOf b < (f a).idxOf (y a))
def nqP (f : Str → List Str) (y : Str → Str) : List Str → Bool
  | [a, b] => !(lkB f y a b && lkB f y b a)
  | _ => true
def opB (f : Str → List Str) (x : Str → Str) (a : Str) : Bool := decide (x a = a) || decide (x a ∈ f a)
def orB (f : Str → List Str) (x y : Str → Str) (a : Str) : Bool := decide (x a = y a) || decide ((f a).idxOf (x a) ≤ (f a).idxOf (y a))
def halfB (xs : List Str) (f : Str → List Str) (x y : Str → Str) : Bool := xs.all (opB f x) && (xs.all (orB f x y) && (prsOf xs f).all (nqP f y))
def isHalfD (xs : List Str) (f : Str → List Str) (d : D) : Bool := hasF xs d && halfB xs f (valS d) (befF xs (valS d))
/-! ### dicts of next ones -/
def zipSD (ks : List Str) (x : Str → Str) : List (Key × D) := ks.map fun a => (.inr a, .str (x a))
end Q

set_option Elab.async false
set_option linter.all false
set_option maxRecDepth 100000
set_option maxHeartbeats 4000000
namespace Q
open PySem PySem.Spec PyProof.Rows L2
/-! ### is it a half, by the law -/
abbrev N__law_has_form : List Str := ["_law_names_here", "_law_x", "_law_a", "_law_seen"]
def t__law_has_form (K : PySem.W.Frag) (E : XK) : TS := (tSeq (tIfS (tOr (tNot (tB (tCB (rIsi K) (tCons (tVar 1) (tCons (tC (.ty "dict")) tNil))))) (tTest (tOp rNe (tCB rLenD (tCons (tVar 1) tNil)) (tCB (rLenA K) (tCons (tVar 0) tNil))))) (tRet (tC (.bl false))) tNext)
  (tSeq (tFor (iList K (tVar 0)) (gName 2) (tIfS (tB (tDNotIn (tVar 2) (tVar 1))) (tRet (tC (.bl false))) tNext))
  (tSeq (tAsg (tLst tNil) (gName 3))
  (tSeq (tFor (iList K (tVar 0)) (gName 2) (tSeq (tIfS (tOr (tNot (tB (tCB (rIsi K) (tCons (tDGet (tVar 1) (tVar 2)) (tCons (tC (.ty "str")) tNil))))) (tOr (tTest (tOp (rIn K true) (tDGet (tVar 1) (tVar 2)) (tVar 0))) (tTest (tOp (rIn K false) (tDGet (tVar 1) (tVar 2)) (tVar 3))))) (tRet (tC (.bl false))) tNext)
  (tDrop (tBM K "list" rAppend (tVar 3) (tCons (tDGet (tVar 1) (tVar 2)) tNil)))))
  (tRet (tC (.bl true)))))))
def sp__law_has_form (K : PySem.W.Frag) : Sp := fun vs H Q E => ∃ (l : Addr) (v : V) (xs : List Str) (d : D) (B : Hp), vs = [.ref l, v] ∧ Same B H ∧ B l = some (.lst (xs.map V.str)) ∧ Rep K B v d ∧ xs.length ≤ 16 ∧ Ret B H Q fun _ r => r = .bl (hasF xs d)
abbrev N__law_before : List Str := ["_law_x", "_law_before_here", "_law_a"]
def t__law_before (K : PySem.W.Frag) (E : XK) : TS := (tSeq (tAsg tDNewK (gName 1))
  (tSeq (tLock (tFor (iKeys (tVar 0)) (gName 2) (sDPut (tVar 1) (tDGet (tVar 0) (tVar 2)) (tVar 2))))
  (tRet (tVar 1))))
def sp__law_before (K : PySem.W.Frag) : Sp := fun vs H Q E => ∃ (px : Addr) (B : Hp) (ks : List Str) (x y : Str → Str), vs = [.ref px] ∧ Same B H ∧ B px = none ∧ H px = some (.dK (zipV ks (sV x))) ∧ (ks.map x).Nodup ∧ (∀ a ∈ ks, y (x a) = a) ∧ ks.length ≤ 16 ∧
  ∀ B' H' r, HS [px] B H B' H' [(px, .dK (zipV ks (sV x))), (r, .dK (zipV (ks.map x) (sV y)))] → Q (.ref r) H'
abbrev N__law_half_rather : List Str := ["_law_mutual_here", "_law_a", "_law_b", "_law_held"]
def t__law_half_rather (K : PySem.W.Frag) (E : XK) : TS := (tRet (tOrV (tOp rEq (tVar 3) (tVar 1)) (tOp rLtI (tBM K "list" (rIndex K) (tDGet (tVar 0) (tVar 1)) (tCons (tVar 2) tNil)) (tBM K "list" (rIndex K) (tDGet (tVar 0) (tVar 1)) (tCons (tVar 3) tNil)))))
def sp__law_half_rather (K : PySem.W.Frag) : Sp := fun vs H Q E => ∃ (m : Addr) (kvs : List (Key × V)) (row : List Str) (l : Addr) (a b h : Str), vs = [.ref m, .str a, .str b, .str h] ∧ H m = some (.dK kvs) ∧ valV kvs (.inr a) = some (.ref l) ∧ H l = some (.lst (row.map V.str)) ∧ row.Nodup ∧ b ∈ row ∧ (h = a ∨ h ∈ row) ∧ Q (.bl (decide (h = a) || decide (row.idxOf b < row.idxOf h))) H
abbrev N__law_is_half : List Str := ["_law_mutual_here", "_law_x", "_law_before_here", "_law_a", "_law_pair", "_law_b"]
def t__law_is_half (K : PySem.W.Frag) (E : XK) : TS := (tSeq (tIfS (tNot (tB (tCl (sp__law_has_form K) (WE0 E) (tCons (tCB rListD (tCons (tVar 0) tNil)) (tCons (tVar 1) tNil))))) (tRet (tC (.bl false))) tNext)
  (tSeq (tAsg (tCl (sp__law_before K) (WE0 E) (tCons (tVar 1) tNil)) (gName 2))
  (tSeq (tLock (tFor (iKeys (tVar 0)) (gName 3) (tIfS (tAnd (tTest (tOp rNe (tDGet (tVar 1) (tVar 3)) (tVar 3))) (tTest (tOp (rIn K true) (tDGet (tVar 1) (tVar 3)) (tDGet (tVar 0) (tVar 3))))) (tRet (tC (.bl false))) tNext)))
  (tSeq (tLock (tFor (iKeys (tVar 0)) (gName 3) (tIfS (tAnd (tTest (tOp rNe (tDGet (tVar 1) (tVar 3)) (tDGet (tVar 2) (tVar 3)))) (tTest (tOp rGtI (tBM K "list" (rIndex K) (tDGet (tVar 0) (tVar 3)) (tCons (tDGet (tVar 1) (tVar 3)) tNil)) (tBM K "list" (rIndex K) (tDGet (tVar 0) (tVar 3)) (tCons (tDGet (tVar 2) (tVar 3)) tNil))))) (tRet (tC (.bl false))) tNext)))
  (tSeq (tFor (iList K (tCl (sp__law_pairs K) (WE0 E) (tCons (tVar 0) tNil))) (gName 4) (tSeq (tAsg (tOp (rIxT K) (tVar 4) (tC (.int 0))) (gName 3))
  (tSeq (tAsg (tOp (rIxT K) (tVar 4) (tC (.int 1))) (gName 5))
  (tIfS (tAnd (tB (tCl (sp__law_half_rather K) (WE0 E) (tCons (tVar 0) (tCons (tVar 3) (tCons (tVar 5) (tCons (tDGet (tVar 2) (tVar 3)) tNil)))))) (tB (tCl (sp__law_half_rather K) (WE0 E) (tCons (tVar 0) (tCons (tVar 5) (tCons (tVar 3) (tCons (tDGet (tVar 2) (tVar 5)) tNil))))))) (tRet (tC (.bl false))) tNext))))
  (tRet (tC (.bl true))))))))
def sp__law_is_half (K : PySem.W.Frag) : Sp := fun vs H Q E => ∃ (m : Addr) (v : V) (kvs : List (Key × V)) (xs : List Str) (f : Str → List Str) (d : D) (B : Hp), vs = [.ref m, v] ∧ Same B H ∧ B m = none ∧ H m = some (.dK kvs) ∧ WAt B xs kvs f ∧ Mut xs f ∧ Rep K B v d ∧ Ret B H Q fun _ r => r = .bl (isHalfD xs f d)
end Q

set_option Elab.async false
set_option linter.all false
set_option maxRecDepth 100000
set_option maxHeartbeats 4000000
namespace Q
open PySem PySem.Spec PyProof.Rows L2
/-! ### keys of tuples -/
def keyOf (B : Hp) (v : V) : List Str := match v with
  | .ref t => (match B t with
    | some (.tup xs) => xs.map fun | .str x => x | _ => ""
    | _ => [])
  | _ => []
theorem keyOf_eq {B : Hp} {t : Addr} {k : List Str} (h : B t = some (.tup (k.map V.str))) : keyOf B (.ref t) = k := by
  simp only [keyOf, h, List.map_map]
  have : ((fun | V.str x => x | _ => "") ∘ V.str : Str → Str) = id := rfl
  rw [this, List.map_id]
theorem TRs.keys {B : Hp} : ∀ {vs : List V} {ks : List (List Str)}, TRs B vs ks → vs.map (keyOf B) = ks
  | _, _, .nil => rfl
  | _, _, .cons h r => by rw [List.map_cons, keyOf_eq h, TRs.keys r]
theorem TRs.of {B : Hp} : ∀ {vs : List V}, (∀ v ∈ vs, ∃ t, v = .ref t ∧ B t = some (.tup ((keyOf B v).map V.str))) → TRs B vs (vs.map (keyOf B))
  | [], _ => .nil
  | v :: r, h => by
    obtain ⟨t, rfl, e⟩ := h v List.mem_cons_self
    rw [List.map_cons]
    exact .cons e (TRs.of fun u m => h u (List.mem_cons_of_mem _ m))
/-! ### rings and lots, by the law -/
def oddR (r : List Str) : Bool := decide (r.length % 2 = 1)
def lotsA (x : Str → Str) (xs : List Str) : List (List Str) := sortT (((ringsA x xs).filter oddR).map sortS)
def oddA (x : Str → Str) (xs : List Str) : List (List Str) := (lotsA x xs).filter fun l => decide (3 ≤ l.length)
section
variable {xs : List Str} {x y : Str → Str}
end
abbrev N__law_rings : List Str := ["_law_x", "_law_rows", "_law_seen", "_law_start", "_law_ring", "_law_k"]
def t__law_rings (K : PySem.W.Frag) (E : XK) : TS := (tSeq (tAsg (tLst tNil) (gName 1))
  (tSeq (tAsg (tLst tNil) (gName 2))
  (tSeq (tFor (iList K (tCB (rSortL K) (tCons (tCB rListD (tCons (tVar 0) tNil)) tNil))) (gName 3) (tIfS (tTest (tOp (rIn K true) (tVar 3) (tVar 2))) (tSeq (tAsg (tLst (tCons (tVar 3) tNil)) (gName 4))
  (tSeq (tFor (iRng1 (tCons (tCB rLenD (tCons (tVar 0) tNil)) tNil)) (gName 5) (tIfS (tTest (tOp rNe (tDGet (tVar 0) (tOp (rIxL K) (tVar 4) (tUn rNegI (tC (.int 1))))) (tVar 3))) (tDrop (tBM K "list" rAppend (tVar 4) (tCons (tDGet (tVar 0) (tOp (rIxL K) (tVar 4) (tUn rNegI (tC (.int 1))))) tNil))) tNext))
  (tSeq (tDrop (tBM K "list" rExtend (tVar 2) (tCons (tVar 4) tNil)))
  (tDrop (tBM K "list" rAppend (tVar 1) (tCons (tCB (rTupOf K) (tCons (tVar 4) tNil)) tNil)))))) tNext))
  (tRet (tVar 1)))))
def sp__law_rings (K : PySem.W.Frag) : Sp := fun vs H Q E => ∃ (px : Addr) (B : Hp) (xs ks : List Str) (x y : Str → Str), vs = [.ref px] ∧ Same B H ∧ B px = some (.dK (zipV ks (sV x))) ∧ PermF xs x y ∧ ks.Perm xs ∧ xs.Nodup ∧ xs.length ≤ 16 ∧
  ∀ B' H' l rows, HS [] B H B' H' [(l, .lst rows)] → TRs B' rows (ringsA x xs) → Q (.ref l) H'
end Q

set_option Elab.async false
set_option linter.all false
set_option maxRecDepth 100000
set_option maxHeartbeats 4000000
namespace Q
open PySem PySem.Spec PyProof.Rows L2
/-! ### lots -/
abbrev N__law_lots : List Str := ["_law_x", "_law_ring"]
def t__law_lots (K : PySem.W.Frag) (E : XK) : TS := (tRet (tCB (rSortTx K) (tCons (tLc (iList K (tCl (sp__law_rings K) (WE0 E) (tCons (tVar 0) tNil))) (gName 1) (tTest (tOp rEq (tOp rModI (tCB (rLenA K) (tCons (tVar 1) tNil)) (tC (.int 2))) (tC (.int 1)))) (tCB (rTupOf K) (tCons (tCB (rSortT K) (tCons (tVar 1) tNil)) tNil)) [1]) tNil)))
def sp__law_lots (K : PySem.W.Frag) : Sp := fun vs H Q E => ∃ (px : Addr) (B : Hp) (xs ks : List Str) (x y : Str → Str), vs = [.ref px] ∧ Same B H ∧ B px = some (.dK (zipV ks (sV x))) ∧ PermF xs x y ∧ ks.Perm xs ∧ xs.Nodup ∧ xs.length ≤ 16 ∧
  ∀ B' H' l rows, HS [] B H B' H' [(l, .lst rows)] → TRs B' rows (lotsA x xs) → Q (.ref l) H'
abbrev N__law_odd : List Str := ["_law_x", "_law_lot"]
def t__law_odd (K : PySem.W.Frag) (E : XK) : TS := (tRet (tLc (iList K (tCl (sp__law_lots K) (WE0 E) (tCons (tVar 0) tNil))) (gName 1) (tTest (tOp rGtI (tCB (rLenA K) (tCons (tVar 1) tNil)) (tC (.int 2)))) (tVar 1) [1]))
def sp__law_odd (K : PySem.W.Frag) : Sp := fun vs H Q E => ∃ (px : Addr) (B : Hp) (xs ks : List Str) (x y : Str → Str), vs = [.ref px] ∧ Same B H ∧ B px = some (.dK (zipV ks (sV x))) ∧ PermF xs x y ∧ ks.Perm xs ∧ xs.Nodup ∧ xs.length ≤ 16 ∧
  ∀ B' H' l rows, HS [] B H B' H' [(l, .lst rows)] → TRs B' rows (oddA x xs) → Q (.ref l) H'
abbrev N__law_is_plain : List Str := ["_law_x", "_law_ring"]
def t__law_is_plain (K : PySem.W.Frag) (E : XK) : TS := (tSeq (tFor (iList K (tCl (sp__law_rings K) (WE0 E) (tCons (tVar 0) tNil))) (gName 1) (tIfS (tAnd (tTest (tOp rGtI (tCB (rLenA K) (tCons (tVar 1) tNil)) (tC (.int 2)))) (tTest (tOp rEq (tOp rModI (tCB (rLenA K) (tCons (tVar 1) tNil)) (tC (.int 2))) (tC (.int 0))))) (tRet (tC (.bl false))) tNext))
  (tRet (tC (.bl true))))
def plainR (x : Str → Str) (xs : List Str) : Bool := (ringsA x xs).all fun r => !(decide (2 < r.length) && decide (r.length % 2 = 0))
def sp__law_is_plain (K : PySem.W.Frag) : Sp := fun vs H Q E => ∃ (px : Addr) (B : Hp) (xs ks : List Str) (x y : Str → Str), vs = [.ref px] ∧ Same B H ∧ B px = some (.dK (zipV ks (sV x))) ∧ PermF xs x y ∧ ks.Perm xs ∧ xs.Nodup ∧ xs.length ≤ 16 ∧ Ret B H Q fun _ r => r = .bl (plainR x xs)
/-! ### what follows for plain halves -/
end Q

set_option Elab.async false
set_option linter.all false
set_option maxRecDepth 100000
set_option maxHeartbeats 4000000
namespace Q
open PySem PySem.Spec PyProof.Rows L2
/-! ### halves of a group; dealings that are halves -/
theorem WAt.congr {B : Hp} {done : List Str} {kvs : List (Key × V)} {ws us : Str → List Str} (h : WAt B done kvs ws) (e : ∀ p ∈ done, ws p = us p) : WAt B done kvs us := by
  obtain ⟨al, h1, h2, h3⟩ := h
  refine ⟨al, h1, h2, fun j p a hp ha => ?_⟩
  have := h3 j p a hp ha
  unfold LAt at this ⊢
  rw [← e p (List.mem_of_getElem? hp)]
  exact this
theorem PermF.few {xs : List Str} {x y : Str → Str} (h : PermF xs x y) {f : Str → List Str} (mu : Mut xs f) : ∀ a ∈ xs, (x a).length ≤ 1000000 := fun a ma => okName_len (mu.nm _ (h.inx a ma))
end Q

set_option Elab.async false
set_option linter.all false
set_option maxRecDepth 100000
set_option maxHeartbeats 4000000
namespace Q
open PySem PySem.Spec PyProof.Rows L2
/-! ### halves by the program: has_form, fault, is_half -/
abbrev N_has_form : List Str := ["group", "x", "seen", "a", "b"]
def t_has_form (K : PySem.W.Frag) (E : XK) : TS := (tSeq (tIfS (tNot (tB (tCl (sp_same_keys K) (WE0 E) (tCons (tVar 1) (tCons (tMt (He.ga K "Group") "people" (sp_Group_people K) (WE0 E) (tVar 0) tNil) tNil))))) (tRet (tC (.bl false))) tNext)
  (tSeq (tAsg (tLst tNil) (gName 2))
  (tSeq (tFor (iList K (tMt (He.ga K "Group") "people" (sp_Group_people K) (WE0 E) (tVar 0) tNil)) (gName 3) (tSeq (tAsg (tDGet (tVar 1) (tVar 3)) (gName 4))
  (tSeq (tIfS (tOr (tNot (tB (tCB (rIsi K) (tCons (tVar 4) (tCons (tC (.ty "str")) tNil))))) (tOr (tTest (tOp (rNotInG (He.ga K "Group") (sp_Group___contains__ K)) (tVar 4) (tVar 0))) (tTest (tOp (rIn K false) (tVar 4) (tVar 2))))) (tRet (tC (.bl false))) tNext)
  (tDrop (tBM K "list" rAppend (tVar 2) (tCons (tVar 4) tNil))))))
  (tRet (tC (.bl true))))))
def sp_has_form (K : PySem.W.Frag) : Sp := fun vs H Q E => ∃ (p : Addr) (v : V) (B : Hp) (G : Grp) (d : D), vs = [.ref p, v] ∧ Same B H ∧ GAt K B p G ∧ Rep K B v d ∧ Ret B H Q fun _ r => r = .bl (hasF G.names d)
abbrev N_likes : List Str := ["group", "before", "a", "b"]
def t_likes (K : PySem.W.Frag) (E : XK) : TS := (tRet (tOrV (tOp rEq (tDGet (tVar 1) (tVar 2)) (tVar 2)) (tOp rLtI (tMt (He.ga K "Group") "rank" (sp_Group_rank K) (WE0 E) (tVar 0) (tCons (tVar 2) (tCons (tVar 3) tNil))) (tMt (He.ga K "Group") "rank" (sp_Group_rank K) (WE0 E) (tVar 0) (tCons (tVar 2) (tCons (tDGet (tVar 1) (tVar 2)) tNil))))))
def sp_likes (K : PySem.W.Frag) : Sp := fun vs H Q E => ∃ (p pb : Addr) (a b : Str) (B : Hp) (G : Grp) (bs : List Str) (y : Str → Str), vs = [.ref p, .ref pb, .str a, .str b] ∧ Same B H ∧ GAt K B p G ∧ B pb = some (.dK (zipV bs (sV y))) ∧ a ∈ bs ∧ a ∈ G.names ∧ b ∈ G.open a ∧ (y a = a ∨ y a ∈ G.open a) ∧ Ret B H Q fun _ r => r = .bl (lkB G.open y a b)
/-- the first fault -/
def faultX (xs : List Str) (f : Str → List Str) (x y : Str → Str) : Option (List Str) := match (sortS xs).find? fun a => !opB f x a with
  | some a => some ["open", a, x a]
  | none => match (sortS xs).find? fun a => !orB f x y a with
    | some a => some ["order", a]
    | none => match (prsOf xs f).find? fun c => !nqP f y c with
      | some c => some ("quarrel" :: c)
      | none => none
def faultD (xs : List Str) (f : Str → List Str) (d : D) : Option (List Str) := if hasF xs d = true then faultX xs f (valS d) (befF xs (valS d)) else some ["form"]
theorem all_find {α : Type} {l : List α} {p : α → Bool} : l.all p = true ↔ l.find? (fun a => !p a) = none := by
  rw [List.all_eq_true, List.find?_eq_none]
  exact ⟨fun h a ma z => (by rw [h a ma] at z; cases z), fun h a ma => by
    have := h a ma
    cases e : p a with
    | true => rfl
    | false => rw [e] at this; exact absurd rfl this⟩
abbrev N_fault : List Str := ["group", "x", "before", "names", "a", "b"]
def t_fault (K : PySem.W.Frag) (E : XK) : TS := (tSeq (tIfS (tNot (tB (tCl (sp_has_form K) (WE0 E) (tCons (tVar 0) (tCons (tVar 1) tNil))))) (tRet (tTup (tCons (tC (.str "form")) tNil))) tNext)
  (tSeq (tAsg (tDc (iList K (tMt (He.ga K "Group") "people" (sp_Group_people K) (WE0 E) (tVar 0) tNil)) (gName 4) tYes (tDGet (tVar 1) (tVar 4)) (tVar 4) [4]) (gName 2))
  (tSeq (tAsg (tCB (rSortL K) (tCons (tMt (He.ga K "Group") "people" (sp_Group_people K) (WE0 E) (tVar 0) tNil) tNil)) (gName 3))
  (tSeq (tFor (iList K (tVar 3)) (gName 4) (tIfS (tAnd (tTest (tOp rNe (tDGet (tVar 1) (tVar 4)) (tVar 4))) (tTest (tOp (rNotInG (He.ga K "Group") (sp_Group___contains__ K)) (tTup (tCons (tVar 4) (tCons (tDGet (tVar 1) (tVar 4)) tNil))) (tVar 0)))) (tRet (tTup (tCons (tC (.str "open")) (tCons (tVar 4) (tCons (tDGet (tVar 1) (tVar 4)) tNil))))) tNext))
  (tSeq (tFor (iList K (tVar 3)) (gName 4) (tIfS (tAnd (tTest (tOp rNe (tDGet (tVar 1) (tVar 4)) (tDGet (tVar 2) (tVar 4)))) (tTest (tOp rGtI (tMt (He.ga K "Group") "rank" (sp_Group_rank K) (WE0 E) (tVar 0) (tCons (tVar 4) (tCons (tDGet (tVar 1) (tVar 4)) tNil))) (tMt (He.ga K "Group") "rank" (sp_Group_rank K) (WE0 E) (tVar 0) (tCons (tVar 4) (tCons (tDGet (tVar 2) (tVar 4)) tNil)))))) (tRet (tTup (tCons (tC (.str "order")) (tCons (tVar 4) tNil)))) tNext))
  (tSeq (tFor (iList K (tMt (He.ga K "Group") "pairs" (sp_Group_pairs K) (WE0 E) (tVar 0) tNil)) (gTup K 2 (gCons (gName 4) (gCons (gName 5) gNil))) (tIfS (tAnd (tB (tCl (sp_likes K) (WE0 E) (tCons (tVar 0) (tCons (tVar 2) (tCons (tVar 4) (tCons (tVar 5) tNil)))))) (tB (tCl (sp_likes K) (WE0 E) (tCons (tVar 0) (tCons (tVar 2) (tCons (tVar 5) (tCons (tVar 4) tNil))))))) (tRet (tTup (tCons (tC (.str "quarrel")) (tCons (tVar 4) (tCons (tVar 5) tNil))))) tNext))
  (tRet (tC .non))))))))
def sp_fault (K : PySem.W.Frag) : Sp := fun vs H Q E => ∃ (p : Addr) (v : V) (B : Hp) (G : Grp) (d : D), vs = [.ref p, v] ∧ Same B H ∧ GAt K B p G ∧ Rep K B v d ∧
  (faultD G.names G.open d = none → Ret B H Q fun _ r => r = .non) ∧ (∀ l, faultD G.names G.open d = some l → ∀ B' H' t, HS [] B H B' H' [] → B' t = some (.tup (l.map V.str)) → Q (.ref t) H')
abbrev N_is_half : List Str := ["group", "x"]
def t_is_half (K : PySem.W.Frag) (E : XK) : TS := (tRet (tIsN (tCl (sp_fault K) (WE0 E) (tCons (tVar 0) (tCons (tVar 1) tNil)))))
def sp_is_half (K : PySem.W.Frag) : Sp := fun vs H Q E => ∃ (p : Addr) (v : V) (B : Hp) (G : Grp) (d : D), vs = [.ref p, v] ∧ Same B H ∧ GAt K B p G ∧ Rep K B v d ∧ Ret B H Q fun _ r => r = .bl (isHalfD G.names G.open d)
end Q

set_option Elab.async false
set_option linter.all false
set_option maxRecDepth 100000
set_option maxHeartbeats 4000000
namespace Q
open PySem PySem.Spec PyProof.Rows L2
/-! ### all halves have the same odd lots -/
def rkA (f : Str → List Str) (a b : Str) : Nat := if b = a then 1000 else (f a).idxOf b
section
variable {xs : List Str} {f : Str → List Str} {x y x' y' : Str → Str}
theorem PermF.symm (h : PermF xs x y) : PermF xs y x := ⟨h.iny, h.inx, h.xy, h.yx⟩
theorem HalfF.opy (mu : Mut xs f) (h : HalfF xs f x y) {a : Str} (ma : a ∈ xs) (ne : y a ≠ a) : y a ∈ f a := by
  have := h.op (y a) (h.pm.iny a ma) (by rw [h.pm.xy a ma]; exact Ne.symm ne)
  rw [h.pm.xy a ma] at this
  exact (mu.fi (y a) (h.pm.iny a ma) a this).2
theorem rk_idx (mu : Mut xs f) {a b : Str} (ma : a ∈ xs) (mb : b ∈ f a) : rkA f a b = (f a).idxOf b := by
  unfold rkA
  rw [if_neg fun e => mu.fs a ma (by rw [e] at mb; exact mb)]
theorem HalfF.iny' (mu : Mut xs f) (h : HalfF xs f x y) {a : Str} (ma : a ∈ xs) : y a = a ∨ y a ∈ f a := by
  by_cases e : y a = a
  · exact .inl e
  · exact .inr (h.opy mu ma e)
theorem HalfF.le (mu : Mut xs f) (h : HalfF xs f x y) {a : Str} (ma : a ∈ xs) : rkA f a (x a) ≤ rkA f a (y a) := by
  by_cases e : x a = y a
  · rw [e]; exact Nat.le_refl _
  · have hx : x a ≠ a := fun w => e (by
      have := h.pm.yx a ma
      rw [w] at this
      rw [w, this])
    have hy : y a ≠ a := fun w => e (by
      have := h.pm.xy a ma
      rw [w] at this
      rw [w, this])
    rw [rk_idx mu ma (h.op a ma hx), rk_idx mu ma (h.opy mu ma hy)]
    exact h.ord a ma e
theorem HalfF.no (mu : Mut xs f) (h : HalfF xs f x y) {a b : Str} (ma : a ∈ xs) (mb : b ∈ f a) (h1 : rkA f a b < rkA f a (y a)) : rkA f b (y b) ≤ rkA f b a := by
  obtain ⟨mbx, mab⟩ := mu.fi a ma b mb
  refine Nat.le_of_not_lt fun h2 => ?_
  have key : ∀ {a b : Str}, a ∈ xs → b ∈ f a → rkA f a b < rkA f a (y a) → (y a = a ∨ (f a).idxOf b < (f a).idxOf (y a)) := fun {a b} ma mb hl => by
    rcases h.iny' mu ma with e | e
    · exact .inl e
    · rw [rk_idx mu ma mb, rk_idx mu ma e] at hl
      exact .inr hl
  exact h.nq a ma b mb (key ma mb h1) (key mbx mab h2)
/-- who likes the one before, there, above the next one, here -/
def inS (f : Str → List Str) (x y' : Str → Str) (a : Str) : Prop := rkA f a (y' a) < rkA f a (x a)
def upR (f : Str → List Str) (x y' : Str → Str) (a : Str) : Prop := rkA f a (y' a) ≤ rkA f a (x a)
def dnR (f : Str → List Str) (y x' : Str → Str) (a : Str) : Prop := rkA f a (y a) ≤ rkA f a (x' a)
end
end Q

set_option Elab.async false
set_option linter.all false
set_option maxRecDepth 100000
set_option maxHeartbeats 4000000
namespace Q
open PySem PySem.Spec PyProof.Rows L2
/-! ### the half of a dealing -/
theorem Deal.some {xs : List Str} {op : Str → List Str} {ds : List (Key × D)} (dl : Deal xs op (.dct ds)) {a : Str} (ma : a ∈ xs) : (dval ds (.inr a)).isSome = true := by
  obtain ⟨ds', e, _, hsome⟩ := sameKeys_dct dl.sk
  cases e
  exact hsome a ma
theorem oG_none {m : OF} {a : Str} (h : m a = none) : oG m a = a := by unfold oG; rw [h]; rfl
theorem oG_some {m : OF} {a b : Str} (h : m a = some b) : oG m a = b := by unfold oG; rw [h]; rfl
theorem Deal.perm {xs : List Str} {f : Str → List Str} {d : D} (dl : Deal xs f d) (mu : Mut xs f) : PermF xs (oG (part d)) (oG (part d)) := by
  have two : ∀ a ∈ xs, oG (part d) a ∈ xs ∧ oG (part d) (oG (part d) a) = a := fun a ma => by
    cases e : part d a with
    | none => rw [oG_none e]; exact ⟨ma, oG_none e⟩
    | some b =>
      have mt := dl.mate ma e
      rw [oG_some e]
      exact ⟨(mu.fi a ma b mt.1).1, oG_some mt.2⟩
  exact ⟨fun a ma => (two a ma).1, fun a ma => (two a ma).1, fun a ma => (two a ma).2, fun a ma => (two a ma).2⟩
abbrev N_half_of : List Str := ["group", "x", "y", "a"]
def t_half_of (K : PySem.W.Frag) (E : XK) : TS := (tSeq (tDrop (tCl (sp_check_dealing K) (WE0 E) (tCons (tVar 0) (tCons (tVar 1) tNil))))
  (tSeq (tAsg tDNewK (gName 2))
  (tSeq (tFor (iList K (tMt (He.ga K "Group") "people" (sp_Group_people K) (WE0 E) (tVar 0) tNil)) (gName 3) (tSeq (sDPut (tVar 2) (tVar 3) (tVar 3))
  (tIfS (tB (tNotN (tDGet (tVar 1) (tVar 3)))) (sDPut (tVar 2) (tVar 3) (tDGet (tVar 1) (tVar 3))) tNext)))
  (tRet (tVar 2)))))
def sp_half_of (K : PySem.W.Frag) : Sp := fun vs H Q E => ∃ (p : Addr) (v : V) (B : Hp) (G : Grp) (d : D), vs = [.ref p, v] ∧ Same B H ∧ GAt K B p G ∧ Rep K B v d ∧ plainV d ∧ (isDeal G.names G.open d = true → ∀ B' H' r, HS [] B H B' H' [(r, .dK (zipV G.names (sV (oG (part d)))))] → Q (.ref r) H') ∧ (isDeal G.names G.open d = false → Thr0 K B H E "NoDealing")
end Q

set_option Elab.async false
set_option linter.all false
set_option maxRecDepth 100000
set_option maxHeartbeats 4000000
namespace Q
open PySem PySem.Spec PyProof.Rows L2
/-! ### calm dealings and halves -/
/-! ### those who stay -/
def restF (f : Str → List Str) (lot : List Str) (a : Str) : List Str := (f a).filter fun b => !decide (b ∈ lot)
def restX (xs lot : List Str) : List Str := xs.filter fun a => !decide (a ∈ lot)
theorem mem_restX {xs lot : List Str} {a : Str} : a ∈ restX xs lot ↔ a ∈ xs ∧ a ∉ lot := by
  unfold restX
  rw [List.mem_filter, Bool.not_eq_true', decide_eq_false_iff_not]
theorem mem_restF {f : Str → List Str} {lot : List Str} {a b : Str} : b ∈ restF f lot a ↔ b ∈ f a ∧ b ∉ lot := by
  unfold restF
  rw [List.mem_filter, Bool.not_eq_true', decide_eq_false_iff_not]
theorem Mut.rest {xs : List Str} {f : Str → List Str} (mu : Mut xs f) (lot : List Str) : Mut (restX xs lot) (restF f lot) := by
  refine ⟨mu.nd.filter _, Nat.le_trans (List.length_filter_le _ _) mu.few, fun x mx => mu.nm x (mem_restX.mp mx).1, fun a ma => (mu.fn a (mem_restX.mp ma).1).filter _, fun a ma b mb => ?_, fun a ma mb => mu.fs a (mem_restX.mp ma).1 (mem_restF.mp mb).1⟩
  obtain ⟨m1, m2⟩ := mem_restX.mp ma
  obtain ⟨m3, m4⟩ := mem_restF.mp mb
  obtain ⟨m5, m6⟩ := mu.fi a m1 b m3
  exact ⟨mem_restX.mpr ⟨m5, m4⟩, mem_restF.mpr ⟨m6, m2⟩⟩
abbrev N_rest_dealing : List Str := ["group", "lot"]
def t_rest_dealing (K : PySem.W.Frag) (E : XK) : TS := (tRet (tCl (sp_dealing K) (WE0 E) (tCons (tMt (He.ga K "Group") "outside" (sp_Group_outside K) (WE0 E) (tVar 0) (tCons (tVar 1) tNil)) tNil)))
/-- dealing of those who stay: z is the half that is found for them -/
def sp_rest_dealing (K : PySem.W.Frag) : Sp := fun vs H Q E => ∃ (p l : Addr) (B : Hp) (G : Grp) (lot : List Str), vs = [.ref p, .ref l] ∧ Same B H ∧ GAt K B p G ∧ B l = some (.lst (lot.map V.str)) ∧ (∀ x ∈ lot, x ∈ G.names) ∧ lot.Nodup ∧
  (∀ B' H' r z z', HalfF (restX G.names lot) (restF G.open lot) z z' → (∀ a ∈ restX G.names lot, z (z a) = a) → HS [] B H B' H' [(r, .dK (zipV (restX G.names lot) (oV (invO z))))] → Q (.ref r) H') ∧
  (calms (restX G.names lot) (restF G.open lot) = [] → Ret B H Q fun _ r => r = .non)
abbrev N_may_leave : List Str := ["group", "lot"]
def t_may_leave (K : PySem.W.Frag) (E : XK) : TS := (tRet (tNotN (tCl (sp_rest_dealing K) (WE0 E) (tCons (tVar 0) (tCons (tVar 1) tNil)))))
def sp_may_leave (K : PySem.W.Frag) : Sp := fun vs H Q E => ∃ (p l : Addr) (B : Hp) (G : Grp) (lot : List Str), vs = [.ref p, .ref l] ∧ Same B H ∧ GAt K B p G ∧ B l = some (.lst (lot.map V.str)) ∧ (∀ x ∈ lot, x ∈ G.names) ∧ lot.Nodup ∧
  Ret B H Q fun _ r => r = .bl (!(calms (restX G.names lot) (restF G.open lot)).isEmpty)
end Q

set_option Elab.async false
set_option linter.all false
set_option maxRecDepth 100000
set_option maxHeartbeats 4000000
namespace Q
open PySem PySem.Spec PyProof.Rows L2
/-! ### k40 to k49: groups with odd rings, those who stay -/
abbrev N__law_odd_group : List Str := ["_law_state", "_law_top", "_law_mode", "_law_names_here"]
def t__law_odd_group (K : PySem.W.Frag) (E : XK) : TS := (tSeq (tAsg (tCl (sp__law_take K) (WE0 E) (tCons (tVar 0) (tCons (tC (.int 3)) tNil))) (gName 2))
  (tSeq (tAsg (tCl (sp__law_names K) (WE0 E) (tCons (tVar 0) (tCons (tCl (sp__law_many K) (WE0 E) (tCons (tVar 0) (tCons (tVar 1) tNil))) tNil))) (gName 3))
  (tSeq (tIfS (tTest (tOp rEq (tVar 2) (tC (.int 0)))) (tRet (tTup (tCons (tVar 3) (tCons (tCl (sp__law_wishes K) (WE0 E) (tCons (tVar 0) (tCons (tVar 3) tNil))) tNil)))) tNext)
  (tRet (tTup (tCons (tVar 3) (tCons (tCl (sp__law_ring_wishes K) (WE0 E) (tCons (tVar 0) (tCons (tVar 3) (tCons (tLst (tCons (tC (.int 3)) (tCons (tC (.int 5)) (tCons (tC (.int 3)) (tCons (tC (.int 2)) (tCons (tC (.int 7)) (tCons (tC (.int 1)) (tCons (tC (.int 3)) (tCons (tC (.int 4)) tNil))))))))) tNil)))) tNil)))))))
def sp__law_odd_group (K : PySem.W.Frag) : Sp := fun vs H Q E => ∃ (p : Addr) (top : Nat) (a b : Int) (B : Hp), vs = [.ref p, .int (top : Nat)] ∧ Same B H ∧ B p = none ∧ H p = some (stO a b) ∧ VSt a b ∧ top ≤ 24 ∧
  ∀ B' H' a' b' T n w xs kvs done ws, HS [p] B H B' H' [(p, stO a' b'), (w, .dK kvs)] → VSt a' b' → B' T = some (.tup [.ref n, .ref w]) → B' n = some (.lst (xs.map V.str)) → xs.length ≤ top → Drawn xs done ws → WAt B' done kvs ws → Q (.ref T) H'
abbrev N__law_rest : List Str := ["_law_mutual_here", "_law_lot", "_law_stay", "_law_a", "_law_b"]
def t__law_rest (K : PySem.W.Frag) (E : XK) : TS := (tSeq (tAsg tDNewK (gName 2))
  (tSeq (tLock (tFor (iKeys (tVar 0)) (gName 3) (tIfS (tTest (tOp (rIn K true) (tVar 3) (tVar 1))) (sDPut (tVar 2) (tVar 3) (tLc (iList K (tDGet (tVar 0) (tVar 3))) (gName 4) (tTest (tOp (rIn K true) (tVar 4) (tVar 1))) (tVar 4) [4])) tNext)))
  (tRet (tVar 2))))
def sp__law_rest (K : PySem.W.Frag) : Sp := fun vs H Q E => ∃ (m l : Addr) (B : Hp) (xs : List Str) (f : Str → List Str) (kvm : List (Key × V)) (lot : List Str), vs = [.ref m, .ref l] ∧ Same B H ∧ B m = none ∧ H m = some (.dK kvm) ∧ WAt B xs kvm f ∧ Mut xs f ∧ B l = some (.lst (lot.map V.str)) ∧
  ∀ B' H' r kvr, HS [m] B H B' H' [(m, .dK kvm), (r, .dK kvr)] → WAt B' (restX xs lot) kvr (restF f lot) → Q (.ref r) H'
end Q

set_option Elab.async false
set_option linter.all false
set_option maxRecDepth 100000
set_option maxHeartbeats 4000000
namespace Q
open PySem PySem.Spec PyProof.Rows L2
/-! ### lots, odd, alone -/
abbrev N_lots : List Str := ["group", "rows", "ring"]
def t_lots (K : PySem.W.Frag) (E : XK) : TS := (tSeq (tAsg (tLst tNil) (gName 1))
  (tSeq (tFor (iList K (tCl (sp_rings_of K) (WE0 E) (tCons (tCl (sp_find_half K) (WE0 E) (tCons (tVar 0) tNil)) tNil))) (gName 2) (tIfS (tTest (tOp rEq (tOp rModI (tCB (rLenA K) (tCons (tVar 2) tNil)) (tC (.int 2))) (tC (.int 1)))) (tDrop (tBM K "list" rAppend (tVar 1) (tCons (tCB (rTupOf K) (tCons (tCB (rSortT K) (tCons (tVar 2) tNil)) tNil)) tNil))) tNext))
  (tRet (tCB (rSortTx K) (tCons (tVar 1) tNil)))))
def sp_lots (K : PySem.W.Frag) : Sp := fun vs H Q E => ∃ (p : Addr) (B : Hp) (G : Grp), vs = [.ref p] ∧ Same B H ∧ GAt K B p G ∧
  ∀ B' H' l rows, HS [] B H B' H' [(l, .lst rows)] → TRs B' rows (lotsA (hfF G.open (sortS G.names)) G.names) → Q (.ref l) H'
abbrev N_odd : List Str := ["group", "lot"]
def t_odd (K : PySem.W.Frag) (E : XK) : TS := (tRet (tLc (iList K (tCl (sp_lots K) (WE0 E) (tCons (tVar 0) tNil))) (gName 1) (tTest (tOp rGeI (tCB (rLenA K) (tCons (tVar 1) tNil)) (tC (.int 3)))) (tVar 1) [1]))
def sp_odd (K : PySem.W.Frag) : Sp := fun vs H Q E => ∃ (p : Addr) (B : Hp) (G : Grp), vs = [.ref p] ∧ Same B H ∧ GAt K B p G ∧
  ∀ B' H' l rows, HS [] B H B' H' [(l, .lst rows)] → TRs B' rows (oddA (hfF G.open (sortS G.names)) G.names) → Q (.ref l) H'
/-- the first of a lot -/
def hdS (l : List Str) : Str := l.headD ""
def aloneA (x : Str → Str) (xs : List Str) : List Str := ((lotsA x xs).filter fun l => decide (l.length = 1)).map hdS
abbrev N_alone : List Str := ["group", "lot"]
def t_alone (K : PySem.W.Frag) (E : XK) : TS := (tRet (tLc (iList K (tCl (sp_lots K) (WE0 E) (tCons (tVar 0) tNil))) (gName 1) (tTest (tOp rEq (tCB (rLenA K) (tCons (tVar 1) tNil)) (tC (.int 1)))) (tOp (rIxT K) (tVar 1) (tC (.int 0))) [1]))
def sp_alone (K : PySem.W.Frag) : Sp := fun vs H Q E => ∃ (p : Addr) (B : Hp) (G : Grp), vs = [.ref p] ∧ Same B H ∧ GAt K B p G ∧
  ∀ B' H' l, HS [] B H B' H' [(l, .lst ((aloneA (hfF G.open (sortS G.names)) G.names).map V.str))] → Q (.ref l) H'
end Q

set_option Elab.async false
set_option linter.all false
set_option maxRecDepth 100000
set_option maxHeartbeats 4000000
namespace Q
open PySem PySem.Spec PyProof.Rows L2
/-! ### a dict in a list of dicts, by == -/
section
open PySem.SeqAt
open AutoSeq1 (wpAny_loadPart')
open MeetsSeq MeetsSeq2 MeetsSeq3 SeqRoads2
variable {prog : Program} {w : World}
end
/-- dicts compared, of which the values are plain -/
def EqK (K : PySem.W.Frag) (H : Hp) (x y : V) (b : Bool) : Prop := ∃ a c ks ls, ∃ e : Key → Bool, x = .ref a ∧ y = .ref c ∧ a ≠ c ∧ H a = some (.dK ks) ∧ H c = some (.dK ls) ∧ (∀ k u v, (k, u) ∈ ks → valV ls k = some v → EqA K H 1 u v (e k)) ∧ b = (decide (ks.length = ls.length) && ks.all fun p => (valV ls p.1).isSome && e p.1)
def rInK (K : PySem.W.Frag) : R2 := fun x y H Q => ∃ (a : Addr) (xs : List V) (e : V → Bool), y = .ref a ∧ SqL K H a xs ∧ (∀ v ∈ xs, (∃ b, v = .ref b) ∧ EqK K H v x (e v)) ∧ Q (.bl (xs.any e)) H
section
variable {X : Cx} {pins : List (Addr × Obj)} {σ : L2.St} {H : Hp} {s : Shared}
end
end Q

set_option Elab.async false
set_option linter.all false
set_option maxRecDepth 100000
set_option maxHeartbeats 4000000
namespace Q
open PySem PySem.Spec PyProof.Rows L2
/-! ### the lots of a calm dealing -/
/-- a search's dealing -/
theorem RepM.deal {xs ks : List Str} {op : Str → List Str} {ds : List (Key × D)} {m : PM} (rm : RepM ds m) (ok : PMOk xs op m) (fl : FullP xs m) (mu : Mut xs op) (hk : ds.map (·.1) = ks.map Sum.inr) (pe : ks.Perm xs) : Deal xs op (.dct ds) := by
  have hv : ∀ {a : Str} {v : Option Str}, m a = some v → vald (.dct ds) a = optD v := fun {a v} e => vald_of (by rw [rm a, e]; rfl)
  refine ⟨?_, fun a ma => ?_⟩
  · unfold sameKeys
    dsimp only
    have := congrArg List.length hk
    rw [List.length_map, List.length_map] at this
    rw [decide_eq_true (by rw [this, pe.length_eq]), Bool.true_and, List.all_eq_true]
    intro a ma
    obtain ⟨v, e⟩ := fl a ma
    rw [rm a, e]
    rfl
  · obtain ⟨v, e⟩ := fl a ma
    rw [hv e]
    cases v with
    | none => exact .inl rfl
    | some b =>
      obtain ⟨z1, z2⟩ := ok.mu2 a b e
      exact .inr ⟨b, rfl, z1, hv z2⟩
theorem RepM.calm {xs ks : List Str} {op : Str → List Str} {ds : List (Key × D)} {m : PM} (rm : RepM ds m) (mm : m ∈ calms xs op) (mu : Mut xs op) (hk : ds.map (·.1) = ks.map Sum.inr) (pe : ks.Perm xs) : isCalm xs op (.dct ds) = true := by
  obtain ⟨ok, fl, hc⟩ := calms_mem mu mm
  unfold isCalm
  rw [isDeal_true.mpr (rm.deal ok fl mu hk pe), quars_calm mu rm ok fl, hc]
  rfl
end Q

set_option Elab.async false
set_option linter.all false
set_option maxRecDepth 100000
set_option maxHeartbeats 4000000
namespace Q
open PySem PySem.Spec PyProof.Rows L2
/-! ### x is not True (of a bool) -/
def rIsntB : R2 := fun x y H Q => ∃ b c : Bool, x = .bl b ∧ y = .bl c ∧ Q (.bl (!(b == c))) H
end Q

set_option Elab.async false
set_option linter.all false
set_option maxRecDepth 100000
set_option maxHeartbeats 4000000
namespace Q
open PySem PySem.Spec PyProof.Rows L2
/-! ### the dict of open people stands still -/
end Q

set_option Elab.async false
set_option linter.all false
set_option maxRecDepth 100000
set_option maxHeartbeats 4000000
namespace Q
open PySem PySem.Spec PyProof.Rows L2
/-! ### x not in a list, by == of nested data -/
def rNinE (K : PySem.W.Frag) : R2 := fun x y H Q => ∃ (a : Addr) (xs : List V) (e : V → Bool) (n : Nat), y = .ref a ∧ n ≤ 60 ∧ SqL K H a xs ∧ (∀ v ∈ xs, (∃ b, v = .ref b) ∧ EqA K H n v x (e v)) ∧ Q (.bl (!xs.any e)) H
end Q

set_option Elab.async false
set_option linter.all false
set_option maxRecDepth 100000
set_option maxHeartbeats 4000000
namespace Q
open PySem PySem.Spec PyProof.Rows L2
/-! ### what is the same as itself -/
theorem dval_nd {k : Key} {d : D} : ∀ {ds : List (Key × D)}, (ds.map (·.1)).Nodup → (k, d) ∈ ds → dval ds k = some d
  | [], _, m => nomatch m
  | p :: r, nd, m => by
    rw [List.map_cons, List.nodup_cons] at nd
    rcases List.mem_cons.mp m with e | m
    · rw [← e]
      exact dval_pos rfl
    · rw [dval_neg fun e => nd.1 (e ▸ List.mem_map.mpr ⟨(k, d), m, rfl⟩)]
      exact dval_nd nd.2 m
theorem same_refl : ∀ (n : Nat) (d : D), OkS n d → OkT n d d ∧ sameD n d d = true
  | 0, d, h => by cases d <;> exact absurd h (by simp [OkS])
  | n + 1, .non, _ => ⟨trivial, rfl⟩
  | n + 1, .bl b, _ => ⟨trivial, (decide_eq_true rfl : decide (b = b) = true)⟩
  | n + 1, .int i, _ => ⟨trivial, (decide_eq_true rfl : decide (i = i) = true)⟩
  | n + 1, .str x, _ => ⟨trivial, (decide_eq_true rfl : decide (x = x) = true)⟩
  | n + 1, .obj _ _, h => h.elim
  | n + 1, .tup ds, h => by
    have ih : ∀ d ∈ ds, OkT n d d ∧ sameD n d d = true := fun d md => same_refl n d (h.2 d md)
    refine ⟨fun j d e h1 h2 => ?_, ?_⟩
    · rw [h1] at h2
      cases h2
      exact (ih d (List.mem_of_getElem? h1)).1
    · show (decide (ds.length = ds.length) && (ds.zip ds).all fun p => sameD n p.1 p.2) = true
      rw [decide_eq_true rfl, Bool.true_and, List.all_eq_true]
      intro q mq
      obtain ⟨j, hj⟩ := List.mem_iff_getElem?.mp mq
      obtain ⟨h1, h2⟩ := List.getElem?_zip_eq_some.mp (show (ds.zip ds)[j]? = some (q.1, q.2) from hj)
      rw [h1] at h2
      rw [← Option.some.inj h2]
      exact (ih q.1 (List.mem_of_getElem? h1)).2
  | n + 1, .lst ds, h => by
    have ih : ∀ d ∈ ds, OkT n d d ∧ sameD n d d = true := fun d md => same_refl n d (h.2 d md)
    refine ⟨fun j d e h1 h2 => ?_, ?_⟩
    · rw [h1] at h2
      cases h2
      exact (ih d (List.mem_of_getElem? h1)).1
    · show (decide (ds.length = ds.length) && (ds.zip ds).all fun p => sameD n p.1 p.2) = true
      rw [decide_eq_true rfl, Bool.true_and, List.all_eq_true]
      intro q mq
      obtain ⟨j, hj⟩ := List.mem_iff_getElem?.mp mq
      obtain ⟨h1, h2⟩ := List.getElem?_zip_eq_some.mp (show (ds.zip ds)[j]? = some (q.1, q.2) from hj)
      rw [h1] at h2
      rw [← Option.some.inj h2]
      exact (ih q.1 (List.mem_of_getElem? h1)).2
  | n + 1, .dct ds, h => by
    obtain ⟨_, nd, hq⟩ := h
    refine ⟨fun k d e m h1 => ?_, ?_⟩
    · have := dval_nd nd m
      rw [this] at h1
      cases h1
      exact ⟨(hq _ m).1, (same_refl n d (hq _ m).2).1⟩
    · show (decide (ds.length = ds.length) && ds.all (fun p => match dval ds p.1 with | some e => sameD n e p.2 | none => false)) = true
      rw [decide_eq_true rfl, Bool.true_and, List.all_eq_true]
      intro q mq
      rw [dval_nd (k := q.1) (d := q.2) nd mq]
      exact (same_refl n q.2 (hq q mq).2).2
end Q

set_option Elab.async false
set_option linter.all false
set_option maxRecDepth 100000
set_option maxHeartbeats 4000000
namespace Q
open PySem PySem.Spec PyProof.Rows L2
/-! ### the law's own comparison, where a group may stand in it -/
def rEqY (C : Addr) (sp : Sp) : R2 := fun x y H Q => rEq x y H Q ∨ rEqG C sp x y H Q
end Q

set_option Elab.async false
set_option linter.all false
set_option maxRecDepth 100000
set_option maxHeartbeats 4000000
namespace Q
open PySem PySem.Spec PyProof.Rows L2
/-! ### isinstance of a caught error, with or without fields -/
structure ExC2 (K : PySem.W.Frag) (C : Addr) : Prop where
  cl : (PySem.W.clsIn K C).isSome = true
  ga : PySem.W.findIn K (.ref C) "__getattribute__" = some (some (.builtin "BaseException.__getattribute__"))
  gt : PySem.W.findIn K (.ref C) "__getattr__" = some none
  sb : PySem.W.subIn K (.ref C) (.type "BaseException") = some true
  ha : PySem.W.findIn K (.ref C) "__class__" = some (some (.builtin "object.__class__"))
  hn : PySem.W.specialIn K (.builtin "object.__class__") "__get__" = some (some (.builtin "getset_descriptor.__get__"))
  ht : PySem.W.takesIn K (.builtin "object.__class__") = some true
  hm : PySem.W.mroIn K C (.type "object") = some true
def exc2B (K : PySem.W.Frag) (C : Addr) : Bool := (PySem.W.clsIn K C).isSome && (decide (PySem.W.findIn K (.ref C) "__getattribute__" = some (some (.builtin "BaseException.__getattribute__"))) && (decide (PySem.W.findIn K (.ref C) "__getattr__" = some none) && (decide (PySem.W.subIn K (.ref C) (.type "BaseException") = some true) &&
  (decide (PySem.W.findIn K (.ref C) "__class__" = some (some (.builtin "object.__class__"))) && (decide (PySem.W.specialIn K (.builtin "object.__class__") "__get__" = some (some (.builtin "getset_descriptor.__get__"))) && (decide (PySem.W.takesIn K (.builtin "object.__class__") = some true) && decide (PySem.W.mroIn K C (.type "object") = some true)))))))
def rIsE2 (K : PySem.W.Frag) (cls : Value) (C a : Addr) (d : Option Addr) : List V → Hp → VK → Prop := fun xs H Q => ∃ (c : V) (cv : Value) (b : Bool), xs = [.ref a, c] ∧ cls = .ref C ∧ (d = none ∨ ∃ dd fs, d = some dd ∧ H dd = some (.xd fs)) ∧ (∀ u, RelV c u → u = cv) ∧ PySem.W.kitOne K (.ref C) cv = some b ∧ Q (.bl b) H
end Q

set_option Elab.async false
set_option linter.all false
set_option maxRecDepth 100000
set_option maxHeartbeats 4000000
namespace Q
open PySem PySem.Spec PyProof.Rows L2
end Q

set_option Elab.async false
set_option linter.all false
set_option maxRecDepth 100000
set_option maxHeartbeats 4000000
namespace Q
open PySem PySem.Spec PyProof.Rows L2
/-! ### a def called with keywords, or without those that have a default -/
def FnK (P : Program) (w : World) (K : PySem.W.Frag) (mg : Str → Option Value) (base : Heap) (k : Nat) (x : Str) (ps : List Str) (n : Nat) (ks : List Str) (sp : Sp) : Prop :=
  ∃ f fd, mg x = some (.ref f) ∧ PySem.W.keepIn K (.ref f) = true ∧ KBn K fd ps n ks (fun us ws => us ++ ws) (fun vs zs => vs ++ zs) ∧ FnOk P w K mg base (L2.CX P w) k f fd ps sp
def FnD (P : Program) (w : World) (K : PySem.W.Frag) (mg : Str → Option Value) (base : Heap) (k : Nat) (x : Str) (ps : List Str) (dvs : List V) (sp : Sp) : Prop :=
  ∃ f fd ds, mg x = some (.ref f) ∧ PySem.W.keepIn K (.ref f) = true ∧ Vals dvs ds ∧ Binds K fd ps ds ∧ FnOk P w K mg base (L2.CX P w) k f fd ps sp
def tClK (n j : Nat) (sp : Sp) (W : WX) (t tk : TA) : TE := fun σ H Q => t σ H fun vs H2 => tk σ H2 fun zs H3 => vs.length = n ∧ zs.length = j ∧ sp (vs ++ zs) H3 Q fun c d H' => W c d σ H'
def tClD (dvs : List V) (sp : Sp) (W : WX) (t : TA) : TE := fun σ H Q => t σ H fun vs H1 => sp (vs ++ dvs) H1 Q fun c d H' => W c d σ H'
/-- the keyword-only default as a value for a call without it -/
theorem bindsD1 {K : PySem.W.Frag} {x qual k : Str} {params : Arguments} {body : List Stmt} {scope : Scope} {d : V} {f : Addr} {fd : FuncData} {ps : List Str} (F : FunD K x qual params body scope [] [(k, d)] f fd) (n : Nat) (hn : n + 1 = ps.length)
    (h : ∀ (D : Addr) (doc pm : Value) (an : Option Addr) (cdv ct : Value) (us : List Value) (u : Value), us.length = n →
      KwChain D [(k, u)] (bindArgs (PySem.W.fnOf x qual params body scope .none (.ref D) doc pm an cdv ct) ⟨us, []⟩) (ps.zip (us ++ [u]))) : ∃ ds, Vals [d] ds ∧ Binds K fd ps ds := by
  refine FunD.binds0 F n (by simp) (by simpa using hn) fun D doc pm an cdv ct us ks l1 l2 => ?_
  obtain ⟨u, rfl⟩ := List.length_eq_one_iff.mp (show ks.length = 1 from l2)
  exact h D doc pm an cdv ct us u l1
section
variable {X : Cx} {k j n : Nat} {x : Str} {ps ks : List Str} {dvs : List V} {sp : Sp} {W : WX} {p pos : Pos} {e : Expr} {es : List Expr} {kws : List Keyword} {t tq : TA}
end
section
variable {K : PySem.W.Frag} {σ : L2.St} {H : Hp} {Q : VK} {tl tq : TA} {W : WX} {n j : Nat} {sp : Sp} {dvs : List V}
end
/-- what is never reached -/
def tDead : TS := fun _ _ _ => False
theorem ps_dead {X : Cx} {st : Stmt} : PS X st tDead := ⟨fun _ _ _ _ _ _ h => h.elim⟩
end Q

set_option Elab.async false
set_option linter.all false
set_option maxRecDepth 100000
set_option maxHeartbeats 4000000
namespace Q
open PySem PySem.Spec PyProof.Rows L2
/-! ### live groups -/
section
variable {S : List Addr} {B0 H0 B H B' H' : Hp} {M N N' L : List (Addr × HO)}
/-- a call that may change several things of one's own -/
theorem HS.callL (h : HS S B0 H0 B H (N ++ M)) (c : HS (N.map (·.1)) B H B' H' N') : HS S B0 H0 B' H' (N' ++ M) := by
  have nd := h.nd
  rw [List.map_append, List.nodup_append] at nd
  obtain ⟨ndN, ndM, dis⟩ := nd
  have hin : ∀ {b : Addr} {o : HO}, b ∈ N.map (·.1) → H0 b = some o → b ∈ S := fun {b o} mb e => by
    obtain ⟨q, mq, rfl⟩ := List.mem_map.mp mb
    rcases (h.mu q (List.mem_append_left _ mq)).2.2 with z | z
    · rw [z] at e; cases e
    · exact z
  refine ⟨h.bb.trans c.bb, c.bh, fun b u n1 n2 e => ?_, fun q m => ?_, ?_⟩
  · obtain ⟨x, y⟩ := h.fr b u n1 n2 e
    exact c.fr b u (fun z => n1 (hin z e)) x y
  · rcases List.mem_append.mp m with m | m
    · obtain ⟨x, y, z⟩ := c.mu q m
      refine ⟨x, y, ?_⟩
      rcases z with z | z
      · exact h.none0 z
      · obtain ⟨r, mr, e⟩ := List.mem_map.mp z
        rw [← e]
        exact (h.mu r (List.mem_append_left _ mr)).2.2
    · obtain ⟨x, y, z⟩ := h.mu q (List.mem_append_right _ m)
      obtain ⟨x', y'⟩ := c.fr q.1 q.2 (fun w => dis _ w _ (List.mem_map.mpr ⟨q, m, rfl⟩) rfl) x y
      exact ⟨x', y', z⟩
  · rw [List.map_append, List.nodup_append]
    refine ⟨c.nd, ndM, fun a ha b hb e => ?_⟩
    obtain ⟨q, mq, rfl⟩ := List.mem_map.mp ha
    obtain ⟨r, mr, rfl⟩ := List.mem_map.mp hb
    rcases (c.mu q mq).2.2 with z | z
    · rw [e, (h.mu r (List.mem_append_right _ mr)).2.1] at z
      cases z
    · exact dis _ z _ (List.mem_map.mpr ⟨r, mr, rfl⟩) e
theorem HS.ownL (hN : ∀ q ∈ N, B q.1 = none ∧ H q.1 = some q.2) (nd : (N.map (·.1)).Nodup) (c : HS [] B H B' H' L) : HS (N.map (·.1)) B H B' H' (N ++ L) := by
  refine ⟨c.bb, c.bh, fun b u _ n2 e => c.fr b u (by simp) n2 e, fun q m => ?_, ?_⟩
  · rcases List.mem_append.mp m with m | m
    · obtain ⟨h1, h2⟩ := hN q m
      obtain ⟨h3, h4⟩ := c.fr q.1 q.2 (by simp) h1 h2
      exact ⟨h3, h4, .inr (List.mem_map.mpr ⟨q, m, rfl⟩)⟩
    · obtain ⟨x, y, z⟩ := c.mu q m
      exact ⟨x, y, .inl (z.resolve_right (by simp))⟩
  · rw [List.map_append, List.nodup_append]
    refine ⟨nd, c.nd, fun a ha b hb e => ?_⟩
    obtain ⟨q, mq, rfl⟩ := List.mem_map.mp ha
    obtain ⟨r, mr, rfl⟩ := List.mem_map.mp hb
    have z := (c.mu r mr).2.2.resolve_right (by simp)
    rw [← e, (hN q mq).2] at z
    cases z
end
structure RK (K : PySem.W.Frag) : Prop where
  cl : Cls K (He.ga K "Round")
  n1 : NoAttr K (He.ga K "Round") "now"
  n2 : NoAttr K (He.ga K "Round") "past"
  n3 : NoAttr K (He.ga K "Round") "known"
def rf (nw pa kn : Addr) : List (Str × V) := [("now", .ref nw), ("past", .ref pa), ("known", .ref kn)]
/-- what of a round may change -/
def rM (K : PySem.W.Frag) (p dx nw pa kn : Addr) (ps : List V) : List (Addr × HO) := [(p, .ins (He.ga K "Round") dx (rf nw pa kn)), (pa, .lst ps)]
structure RSt (K : PySem.W.Frag) (B H : Hp) (p dx nw pa kn : Addr) (ps : List V) : Prop where
  b1 : B p = none
  h1 : H p = some (.ins (He.ga K "Round") dx (rf nw pa kn))
  b2 : B pa = none
  h2 : H pa = some (.lst ps)
  ne : p ≠ pa
theorem RSt.start {K : PySem.W.Frag} {B H B' H' : Hp} {L : List (Addr × HO)} {p dx nw pa kn : Addr} {ps : List V} (r : RSt K B H p dx nw pa kn ps) (c : HS [] B H B' H' L) : HS [p, pa] B H B' H' (rM K p dx nw pa kn ps ++ L) :=
  HS.ownL (N := rM K p dx nw pa kn ps) (fun q m => by
    simp only [rM, List.mem_cons, List.not_mem_nil, or_false] at m
    rcases m with rfl | rfl
    · exact ⟨r.b1, r.h1⟩
    · exact ⟨r.b2, r.h2⟩) (by simp [rM, r.ne]) c
/-- what the groups of a round are -/
def GRs (K : PySem.W.Frag) (B : Hp) (ps : List V) (Gs : List Grp) : Prop := ps.length = Gs.length ∧ ∀ (j : Nat) (v : V), ps[j]? = some v → ∃ t G, v = .ref t ∧ Gs[j]? = some G ∧ GAt K B t G
theorem GRs.mono {K : PySem.W.Frag} {B B' : Hp} {ps : List V} {Gs : List Grp} (s : Same B B') (h : GRs K B ps Gs) : GRs K B' ps Gs := ⟨h.1, fun j v e => by
  obtain ⟨t, G, h1, h2, h3⟩ := h.2 j v e
  exact ⟨t, G, h1, h2, h3.mono s⟩⟩
theorem GRs.nil {K : PySem.W.Frag} {B : Hp} : GRs K B [] [] := ⟨rfl, fun j v e => by cases j <;> cases e⟩
/-- the odd lots that a round remembers -/
def KnAt (B : Hp) (kn : Addr) (L : List (List Str)) : Prop := ∃ rows, B kn = some (.lst rows) ∧ TRs B rows L
theorem KnAt.mono {B B' : Hp} {kn : Addr} {L : List (List Str)} (s : Same B B') (h : KnAt B kn L) : KnAt B' kn L := let ⟨r, h1, h2⟩ := h; ⟨r, s _ _ h1, h2.mono s⟩
def oddG (G : Grp) : List (List Str) := oddA (hfF G.open (sortS G.names)) G.names
abbrev N_Round___init__ : List Str := ["self", "group"]
def t_Round___init__ (K : PySem.W.Frag) (E : XK) : TS := (tSeq (sFld K (tVar 0) (tVar 1) "now")
  (tSeq (sFld K (tVar 0) (tLst tNil) "past")
  (sFld K (tVar 0) (tCl (sp_odd K) (WE0 E) (tCons (tVar 1) tNil)) "known")))
def sp_Round___init__ (K : PySem.W.Frag) : Sp := fun vs H Q E => ∃ (p g dx : Addr) (B : Hp) (G : Grp), vs = [.ref p, .ref g] ∧ Same B H ∧ B p = none ∧ H p = some (.ins (He.ga K "Round") dx []) ∧ GAt K B g G ∧
  ∀ B' H' pa kn, HS [p] B H B' H' (rM K p dx g pa kn []) → KnAt B' kn (oddG G) → Q .non H'
abbrev N_Round___len__ : List Str := ["self"]
def t_Round___len__ (K : PySem.W.Frag) (E : XK) : TS := (tRet (tCB (rLenA K) (tCons (tFld K (tVar 0) "past") tNil)))
def sp_Round___len__ (K : PySem.W.Frag) : Sp := fun vs H Q E => ∃ (p dx nw pa kn : Addr) (ps : List V), vs = [.ref p] ∧ H p = some (.ins (He.ga K "Round") dx (rf nw pa kn)) ∧ H pa = some (.lst ps) ∧ ∃ n : Nat, n = ps.length ∧ n < 2 ^ 62 ∧ Q (.int (n : Nat)) H
abbrev N_Round_group : List Str := ["self"]
def t_Round_group (K : PySem.W.Frag) (E : XK) : TS := (tRet (tFld K (tVar 0) "now"))
def sp_Round_group (K : PySem.W.Frag) : Sp := fun vs H Q E => ∃ (p dx nw pa kn : Addr), vs = [.ref p] ∧ H p = some (.ins (He.ga K "Round") dx (rf nw pa kn)) ∧ Q (.ref nw) H
abbrev N_Round_shift : List Str := ["self", "group"]
def t_Round_shift (K : PySem.W.Frag) (E : XK) : TS := (tSeq (tDrop (tBM K "list" rAppend (tFld K (tVar 0) "past") (tCons (tFld K (tVar 0) "now") tNil)))
  (sFld K (tVar 0) (tVar 1) "now"))
def sp_Round_shift (K : PySem.W.Frag) : Sp := fun vs H Q E => ∃ (p q dx nw pa kn : Addr) (ps : List V) (B : Hp), vs = [.ref p, .ref q] ∧ Same B H ∧ RSt K B H p dx nw pa kn ps ∧ ps.length ≤ 1000 ∧ ∀ B' H', HS [p, pa] B H B' H' (rM K p dx q pa kn (ps ++ [.ref nw])) → Q .non H'
abbrev N_Round_undo : List Str := ["self"]
def t_Round_undo (K : PySem.W.Frag) (E : XK) : TS := (tSeq (tIfS (tTest (tOp rEq (tCB (rLenA K) (tCons (tFld K (tVar 0) "past") tNil)) (tC (.int 0)))) (tRz0 (He.ga K "NoUndo") (WE0 E)) tNext)
  (sFld K (tVar 0) (tBM0 K "list" rPop (tFld K (tVar 0) "past")) "now"))
/-- undo: nothing to take back, or the last group back -/
def sp_Round_undo (K : PySem.W.Frag) : Sp := fun vs H Q E => ∃ (p dx nw pa kn : Addr) (ps : List V) (B : Hp), vs = [.ref p] ∧ Same B H ∧ RSt K B H p dx nw pa kn ps ∧ ps.length ≤ 1000 ∧ (ps = [] → Thr0 K B H E "NoUndo") ∧ (∀ t, ps[ps.length - 1]? = some (.ref t) → ∀ B' H', HS [p, pa] B H B' H' (rM K p dx t pa kn ps.dropLast) → Q .non H') ∧ (∀ v ∈ ps, ∃ t, v = .ref t)
end Q

set_option Elab.async false
set_option linter.all false
set_option maxRecDepth 100000
set_option maxHeartbeats 4000000
namespace Q
open PySem PySem.Spec PyProof.Rows L2
/-! ### try with several clauses, some without a name -/
abbrev ClauseM := Value × Option Nat × (Addr → Value → Option Addr → TS)
/-- what the clauses wish, one after the other; the name is unbound behind its suite -/
def wCm (K : PySem.W.Frag) (Wout : WX) (D : Ends) : List ClauseM → WX
  | [] => Wout
  | (c, none, ts) :: r => fun cls d σ H => ∃ b, PySem.W.exmOne K cls c = some b ∧ (b = true → ∀ a, H a = none → ts a cls d D σ H) ∧ (b = false → wCm K Wout D r cls d σ H)
  | (c, some i, ts) :: r => fun cls d σ H => ∃ b, PySem.W.exmOne K cls c = some b ∧
      (b = true → ∀ a, H a = none → ts a cls d ⟨fun σ' H' => D.nx (σ'.set i none) H', D.rt, fun σ' H' => D.bk (σ'.set i none) H', fun σ' H' => D.ct (σ'.set i none) H'⟩ (σ.set i (some (.ref a))) H) ∧ (b = false → wCm K Wout D r cls d σ H)
def tTryCm (K : PySem.W.Frag) (cs : List ClauseM) (Wout : WX) (tb : WX → TS) : TS := fun D σ H => tb (wCm K Wout D cs) D σ H
inductive ClOm (X : Cx) : List ExceptHandler → List ClauseM → Prop
  | nil : ClOm X [] []
  | cons {x n : Str} {c : Value} {i : Nat} {ts : Addr → Value → Option Addr → TS} {b₀ : Stmt} {suite : List Stmt} {np pos' : Pos} {hds : List ExceptHandler} {l : List ClauseM} (hi : X.N[i]? = some n) (hln : X.env.kindOf n = some .local) (hc : Names X x c)
      (hsu : ∀ (a : Addr) (oe : Obj) (cls : Value) (d : Option Addr) (pn : List (Addr × Obj)), Zc cls d oe → (∃ vs, oe.data = .fields vs) → PSs (X.suite a ((a, oe) :: pn)) (b₀ :: suite) (ts a cls d)) (r : ClOm X hds l) :
      ClOm X (.ExceptHandler (some (.Name x np)) (some n) (b₀ :: suite) pos' :: hds) ((c, some i, ts) :: l)
  | only {x : Str} {c : Value} {ts : Addr → Value → Option Addr → TS} {b₀ : Stmt} {suite : List Stmt} {np pos' : Pos} {hds : List ExceptHandler} {l : List ClauseM} (hc : Names X x c)
      (hsu : ∀ (a : Addr) (oe : Obj) (cls : Value) (d : Option Addr) (pn : List (Addr × Obj)), Zc cls d oe → (∃ vs, oe.data = .fields vs) → PSs (X.suite a ((a, oe) :: pn)) (b₀ :: suite) (ts a cls d)) (r : ClOm X hds l) :
      ClOm X (.ExceptHandler (some (.Name x np)) none (b₀ :: suite) pos' :: hds) ((c, none, ts) :: l)
section
variable {X : Cx} {body : List Stmt} {hd0 : ExceptHandler} {hds : List ExceptHandler} {cs : List ClauseM} {pos : Pos} {tb : WX → TS} {Wout : WX}
end
end Q

set_option Elab.async false
set_option linter.all false
set_option maxRecDepth 100000
set_option maxHeartbeats 4000000
namespace Q
open PySem PySem.Spec PyProof.Rows L2
/-! ### a row of pairs in a list of such rows -/
/-! ### the rows tell the calm dealings -/
abbrev N_parted : List Str := ["one", "other", "left", "right", "row"]
def t_parted (K : PySem.W.Frag) (E : XK) : TS := (tSeq (tDrop (tCl (sp_check_two K) (WE0 E) (tCons (tVar 0) (tCons (tVar 1) tNil))))
  (tSeq (tAsg (tCl (sp_calm K) (WE0 E) (tCons (tVar 0) tNil)) (gName 2))
  (tSeq (tAsg (tCl (sp_calm K) (WE0 E) (tCons (tVar 1) tNil)) (gName 3))
  (tSeq (tFor (iList K (tVar 2)) (gName 4) (tIfS (tTest (tOp (rNinE K) (tVar 4) (tVar 3))) (tRet (tCl (sp_from_pairs K) (WE0 E) (tCons (tVar 0) (tCons (tVar 4) tNil)))) tNext))
  (tSeq (tFor (iList K (tVar 3)) (gName 4) (tIfS (tTest (tOp (rNinE K) (tVar 4) (tVar 2))) (tRet (tCl (sp_from_pairs K) (WE0 E) (tCons (tVar 1) (tCons (tVar 4) tNil)))) tNext))
  (tRet (tC .non)))))))
def sp_parted (K : PySem.W.Frag) : Sp := fun vs H Q E => ∃ (p q : Addr) (B : Hp) (G G' : Grp), vs = [.ref p, .ref q] ∧ Same B H ∧ GAt K B p G ∧ GAt K B q G' ∧ (sortS G.names ≠ sortS G'.names → Thr0 K B H E "UnlikePeople") ∧ (sortS G.names = sortS G'.names → (8 < G.names.length → Thr K B H E "TooMany" [("most", .int 8)]) ∧ (G.names.length ≤ 8 → (calmW G.names G.open = calmW G'.names G'.open → Ret B H Q fun _ r => r = .non) ∧
  (∀ k, k ∈ calmW G.names G.open → k ∉ calmW G'.names G'.open → ∀ B' H' x, HS [] B H B' H' [(x, .dK (zipO G.names (frd G k)))] → Q (.ref x) H') ∧ (∀ k, k ∈ calmW G'.names G'.open → k ∉ calmW G.names G.open → ∀ B' H' x, HS [] B H B' H' [(x, .dK (zipO G'.names (frd G' k)))] → Q (.ref x) H')))
end Q

set_option Elab.async false
set_option linter.all false
set_option maxRecDepth 100000
set_option maxHeartbeats 4000000
namespace Q
open PySem PySem.Spec PyProof.Rows L2
/-! ### a thing that may change stands still for a call, also one that was handed in -/
theorem HS.freezeA {S : List Addr} {B0 H0 B H : Hp} {x : Addr} {o : HO} {M : List (Addr × HO)} (h : HS S B0 H0 B H ((x, o) :: M)) : HS S B0 H0 (upd B x o) H M ∧ Same B (upd B x o) := by
  obtain ⟨hB, hH, hs⟩ := h.mu (x, o) List.mem_cons_self
  dsimp only at hB hH hs
  have nd := h.nd
  rw [List.map_cons, List.nodup_cons] at nd
  have sB : Same B (upd B x o) := fun b u e => by rw [upd_ne (ne_of_none e hB)]; exact e
  refine ⟨⟨h.bb.trans sB, fun b u e => ?_, fun b u n1 n2 e => ?_, fun q m => ?_, nd.2⟩, sB⟩
  · by_cases z : b = x
    · subst z; rw [upd_same] at e; cases e; exact hH
    · rw [upd_ne z] at e; exact h.bh _ _ e
  · obtain ⟨a1, a2⟩ := h.fr b u n1 n2 e
    refine ⟨?_, a2⟩
    have : b ≠ x := fun z => by
      subst z
      rcases hs with k | k
      · rw [k] at e; cases e
      · exact n1 k
    rw [upd_ne this]; exact a1
  · obtain ⟨a1, a2, a3⟩ := h.mu q (List.mem_cons_of_mem _ m)
    have : q.1 ≠ x := fun e => nd.1 (List.mem_map.mpr ⟨q, m, e⟩)
    exact ⟨by rw [upd_ne this]; exact a1, a2, a3⟩
theorem HS.thawA {S : List Addr} {B0 H0 B H : Hp} {M : List (Addr × HO)} {x : Addr} {o : HO} (h : HS S B0 H0 B H M) (e : B x = some o) (h0 : H0 x = none ∨ x ∈ S) (hb : B0 x = none) : HS S B0 H0 (del B x) H ((x, o) :: M) := by
  have nm : ∀ q ∈ M, q.1 ≠ x := fun q mq z => by
    have := (h.mu q mq).1
    rw [z, e] at this
    cases this
  refine ⟨same_delR h.bb hb, fun b u eb => ?_, fun b u n1 n2 e2 => ?_, fun q mq => ?_, ?_⟩
  · by_cases z : b = x
    · rw [z, del_same] at eb; cases eb
    · rw [del_ne z] at eb; exact h.bh _ _ eb
  · have ne : b ≠ x := fun z => by
      subst z
      rcases h0 with k | k
      · rw [k] at e2; cases e2
      · exact n1 k
    obtain ⟨a1, a2⟩ := h.fr b u n1 n2 e2
    exact ⟨by rw [del_ne ne]; exact a1, a2⟩
  · rcases List.mem_cons.mp mq with rfl | mq
    · exact ⟨del_same, h.bh _ _ e, h0⟩
    · obtain ⟨a1, a2, a3⟩ := h.mu q mq
      exact ⟨by rw [del_ne (nm q mq)]; exact a1, a2, a3⟩
  · rw [List.map_cons, List.nodup_cons]
    refine ⟨fun z => ?_, h.nd⟩
    obtain ⟨q, mq, eq⟩ := List.mem_map.mp z
    exact nm q mq eq
theorem HS.lend {S : List Addr} {B0 H0 B H : Hp} {M : List (Addr × HO)} {x : Addr} {o : HO} (h : HS S B0 H0 B H ((x, o) :: M)) : ∃ B1, HS S B0 H0 B1 H M ∧ Same B B1 ∧ B1 x = some o ∧ ∀ {B2 H2 : Hp} {N : List (Addr × HO)}, Same B1 B2 → HS S B0 H0 B2 H2 N → ∃ B3, HS S B0 H0 B3 H2 ((x, o) :: N) ∧ Same B B3 := by
  obtain ⟨hx1, hx2, hx3⟩ := h.mu (x, o) List.mem_cons_self
  dsimp only at hx1 hx2 hx3
  have hb : B0 x = none := by
    cases e : B0 x with
    | none => rfl
    | some u => have := h.bb _ _ e; rw [hx1] at this; cases this
  obtain ⟨h1, s1⟩ := h.freezeA
  exact ⟨_, h1, s1, upd_same, fun {B2 H2 N} s2 h2 => ⟨del B2 x, h2.thawA (s2 _ _ upd_same) hx3 hb, same_delR (s1.trans s2) hx1⟩⟩
abbrev N__law_told73 : List Str := ["_law_which", "_law_one", "_law_two", "_law_told_here", "e"]
def t__law_told73 (K : PySem.W.Frag) (E : XK) : TS := (tSeq (tAsg (tC .non) (gName 3))
  (tSeq (tTryAs K (.ref (He.ga K "UnlikePeople")) 4 (fun a1 cls1 d1 => (tAsg (tTup (tCons (tC (.str "refused")) (tCons (tCB (rIsE2 K cls1 (He.ga K "UnlikePeople") a1 d1) (tCons (tVar 4) (tCons (tC (.ref (He.ga K "QuietError"))) tNil))) tNil))) (gName 3))) (WE0 E) (fun W1 => (tIfS (tTest (tOp rEq (tVar 0) (tC (.int 0)))) (tAsg (tTup (tCons (tC (.str "told")) (tCons (tCl (sp_alike K) W1 (tCons (tVar 1) (tCons (tVar 2) tNil))) tNil))) (gName 3)) (tAsg (tTup (tCons (tC (.str "told")) (tCons (tCl (sp_parted K) W1 (tCons (tVar 1) (tCons (tVar 2) tNil))) tNil))) (gName 3)))))
  (tRet (tVar 3))))
def sp__law_told73 (K : PySem.W.Frag) : Sp := fun vs H Q E => ∃ (w : Int) (p q : Addr) (B : Hp) (G G' : Grp), vs = [.int w, .ref p, .ref q] ∧ Same B H ∧ GAt K B p G ∧ GAt K B q G' ∧ G.names.length ≤ 8 ∧
  (sortS G.names ≠ sortS G'.names → ∀ B' H' T, HS [] B H B' H' [] → B' T = some (.tup [.str "refused", .bl true]) → Q (.ref T) H') ∧
  (sortS G.names = sortS G'.names → (w = 0 → ∀ B' H' T, HS [] B H B' H' [] → B' T = some (.tup [.str "told", .bl (decide (calmW G.names G.open = calmW G'.names G'.open))]) → Q (.ref T) H') ∧ (w ≠ 0 →
    (calmW G.names G.open = calmW G'.names G'.open → ∀ B' H' T, HS [] B H B' H' [] → B' T = some (.tup [.str "told", .non]) → Q (.ref T) H') ∧
    (∀ k, k ∈ calmW G.names G.open → k ∉ calmW G'.names G'.open → ∀ B' H' T x, HS [] B H B' H' [(x, .dK (zipO G.names (frd G k)))] → B' T = some (.tup [.str "told", .ref x]) → Q (.ref T) H') ∧
    (∀ k, k ∈ calmW G'.names G'.open → k ∉ calmW G.names G.open → ∀ B' H' T x, HS [] B H B' H' [(x, .dK (zipO G'.names (frd G' k)))] → B' T = some (.tup [.str "told", .ref x]) → Q (.ref T) H')))
abbrev N__law_parted_fits : List Str := ["_law_told_here", "_law_equal", "_law_one", "_law_two", "_law_x"]
def t__law_parted_fits (K : PySem.W.Frag) (E : XK) : TS := (tSeq (tIfS (tTest (tOp rNe (tOp (rIxT K) (tVar 0) (tC (.int 0))) (tC (.str "told")))) (tRet (tC (.bl false))) tNext)
  (tSeq (tIfS (tB (tVar 1)) (tRet (tIsN (tOp (rIxT K) (tVar 0) (tC (.int 1))))) tNext)
  (tSeq (tAsg (tOp (rIxT K) (tVar 0) (tC (.int 1))) (gName 4))
  (tSeq (tIfS (tTest (tOp rEq (tCl (sp__law_is_calm K) (WE0 E) (tCons (tVar 2) (tCons (tVar 4) tNil))) (tCl (sp__law_is_calm K) (WE0 E) (tCons (tVar 3) (tCons (tVar 4) tNil))))) (tRet (tC (.bl false))) tNext)
  (tSeq (tDrop (tBM0 K "dict" rDClear (tVar 4)))
  (tRet (tC (.bl true))))))))
def sp__law_parted_fits (K : PySem.W.Frag) : Sp := fun vs H Q E => ∃ (T m1 m2 : Addr) (B : Hp) (e : Bool) (xs ys : List Str) (f g : Str → List Str) (kv1 kv2 : List (Key × V)), vs = [.ref T, .bl e, .ref m1, .ref m2] ∧ Same B H ∧ B m1 = some (.dK kv1) ∧ WAt B xs kv1 f ∧ Mut xs f ∧ B m2 = some (.dK kv2) ∧ WAt B ys kv2 g ∧ Mut ys g ∧
  ((e = true ∧ B T = some (.tup [.str "told", .non]) ∧ Ret B H Q fun _ r => r = .bl true) ∨ (e = false ∧ ∃ (x : Addr) (zs : List Str) (d : OF), B T = some (.tup [.str "told", .ref x]) ∧ B x = none ∧ H x = some (.dK (zipO zs d)) ∧ isCalm xs f (.dct (zipOD zs d)) ≠ isCalm ys g (.dct (zipOD zs d)) ∧ (∀ a ∈ zs, ∀ b, d a = some b → b.length ≤ 1000000) ∧
    ∀ B' H', HS [x] B H B' H' [(x, .dK [])] → Q (.bl true) H'))
end Q

set_option Elab.async false
set_option linter.all false
set_option maxRecDepth 100000
set_option maxHeartbeats 4000000
namespace Q
open PySem PySem.Spec PyProof.Rows L2
/-! ### the functions of pairs with all their errors, whatever they return -/
def Fine (B H : Hp) (Q : VK) : Prop := ∀ B' H' v, HS [] B H B' H' [] → Q v H'
/-- too many people, no calm dealing, or all is well -/
structure Wall (K : PySem.W.Frag) (B H : Hp) (E : XK) (G : Grp) (good : Prop) : Prop where
  many : 10 < G.names.length → Thr K B H E "TooMany" [("most", .int 10)]
  none : G.names.length ≤ 10 → calms G.names G.open = [] → Thr0 K B H E "NoCalm"
  good : G.names.length ≤ 10 → calms G.names G.open ≠ [] → good
structure WallW (K : PySem.W.Frag) (S : List Addr) (B0 H0 B : Hp) (M : List (Addr × HO)) (E : XK) (G : Grp) (good : Prop) : Prop where
  many : 10 < G.names.length → ThrW K S B0 H0 B M E "TooMany" [("most", .int 10)]
  none : G.names.length ≤ 10 → calms G.names G.open = [] → Thr0W K S B0 H0 B M E "NoCalm"
  good : G.names.length ≤ 10 → calms G.names G.open ≠ [] → good
theorem Wall.w {K : PySem.W.Frag} {B H B1 : Hp} {E : XK} {G : Grp} {g g' : Prop} (w : Wall K B H E G g) (h : g → g') : WallW K [] B H B1 [] E G g' :=
  ⟨fun z => (w.many z).w, fun z y => (w.none z y).w, fun z y => h (w.good z y)⟩
abbrev N_mayE : List Str := ["group", "a"]
def t_mayE (K : PySem.W.Frag) (E : XK) : TS := (tSeq (tDrop (tCl (sp_check_person K) (WE0 E) (tCons (tVar 0) (tCons (tVar 1) tNil))))
  (tRet (tCl (sp_chosen K) (WE0 E) (tCons (tVar 0) (tCons (tCl (sp_all_calm K) (WE0 E) (tCons (tVar 0) tNil)) (tCons (tVar 1) tNil))))))
def sp_mayE (K : PySem.W.Frag) : Sp := fun vs H Q E => ∃ (p : Addr) (v : V) (B : Hp) (G : Grp) (d : D), vs = [.ref p, v] ∧ Same B H ∧ GAt K B p G ∧ Rep K B v d ∧ (G.has d = false → Thr K B H E "NoPerson" [("value", v)]) ∧ ∀ a, d = .str a → a ∈ G.names → Wall K B H E G (∀ B' H' r, HS [] B H B' H' [(r, .lst ((mayL G.open (calmF G) a).map V.str))] → Q (.ref r) H')
abbrev N_bestE : List Str := ["group", "a", "row"]
def t_bestE (K : PySem.W.Frag) (E : XK) : TS := (tSeq (tAsg (tCl (sp_mayE K) (WE0 E) (tCons (tVar 0) (tCons (tVar 1) tNil))) (gName 2))
  (tSeq (tIfS (tNot (tTr K (tVar 2))) (tRet (tC .non)) tNext)
  (tRet (tOp (rIxL K) (tVar 2) (tC (.int 0))))))
def sp_bestE (K : PySem.W.Frag) : Sp := fun vs H Q E => ∃ (p : Addr) (v : V) (B : Hp) (G : Grp) (d : D), vs = [.ref p, v] ∧ Same B H ∧ GAt K B p G ∧ Rep K B v d ∧ (G.has d = false → Thr K B H E "NoPerson" [("value", v)]) ∧ (G.has d = true → Wall K B H E G (Fine B H Q))
abbrev N_worstE : List Str := ["group", "a", "row"]
def t_worstE (K : PySem.W.Frag) (E : XK) : TS := (tSeq (tAsg (tCl (sp_mayE K) (WE0 E) (tCons (tVar 0) (tCons (tVar 1) tNil))) (gName 2))
  (tSeq (tIfS (tNot (tTr K (tVar 2))) (tRet (tC .non)) tNext)
  (tRet (tOp (rIxL K) (tVar 2) (tUn rNegI (tC (.int 1)))))))
def sp_worstE (K : PySem.W.Frag) : Sp := sp_bestE K
abbrev N_with_pairE : List Str := ["group", "a", "b", "wanted", "x"]
def t_with_pairE (K : PySem.W.Frag) (E : XK) : TS := (tSeq (tDrop (tCl (sp_check_person K) (WE0 E) (tCons (tVar 0) (tCons (tVar 1) tNil))))
  (tSeq (tDrop (tCl (sp_check_person K) (WE0 E) (tCons (tVar 0) (tCons (tVar 2) tNil))))
  (tSeq (tAsg (tVar 2) (gName 3))
  (tSeq (tIfS (tTest (tOp rEq (tVar 1) (tVar 2))) (tAsg (tC .non) (gName 3)) tNext)
  (tSeq (tFor (iList K (tCl (sp_all_calm K) (WE0 E) (tCons (tVar 0) tNil))) (gName 4) (tIfS (tTest (tOp rEq (tDGet (tVar 4) (tVar 1)) (tVar 3))) (tRet (tVar 4)) tNext))
  (tRet (tC .non)))))))
def sp_with_pairE (K : PySem.W.Frag) : Sp := fun vs H Q E => ∃ (p : Addr) (v u : V) (B : Hp) (G : Grp) (d e : D), vs = [.ref p, v, u] ∧ Same B H ∧ GAt K B p G ∧ Rep K B v d ∧ Rep K B u e ∧ (G.has d = false → Thr K B H E "NoPerson" [("value", v)]) ∧ (G.has d = true → (G.has e = false → Thr K B H E "NoPerson" [("value", u)]) ∧ (G.has e = true → Wall K B H E G (Fine B H Q)))
def optOk (G : Grp) (d : D) : Prop := d = .non ∨ G.has d = true
abbrev N_bothE : List Str := ["group", "a", "x", "b", "y", "found"]
def t_bothE (K : PySem.W.Frag) (E : XK) : TS := (tSeq (tDrop (tCl (sp_check_person K) (WE0 E) (tCons (tVar 0) (tCons (tVar 1) tNil))))
  (tSeq (tIfS (tB (tNotN (tVar 2))) (tDrop (tCl (sp_check_person K) (WE0 E) (tCons (tVar 0) (tCons (tVar 2) tNil)))) tNext)
  (tSeq (tDrop (tCl (sp_check_person K) (WE0 E) (tCons (tVar 0) (tCons (tVar 3) tNil))))
  (tSeq (tIfS (tB (tNotN (tVar 4))) (tDrop (tCl (sp_check_person K) (WE0 E) (tCons (tVar 0) (tCons (tVar 4) tNil)))) tNext)
  (tSeq (tFor (iList K (tCl (sp_all_calm K) (WE0 E) (tCons (tVar 0) tNil))) (gName 5) (tIfS (tAnd (tTest (tOp rEq (tDGet (tVar 5) (tVar 1)) (tVar 2))) (tTest (tOp rEq (tDGet (tVar 5) (tVar 3)) (tVar 4)))) (tRet (tVar 5)) tNext))
  (tRet (tC .non)))))))
def sp_bothE (K : PySem.W.Frag) : Sp := fun vs H Q E => ∃ (p : Addr) (v x u y : V) (B : Hp) (G : Grp) (d dx e dy : D), vs = [.ref p, v, x, u, y] ∧ Same B H ∧ GAt K B p G ∧ Rep K B v d ∧ Rep K B x dx ∧ Rep K B u e ∧ Rep K B y dy ∧ (G.has d = false → Thr K B H E "NoPerson" [("value", v)]) ∧ (G.has d = true → (dx ≠ .non → G.has dx = false → Thr K B H E "NoPerson" [("value", x)]) ∧ (optOk G dx →
  (G.has e = false → Thr K B H E "NoPerson" [("value", u)]) ∧ (G.has e = true → (dy ≠ .non → G.has dy = false → Thr K B H E "NoPerson" [("value", y)]) ∧ (optOk G dy → Wall K B H E G (Fine B H Q)))))
end Q

set_option Elab.async false
set_option linter.all false
set_option maxRecDepth 100000
set_option maxHeartbeats 4000000
namespace Q
open PySem PySem.Spec PyProof.Rows L2
theorem sqL_sameJ {K : PySem.W.Frag} {H H' : Hp} {p : Addr} {xs : List V} (s : Same H H') (h : SqL K H p xs) : SqL K H' p xs := Or.imp (fun r => Or.imp (s _ _) (fun ⟨o, z⟩ => ⟨o, s _ _ z⟩) r) id h
end Q

set_option Elab.async false
set_option linter.all false
set_option maxRecDepth 100000
set_option maxHeartbeats 4000000
namespace Q
open PySem PySem.Spec PyProof.Rows L2
/-! ### the worst rank of a dealing -/
def rkL (op : Str → List Str) (m : Str → Option Str) (xs : List Str) : List Nat := xs.filterMap fun a => (m a).map fun b => (op a).idxOf b
def mxN (l : List Nat) : Nat := l.foldr max 0
def worstR (op : Str → List Str) (xs : List Str) (m : Str → Option Str) : Nat := mxN (rkL op m xs)
def natV (l : List Nat) : List V := l.map fun n : Nat => V.int (n : Int)
abbrev N_worst_rank : List Str := ["group", "x", "ranks", "a"]
def t_worst_rank (K : PySem.W.Frag) (E : XK) : TS := (tSeq (tDrop (tCl (sp_check_dealing K) (WE0 E) (tCons (tVar 0) (tCons (tVar 1) tNil))))
  (tSeq (tAsg (tLc (iList K (tMt (He.ga K "Group") "people" (sp_Group_people K) (WE0 E) (tVar 0) tNil)) (gName 3) (tB (tNotN (tDGet (tVar 1) (tVar 3)))) (tMt (He.ga K "Group") "rank" (sp_Group_rank K) W0 (tVar 0) (tCons (tVar 3) (tCons (tDGet (tVar 1) (tVar 3)) tNil))) [3]) (gName 2))
  (tRet (tCB (rMax K) (tCons (tOp rCat (tLst (tCons (tC (.int 0)) tNil)) (tVar 2)) tNil)))))
def sp_worst_rank (K : PySem.W.Frag) : Sp := fun vs H Q E => ∃ (p : Addr) (v : V) (B : Hp) (G : Grp) (d : D), vs = [.ref p, v] ∧ Same B H ∧ GAt K B p G ∧ Rep K B v d ∧ plainV d ∧ (isDeal G.names G.open d = false → Thr0 K B H E "NoDealing") ∧ (isDeal G.names G.open d = true → Ret B H Q fun _ r => r = .int (worstR G.open G.names (part d) : Nat))
/-! ### all calm dealings stand still; one of them may change again -/
abbrev N_least_worst : List Str := ["group", "dealings", "found", "cost", "x", "other"]
def t_least_worst (K : PySem.W.Frag) (E : XK) : TS := (tSeq (tAsg (tCl (sp_all_calm K) (WE0 E) (tCons (tVar 0) tNil)) (gName 1))
  (tSeq (tAsg (tOp (rIxL K) (tVar 1) (tC (.int 0))) (gName 2))
  (tSeq (tAsg (tCl (sp_worst_rank K) (WE0 E) (tCons (tVar 0) (tCons (tVar 2) tNil))) (gName 3))
  (tSeq (tFor (iList K (tVar 1)) (gName 4) (tSeq (tAsg (tCl (sp_worst_rank K) (WE0 E) (tCons (tVar 0) (tCons (tVar 4) tNil))) (gName 5))
  (tIfS (tTest (tOp rLtI (tVar 5) (tVar 3))) (tPar 2 3 (tCons (tVar 4) (tCons (tVar 5) tNil))) tNext)))
  (tRet (tTup (tCons (tVar 3) (tCons (tVar 2) tNil))))))))
def sp_least_worst (K : PySem.W.Frag) : Sp := fun vs H Q E => ∃ (p : Addr) (B : Hp) (G : Grp), vs = [.ref p] ∧ Same B H ∧ GAt K B p G ∧ Wall K B H E G (∀ f, f ∈ calmF G → (∀ g ∈ calmF G, worstR G.open G.names f ≤ worstR G.open G.names g) → ∀ B' H' T x, HS [] B H B' H' [(x, .dK (zipO G.names f))] → B' T = some (.tup [.int (worstR G.open G.names f : Nat), .ref x]) → Q (.ref T) H')
end Q

set_option Elab.async false
set_option linter.all false
set_option maxRecDepth 100000
set_option maxHeartbeats 4000000
namespace Q
open PySem PySem.Spec PyProof.Rows L2
/-! ### a list over the keys of a dict -/
section
variable {α : Type} {S : List Addr} {B0 H0 B : Hp} {Mf : α → List (Addr × HO)} {P : Nat → α → List V → Hp → Prop} {d : Addr} {g : TG} {tt : TT} {te : TE} {vs : List Nat} {σ : L2.St} {H : Hp} {Q : VK} {s0 : α} {kvs : List (Key × V)} {ks : List Str} {td : TE}
end
abbrev N__law_worst_rank : List Str := ["_law_mutual_here", "_law_x", "_law_a"]
def t__law_worst_rank (K : PySem.W.Frag) (E : XK) : TS := (tRet (tCB (rMax K) (tCons (tOp rCat (tLst (tCons (tC (.int 0)) tNil)) (tLockE (tLc (iKeys (tVar 0)) (gName 2) (tB (tNotN (tDGet (tVar 1) (tVar 2)))) (tBM K "list" (rIndex K) (tDGet (tVar 0) (tVar 2)) (tCons (tDGet (tVar 1) (tVar 2)) tNil)) [2]))) tNil)))
def sp__law_worst_rank (K : PySem.W.Frag) : Sp := fun vs H Q E => ∃ (m px : Addr) (B : Hp) (xs : List Str) (f : Str → List Str) (kvm kx : List (Key × V)) (x : Str → Option Str), vs = [.ref m, .ref px] ∧ Same B H ∧ B m = none ∧ H m = some (.dK kvm) ∧ WAt B xs kvm f ∧ Mut xs f ∧ (∀ a ∈ xs, B px = some (.dK kx)) ∧ (∀ a ∈ xs, valV kx (.inr a) = some (optV (x a))) ∧ (∀ a ∈ xs, ∀ b, x a = some b → b ∈ f a) ∧
  ∀ B' H' v, HS [m] B H B' H' [(m, .dK kvm)] → v = .int (worstR f xs x : Nat) → Q v H'
abbrev N__law_told72 : List Str := ["_law_group", "_law_told_here", "e"]
def t__law_told72 (K : PySem.W.Frag) (E : XK) : TS := (tSeq (tAsg (tC .non) (gName 1))
  (tSeq (tTryAs K (.ref (He.ga K "NoCalm")) 2 (fun a1 cls1 d1 => (tAsg (tTup (tCons (tC (.str "none")) (tCons (tCB (rIsE2 K cls1 (He.ga K "NoCalm") a1 d1) (tCons (tVar 2) (tCons (tC (.ty "ValueError")) tNil))) tNil))) (gName 1))) (WE0 E) (fun W1 => (tAsg (tTup (tCons (tC (.str "told")) (tCons (tCl (sp_least_worst K) W1 (tCons (tVar 0) tNil)) tNil))) (gName 1))))
  (tRet (tVar 1))))
def sp__law_told72 (K : PySem.W.Frag) : Sp := fun vs H Q E => ∃ (p : Addr) (B : Hp) (G : Grp), vs = [.ref p] ∧ Same B H ∧ GAt K B p G ∧ G.names.length ≤ 10 ∧ (calms G.names G.open = [] → ∀ B' H' T, HS [] B H B' H' [] → B' T = some (.tup [.str "none", .bl true]) → Q (.ref T) H') ∧
  (calms G.names G.open ≠ [] → ∀ f, f ∈ calmF G → (∀ g ∈ calmF G, worstR G.open G.names f ≤ worstR G.open G.names g) → ∀ B' H' T U x, HS [] B H B' H' [(x, .dK (zipO G.names f))] → B' T = some (.tup [.str "told", .ref U]) → B' U = some (.tup [.int (worstR G.open G.names f : Nat), .ref x]) → Q (.ref T) H')
end Q

set_option Elab.async false
set_option linter.all false
set_option maxRecDepth 100000
set_option maxHeartbeats 4000000
namespace Q
open PySem PySem.Spec PyProof.Rows L2
/-! ### sorted of a tuple of tuples of texts -/
def rSortTxT (K : PySem.W.Frag) : List V → Hp → VK → Prop := fun vs H Q => ∃ (a : Addr) (xs : List V) (k : V → List Str), vs = [V.ref a] ∧ SqT K H a xs ∧ (∀ x ∈ xs, (∃ t, x = V.ref t ∧ H t = some (.tup ((k x).map V.str))) ∧ k x ≠ []) ∧
  ∀ ys p, ys.Perm xs → ys.map k = sortT (xs.map k) → H p = none → Q (.ref p) (upd H p (.lst ys))
end Q

set_option Elab.async false
set_option linter.all false
set_option maxRecDepth 100000
set_option maxHeartbeats 4000000
namespace Q
open PySem PySem.Spec PyProof.Rows L2
/-! ### C(e, .., k = v) of a class with keyword-only parameters, and without them -/
def MkrK (P : Program) (w : World) (K : PySem.W.Frag) (mg : Str → Option Value) (base : Heap) (k : Nat) (c : Str) (ps : List Str) (n : Nat) (ks : List Str) (sp : Sp) : Prop :=
  ∃ f fd, mg c = some (.ref (He.ga K c)) ∧ Mk K (He.ga K c) f ∧ KBn K fd ps (n + 1) ks (fun us ws => us ++ ws) (fun vs zs => vs ++ zs) ∧ FnOk P w K mg base (L2.CX P w) k f fd ps sp
def MkrD (P : Program) (w : World) (K : PySem.W.Frag) (mg : Str → Option Value) (base : Heap) (k : Nat) (c : Str) (ps : List Str) (dvs : List V) (sp : Sp) : Prop :=
  ∃ f fd ds, mg c = some (.ref (He.ga K c)) ∧ Mk K (He.ga K c) f ∧ Vals dvs ds ∧ Binds K fd ps ds ∧ FnOk P w K mg base (L2.CX P w) k f fd ps sp
def tMkK (C : Addr) (n j : Nat) (sp : Sp) (W : WX) (t tk : TA) : TE := fun σ H Q => t σ H fun vs H1 => tk σ H1 fun zs H2 => vs.length = n ∧ zs.length = j ∧ ∀ x dx, H2 x = none → H2 dx = none → dx ≠ x →
  sp (.ref x :: (vs ++ zs)) (upd (upd H2 dx (.own x)) x (.ins C dx [])) (fun v H3 => v = .non ∧ Q (.ref x) H3) fun c d H' => W c d σ H'
def tMkD (C : Addr) (dvs : List V) (sp : Sp) (W : WX) (t : TA) : TE := fun σ H Q => t σ H fun vs H1 => ∀ x dx, H1 x = none → H1 dx = none → dx ≠ x →
  sp (.ref x :: (vs ++ dvs)) (upd (upd H1 dx (.own x)) x (.ins C dx [])) (fun v H2 => v = .non ∧ Q (.ref x) H2) fun c d H' => W c d σ H'
section
variable {X : Cx} {k j n : Nat} {x : Str} {ps ks : List Str} {dvs : List V} {sp : Sp} {W : WX} {p pos : Pos} {e : Expr} {es : List Expr} {kws : List Keyword} {t tq : TA}
theorem run_mkKS {f C : Addr} {fd : FuncData} {E : XK} {pins : List (Addr × Obj)} {σ : L2.St} {H : Hp} {s : Shared} {Q : VK} {us ws : List Value} {vs zs : List V} (M : Mk X.K C f) (F : FnOk X.prog X.w X.K X.mg X.base (L2.CX X.prog X.w) k f fd ps sp) (hr : Room (k + 1) X.A)
    (hb : KBn X.K fd ps (n + 1) ks (fun us ws => us ++ ws) (fun vs zs => vs ++ zs)) (hx : PassesAt (L2.CX X.prog X.w) X σ E) (I : Inv X pins σ H s) (r : Vals vs us) (rz : Vals zs ws) (l1 : vs.length = n) (l2 : zs.length = ks.length)
    (h : ∀ x dx, H x = none → H dx = none → dx ≠ x → sp (.ref x :: (vs ++ zs)) (upd (upd H dx (.own x)) x (.ins C dx [])) (fun v H2 => v = .non ∧ Q (.ref x) H2) E) :
    wpAny (model X.prog X.w) X.A (call (.ref C) us (ks.zip ws)) (EP X pins σ Q) X.xe s := by
  have hq := h (s.heap.objs.size + 1) s.heap.objs.size (I.hok.fresh (Nat.le_succ _)) (I.hok.fresh (Nat.le_refl _)) (Nat.ne_of_lt (Nat.lt_succ_self _))
  have I2 := Inv.made (C := C) I
  have r1 : Vals (V.ref (s.heap.objs.size + 1) :: vs) (Value.ref (s.heap.objs.size + 1) :: us) := .cons rfl r
  have r2 := hb.rel r1 rz
  have n1 : (Value.ref (s.heap.objs.size + 1) :: us).length = n + 1 := by
    rw [List.length_cons, ← r.length, l1]
  refine wpAny_call (make_map (f := f) I.kIn M.makes M.init (beq_iff_eq.mp M.fn) (codeAny_mono (F.run _ X.stack _ _ ⟨Value.ref (s.heap.objs.size + 1) :: us, ks.zip ws⟩ ((Value.ref (s.heap.objs.size + 1) :: us) ++ ws) _ _ E (hr.make C us (ks.zip ws))
    (I2.env0.make C us (ks.zip ws)) (hb.to _ (Value.ref (s.heap.objs.size + 1) :: us) ws I2.kIn n1 (rz.length.symm.trans l2)) r2 hq) fun r s' hq' => ?_))
  cases r with
  | error e => exact hx pins _ _ e s' I2 hq'
  | ok fl =>
    cases fl with
    | ret u =>
      obtain ⟨v, H', I3, rv, ev, q3⟩ := I2.after hq'
      subst ev
      exact ⟨rv, ⟨V.ref (s.heap.objs.size + 1), H', I3, rfl, q3⟩⟩
    | next => exact False.elim hq'
    | brk => exact False.elim hq'
    | cont => exact False.elim hq'
theorem run_mkDS {f C : Addr} {fd : FuncData} {E : XK} {pins : List (Addr × Obj)} {σ : L2.St} {H : Hp} {s : Shared} {Q : VK} {us ds : List Value} {vs : List V} (M : Mk X.K C f) (F : FnOk X.prog X.w X.K X.mg X.base (L2.CX X.prog X.w) k f fd ps sp) (hr : Room (k + 1) X.A) (hb : Binds X.K fd ps ds) (rd : Vals dvs ds)
    (hx : PassesAt (L2.CX X.prog X.w) X σ E) (I : Inv X pins σ H s) (r : Vals vs us)
    (h : ∀ x dx, H x = none → H dx = none → dx ≠ x → sp (.ref x :: (vs ++ dvs)) (upd (upd H dx (.own x)) x (.ins C dx [])) (fun v H2 => v = .non ∧ Q (.ref x) H2) E) :
    wpAny (model X.prog X.w) X.A (call (.ref C) us) (EP X pins σ Q) X.xe s := by
  have hq := h (s.heap.objs.size + 1) s.heap.objs.size (I.hok.fresh (Nat.le_succ _)) (I.hok.fresh (Nat.le_refl _)) (Nat.ne_of_lt (Nat.lt_succ_self _))
  have I2 := Inv.made (C := C) I
  have r2 : Vals (V.ref (s.heap.objs.size + 1) :: (vs ++ dvs)) (Value.ref (s.heap.objs.size + 1) :: (us ++ ds)) := .cons rfl (r.append rd)
  have hl : (Value.ref (s.heap.objs.size + 1) :: us ++ ds).length = ps.length := by
    have e := r2.length
    rw [F.len _ _ _ _ hq] at e
    exact e.symm
  have bb := hb _ (Value.ref (s.heap.objs.size + 1) :: us) I2.kIn hl
  refine wpAny_call (make_map (f := f) I.kIn M.makes M.init (beq_iff_eq.mp M.fn) (codeAny_mono (F.run _ X.stack _ _ ⟨Value.ref (s.heap.objs.size + 1) :: us, []⟩ (Value.ref (s.heap.objs.size + 1) :: us ++ ds) _ _ E (hr.make C us [])
    (I2.env0.make C us []) bb r2 hq) fun r s' hq' => ?_))
  cases r with
  | error e => exact hx pins _ _ e s' I2 hq'
  | ok fl =>
    cases fl with
    | ret u =>
      obtain ⟨v, H', I3, rv, ev, q3⟩ := I2.after hq'
      subst ev
      exact ⟨rv, ⟨V.ref (s.heap.objs.size + 1), H', I3, rfl, q3⟩⟩
    | next => exact False.elim hq'
    | brk => exact False.elim hq'
    | cont => exact False.elim hq'
theorem pe_mkK (F : MkrK X.prog X.w X.K X.mg X.base k x ps n ks sp) (hr : Room j X.A) (hj : k + 1 ≤ j) (tk : Takes X W) (ha : PA X (e :: es) t) (hkw : PK X kws tq) (hg : Gl X x := by rfl) (hdb : (x == ("__debug__" : Str)) = false := by decide)
    (hall : (backToKw pos (keywordEach kws X.env)).all (·.1.isSome) = true := by rfl) (hks : (backToKw pos (keywordEach kws X.env)).filterMap (·.1) = ks := by rfl)
    (hst : starEach (e :: es) X.env = (false, eval e X.env) :: starEach es X.env := by rfl) (hpl : ((backTo pos (starEach (e :: es) X.env)).any (·.1) || (backToKw pos (keywordEach kws X.env)).any (·.1.isNone)) = false := by rfl) :
    PE X (.Call (.Name x p) (e :: es) kws pos) (tMkK (He.ga X.K x) n ks.length sp W t tq) := by
  obtain ⟨f, fd, hm, M, hb, F⟩ := F
  refine ⟨fun pins s σ H Q I h => ?_⟩
  refine wpAny_Call_Name_kw (ld_glob I hg hm ?_ hdb)
  refine PySem.W.callWith_KW (h₀ := X.base) I.ok.mod.kin M.kp hall (thn (ha.run pos pins _ σ H _ (I.tok _) h) fun us s2 ⟨vs, H2, I2, r, q2⟩ => ?_) hpl hst
  refine thn (hkw.run pos pins s2 σ H2 _ I2 q2) fun ws s3 ⟨zs, H3, I3, rz, l1, l2, q3⟩ => ⟨I3.kIn, ?_⟩
  rw [hks]
  exact run_mkKS (E := WE W σ) M F (hr.mono hj) hb (passAt tk σ) I3 r rz l1 l2 q3
theorem pe_mkD (F : MkrD X.prog X.w X.K X.mg X.base k x ps dvs sp) (hr : Room j X.A) (hj : k + 1 ≤ j) (tk : Takes X W) (ha : PA X (e :: es) t) (hg : Gl X x := by rfl)
    (hdb : (x == ("__debug__" : Str)) = false := by decide) (he : starEach (e :: es) X.env = (false, eval e X.env) :: starEach es X.env := by rfl) (hpl : (backTo pos (starEach es X.env)).any (·.1) = false := by rfl) :
    PE X (.Call (.Name x p) (e :: es) [] pos) (tMkD (He.ga X.K x) dvs sp W t) := by
  obtain ⟨f, fd, ds, hm, M, rd, hb, F⟩ := F
  refine ⟨fun pins s σ H Q I h => ?_⟩
  refine wpAny_Call_Name_kw (ld_glob I hg hm ?_ hdb)
  refine PySem.W.callWith_K (h₀ := X.base) I.ok.mod.kin M.kp (thn (ha.run pos pins s σ H _ I h) fun us s1 ⟨vs, H1, I1, r, q⟩ => ⟨I1.kIn, ?_⟩) he hpl
  exact run_mkDS M F (hr.mono hj) hb rd (passAt tk σ) I1 r q
end
/-! ### an instance called by its own __call__ -/
def tClI (i : Nat) (C : Addr) (sp : Sp) (W : WX) (t : TA) : TE := fun σ H Q => ∃ a, σ[i]? = some (some (.ref a)) ∧ t σ H fun vs H1 => (∃ dx fs, H1 a = some (.ins C dx fs)) ∧ sp (.ref a :: vs) H1 Q fun c d H' => W c d σ H'
section
variable {X : Cx} {k j i : Nat} {c x : Str} {ps : List Str} {sp : Sp} {W : WX} {p pos : Pos} {e : Expr} {es : List Expr} {t : TA}
end
/-! ### x + y by one's own __add__, both of one class -/
def rAddG (C : Addr) (sp : Sp) : R2 := fun x y H Q => ∃ a b dx fs dy gs, x = .ref a ∧ y = .ref b ∧ H a = some (.ins C dx fs) ∧ H b = some (.ins C dy gs) ∧ sp [.ref a, .ref b] H (fun v H' => v ≠ .non ∧ (∃ r, v = .ref r) ∧ Q v H') fun _ _ _ => False
section
variable {K : PySem.W.Frag} {σ : L2.St} {H : Hp} {Q : VK} {tl tq : TA} {W : WX} {n j i : Nat} {sp : Sp} {dvs : List V} {C a : Addr}
theorem x_mkK (h : tl σ H fun vs H1 => tq σ H1 fun zs H2 => vs.length = n ∧ zs.length = j ∧ Mkd C sp W σ Q (vs ++ zs) H2) : tMkK C n j sp W tl tq σ H Q := h
theorem x_mkD (h : tl σ H fun vs H1 => Mkd C sp W σ Q (vs ++ dvs) H1) : tMkD C dvs sp W tl σ H Q := h
end
end Q

set_option Elab.async false
set_option linter.all false
set_option maxRecDepth 100000
set_option maxHeartbeats 4000000
namespace Q
open PySem PySem.Spec PyProof.Rows L2
/-! ### scales -/
structure SK (K : PySem.W.Frag) : Prop where
  cl : Cls K (He.ga K "Scale")
  n1 : NoAttr K (He.ga K "Scale") "rest"
  n2 : NoAttr K (He.ga K "Scale") "special"
def scf (r : Nat) (sp : Addr) : List (Str × V) := [("rest", .int (r : Nat)), ("special", .ref sp)]
theorem scf_rest (r : Nat) (sp : Addr) : (scf r sp).lookup ("rest" : Str) = some (V.int (r : Nat)) := by simp [scf, List.lookup]
theorem scf_special (r : Nat) (sp : Addr) : (scf r sp).lookup ("special" : Str) = some (V.ref sp) := by
  unfold scf List.lookup
  rw [show (("special" : Str) == "rest") = false by decide +kernel]
  simp [List.lookup]
theorem scf_no {r : Nat} {sp : Addr} {f : Str} (h : f ∉ (["rest", "special"] : List Str)) : (scf r sp).lookup f = none := by
  simp only [List.mem_cons, List.not_mem_nil, or_false, not_or] at h
  have e1 : (f == ("rest" : Str)) = false := beq_eq_false_iff_ne.mpr h.1
  have e2 : (f == ("special" : Str)) = false := beq_eq_false_iff_ne.mpr h.2
  simp [scf, List.lookup, e1, e2]
def wV (f : Str → Nat) : Str → V := fun a => .int (f a : Nat)
structure Scl where
  r : Nat
  ks : List Str
  f : Str → Nat
def wtF (ks : List Str) (f : Str → Nat) (r : Nat) (a : Str) : Nat := if a ∈ ks then f a else r
def Scl.wt (S : Scl) (a : Str) : Nat := wtF S.ks S.f S.r a
/-- the scale that is made of these weights -/
def mkScl (ks : List Str) (f : Str → Nat) (r : Nat) : Scl := ⟨r, ks.filter fun a => !decide (f a = r), f⟩
theorem mkScl_wt {ks : List Str} {f : Str → Nat} {r : Nat} (a : Str) : (mkScl ks f r).wt a = wtF ks f r a := by
  unfold Scl.wt wtF mkScl
  dsimp only
  by_cases h : a ∈ ks
  · rw [if_pos h]
    by_cases e : f a = r
    · rw [if_neg (by simp [e]), e]
    · rw [if_pos (List.mem_filter.mpr ⟨h, by simp [e]⟩)]
  · rw [if_neg h, if_neg (fun m => h (List.mem_filter.mp m).1)]
def SAt (K : PySem.W.Frag) (B : Hp) (p : Addr) (S : Scl) : Prop := ∃ dx sp, B p = some (.ins (He.ga K "Scale") dx (scf S.r sp)) ∧ B sp = some (.dK (zipV S.ks (wV S.f)))
theorem SAt.mono {K : PySem.W.Frag} {B B' : Hp} {p : Addr} {S : Scl} (s : Same B B') (h : SAt K B p S) : SAt K B' p S := by
  obtain ⟨dx, sp, h1, h2⟩ := h
  exact ⟨dx, sp, s _ _ h1, s _ _ h2⟩
def isWt : D → Bool
  | .int i => decide (0 ≤ i)
  | _ => false
abbrev N_is_weight : List Str := ["value"]
def t_is_weight (K : PySem.W.Frag) (E : XK) : TS := (tRet (tAndV (tCl (sp_is_integer K) (WE0 E) (tCons (tVar 0) tNil)) (tOp rGeI (tVar 0) (tC (.int 0)))))
def sp_is_weight (K : PySem.W.Frag) : Sp := fun vs H Q E => ∃ v B d, vs = [v] ∧ Same B H ∧ Rep K B v d ∧ Ret B H Q fun _ r => r = .bl (isWt d)
theorem pure_is_weight {K : PySem.W.Frag} {vs : List V} {H : Hp} {Q : VK} {E : XK} (h : sp_is_weight K vs H Q E) : t_is_weight K E { nx := fun _ H' => Q .non H', rt := Q } (start N_is_weight vs) H := by
  obtain ⟨v, B, d, rfl, sB, r, k⟩ := h
  have hs := HS.start sB
  show t_is_weight K E _ [some v] H
  unfold t_is_weight
  refine x_ret (x_andV (x_cl (x_cons (x_var rfl (x_nil ?_)))))
  refine use_is_integer hs r (fun B1 H1 sb1 hs1 => x_exb ?_)
  cases d with
  | int i =>
    cases r
    refine x_iteT rfl (x_op (x_var rfl (x_c (x_geI ?_))))
    exact k B1 H1 _ hs1 rfl
  | _ => exact x_iteF rfl (k B1 H1 _ hs1 rfl)
theorem use_is_weight {K : PySem.W.Frag} {S : List Addr} {B0 H0 B H : Hp} {M : List (Addr × HO)} {Q : VK} {E : XK} {v : V} {d : D} (hs : HS S B0 H0 B H M) (r : Rep K B v d)
    (k : ∀ B' H', Same B B' → HS S B0 H0 B' H' M → Q (.bl (isWt d)) H') : sp_is_weight K [v] H Q E := ⟨v, B, d, rfl, hs.bh, r, fun B' H' v' c e => by rw [e]; exact k B' H' c.bb (hs.call c)⟩
theorem isWt_nat (n : Nat) : isWt (.int (n : Nat)) = true := decide_eq_true (Int.natCast_nonneg n)
theorem wV_rep {K : PySem.W.Frag} {B : Hp} {f : Str → Nat} : ∀ {ks : List Str}, RepK K B (zipV ks (wV f)) (ks.map fun a => (.inr a, .int (f a : Nat)))
  | [] => .nil
  | a :: l => .cons (.int _) (wV_rep (ks := l))
abbrev N_check_weights : List Str := ["weights", "rest", "name"]
def t_check_weights (K : PySem.W.Frag) (E : XK) : TS := (tSeq (tIfS (tOr (tNot (tB (tCB (rIsi K) (tCons (tVar 0) (tCons (tC (.ty "dict")) tNil))))) (tNot (tB (tCl (sp_is_weight K) (WE0 E) (tCons (tVar 1) tNil))))) (tRz1 (He.ga K "BadWeights") "name" (tC (.str "")) (WE0 E)) tNext)
  (tSeq (tFor (iList K (tCB rListD (tCons (tVar 0) tNil))) (gName 2) (tIfS (tNot (tB (tCl (sp_is_name K) (WE0 E) (tCons (tVar 2) tNil)))) (tRz1 (He.ga K "BadWeights") "name" (tC (.str "")) (WE0 E)) tNext))
  (tFor (iList K (tCB rSortD (tCons (tVar 0) tNil))) (gName 2) (tIfS (tNot (tB (tCl (sp_is_weight K) (WE0 E) (tCons (tDGet (tVar 0) (tVar 2)) tNil)))) (tRz1 (He.ga K "BadWeights") "name" (tVar 2) (WE0 E)) tNext))))
/-- right weights -/
def sp_check_weights (K : PySem.W.Frag) : Sp := fun vs H Q E => ∃ (d : Addr) (r : Nat) (B : Hp) (ks : List Str) (f : Str → Nat), vs = [.ref d, .int (r : Nat)] ∧ Same B H ∧ B d = some (.dK (zipV ks (wV f))) ∧ ks.Nodup ∧ ks.length < 64 ∧ (∀ a ∈ ks, okName a = true) ∧ Ret B H Q fun _ v => v = .non
theorem pure_check_weights {K : PySem.W.Frag} {vs : List V} {H : Hp} {Q : VK} {E : XK} (h : sp_check_weights K vs H Q E) : t_check_weights K E { nx := fun _ H' => Q .non H', rt := Q } (start N_check_weights vs) H := by
  obtain ⟨d, r, B, ks, f, rfl, sB, ed, nd, hl, hok, k⟩ := h
  have hs := HS.start sB
  have hnl : ∀ a ∈ ks, a.length ≤ 1000000 := fun a ma => okName_len (hok a ma)
  show t_check_weights K E _ [some (.ref d), some (.int (r : Nat)), none] H
  unfold t_check_weights
  refine x_seq (x_if (x_or (x_not (x_tB (x_cb (x_cons (x_var rfl (x_cons (x_c (x_nil ?_)))))))))) 
  refine x_isiD hs (.dct ed wV_rep) (by decide) (x_exb ?_)
  refine x_iteF rfl (x_not (x_tB (x_cl (x_cons (x_var rfl (x_nil ?_))))))
  refine use_is_weight hs (.int _) (fun B1 H1 sb1 hs1 => ?_)
  rw [isWt_nat]
  refine x_exb (x_iteF rfl (x_next ?_))
  dsimp only
  have ed1 := sb1 _ _ ed
  refine x_seq (x_for (x_iList (x_cb (x_cons (x_var rfl (x_nil ?_))))))
  refine x_listD (hs1.up ed1) ?_
  refine new_F hs1 (fun l B2 H2 hs2 sb2 el _ => ?_)
  have ekk : ((zipV ks (wV f)).map fun kv => kV kv.1) = ks.map V.str := by unfold zipV; rw [List.map_map]; rfl
  rw [ekk] at el
  refine ⟨l, rfl, ⟨_, SqL.of (hs2.up el)⟩, ?_⟩
  refine l_list (α := Option V) (σf := fun z => [some (.ref d), some (.int (r : Nat)), z]) (Mf := fun _ => []) (P := fun _ _ _ => True) (s0 := none) hs2 el trivial (fun i v z B3 H3 hi sb3 hs3 _ => ?_) (fun z B3 H3 sb3 hs3 _ => ?_)
  · obtain ⟨a, ha, rfl⟩ := strs_get hi
    have ma := List.mem_of_getElem? ha
    refine x_gname ?_
    dsimp only [List.set]
    refine x_if (x_not (x_tB (x_cl (x_cons (x_var rfl (x_nil ?_))))))
    refine use_is_name hs3 (.str (hnl a ma)) (fun B4 H4 sb4 hs4 => ?_)
    rw [show isName (.str a) = true from hok a ma]
    refine x_exb (x_iteF rfl (x_next ?_))
    exact ⟨some _, B4, rfl, sb3.trans sb4, hs4, trivial⟩
  · dsimp only
    have ed3 := (sb2.trans sb3) _ _ ed1
    refine x_for (x_iList (x_cb (x_cons (x_var rfl (x_nil ?_)))))
    refine x_srtD (hs3.up ed3) zipV_keys hl ?_
    refine new_F hs3 (fun l2 B4 H4 hs4 sb4 el2 _ => ?_)
    refine ⟨l2, rfl, ⟨_, SqL.of (hs4.up el2)⟩, ?_⟩
    refine l_list (α := Option V) (σf := fun z => [some (.ref d), some (.int (r : Nat)), z]) (Mf := fun _ => []) (P := fun _ _ _ => True) (s0 := z) hs4 el2 trivial (fun i v z B5 H5 hi sb5 hs5 _ => ?_) (fun z B5 H5 sb5 hs5 _ => ?_)
    · obtain ⟨a, ha, rfl⟩ := strs_get hi
      have ma := mem_sortS.mp (List.mem_of_getElem? ha)
      refine x_gname ?_
      dsimp only [List.set]
      refine x_if (x_not (x_tB (x_cl (x_cons (x_dget (x_var rfl (x_var rfl ?_)))))))
      refine x_dgS (hs5.up ((sb4.trans sb5) _ _ ed3)) (zipV_val ma) (x_nil ?_)
      refine use_is_weight hs5 (.int _) (fun B6 H6 sb6 hs6 => ?_)
      rw [isWt_nat]
      refine x_exb (x_iteF rfl (x_next ?_))
      exact ⟨some _, B6, rfl, sb5.trans sb6, hs6, trivial⟩
    · exact k B5 H5 _ hs5 rfl
theorem use_check_weights {K : PySem.W.Frag} {S : List Addr} {B0 H0 B H : Hp} {M : List (Addr × HO)} {Q : VK} {E : XK} {d : Addr} {r : Nat} {ks : List Str} {f : Str → Nat} (hs : HS S B0 H0 B H M) (ed : B d = some (.dK (zipV ks (wV f)))) (nd : ks.Nodup) (hl : ks.length < 64) (hok : ∀ a ∈ ks, okName a = true)
    (k : ∀ B' H', Same B B' → HS S B0 H0 B' H' M → Q .non H') : sp_check_weights K [.ref d, .int (r : Nat)] H Q E := ⟨d, r, B, ks, f, rfl, hs.bh, ed, nd, hl, hok, fun B' H' v' c e => by rw [e]; exact k B' H' c.bb (hs.call c)⟩
/-! ### a dict over the keys of a dict -/
section
variable {α : Type} {S : List Addr} {B0 H0 B : Hp} {Mf : α → List (Addr × HO)} {P : Nat → α → List (Key × V) → Hp → Prop} {d : Addr} {g : TG} {tt : TT} {tk tv : TE} {vs : List Nat} {σ : L2.St} {H : Hp} {Q : VK} {s0 : α} {kvs : List (Key × V)} {ks : List Str} {td : TE}
theorem x_dcKeys (hk : kvs.map (·.1) = ks.map Sum.inr) (hs : HS S B0 H0 B H ((d, .dK kvs) :: Mf s0)) (ev : ∀ (H' : Hp) (Qv : VK), Qv (.ref d) H' → td σ H' Qv) (h0 : P 0 s0 [] B)
    (hb : ∀ o D i x s acc B1 H', ks[i]? = some x → acc.length ≤ i → Same B B1 → HS S B0 H0 B1 H' ((D, .dK acc) :: (d, .frz o (.dK kvs)) :: Mf s) → P i s acc B1 → g (.str x) (wipe σ vs) H' fun σ2 H2 => wipe σ2 vs = wipe σ vs ∧ tt σ2 H2 fun b H3 =>
      if b = true then tk σ2 H3 fun y H4 => tv σ2 H4 fun z H5 => ∃ kvs' k, y = kV k ∧ H5 D = some (.dK kvs') ∧ kvs'.length < sizeLine ∧ DI S B0 H0 B (fun s => (d, HO.frz o (.dK kvs)) :: Mf s) D P (i + 1) (upd H5 D (.dK (putK kvs' k z))) else DI S B0 H0 B (fun s => (d, HO.frz o (.dK kvs)) :: Mf s) D P (i + 1) H3)
    (hd : ∀ D s acc B1 H', Same B B1 → HS S B0 H0 B1 H' ((D, .dK acc) :: (d, .dK kvs) :: Mf s) → acc.length ≤ ks.length → P ks.length s acc B1 → Q (.ref D) H') : tLockE (tDc (iKeys td) g tt tk tv vs) σ H Q := by
  have hlen : kvs.length = ks.length := by
    have := congrArg List.length hk
    simpa using this
  refine ⟨d, .dK kvs, hs.get List.mem_cons_self, trivial, fun o => ?_⟩
  have hs1 := hs.set0 (o' := .frz o (.dK kvs))
  refine x_dc (ev _ _ ⟨d, o, rfl, .inl ⟨kvs, hs1.get List.mem_cons_self, fun D hD => ?_⟩⟩)
  refine ⟨fun i m H' => m = kvs.length - i ∧ i ≤ kvs.length ∧ DI S B0 H0 B (fun s => (d, HO.frz o (.dK kvs)) :: Mf s) D P i H', ⟨kvs.length, by simp, Nat.zero_le _, s0, [], B, Same.refl _, hs1.new hD, Nat.le_refl _, h0⟩, ?_⟩
  rintro i m H' ⟨rfl, hi, s, acc, B1, sb, hs', hl, p⟩
  have gd : H' d = some (.frz o (.dK kvs)) := hs'.get (List.mem_cons_of_mem _ List.mem_cons_self)
  have wk : Walk (Itk d o kvs) kvs.length (fun H => H d = some (.frz o (.dK kvs))) (fun i H v H' => H' = H ∧ ∃ k w, kvs[i]? = some (k, w) ∧ v = kV k) := walk_keys
  by_cases hlt : i < kvs.length
  · refine .inr ⟨wk.goes i H' hlt gd, DI S B0 H0 B (fun s => (d, HO.frz o (.dK kvs)) :: Mf s) D P (i + 1), fun H2 p' => ⟨kvs.length - (i + 1), by omega, rfl, hlt, p'⟩, fun x H2 y => ?_⟩
    obtain ⟨rfl, k, w, e1, rfl⟩ := wk.yields i H' x H2 hlt gd y
    have hki : (kvs.map (·.1))[i]? = some k := by rw [List.getElem?_map, e1]; rfl
    rw [hk, List.getElem?_map] at hki
    cases hx : ks[i]? with
    | none => rw [hx] at hki; cases hki
    | some x =>
      rw [hx] at hki
      cases hki
      exact hb o D i x s acc B1 _ hx hl sb hs' p
  · have e : i = kvs.length := by omega
    subst e
    exact .inl ⟨wk.stops H' gd, gd, hd D s acc B1 _ sb hs'.set1 (by omega) (by rw [← hlen]; exact p)⟩
end
theorem zipV_add {ks : List Str} {g : Str → V} {a : Str} (m : a ∉ ks) : putK (zipV ks g) (.inr a) (g a) = zipV (ks ++ [a]) g := by
  rw [putK_new (zipV_none m)]
  unfold zipV
  rw [List.map_append]
  rfl
abbrev N_Scale___init__ : List Str := ["self", "weights", "rest", "name"]
def t_Scale___init__ (K : PySem.W.Frag) (E : XK) : TS := (tSeq (tDrop (tCl (sp_check_weights K) (WE0 E) (tCons (tVar 1) (tCons (tVar 2) tNil))))
  (tSeq (sFld K (tVar 0) (tVar 2) "rest")
  (sFld K (tVar 0) (tLockE (tDc (iKeys (tVar 1)) (gName 3) (tTest (tOp rNe (tDGet (tVar 1) (tVar 3)) (tVar 2))) (tVar 3) (tDGet (tVar 1) (tVar 3)) [3])) "special")))
def sp_Scale___init__ (K : PySem.W.Frag) : Sp := fun vs H Q E => ∃ (p d dx : Addr) (r : Nat) (B : Hp) (ks : List Str) (f : Str → Nat), vs = [.ref p, .ref d, .int (r : Nat)] ∧ Same B H ∧ B p = none ∧ H p = some (.ins (He.ga K "Scale") dx []) ∧ B d = none ∧ H d = some (.dK (zipV ks (wV f))) ∧ ks.Nodup ∧ ks.length < 64 ∧ (∀ a ∈ ks, okName a = true) ∧
  ∀ B' H', HS [p, d] B H B' H' [(d, .dK (zipV ks (wV f)))] → SAt K B' p (mkScl ks f r) → Q .non H'
theorem pure_Scale___init__ {K : PySem.W.Frag} (sk : SK K) {vs : List V} {H : Hp} {Q : VK} {E : XK} (h : sp_Scale___init__ K vs H Q E) : t_Scale___init__ K E { nx := fun _ H' => Q .non H', rt := Q } (start N_Scale___init__ vs) H := by
  obtain ⟨p, d, dx, r, B, ks, f, rfl, sB, bp, hp, bd, hd, nd, hl, hok, k⟩ := h
  have hpd : p ≠ d := fun e => by rw [e, hd] at hp; cases hp
  have hs : HS [p, d] B H B H [(p, .ins (He.ga K "Scale") dx []), (d, .dK (zipV ks (wV f)))] := HS.ownL (N := [(p, .ins (He.ga K "Scale") dx []), (d, .dK (zipV ks (wV f)))]) (fun q mq => by
    simp only [List.mem_cons, List.not_mem_nil, or_false] at mq
    rcases mq with rfl | rfl
    · exact ⟨bp, hp⟩
    · exact ⟨bd, hd⟩) (by simp [hpd]) (HS.start sB)
  show t_Scale___init__ K E _ [some (.ref p), some (.ref d), some (.int (r : Nat)), none] H
  unfold t_Scale___init__
  obtain ⟨B1, hs1, sb1, ed, back⟩ := HS.lend hs.swap
  refine x_seq (x_drop (x_cl (x_cons (x_var rfl (x_cons (x_var rfl (x_nil ?_)))))))
  refine use_check_weights hs1 ed nd hl hok (fun B2 H2 sb2 hs2 => ?_)
  obtain ⟨B3, hs3, sb3⟩ := back sb2 hs2
  dsimp only
  refine x_seq (x_sfldU (x_var rfl (x_var rfl ?_)))
  refine x_sfld hs3.swap sk.cl sk.n1 (by decide) (fun H4 hs4 => ?_)
  have e1 : putF "rest" (.int (r : Nat)) ([] : List (Str × V)) = ([("rest", .int (r : Nat))] : List (Str × V)) := rfl
  rw [e1] at hs4
  dsimp only
  refine x_sfldU ?_
  refine x_dcKeys (ks := ks) (α := Unit) (Mf := fun _ => [(p, .ins (He.ga K "Scale") dx [("rest", .int (r : Nat))])]) (P := fun i _ acc _ => acc = zipV ((ks.take i).filter fun a => !decide (f a = r)) (wV f)) (s0 := ()) zipV_keys hs4.swap (fun H' Qv q => x_var rfl q) rfl (fun o D i a _ acc B5 H5 ha hacc sb5 hs5 pp => ?_) (fun D _ acc B5 H5 sb5 hs5 hacc pp => ?_)
  · have ma := List.mem_of_getElem? ha
    have hil := (List.getElem?_eq_some_iff.mp ha).1
    have gd : H5 d = some (.frz o (.dK (zipV ks (wV f)))) := hs5.get (List.mem_cons_of_mem _ List.mem_cons_self)
    refine x_gname ⟨rfl, ?_⟩
    refine x_test (x_op (x_dget (x_var rfl (x_var rfl ?_))))
    refine x_dgF gd (zipV_val ma) (x_var rfl (x_ne rfl (x_exb ?_)))
    refine x_ite (fun hb => ?_) (fun hb => ?_)
    · refine x_var rfl (x_dget (x_var rfl (x_var rfl ?_)))
      refine x_dgF gd (zipV_val ma) ?_
      refine d_keep (s := ()) sb5 hs5 hacc (by omega) ?_
      have hne : f a ≠ r := fun e => by simp [wV, e] at hb
      have na : a ∉ (ks.take i).filter fun a => !decide (f a = r) := fun m => notin_take nd ha (List.mem_filter.mp m).1
      rw [pp, zipV_add na, take_snoc ha, List.filter_append]
      simp [hne]
    · refine ⟨(), acc, B5, sb5, hs5, by omega, ?_⟩
      have he : f a = r := by
        refine Classical.byContradiction fun z => ?_
        have : ¬ ((f a : Int) = (r : Int)) := by omega
        simp [wV, this] at hb
      dsimp only
      rw [pp, take_snoc ha, List.filter_append]
      simp [he]
  · rw [List.take_length] at pp
    subst pp
    refine x_var rfl ?_
    have hs5 : HS [p, d] B H B5 H5 ((D, .dK (zipV (ks.filter fun a => !decide (f a = r)) (wV f))) :: (d, .dK (zipV ks (wV f))) :: (p, .ins (He.ga K "Scale") dx [("rest", .int (r : Nat))]) :: []) := hs5
    have hnd := hs5.nd
    simp only [List.map_cons, List.map_nil, List.nodup_cons, List.mem_cons, List.not_mem_nil, or_false, not_or] at hnd
    obtain ⟨hs6, sb6⟩ := hs5.still (by simp only [List.mem_cons, List.not_mem_nil, or_false, not_or]; exact ⟨hnd.1.2, hnd.1.1⟩)
    have eD : upd B5 D (.dK (zipV (ks.filter fun a => !decide (f a = r)) (wV f))) D = some (.dK (zipV (ks.filter fun a => !decide (f a = r)) (wV f))) := upd_same
    generalize upd B5 D (.dK (zipV (ks.filter fun a => !decide (f a = r)) (wV f))) = B6 at hs6 sb6 eD
    refine x_sfld hs6.swap sk.cl sk.n2 (by simp) (fun H7 hs7 => ?_)
    have e2 : putF "special" (.ref D) ([("rest", .int (r : Nat))] : List (Str × V)) = scf r D := by
      unfold putF
      rw [if_neg (show ¬ (("rest" : Str) = "special") by decide +kernel)]
      rfl
    rw [e2] at hs7
    obtain ⟨hs8, sb8⟩ := hs7.freezeA
    exact k _ H7 hs8 ⟨dx, D, upd_same, sb8 _ _ eD⟩
/-- Scale(d, rest=r) -/
theorem use_ScaleA {K : PySem.W.Frag} {S : List Addr} {B0 H0 B H : Hp} {M : List (Addr × HO)} {Q : VK} {W : WX} {σ : L2.St} {d : Addr} {r : Nat} {ks : List Str} {f : Str → Nat} (hs : HS S B0 H0 B H ((d, .dK (zipV ks (wV f))) :: M)) (nd : ks.Nodup) (hl : ks.length < 64) (hok : ∀ a ∈ ks, okName a = true)
    (k : ∀ B' H' p, Same B B' → HS S B0 H0 B' H' ((d, .dK (zipV ks (wV f))) :: M) → SAt K B' p (mkScl ks f r) → Q (.ref p) H') : Mkd (He.ga K "Scale") (sp_Scale___init__ K) W σ Q ([.ref d] ++ [.int (r : Nat)]) H := by
  intro x dx hx hdx hne
  have h1 := (hs.new hdx (o := .own x)).drop
  have hx1 : upd H dx (.own x) x = none := by rw [upd_ne (Ne.symm hne)]; exact hx
  have h2 := h1.new hx1 (o := .ins (He.ga K "Scale") dx [])
  have g1 := h2.mu (x, .ins (He.ga K "Scale") dx []) List.mem_cons_self
  have g2 := h2.mu (d, .dK (zipV ks (wV f))) (List.mem_cons_of_mem _ List.mem_cons_self)
  refine ⟨x, d, dx, r, B, ks, f, rfl, h2.bh, g1.1, g1.2.1, g2.1, g2.2.1, nd, hl, hok, fun B' H' c s => ⟨rfl, ?_⟩⟩
  exact k B' H' x c.bb (HS.callL (N := [(x, .ins (He.ga K "Scale") dx []), (d, .dK (zipV ks (wV f)))]) (N' := [(d, .dK (zipV ks (wV f)))]) h2 c) s
end Q

set_option Elab.async false
set_option linter.all false
set_option maxRecDepth 100000
set_option maxHeartbeats 4000000
namespace Q
open PySem PySem.Spec PyProof.Rows L2
/-! ### the cost of a dealing by a scale -/
theorem dget_getD {ks : List Str} {f : Str → Nat} {r : Nat} {a : Str} : (valV (zipV ks (wV f)) (.inr a)).getD (.int (r : Nat)) = .int (wtF ks f r a : Nat) := by
  unfold wtF
  by_cases m : a ∈ ks
  · rw [zipV_val m, if_pos m]; rfl
  · rw [zipV_none m, if_neg m]; rfl
abbrev N_Scale_weight : List Str := ["self", "name"]
def t_Scale_weight (K : PySem.W.Frag) (E : XK) : TS := (tRet (tDGet2 (tFld K (tVar 0) "special") (tVar 1) (tFld K (tVar 0) "rest")))
def sp_Scale_weight (K : PySem.W.Frag) : Sp := fun vs H Q E => ∃ (p : Addr) (a : Str) (B : Hp) (S : Scl), vs = [.ref p, .str a] ∧ Same B H ∧ SAt K B p S ∧ Ret B H Q fun _ v => v = .int (S.wt a : Nat)
theorem pure_Scale_weight {K : PySem.W.Frag} (sk : SK K) {vs : List V} {H : Hp} {Q : VK} {E : XK} (h : sp_Scale_weight K vs H Q E) : t_Scale_weight K E { nx := fun _ H' => Q .non H', rt := Q } (start N_Scale_weight vs) H := by
  obtain ⟨p, a, B, S, rfl, sB, s, k⟩ := h
  have hs := HS.start sB
  obtain ⟨dx, sp, ep, es⟩ := s
  show t_Scale_weight K E _ [some (.ref p), some (.str a)] H
  unfold t_Scale_weight
  refine x_ret (x_fldU (x_var rfl ?_))
  refine x_fld (hs.up ep) sk.cl sk.n2 (scf_special _ _) ?_
  refine ⟨sp, rfl, .inl ⟨_, .inl (hs.up es)⟩, x_var rfl (x_fldU (x_var rfl ?_))⟩
  refine x_fld (hs.up ep) sk.cl sk.n1 (scf_rest _ _) ?_
  refine ⟨_, DGet.k (k := Sum.inr a) (hs.up es), ?_⟩
  rw [dget_getD]
  exact k B H _ hs rfl
theorem use_weight {K : PySem.W.Frag} {S : List Addr} {B0 H0 B H : Hp} {M : List (Addr × HO)} {Q : VK} {E : XK} {p : Addr} {a : Str} {Z : Scl} (hs : HS S B0 H0 B H M) (s : SAt K B p Z)
    (k : ∀ B' H', Same B B' → HS S B0 H0 B' H' M → Q (.int (Z.wt a : Nat)) H') : sp_Scale_weight K [.ref p, .str a] H Q E := ⟨p, a, B, Z, rfl, hs.bh, s, fun B' H' v' c e => by rw [e]; exact k B' H' c.bb (hs.call c)⟩
/-- the cost: rank times weight, over all who are dealt -/
def ctL (op : Str → List Str) (w : Str → Nat) (m : Str → Option Str) (xs : List Str) : List Nat := xs.filterMap fun a => (m a).map fun b => (op a).idxOf b * w a
def costR (op : Str → List Str) (w : Str → Nat) (xs : List Str) (m : Str → Option Str) : Nat := (ctL op w m xs).sum
abbrev N_Scale___call__ : List Str := ["self", "group", "x", "costs", "a"]
def t_Scale___call__ (K : PySem.W.Frag) (E : XK) : TS := (tSeq (tDrop (tCl (sp_check_dealing K) (WE0 E) (tCons (tVar 1) (tCons (tVar 2) tNil))))
  (tSeq (tAsg (tLc (iList K (tMt (He.ga K "Group") "people" (sp_Group_people K) (WE0 E) (tVar 1) tNil)) (gName 4) (tB (tNotN (tDGet (tVar 2) (tVar 4)))) (tOp rMulI (tMt (He.ga K "Group") "rank" (sp_Group_rank K) W0 (tVar 1) (tCons (tVar 4) (tCons (tDGet (tVar 2) (tVar 4)) tNil))) (tMt (He.ga K "Scale") "weight" (sp_Scale_weight K) W0 (tVar 0) (tCons (tVar 4) tNil))) [4]) (gName 3))
  (tRet (tCB (rSum K) (tCons (tVar 3) tNil)))))
def sp_Scale___call__ (K : PySem.W.Frag) : Sp := fun vs H Q E => ∃ (q p : Addr) (v : V) (B : Hp) (Z : Scl) (G : Grp) (d : D), vs = [.ref q, .ref p, v] ∧ Same B H ∧ SAt K B q Z ∧ GAt K B p G ∧ Rep K B v d ∧ plainV d ∧ (isDeal G.names G.open d = false → Thr0 K B H E "NoDealing") ∧ (isDeal G.names G.open d = true → Ret B H Q fun _ r => r = .int (costR G.open Z.wt G.names (part d) : Nat))
abbrev N_least_total : List Str := ["group", "scale", "dealings", "found", "cost", "x", "other"]
def t_least_total (K : PySem.W.Frag) (E : XK) : TS := (tSeq (tAsg (tCl (sp_all_calm K) (WE0 E) (tCons (tVar 0) tNil)) (gName 2))
  (tSeq (tAsg (tOp (rIxL K) (tVar 2) (tC (.int 0))) (gName 3))
  (tSeq (tAsg (tClI 1 (He.ga K "Scale") (sp_Scale___call__ K) (WE0 E) (tCons (tVar 0) (tCons (tVar 3) tNil))) (gName 4))
  (tSeq (tFor (iList K (tVar 2)) (gName 5) (tSeq (tAsg (tClI 1 (He.ga K "Scale") (sp_Scale___call__ K) (WE0 E) (tCons (tVar 0) (tCons (tVar 5) tNil))) (gName 6))
  (tIfS (tTest (tOp rLtI (tVar 6) (tVar 4))) (tPar 3 4 (tCons (tVar 5) (tCons (tVar 6) tNil))) tNext)))
  (tRet (tTup (tCons (tVar 4) (tCons (tVar 3) tNil))))))))
def sp_least_total (K : PySem.W.Frag) : Sp := fun vs H Q E => ∃ (p q : Addr) (B : Hp) (G : Grp) (Z : Scl), vs = [.ref p, .ref q] ∧ Same B H ∧ GAt K B p G ∧ SAt K B q Z ∧ Wall K B H E G (∀ f, f ∈ calmF G → (∀ g ∈ calmF G, costR G.open Z.wt G.names f ≤ costR G.open Z.wt G.names g) → ∀ B' H' T x, HS [] B H B' H' [(x, .dK (zipO G.names f))] → B' T = some (.tup [.int (costR G.open Z.wt G.names f : Nat), .ref x]) → Q (.ref T) H')
end Q

set_option Elab.async false
set_option linter.all false
set_option maxRecDepth 100000
set_option maxHeartbeats 4000000
namespace Q
open PySem PySem.Spec PyProof.Rows L2
/-! ### the law's own weights -/
abbrev N__law_big : List Str := ["_law_state", "_law_kind", "_law_number"]
def t__law_big (K : PySem.W.Frag) (E : XK) : TS := (tSeq (tAsg (tCl (sp__law_take K) (WE0 E) (tCons (tVar 0) (tCons (tC (.int 4)) tNil))) (gName 1))
  (tSeq (tIfS (tTest (tOp rEq (tVar 1) (tC (.int 0)))) (tRet (tC (.int 0))) tNext)
  (tSeq (tIfS (tTest (tOp rEq (tVar 1) (tC (.int 1)))) (tRet (tCl (sp__law_take K) (WE0 E) (tCons (tVar 0) (tCons (tC (.int 5)) tNil)))) tNext)
  (tSeq (tAsg (tCl (sp__law_take K) (WE0 E) (tCons (tVar 0) (tCons (tOp rPowI (tC (.int 10)) (tC (.int 9))) tNil))) (gName 2))
  (tSeq (tIfS (tTest (tOp rEq (tVar 1) (tC (.int 2)))) (tRet (tVar 2)) tNext)
  (tRet (tOp rAddI (tOp rMulI (tVar 2) (tOp rPowI (tC (.int 10)) (tC (.int 30)))) (tCl (sp__law_take K) (WE0 E) (tCons (tVar 0) (tCons (tOp rPowI (tC (.int 10)) (tC (.int 30))) tNil))))))))))
def sp__law_big (K : PySem.W.Frag) : Sp := fun vs H Q E => ∃ p a b B, vs = [.ref p] ∧ Same B H ∧ B p = none ∧ H p = some (stO a b) ∧ VSt a b ∧ ∀ B' H' a' b' (n : Nat), HS [p] B H B' H' [(p, stO a' b')] → VSt a' b' → Q (.int (n : Nat)) H'
theorem pure__law_big {K : PySem.W.Frag} {vs : List V} {H : Hp} {Q : VK} {E : XK} (h : sp__law_big K vs H Q E) : t__law_big K E { nx := fun _ H' => Q .non H', rt := Q } (start N__law_big vs) H := by
  obtain ⟨p, a, b, B, rfl, sB, bp, hp, hv, k⟩ := h
  have hs := HS.startS sB bp hp
  show t__law_big K E _ [some (.ref p), none, none] H
  unfold t__law_big
  refine x_seq (x_asg (x_cl (x_cons (x_var rfl (x_cons (x_c (x_nil ?_)))))))
  refine use_take hs hv (by decide) (by decide) (fun B1 H1 a1 b1 n1 sb1 hs1 hv1 hn1 => ?_)
  refine x_gname ?_
  dsimp only [List.set]
  refine x_seq (x_if (x_test (x_op (x_var rfl (x_c (x_eq rfl (x_exb ?_)))))))
  refine x_ite (fun _ => ?_) (fun _ => ?_)
  · exact x_ret (x_c (k B1 H1 a1 b1 0 hs1 hv1))
  refine x_next ?_
  dsimp only
  refine x_seq (x_if (x_test (x_op (x_var rfl (x_c (x_eq rfl (x_exb ?_)))))))
  refine x_ite (fun _ => ?_) (fun _ => ?_)
  · refine x_ret (x_cl (x_cons (x_var rfl (x_cons (x_c (x_nil ?_))))))
    exact use_take hs1 hv1 (by decide) (by decide) (fun B2 H2 a2 b2 n2 _ hs2 hv2 _ => k B2 H2 a2 b2 n2 hs2 hv2)
  refine x_next ?_
  dsimp only
  refine x_seq (x_asg (x_cl (x_cons (x_var rfl (x_cons (x_op (x_c (x_c (x_powI ⟨by decide, by decide, by decide⟩ (x_nil ?_))))))))))
  refine use_take hs1 hv1 (by decide) (by decide) (fun B2 H2 a2 b2 n2 sb2 hs2 hv2 hn2 => ?_)
  have hn2 : (n2 : Int) < 1000000000 := hn2
  refine x_gname ?_
  dsimp only [List.set]
  refine x_seq (x_if (x_test (x_op (x_var rfl (x_c (x_eq rfl (x_exb ?_)))))))
  refine x_ite (fun _ => ?_) (fun _ => ?_)
  · exact x_ret (x_var rfl (k B2 H2 a2 b2 n2 hs2 hv2))
  refine x_next ?_
  dsimp only
  refine x_ret (x_op (x_op (x_var rfl (x_op (x_c (x_c (x_powI ⟨by decide, by decide, by decide⟩ (x_mulI (.inl ⟨by omega, by omega⟩) ?_))))))))
  refine x_cl (x_cons (x_var rfl (x_cons (x_op (x_c (x_c (x_powI ⟨by decide, by decide, by decide⟩ (x_nil ?_))))))))
  refine use_take hs2 hv2 (by decide) (by decide) (fun B3 H3 a3 b3 n3 sb3 hs3 hv3 hn3 => ?_)
  refine x_addI ?_
  have e : ((n2 : Nat) : Int) * (10 : Int) ^ (30 : Int).toNat + ((n3 : Nat) : Int) = ((n2 * 1000000000000000000000000000000 + n3 : Nat) : Int) := by
    rw [show (10 : Int) ^ (30 : Int).toNat = 1000000000000000000000000000000 by decide]
    omega
  rw [e]
  exact k B3 H3 a3 b3 _ hs3 hv3
theorem use_big {K : PySem.W.Frag} {S : List Addr} {B0 H0 B H : Hp} {M : List (Addr × HO)} {Q : VK} {E : XK} {p : Addr} {a b : Int} (hs : HS S B0 H0 B H ((p, stO a b) :: M)) (v : VSt a b)
    (k : ∀ B' H' a' b' (n : Nat), Same B B' → HS S B0 H0 B' H' ((p, stO a' b') :: M) → VSt a' b' → Q (.int (n : Nat)) H') : sp__law_big K [.ref p] H Q E :=
  ⟨p, a, b, B, rfl, hs.bh, (hs.mu _ List.mem_cons_self).1, hs.get List.mem_cons_self, v, fun B' H' a' b' n c v' => k B' H' a' b' n c.bb (hs.call1 c) v'⟩
theorem wV_upd {f : Str → Nat} {a : Str} {n : Nat} : updW (wV f) a (.int (n : Nat)) = wV (updW f a n) := by
  funext b
  by_cases e : b = a
  · rw [e, updW_eq]; unfold wV; rw [updW_eq]
  · rw [updW_ne e]; unfold wV; rw [updW_ne e]
abbrev N__law_weights : List Str := ["_law_state", "_law_names_here", "_law_weights_here", "_law_a"]
def t__law_weights (K : PySem.W.Frag) (E : XK) : TS := (tSeq (tAsg tDNewK (gName 2))
  (tSeq (tFor (iList K (tCl (sp__law_mixed K) (WE0 E) (tCons (tVar 0) (tCons (tVar 1) tNil)))) (gName 3) (tIfS (tTest (tOp rGtI (tCl (sp__law_take K) (WE0 E) (tCons (tVar 0) (tCons (tC (.int 3)) tNil))) (tC (.int 0)))) (sDPut (tVar 2) (tVar 3) (tCl (sp__law_big K) (WE0 E) (tCons (tVar 0) tNil))) tNext))
  (tRet (tVar 2))))
def sp__law_weights (K : PySem.W.Frag) : Sp := fun vs H Q E => ∃ (p n : Addr) (a b : Int) (B : Hp) (xs : List Str), vs = [.ref p, .ref n] ∧ Same B H ∧ B p = none ∧ H p = some (stO a b) ∧ VSt a b ∧ B n = some (.lst (xs.map V.str)) ∧ xs.Nodup ∧ xs.length ≤ 100 ∧
  ∀ B' H' a' b' d ks f, HS [p] B H B' H' [(p, stO a' b'), (d, .dK (zipV ks (wV f)))] → VSt a' b' → ks.Nodup → (∀ q ∈ ks, q ∈ xs) → Q (.ref d) H'
theorem pure__law_weights {K : PySem.W.Frag} {vs : List V} {H : Hp} {Q : VK} {E : XK} (h : sp__law_weights K vs H Q E) : t__law_weights K E { nx := fun _ H' => Q .non H', rt := Q } (start N__law_weights vs) H := by
  obtain ⟨p, n, a, b, B, xs, rfl, sB, bp, hp, hv, en, nd, hxl, k⟩ := h
  have hs := HS.startS sB bp hp
  show t__law_weights K E _ [some (.ref p), some (.ref n), none, none] H
  unfold t__law_weights
  refine x_seq (x_asg (x_dnew ?_))
  refine new_M hs (fun d H1 hs1 hd1 => ?_)
  have hdp : d ≠ p := fun e => by rw [e, hp] at hd1; cases hd1
  refine x_gname ?_
  dsimp only [List.set]
  refine x_seq (x_for (x_iList (x_cl (x_cons (x_var rfl (x_cons (x_var rfl (x_nil ?_))))))))
  refine use_mixed hs1.swap hv en hxl (fun B2 H2 a2 b2 l ys sb2 hs2 hv2 pe => ?_)
  obtain ⟨B3, hs3, sb3, el⟩ := hs2.stillN (by simpa using Ne.symm hs2.ne01)
  have ndy := pe.nodup_iff.mpr nd
  have hyl := pe.length_eq
  refine ⟨l, rfl, ⟨_, SqL.of (hs3.up el)⟩, ?_⟩
  refine l_list (α := (Int × Int) × (List Str × (Str → Nat)) × Option V) (σf := fun z => [some (.ref p), some (.ref n), some (.ref d), z.2.2]) (Mf := fun z => [(p, stO z.1.1 z.1.2), (d, .dK (zipV z.2.1.1 (wV z.2.1.2)))]) (P := fun i z _ => VSt z.1.1 z.1.2 ∧ z.2.1.1.Nodup ∧ ∀ q ∈ z.2.1.1, q ∈ ys.take i) (s0 := ((a2, b2), ([], fun _ => 0), none)) hs3 el ⟨hv2, List.nodup_nil, fun _ z => (nomatch z)⟩ (fun i v z B4 H4 hi sb4 hs4 pp => ?_) (fun z B4 H4 sb4 hs4 pp => ?_)
  · obtain ⟨⟨a4, b4⟩, ⟨ks, f⟩, z3⟩ := z
    obtain ⟨hv4, ndk, hks⟩ := pp
    dsimp only at hs4 hv4 ndk hks ⊢
    obtain ⟨q, hq, rfl⟩ := strs_get hi
    have hks2 : ∀ r ∈ ks, r ∈ ys.take (i + 1) := fun r mr => by rw [take_snoc hq]; exact List.mem_append_left _ (hks r mr)
    have hkl : ks.length ≤ 100 := by
      have h1 := nodup_len ndk hks
      rw [List.length_take] at h1
      omega
    refine x_gname ?_
    dsimp only [List.set]
    refine x_if (x_test (x_op (x_cl (x_cons (x_var rfl (x_cons (x_c (x_nil ?_))))))))
    refine use_take hs4 hv4 (by decide) (by decide) (fun B5 H5 a5 b5 n5 sb5 hs5 hv5 hn5 => ?_)
    refine x_c (x_gtI (x_exb ?_))
    refine x_ite (fun _ => ?_) (fun _ => ?_)
    · refine x_dputU (x_cl (x_cons (x_var rfl (x_nil ?_))))
      refine use_big hs5 hv5 (fun B6 H6 a6 b6 n6 sb6 hs6 hv6 => ?_)
      refine x_var rfl (x_var rfl ?_)
      refine x_dput hs6.swap (by rw [zipV_len]; omega) (fun H7 hs7 => ?_)
      have nq : q ∉ ks := fun m => notin_take ndy hq (hks q m)
      rw [zipV_new nq, wV_upd] at hs7
      refine ⟨((a6, b6), (ks ++ [q], updW f q n6), some (.str q)), B6, rfl, (sb4.trans sb5).trans sb6, hs7.swap, hv6, ?_, fun r mr => ?_⟩
      · exact List.nodup_append.mpr ⟨ndk, by simp, fun x mx y my e => by rw [List.mem_singleton.mp my] at e; exact nq (e ▸ mx)⟩
      · rcases List.mem_append.mp mr with mr | mr
        · exact hks2 r mr
        · rw [List.mem_singleton.mp mr, take_snoc hq]
          exact List.mem_append_right _ List.mem_cons_self
    · refine x_next ⟨((a5, b5), (ks, f), some (.str q)), B5, rfl, sb4.trans sb5, hs5, hv5, ndk, hks2⟩
  · obtain ⟨⟨a4, b4⟩, ⟨ks, f⟩, z3⟩ := z
    obtain ⟨hv4, ndk, hks⟩ := pp
    dsimp only at hs4 hv4 ndk hks ⊢
    refine x_ret (x_var rfl ?_)
    exact k B4 H4 a4 b4 d ks f hs4 hv4 ndk fun q mq => pe.mem_iff.mp (List.mem_of_mem_take (hks q mq))
theorem use_weights {K : PySem.W.Frag} {S : List Addr} {B0 H0 B H : Hp} {M : List (Addr × HO)} {Q : VK} {E : XK} {p n : Addr} {a b : Int} {xs : List Str} (hs : HS S B0 H0 B H ((p, stO a b) :: M)) (v : VSt a b) (en : B n = some (.lst (xs.map V.str))) (nd : xs.Nodup) (hl : xs.length ≤ 100)
    (k : ∀ B' H' a' b' d ks f, Same B B' → HS S B0 H0 B' H' ((p, stO a' b') :: (d, .dK (zipV ks (wV f))) :: M) → VSt a' b' → ks.Nodup → (∀ q ∈ ks, q ∈ xs) → Q (.ref d) H') : sp__law_weights K [.ref p, .ref n] H Q E :=
  ⟨p, n, a, b, B, xs, rfl, hs.bh, (hs.mu _ List.mem_cons_self).1, hs.get List.mem_cons_self, v, en, nd, hl, fun B' H' a' b' d ks f c v' h1 h2 => k B' H' a' b' d ks f c.bb (hs.call1N c) v' h1 h2⟩
abbrev N__law_cost : List Str := ["_law_mutual_here", "_law_weights_here", "_law_other", "_law_x", "_law_cost_here", "_law_a", "_law_weight"]
def t__law_cost (K : PySem.W.Frag) (E : XK) : TS := (tSeq (tAsg (tC (.int 0)) (gName 4))
  (tSeq (tLock (tFor (iKeys (tVar 0)) (gName 5) (tIfS (tB (tNotN (tDGet (tVar 3) (tVar 5)))) (tSeq (tAsg (tVar 2) (gName 6))
  (tSeq (tIfS (tB (tDIn (tVar 5) (tVar 1))) (tAsg (tDGet (tVar 1) (tVar 5)) (gName 6)) tNext)
  (tAug 4 (tOp rMulI (tBM K "list" (rIndex K) (tDGet (tVar 0) (tVar 5)) (tCons (tDGet (tVar 3) (tVar 5)) tNil)) (tVar 6)) (ipI fun i j => i + j)))) tNext)))
  (tRet (tVar 4))))
def sp__law_cost (K : PySem.W.Frag) : Sp := fun vs H Q E => ∃ (m dw px : Addr) (r : Nat) (B : Hp) (xs : List Str) (f : Str → List Str) (kvm kx : List (Key × V)) (x : Str → Option Str) (ks : List Str) (wf : Str → Nat), vs = [.ref m, .ref dw, .int (r : Nat), .ref px] ∧ Same B H ∧ B m = none ∧ H m = some (.dK kvm) ∧ WAt B xs kvm f ∧ Mut xs f ∧ B dw = some (.dK (zipV ks (wV wf))) ∧
  (∀ a ∈ xs, B px = some (.dK kx)) ∧ (∀ a ∈ xs, valV kx (.inr a) = some (optV (x a))) ∧ (∀ a ∈ xs, ∀ b, x a = some b → b ∈ f a) ∧ ∀ B' H' v, HS [m] B H B' H' [(m, .dK kvm)] → v = .int (costR f (wtF ks wf r) xs x : Nat) → Q v H'
end Q

set_option Elab.async false
set_option linter.all false
set_option maxRecDepth 100000
set_option maxHeartbeats 4000000
namespace Q
open PySem PySem.Spec PyProof.Rows L2
/-! ### x + y by one's own __add__, both of one class -/
def rPlusG (C : Addr) (sp : Sp) : R2 := fun x y H Q => ∃ a b dx fs dy gs, x = .ref a ∧ y = .ref b ∧ H a = some (.ins C dx fs) ∧ H b = some (.ins C dy gs) ∧ sp [.ref a, .ref b] H (fun v H' => ∃ r, v = .ref r ∧ Q (.ref r) H') fun _ _ _ => False
section
variable {X : Cx} {k j : Nat} {c : Str} {ps : List Str} {sp : Sp}
theorem o_addG (F : Mt X.prog X.w X.K X.mg X.base k c "__add__" ps sp) (hsf : PySem.W.selfFirst X.K (He.ga X.K c) = true) (hr : Room j X.A) (hj : k ≤ j) : OpR X (binaryOp .Add) (rPlusG (He.ga X.K c) sp) := by
  intro pins s σ H x y v u Q I rx ry h
  obtain ⟨a, b, dx, fs, dy, gs, rfl, rfl, ea, eb, q⟩ := h
  cases rx
  cases ry
  obtain ⟨f, fd, cl, hm, hb, F⟩ := F
  obtain ⟨mA, J, _⟩ := ins_get I.hok ea
  obtain ⟨od, J, _⟩ := J.look
  obtain ⟨mB, J', _⟩ := ins_get I.hok eb
  obtain ⟨od', J', _⟩ := J'.look
  obtain ⟨m, hF⟩ := I.fr
  have hd : PySem.W.findIn X.K (.ref (He.ga X.K c)) (PySem.dunder (Operator.info .Add).2) = some (some (.ref f)) := by
    rw [show PySem.dunder (Operator.info .Add).2 = ("__add__" : Str) by decide +kernel]
    exact hm.at_
  refine PySem.W.binop_K (op := .Add) hF I.ok.mod.kin J J'.type hsf hd hm.fn ?_
  refine wpAny_mono (run_fnS (E := WE W0) (us := [.ref a, .ref b]) (vs := [.ref a, .ref b]) F (hr.mono hj) hb (passAt takes0 σ) I (.cons rfl (.cons rfl .nil)) q) (fun r s' hh => ?_) fun _ _ z => z
  obtain ⟨z, H', I', rz, b, ez, qq⟩ := hh
  subst ez
  cases rz
  exact ⟨.ref b, H', I', rfl, qq⟩
end
/-! ### isinstance(x, Scale) -/
structure SI (K : PySem.W.Frag) : Prop where
  ik : InsK K (He.ga K "Scale")
  own : PySem.W.kitOne K (.ref (He.ga K "Scale")) (.ref (He.ga K "Scale")) = some true
end Q

set_option Elab.async false
set_option linter.all false
set_option maxRecDepth 100000
set_option maxHeartbeats 4000000
namespace Q
open PySem PySem.Spec PyProof.Rows L2
/-! ### scales compared and added -/
theorem x_isiC {K : PySem.W.Frag} {B H : Hp} {Q : VK} {p : Addr} {Z : Scl} {S : List Addr} {B0 H0 : Hp} {M : List (Addr × HO)} (si : SI K) (hs : HS S B0 H0 B H M) (s : SAt K B p Z) (h : Q (.bl true) H) : rIsi K [.ref p, .ref (He.ga K "Scale")] H Q := by
  obtain ⟨dx, sp, e, _⟩ := s
  exact ⟨_, _, _, _, true, rfl, .own _, .base (.ins (hs.up e) si.ik.cl si.ik.ha si.ik.hn si.ik.tk si.ik.mo), si.own, h⟩
def eqScl (S T : Scl) : Bool := decide (S.r = T.r) && (decide (S.ks.length = T.ks.length) && S.ks.all fun a => decide (a ∈ T.ks) && decide (S.f a = T.f a))
/-- no weight is told that is the rest's -/
structure Scl.Ok (S : Scl) : Prop where
  nd : S.ks.Nodup
  ne : ∀ a ∈ S.ks, S.f a ≠ S.r
theorem mkScl_ok {ks : List Str} {f : Str → Nat} {r : Nat} (nd : ks.Nodup) : (mkScl ks f r).Ok := ⟨nd.filter _, fun a m => by
  have : ¬ f a = r := by have := (List.mem_filter.mp m).2; simpa using this
  exact this⟩
theorem mkScl_in {ks : List Str} {f : Str → Nat} {r : Nat} {a : Str} (m : a ∈ (mkScl ks f r).ks) : a ∈ ks := (List.mem_filter.mp m).1
theorem Scl.wt_in {S : Scl} {a : Str} (m : a ∈ S.ks) : S.wt a = S.f a := if_pos m
theorem Scl.wt_out {S : Scl} {a : Str} (m : a ∉ S.ks) : S.wt a = S.r := if_neg m
theorem eqScl_wt {S T : Scl} (oS : S.Ok) (oT : T.Ok) {xs : List Str} (hS : ∀ a ∈ S.ks, a ∈ xs) (hT : ∀ a ∈ T.ks, a ∈ xs) : eqScl S T = (decide (S.r = T.r) && xs.all fun a => decide (S.wt a = T.wt a)) := by
  rw [Bool.eq_iff_iff]
  unfold eqScl
  simp only [Bool.and_eq_true, decide_eq_true_eq, List.all_eq_true]
  constructor
  · rintro ⟨h1, h2, h3⟩
    refine ⟨h1, fun a ma => ?_⟩
    by_cases m : a ∈ S.ks
    · rw [Scl.wt_in m, Scl.wt_in (h3 a m).1]; exact (h3 a m).2
    · have m' : a ∉ T.ks := fun mt => by
        have h4 := nodup_len (xs := a :: S.ks) (ys := T.ks) (List.nodup_cons.mpr ⟨m, oS.nd⟩) fun b mb => by
          rcases List.mem_cons.mp mb with rfl | mb
          · exact mt
          · exact (h3 b mb).1
        rw [List.length_cons] at h4
        omega
      rw [Scl.wt_out m, Scl.wt_out m']; exact h1
  · rintro ⟨h1, h2⟩
    have key : ∀ a ∈ S.ks, a ∈ T.ks := fun a m => Classical.byContradiction fun n => by
      have := h2 a (hS a m)
      rw [Scl.wt_in m, Scl.wt_out n, ← h1] at this
      exact oS.ne a m this
    have key2 : ∀ a ∈ T.ks, a ∈ S.ks := fun a m => Classical.byContradiction fun n => by
      have := h2 a (hT a m)
      rw [Scl.wt_in m, Scl.wt_out n, h1] at this
      exact oT.ne a m this.symm
    have l1 := nodup_len oS.nd key
    have l2 := nodup_len oT.nd key2
    refine ⟨h1, by omega, fun a m => ⟨key a m, ?_⟩⟩
    have := h2 a (hS a m)
    rw [Scl.wt_in m, Scl.wt_in (key a m)] at this
    exact this
abbrev N_Scale___eq__ : List Str := ["self", "other"]
def t_Scale___eq__ (K : PySem.W.Frag) (E : XK) : TS := (tRet (tAndV (tCB (rIsi K) (tCons (tVar 1) (tCons (tC (.ref (He.ga K "Scale"))) tNil))) (tAndV (tOp rEq (tFld K (tVar 0) "rest") (tFld K (tVar 1) "rest")) (tOp (rEqE K) (tFld K (tVar 0) "special") (tFld K (tVar 1) "special")))))
def sp_Scale___eq__ (K : PySem.W.Frag) : Sp := fun vs H Q E => ∃ (p q : Addr) (B : Hp) (S T : Scl), vs = [.ref p, .ref q] ∧ Same B H ∧ SAt K B p S ∧ SAt K B q T ∧ Ret B H Q fun _ v => v = .bl (eqScl S T)
theorem pure_Scale___eq__ {K : PySem.W.Frag} (sk : SK K) (si : SI K) {vs : List V} {H : Hp} {Q : VK} {E : XK} (h : sp_Scale___eq__ K vs H Q E) : t_Scale___eq__ K E { nx := fun _ H' => Q .non H', rt := Q } (start N_Scale___eq__ vs) H := by
  obtain ⟨p, q, B, S, T, rfl, sB, s, t, k⟩ := h
  have hs := HS.start sB
  obtain ⟨dx, sp, ep, es⟩ := id s
  obtain ⟨dy, tp, eq, et⟩ := id t
  show t_Scale___eq__ K E _ [some (.ref p), some (.ref q)] H
  unfold t_Scale___eq__
  refine x_ret (x_andV (x_cb (x_cons (x_var rfl (x_cons (x_c (x_nil ?_)))))))
  refine x_isiC si hs t (x_exb (x_iteT rfl ?_))
  refine x_andV (x_op (x_fldU (x_var rfl ?_)))
  refine x_fld (hs.up ep) sk.cl sk.n1 (scf_rest _ _) (x_fldU (x_var rfl ?_))
  refine x_fld (hs.up eq) sk.cl sk.n1 (scf_rest _ _) (x_eq rfl (x_exb ?_))
  refine x_ite (fun h => ?_) (fun h => ?_)
  · have h1 : S.r = T.r := by
      have : V.int (S.r : Nat) = V.int (T.r : Nat) := of_decide_eq_true h
      injection this with e
      omega
    refine x_op (x_fldU (x_var rfl ?_))
    refine x_fld (hs.up ep) sk.cl sk.n2 (scf_special _ _) (x_fldU (x_var rfl ?_))
    refine x_fld (hs.up eq) sk.cl sk.n2 (scf_special _ _) ?_
    refine ⟨1, _, by omega, .inr ⟨sp, tp, _, _, fun k => match k with | .inr a => decide (S.f a = T.f a) | .inl _ => true, rfl, rfl, hs.up es, hs.up et, fun k u v m hv => ?_, rfl⟩, ?_⟩
    · unfold zipV at m
      obtain ⟨a, ma, e⟩ := List.mem_map.mp m
      cases e
      have ma' : a ∈ T.ks := Classical.byContradiction fun n => by rw [zipV_none n] at hv; cases hv
      rw [zipV_val ma'] at hv
      cases hv
      refine .inl ⟨rfl, rfl, ?_⟩
      dsimp only
      unfold wV
      show decide (S.f a = T.f a) = eqV (.int (S.f a : Nat)) (.int (T.f a : Nat))
      by_cases z : S.f a = T.f a
      · rw [z]; simp [eqV]
      · have : ¬ ((S.f a : Int) = (T.f a : Int)) := by omega
        simp [eqV, z, this]
    · refine k B H _ hs (congrArg V.bl ?_)
      unfold eqScl
      rw [decide_eq_true h1, Bool.true_and, zipV_len, zipV_len]
      congr 1
      rw [Bool.eq_iff_iff]
      simp only [List.all_eq_true, Bool.and_eq_true, decide_eq_true_eq]
      constructor
      · intro h a ma
        have := h (.inr a, wV S.f a) (List.mem_map.mpr ⟨a, ma, rfl⟩)
        dsimp only at this
        rw [zipV_isSome] at this
        exact ⟨of_decide_eq_true this.1, of_decide_eq_true this.2⟩
      · intro h q mq
        obtain ⟨a, ma, rfl⟩ := List.mem_map.mp mq
        dsimp only
        rw [zipV_isSome]
        exact ⟨decide_eq_true (h a ma).1, decide_eq_true (h a ma).2⟩
  · refine k B H _ hs (congrArg V.bl ?_)
    have h1 : ¬ S.r = T.r := fun e => by
      rw [e] at h
      simp at h
    unfold eqScl
    rw [decide_eq_false h1, Bool.false_and]
theorem use_eqScl {K : PySem.W.Frag} {S : List Addr} {B0 H0 B H : Hp} {M : List (Addr × HO)} {Q : VK} {p q : Addr} {Z T : Scl} (hs : HS S B0 H0 B H M) (s : SAt K B p Z) (t : SAt K B q T)
    (k : ∀ B' H', Same B B' → HS S B0 H0 B' H' M → Q (.bl (eqScl Z T)) H') : rEqG (He.ga K "Scale") (sp_Scale___eq__ K) (.ref p) (.ref q) H Q := by
  obtain ⟨dx, sp, ep, es⟩ := id s
  obtain ⟨dy, tp, eq, et⟩ := id t
  exact ⟨p, q, dx, _, dy, _, rfl, rfl, hs.up ep, hs.up eq, p, q, B, Z, T, rfl, hs.bh, s, t, fun B' H' v c e => ⟨_, e, k B' H' c.bb (hs.call c)⟩⟩
/-- each one once, where it first stands -/
def ddS (l : List Str) : List Str := l.foldl (fun acc a => if a ∈ acc then acc else acc ++ [a]) []
theorem ddS_snoc (l : List Str) (a : Str) : ddS (l ++ [a]) = if a ∈ ddS l then ddS l else ddS l ++ [a] := by
  unfold ddS
  rw [List.foldl_append]
  rfl
theorem ddS_rec {P : List Str → List Str → Prop} (h0 : P [] []) (hs : ∀ l a, P l (ddS l) → P (l ++ [a]) (if a ∈ ddS l then ddS l else ddS l ++ [a])) (l : List Str) : P l (ddS l) := by
  have key : ∀ n, ∀ l : List Str, l.length = n → P l (ddS l) := by
    intro n
    induction n with
    | zero => intro l h; rw [List.length_eq_zero_iff.mp h]; exact h0
    | succ n ih =>
      intro l h
      have hne : l ≠ [] := fun e => by rw [e] at h; cases h
      have e := List.dropLast_concat_getLast hne
      have := hs l.dropLast (l.getLast hne) (ih _ (by rw [List.length_dropLast]; omega))
      rw [← ddS_snoc, e] at this
      exact this
  exact key _ l rfl
theorem mem_ddS {l : List Str} {a : Str} : a ∈ ddS l ↔ a ∈ l := by
  refine ddS_rec (P := fun l d => a ∈ d ↔ a ∈ l) (by simp) (fun l b ih => ?_) l
  split
  · rename_i mb
    rw [ih, List.mem_append, List.mem_singleton]
    constructor
    · exact .inl
    · rintro (h | h)
      · exact h
      · rw [h]; exact (ddS_rec (P := fun l d => ∀ c ∈ d, c ∈ l) (by simp) (fun l b ih c mc => by
          split at mc
          · exact List.mem_append_left _ (ih c mc)
          · rcases List.mem_append.mp mc with m | m
            · exact List.mem_append_left _ (ih c m)
            · exact List.mem_append_right _ m) l) b mb
  · rw [List.mem_append, List.mem_append, ih]
theorem nd_ddS (l : List Str) : (ddS l).Nodup := by
  refine ddS_rec (P := fun _ d => d.Nodup) List.nodup_nil (fun l a ih => ?_) l
  split
  · exact ih
  · rename_i n
    exact List.nodup_append.mpr ⟨ih, by simp, fun x mx y my e => by rw [List.mem_singleton.mp my] at e; exact n (e ▸ mx)⟩
theorem len_ddS (l : List Str) : (ddS l).length ≤ l.length := nodup_len (nd_ddS l) fun _ m => mem_ddS.mp m
theorem zipV_same {ks : List Str} {g : Str → V} {a : Str} (m : a ∈ ks) : putK (zipV ks g) (.inr a) (g a) = zipV ks g := by
  rw [zipV_put m]
  refine zipV_congr fun b _ => ?_
  by_cases e : b = a
  · rw [e, updW_eq]
  · rw [updW_ne e]
def addScl (S T : Scl) : Scl := mkScl (ddS (S.ks ++ T.ks)) (fun a => S.wt a + T.wt a) (S.r + T.r)
theorem addScl_wt {S T : Scl} (a : Str) : (addScl S T).wt a = S.wt a + T.wt a := by
  unfold addScl
  rw [mkScl_wt]
  unfold wtF
  split
  · rfl
  · rename_i n
    have n1 : a ∉ S.ks := fun m => n (mem_ddS.mpr (List.mem_append_left _ m))
    have n2 : a ∉ T.ks := fun m => n (mem_ddS.mpr (List.mem_append_right _ m))
    rw [Scl.wt_out n1, Scl.wt_out n2]
abbrev N_Scale___add__ : List Str := ["self", "other", "names", "weights", "name"]
def t_Scale___add__ (K : PySem.W.Frag) (E : XK) : TS := (tSeq (tIfS (tNot (tB (tCB (rIsi K) (tCons (tVar 1) (tCons (tC (.ref (He.ga K "Scale"))) tNil))))) tDead tNext)
  (tSeq (tAsg (tOp rCat (tCB rListD (tCons (tFld K (tVar 0) "special") tNil)) (tCB rListD (tCons (tFld K (tVar 1) "special") tNil))) (gName 2))
  (tSeq (tAsg (tDc (iList K (tVar 2)) (gName 4) tYes (tVar 4) (tOp rAddI (tMt (He.ga K "Scale") "weight" (sp_Scale_weight K) W0 (tVar 0) (tCons (tVar 4) tNil)) (tMt (He.ga K "Scale") "weight" (sp_Scale_weight K) W0 (tVar 1) (tCons (tVar 4) tNil))) [4]) (gName 3))
  (tRet (tMkK (He.ga K "Scale") 1 1 (sp_Scale___init__ K) (WE0 E) (tCons (tVar 3) tNil) (tCons (tOp rAddI (tFld K (tVar 0) "rest") (tFld K (tVar 1) "rest")) tNil))))))
def sp_Scale___add__ (K : PySem.W.Frag) : Sp := fun vs H Q E => ∃ (p q : Addr) (B : Hp) (S T : Scl), vs = [.ref p, .ref q] ∧ Same B H ∧ SAt K B p S ∧ SAt K B q T ∧ S.ks.length ≤ 20 ∧ T.ks.length ≤ 20 ∧ (∀ a ∈ S.ks, okName a = true) ∧ (∀ a ∈ T.ks, okName a = true) ∧ ∀ B' H' z, HS [] B H B' H' [] → SAt K B' z (addScl S T) → Q (.ref z) H'
theorem pure_Scale___add__ {K : PySem.W.Frag} (sk : SK K) (si : SI K) {vs : List V} {H : Hp} {Q : VK} {E : XK} (h : sp_Scale___add__ K vs H Q E) : t_Scale___add__ K E { nx := fun _ H' => Q .non H', rt := Q } (start N_Scale___add__ vs) H := by
  obtain ⟨p, q, B, S, T, rfl, sB, s, t, l1, l2, ok1, ok2, k⟩ := h
  have hs := HS.start sB
  obtain ⟨dx, sp, ep, es⟩ := id s
  obtain ⟨dy, tp, eq, et⟩ := id t
  have ekk : ∀ (ks : List Str) (f : Str → Nat), ((zipV ks (wV f)).map fun kv => kV kv.1) = ks.map V.str := fun ks f => by unfold zipV; rw [List.map_map]; rfl
  show t_Scale___add__ K E _ [some (.ref p), some (.ref q), none, none, none] H
  unfold t_Scale___add__
  refine x_seq (x_if (x_not (x_tB (x_cb (x_cons (x_var rfl (x_cons (x_c (x_nil ?_)))))))))
  refine x_isiC si hs t (x_exb (x_iteF rfl (x_next ?_)))
  dsimp only
  refine x_seq (x_asg (x_op (x_cb (x_cons (x_fldU (x_var rfl ?_))))))
  refine x_fld (hs.up ep) sk.cl sk.n2 (scf_special _ _) (x_nil (x_listD (hs.up es) ?_))
  rw [ekk]
  refine new_F hs (fun u1 B1 H1 hs1 sb1 e1 _ => ?_)
  refine x_cb (x_cons (x_fldU (x_var rfl ?_)))
  refine x_fld (hs1.up (sb1 _ _ eq)) sk.cl sk.n2 (scf_special _ _) (x_nil (x_listD (hs1.up (sb1 _ _ et)) ?_))
  rw [ekk]
  refine new_F hs1 (fun u2 B2 H2 hs2 sb2 e2 _ => ?_)
  refine x_cat (hs2.up (sb2 _ _ e1)) (hs2.up e2) (by simp; omega) ?_
  rw [← List.map_append]
  refine new_F hs2 (fun l B3 H3 hs3 sb3 el _ => ?_)
  refine x_gname ?_
  dsimp only [List.set]
  have s3 := (sb1.trans sb2).trans sb3
  refine x_seq (x_asg (x_dc (x_iList (x_var rfl ⟨l, rfl, ⟨_, SqL.of (hs3.up el)⟩, fun D hD => ?_⟩))))
  refine d_list (α := Unit) (Mf := fun _ => []) (P := fun i _ acc _ => acc = zipV (ddS ((S.ks ++ T.ks).take i)) (wV fun a => S.wt a + T.wt a)) (s0 := ()) hs3 hD el rfl (fun i y _ acc B4 H4 hi hil hacc sb4 hs4 pp => ?_) (fun _ acc B4 H4 sb4 hs4 hacc pp => ?_)
  · obtain ⟨a, ha, rfl⟩ := strs_get hi
    rw [List.length_map] at hil
    have s4 := s3.trans sb4
    refine x_gname ⟨rfl, x_yes (x_tt _ _ ?_)⟩
    refine x_var rfl (x_op (x_mtU (x_var rfl ?_)))
    refine x_mt (hs4.up (s4 _ _ ep)) (scf_no (by decide +kernel)) (x_cons (x_var rfl (x_nil ?_)))
    refine use_weight hs4 (s.mono s4) (fun B5 H5 sb5 hs5 => ?_)
    refine x_mtU (x_var rfl ?_)
    refine x_mt (hs5.up ((s4.trans sb5) _ _ eq)) (scf_no (by decide +kernel)) (x_cons (x_var rfl (x_nil ?_)))
    refine use_weight hs5 (t.mono (s4.trans sb5)) (fun B6 H6 sb6 hs6 => ?_)
    refine x_addI ?_
    rw [← Int.natCast_add]
    refine d_keep (s := ()) ((sb4.trans sb5).trans sb6) hs6 hacc (by rw [List.length_append] at hil; omega) ?_
    rw [pp, take_snoc ha, ddS_snoc]
    by_cases m : a ∈ ddS ((S.ks ++ T.ks).take i)
    · rw [if_pos m]
      exact zipV_same (g := wV fun a => S.wt a + T.wt a) m
    · rw [if_neg m]
      exact zipV_add (g := wV fun a => S.wt a + T.wt a) m
  · rw [List.length_map, List.take_length] at pp
    subst pp
    refine x_gname ?_
    dsimp only [List.set]
    refine x_ret (x_mkK (x_cons (x_var rfl (x_nil (x_cons (x_op (x_fldU (x_var rfl ?_))))))))
    refine x_fld (hs4.up ((s3.trans sb4) _ _ ep)) sk.cl sk.n1 (scf_rest _ _) (x_fldU (x_var rfl ?_))
    refine x_fld (hs4.up ((s3.trans sb4) _ _ eq)) sk.cl sk.n1 (scf_rest _ _) (x_addI (x_nil ⟨rfl, rfl, ?_⟩))
    rw [← Int.natCast_add]
    have hdl := len_ddS (S.ks ++ T.ks)
    rw [List.length_append] at hdl
    refine use_ScaleA (r := S.r + T.r) hs4 (nd_ddS _) (by omega) (fun a m => ?_) (fun B5 H5 z sb5 hs5 sat => ?_)
    · rcases List.mem_append.mp (mem_ddS.mp m) with m | m
      · exact ok1 a m
      · exact ok2 a m
    · exact k B5 H5 z hs5.drop sat
theorem use_addScl {K : PySem.W.Frag} {S : List Addr} {B0 H0 B H : Hp} {M : List (Addr × HO)} {Q : VK} {p q : Addr} {Z T : Scl} (hs : HS S B0 H0 B H M) (s : SAt K B p Z) (t : SAt K B q T) (l1 : Z.ks.length ≤ 20) (l2 : T.ks.length ≤ 20) (ok1 : ∀ a ∈ Z.ks, okName a = true) (ok2 : ∀ a ∈ T.ks, okName a = true)
    (k : ∀ B' H' z, Same B B' → HS S B0 H0 B' H' M → SAt K B' z (addScl Z T) → Q (.ref z) H') : rPlusG (He.ga K "Scale") (sp_Scale___add__ K) (.ref p) (.ref q) H Q := by
  obtain ⟨dx, sp, ep, es⟩ := id s
  obtain ⟨dy, tp, eq, et⟩ := id t
  exact ⟨p, q, dx, _, dy, _, rfl, rfl, hs.up ep, hs.up eq, p, q, B, Z, T, rfl, hs.bh, s, t, l1, l2, ok1, ok2, fun B' H' z c a => ⟨z, rfl, k B' H' z c.bb (hs.call c) a⟩⟩
end Q

set_option Elab.async false
set_option linter.all false
set_option maxRecDepth 100000
set_option maxHeartbeats 4000000
namespace Q
open PySem PySem.Spec PyProof.Rows L2
abbrev N__law_weight : List Str := ["_law_weights_here", "_law_other", "_law_name_here"]
def t__law_weight (K : PySem.W.Frag) (E : XK) : TS := (tSeq (tIfS (tB (tDIn (tVar 2) (tVar 0))) (tRet (tDGet (tVar 0) (tVar 2))) tNext)
  (tRet (tVar 1)))
def sp__law_weight (K : PySem.W.Frag) : Sp := fun vs H Q E => ∃ (d : Addr) (r : Nat) (a : Str) (B : Hp) (ks : List Str) (f : Str → Nat), vs = [.ref d, .int (r : Nat), .str a] ∧ Same B H ∧ B d = some (.dK (zipV ks (wV f))) ∧ Ret B H Q fun _ v => v = .int (wtF ks f r a : Nat)
theorem pure__law_weight {K : PySem.W.Frag} {vs : List V} {H : Hp} {Q : VK} {E : XK} (h : sp__law_weight K vs H Q E) : t__law_weight K E { nx := fun _ H' => Q .non H', rt := Q } (start N__law_weight vs) H := by
  obtain ⟨d, r, a, B, ks, f, rfl, sB, ed, k⟩ := h
  have hs := HS.start sB
  show t__law_weight K E _ [some (.ref d), some (.int (r : Nat)), some (.str a)] H
  unfold t__law_weight
  refine x_seq (x_if (x_tB (x_din (x_var rfl (x_var rfl ?_)))))
  refine x_dinO (hs.up ed) (x_exb ?_)
  unfold wtF at k
  by_cases mk : a ∈ ks
  · rw [if_pos mk] at k
    refine x_iteT (by rw [zipV_val mk]; rfl) (x_ret (x_dget (x_var rfl (x_var rfl ?_))))
    exact x_dgS (hs.up ed) (zipV_val mk) (k B H _ hs rfl)
  · rw [if_neg mk] at k
    refine x_iteF (by rw [zipV_none mk]; rfl) (x_next ?_)
    exact x_ret (x_var rfl (k B H _ hs rfl))
theorem use__law_weight {K : PySem.W.Frag} {S : List Addr} {B0 H0 B H : Hp} {M : List (Addr × HO)} {Q : VK} {E : XK} {d : Addr} {r : Nat} {a : Str} {ks : List Str} {f : Str → Nat} (hs : HS S B0 H0 B H M) (ed : B d = some (.dK (zipV ks (wV f))))
    (k : ∀ B' H', Same B B' → HS S B0 H0 B' H' M → Q (.int (wtF ks f r a : Nat)) H') : sp__law_weight K [.ref d, .int (r : Nat), .str a] H Q E := ⟨d, r, a, B, ks, f, rfl, hs.bh, ed, fun B' H' v' c e => by rw [e]; exact k B' H' c.bb (hs.call c)⟩
/-- Scale(d): the rest is 1 -/
theorem use_ScaleD {K : PySem.W.Frag} {S : List Addr} {B0 H0 B H : Hp} {M : List (Addr × HO)} {Q : VK} {W : WX} {σ : L2.St} {d : Addr} {ks : List Str} {f : Str → Nat} (hs : HS S B0 H0 B H ((d, .dK (zipV ks (wV f))) :: M)) (nd : ks.Nodup) (hl : ks.length < 64) (hok : ∀ a ∈ ks, okName a = true)
    (k : ∀ B' H' p, Same B B' → HS S B0 H0 B' H' ((d, .dK (zipV ks (wV f))) :: M) → SAt K B' p (mkScl ks f 1) → Q (.ref p) H') : Mkd (He.ga K "Scale") (sp_Scale___init__ K) W σ Q ([.ref d] ++ [.int 1]) H := use_ScaleA (r := 1) hs nd hl hok k
abbrev N__law_made : List Str := ["_law_weights_here", "_law_other", "_law_left_out", "_law_passed", "_law_scale"]
def t__law_made (K : PySem.W.Frag) (E : XK) : TS := (tSeq (tAsg (tCB rDictOf (tCons (tVar 0) tNil)) (gName 3))
  (tSeq (tIfS (tB (tVar 2)) (tAsg (tMkD (He.ga K "Scale") [.int 1] (sp_Scale___init__ K) (WE0 E) (tCons (tVar 3) tNil)) (gName 4)) (tAsg (tMkK (He.ga K "Scale") 1 1 (sp_Scale___init__ K) (WE0 E) (tCons (tVar 3) tNil) (tCons (tVar 1) tNil)) (gName 4)))
  (tSeq (tDrop (tBM0 K "dict" rDClear (tVar 3)))
  (tRet (tVar 4)))))
def sp__law_made (K : PySem.W.Frag) : Sp := fun vs H Q E => ∃ (d : Addr) (r : Nat) (b : Bool) (B : Hp) (ks : List Str) (f : Str → Nat), vs = [.ref d, .int (r : Nat), .bl b] ∧ Same B H ∧ B d = some (.dK (zipV ks (wV f))) ∧ ks.Nodup ∧ ks.length < 64 ∧ (∀ a ∈ ks, okName a = true) ∧ (b = true → r = 1) ∧ ∀ B' H' z, HS [] B H B' H' [] → SAt K B' z (mkScl ks f r) → Q (.ref z) H'
theorem pure__law_made {K : PySem.W.Frag} {vs : List V} {H : Hp} {Q : VK} {E : XK} (h : sp__law_made K vs H Q E) : t__law_made K E { nx := fun _ H' => Q .non H', rt := Q } (start N__law_made vs) H := by
  obtain ⟨d, r, b, B, ks, f, rfl, sB, ed, nd, hl, hok, hb, k⟩ := h
  have hs := HS.start sB
  show t__law_made K E _ [some (.ref d), some (.int (r : Nat)), some (.bl b), none, none] H
  unfold t__law_made
  refine x_seq (x_asg (x_cb (x_cons (x_var rfl (x_nil ?_)))))
  refine x_dictOf (hs.up ed) ?_
  refine new_M hs (fun c H1 hs1 _ => ?_)
  refine x_gname ?_
  dsimp only [List.set]
  refine x_join (I := fun σ' H' => ∃ B' z, HS [] B H B' H' [(c, .dK (zipV ks (wV f)))] ∧ SAt K B' z (mkScl ks f r) ∧ σ' = [some (.ref d), some (.int (r : Nat)), some (.bl b), some (.ref c), some (.ref z)]) ?_ (fun R hR => ?_)
  case refine_2 =>
    refine x_if (x_tB (x_var rfl (x_exb ?_)))
    refine x_ite (fun e => ?_) (fun _ => ?_)
    · refine x_asg (x_mkD (x_cons (x_var rfl (x_nil ?_))))
      refine use_ScaleD hs1 nd hl hok (fun B2 H2 z sb2 hs2 sat => ?_)
      refine x_gname (hR _ _ ⟨B2, z, hs2, ?_, rfl⟩)
      rw [hb e]
      exact sat
    · refine x_asg (x_mkK (x_cons (x_var rfl (x_nil (x_cons (x_var rfl (x_nil ⟨rfl, rfl, ?_⟩)))))))
      refine use_ScaleA hs1 nd hl hok (fun B2 H2 z sb2 hs2 sat => ?_)
      exact x_gname (hR _ _ ⟨B2, z, hs2, sat, rfl⟩)
  rintro σ' H2 ⟨B2, z, hs2, sat, rfl⟩
  refine x_seq (x_drop (x_bm0 (x_var rfl ⟨.inr (.inr (.inl ⟨rfl, .inl ⟨_, hs2.get List.mem_cons_self⟩⟩)), c, _, rfl, rfl, hs2.get List.mem_cons_self, ?_⟩)))
  dsimp only
  exact x_ret (x_var rfl (k B2 _ z (hs2.set0 (o' := .dK [])).drop sat))
theorem use_made {K : PySem.W.Frag} {S : List Addr} {B0 H0 B H : Hp} {M : List (Addr × HO)} {Q : VK} {E : XK} {d : Addr} {r : Nat} {b : Bool} {ks : List Str} {f : Str → Nat} (hs : HS S B0 H0 B H M) (ed : B d = some (.dK (zipV ks (wV f)))) (nd : ks.Nodup) (hl : ks.length < 64) (hok : ∀ a ∈ ks, okName a = true) (hb : b = true → r = 1)
    (k : ∀ B' H' z, Same B B' → HS S B0 H0 B' H' M → SAt K B' z (mkScl ks f r) → Q (.ref z) H') : sp__law_made K [.ref d, .int (r : Nat), .bl b] H Q E := ⟨d, r, b, B, ks, f, rfl, hs.bh, ed, nd, hl, hok, hb, fun B' H' z c s => k B' H' z c.bb (hs.call c) s⟩
abbrev N__law_scale_fits : List Str := ["_law_scale", "_law_names_here", "_law_weights_here", "_law_other", "_law_name_here"]
def t__law_scale_fits (K : PySem.W.Frag) (E : XK) : TS := (tSeq (tFor (iList K (tVar 1)) (gName 4) (tIfS (tNot (tB (tCl (sp__law_same K) (WE0 E) (tCons (tMt (He.ga K "Scale") "weight" (sp_Scale_weight K) (WE0 E) (tVar 0) (tCons (tVar 4) tNil)) (tCons (tCl (sp__law_weight K) (WE0 E) (tCons (tVar 2) (tCons (tVar 3) (tCons (tVar 4) tNil)))) tNil))))) (tRet (tC (.bl false))) tNext))
  (tRet (tC (.bl true))))
def sp__law_scale_fits (K : PySem.W.Frag) : Sp := fun vs H Q E => ∃ (p n d : Addr) (r : Nat) (B : Hp) (S : Scl) (xs ks : List Str) (f : Str → Nat), vs = [.ref p, .ref n, .ref d, .int (r : Nat)] ∧ Same B H ∧ SAt K B p S ∧ B n = some (.lst (xs.map V.str)) ∧ B d = some (.dK (zipV ks (wV f))) ∧ (∀ a ∈ xs, S.wt a = wtF ks f r a) ∧ Ret B H Q fun _ v => v = .bl true
theorem pure__law_scale_fits {K : PySem.W.Frag} {vs : List V} {H : Hp} {Q : VK} {E : XK} (h : sp__law_scale_fits K vs H Q E) : t__law_scale_fits K E { nx := fun _ H' => Q .non H', rt := Q } (start N__law_scale_fits vs) H := by
  obtain ⟨p, n, d, r, B, S, xs, ks, f, rfl, sB, s, en, ed, he, k⟩ := h
  have hs := HS.start sB
  obtain ⟨dx, sp, ep, _⟩ := id s
  show t__law_scale_fits K E _ [some (.ref p), some (.ref n), some (.ref d), some (.int (r : Nat)), none] H
  unfold t__law_scale_fits
  refine x_seq (x_for (x_iList (x_var rfl ⟨n, rfl, ⟨_, SqL.of (hs.up en)⟩, ?_⟩)))
  refine l_list (α := Option V) (σf := fun z => [some (.ref p), some (.ref n), some (.ref d), some (.int (r : Nat)), z]) (Mf := fun _ => []) (P := fun _ _ _ => True) (s0 := none) hs en trivial (fun i v z B1 H1 hi sb1 hs1 _ => ?_) (fun z B1 H1 sb1 hs1 _ => ?_)
  · obtain ⟨a, ha, rfl⟩ := strs_get hi
    have ma := List.mem_of_getElem? ha
    refine x_gname ?_
    dsimp only [List.set]
    refine x_if (x_not (x_tB (x_cl (x_cons (x_mtU (x_var rfl ?_))))))
    refine x_mt (hs1.up (sb1 _ _ ep)) (scf_no (by decide +kernel)) (x_cons (x_var rfl (x_nil ?_)))
    refine use_weight hs1 (s.mono sb1) (fun B2 H2 sb2 hs2 => ?_)
    refine x_cons (x_cl (x_cons (x_var rfl (x_cons (x_var rfl (x_cons (x_var rfl (x_nil ?_))))))))
    refine use__law_weight hs2 ((sb1.trans sb2) _ _ ed) (fun B3 H3 sb3 hs3 => ?_)
    rw [he a ma]
    refine x_nil ?_
    obtain ⟨okt, sm⟩ := same_refl 90 (.int (wtF ks f r a : Nat)) trivial
    refine use__law_same (n := 90) hs3 (.int _) (.int _) trivial okt (fun B4 H4 sb4 hs4 => ?_)
    rw [sm]
    refine x_exb (x_iteF rfl (x_next ?_))
    exact ⟨some _, B4, rfl, (sb1.trans sb2).trans (sb3.trans sb4), hs4, trivial⟩
  · dsimp only
    refine x_ret (x_c ?_)
    exact k B1 H1 _ hs1 rfl
theorem use_scale_fits {K : PySem.W.Frag} {S : List Addr} {B0 H0 B H : Hp} {M : List (Addr × HO)} {Q : VK} {E : XK} {p n d : Addr} {r : Nat} {Z : Scl} {xs ks : List Str} {f : Str → Nat} (hs : HS S B0 H0 B H M) (s : SAt K B p Z) (en : B n = some (.lst (xs.map V.str))) (ed : B d = some (.dK (zipV ks (wV f)))) (he : ∀ a ∈ xs, Z.wt a = wtF ks f r a)
    (k : ∀ B' H', Same B B' → HS S B0 H0 B' H' M → Q (.bl true) H') : sp__law_scale_fits K [.ref p, .ref n, .ref d, .int (r : Nat)] H Q E := ⟨p, n, d, r, B, Z, xs, ks, f, rfl, hs.bh, s, en, ed, he, fun B' H' v' c e => by rw [e]; exact k B' H' c.bb (hs.call c)⟩
theorem addScl_ok {S T : Scl} : (addScl S T).Ok := mkScl_ok (nd_ddS _)
theorem addScl_in {S T : Scl} {a : Str} (m : a ∈ (addScl S T).ks) : a ∈ S.ks ∨ a ∈ T.ks := List.mem_append.mp (mem_ddS.mp (mkScl_in m))
theorem add1 (n : Nat) : ((n : Nat) : Int) + 1 = ((n + 1 : Nat) : Int) := rfl
theorem put_any {ks : List Str} {f : Str → Nat} {a : Str} {n : Nat} {xs : List Str} (nd : ks.Nodup) (hk : ∀ q ∈ ks, q ∈ xs) (ma : a ∈ xs) : ∃ (ks' : List Str) (f' : Str → Nat), putK (zipV ks (wV f)) (.inr a) (.int (n : Nat)) = zipV ks' (wV f') ∧ ks'.Nodup ∧ ∀ q ∈ ks', q ∈ xs := by
  by_cases m : a ∈ ks
  · exact ⟨ks, updW f a n, by rw [zipV_put m, wV_upd], nd, hk⟩
  · refine ⟨ks ++ [a], updW f a n, by rw [zipV_new m, wV_upd], List.nodup_append.mpr ⟨nd, by simp, fun x mx y my e => by rw [List.mem_singleton.mp my] at e; exact m (e ▸ mx)⟩, fun q mq => ?_⟩
    rcases List.mem_append.mp mq with mq | mq
    · exact hk q mq
    · rw [List.mem_singleton.mp mq]; exact ma
abbrev N_law : List Str := ["_law_script", "_law_state", "_law_names_here", "_law_one", "_law_one_other", "_law_kind", "_law_two", "_law_two_other", "_law_left", "_law_right", "_law_total", "_law_equal", "_law_name_here", "_law_both", "_law_other", "_law_place"]
def t_law (K : PySem.W.Frag) (E : XK) : TS := (tSeq (tAsg (tCl (sp__law_cell K) (WE0 E) (tCons (tVar 0) (tCons (tC (.int 0)) tNil))) (gName 1))
  (tSeq (tAsg (tCl (sp__law_names K) (WE0 E) (tCons (tVar 1) (tCons (tC (.int 7)) tNil))) (gName 2))
  (tSeq (tAsg (tCl (sp__law_weights K) (WE0 E) (tCons (tVar 1) (tCons (tSl (rSlL K) (tVar 2) tNoPart (tPart (tC (.int 6)))) tNil))) (gName 3))
  (tSeq (tAsg (tC (.int 1)) (gName 4))
  (tSeq (tIfS (tTest (tOp rEq (tCl (sp__law_take K) (WE0 E) (tCons (tVar 1) (tCons (tC (.int 2)) tNil))) (tC (.int 1)))) (tAsg (tCl (sp__law_big K) (WE0 E) (tCons (tVar 1) tNil)) (gName 4)) tNext)
  (tSeq (tAsg (tCl (sp__law_cell K) (WE0 E) (tCons (tVar 0) (tCons (tC (.int 1)) tNil))) (gName 1))
  (tSeq (tAsg (tCl (sp__law_take K) (WE0 E) (tCons (tVar 1) (tCons (tC (.int 4)) tNil))) (gName 5))
  (tSeq (tAsg (tCl (sp__law_weights K) (WE0 E) (tCons (tVar 1) (tCons (tSl (rSlL K) (tVar 2) tNoPart (tPart (tC (.int 6)))) tNil))) (gName 6))
  (tSeq (tAsg (tCl (sp__law_big K) (WE0 E) (tCons (tVar 1) tNil)) (gName 7))
  (tSeq (tIfS (tTest (tOp rLtI (tVar 5) (tC (.int 2)))) (tSeq (tAsg (tCl (sp__law_turnedO K) (WE0 E) (tCons (tVar 3) tNil)) (gName 6))
  (tSeq (tAsg (tVar 4) (gName 7))
  (sDPut (tVar 6) (tOp (rIxL K) (tVar 2) (tC (.int 6))) (tVar 4)))) tNext)
  (tSeq (tIfS (tTest (tOp rEq (tVar 5) (tC (.int 1)))) (tSeq (tAsg (tCl (sp__law_take K) (WE0 E) (tCons (tVar 1) (tCons (tC (.int 8)) tNil))) (gName 15))
  (tIfS (tTest (tOp rEq (tVar 15) (tC (.int 7)))) (tAug 7 (tC (.int 1)) (ipI fun i j => i + j)) (sDPut (tVar 6) (tOp (rIxL K) (tVar 2) (tVar 15)) (tOp rAddI (tCl (sp__law_weight K) (WE0 E) (tCons (tVar 6) (tCons (tVar 7) (tCons (tOp (rIxL K) (tVar 2) (tVar 15)) tNil)))) (tC (.int 1)))))) tNext)
  (tSeq (tAsg (tCl (sp__law_made K) (WE0 E) (tCons (tVar 3) (tCons (tVar 4) (tCons (tOp rEq (tVar 4) (tC (.int 1))) tNil)))) (gName 8))
  (tSeq (tAsg (tCl (sp__law_made K) (WE0 E) (tCons (tVar 6) (tCons (tVar 7) (tCons (tC (.bl false)) tNil)))) (gName 9))
  (tSeq (tIfS (tOr (tNot (tB (tCl (sp__law_scale_fits K) (WE0 E) (tCons (tVar 8) (tCons (tVar 2) (tCons (tVar 3) (tCons (tVar 4) tNil))))))) (tNot (tB (tCl (sp__law_scale_fits K) (WE0 E) (tCons (tVar 9) (tCons (tVar 2) (tCons (tVar 6) (tCons (tVar 7) tNil)))))))) (tRet (tC (.bl false))) tNext)
  (tSeq (tAsg tDNewK (gName 10))
  (tSeq (tAsg (tOp rEq (tVar 4) (tVar 7)) (gName 11))
  (tSeq (tFor (iList K (tVar 2)) (gName 12) (tSeq (sDPut (tVar 10) (tVar 12) (tOp rAddI (tCl (sp__law_weight K) (WE0 E) (tCons (tVar 3) (tCons (tVar 4) (tCons (tVar 12) tNil)))) (tCl (sp__law_weight K) (WE0 E) (tCons (tVar 6) (tCons (tVar 7) (tCons (tVar 12) tNil))))))
  (tIfS (tTest (tOp rNe (tCl (sp__law_weight K) (WE0 E) (tCons (tVar 3) (tCons (tVar 4) (tCons (tVar 12) tNil)))) (tCl (sp__law_weight K) (WE0 E) (tCons (tVar 6) (tCons (tVar 7) (tCons (tVar 12) tNil)))))) (tAsg (tC (.bl false)) (gName 11)) tNext)))
  (tSeq (tAsg (tOp (rPlusG (He.ga K "Scale") (sp_Scale___add__ K)) (tVar 8) (tVar 9)) (gName 13))
  (tSeq (tAsg (tCl (sp__law_name K) (WE0 E) (tCons (tVar 1) (tCons (tVar 2) tNil))) (gName 14))
  (tSeq (tIfS (tNot (tB (tCl (sp__law_same K) (WE0 E) (tCons (tMt (He.ga K "Scale") "weight" (sp_Scale_weight K) (WE0 E) (tVar 13) (tCons (tVar 14) tNil)) (tCons (tOp rAddI (tVar 4) (tVar 7)) tNil))))) (tRet (tC (.bl false))) tNext)
  (tSeq (tIfS (tOr (tNot (tB (tCl (sp__law_scale_fits K) (WE0 E) (tCons (tVar 13) (tCons (tVar 2) (tCons (tVar 10) (tCons (tOp rAddI (tVar 4) (tVar 7)) tNil))))))) (tNot (tB (tCl (sp__law_scale_fits K) (WE0 E) (tCons (tVar 8) (tCons (tVar 2) (tCons (tVar 3) (tCons (tVar 4) tNil)))))))) (tRet (tC (.bl false))) tNext)
  (tSeq (tIfS (tNot (tB (tCl (sp__law_scale_fits K) (WE0 E) (tCons (tVar 9) (tCons (tVar 2) (tCons (tVar 6) (tCons (tVar 7) tNil))))))) (tRet (tC (.bl false))) tNext)
  (tRet (tAndV (tCl (sp__law_same K) (WE0 E) (tCons (tOp (rEqG (He.ga K "Scale") (sp_Scale___eq__ K)) (tVar 8) (tVar 9)) (tCons (tVar 11) tNil))) (tAndV (tCl (sp__law_same K) (WE0 E) (tCons (tOp (rEqG (He.ga K "Scale") (sp_Scale___eq__ K)) (tVar 9) (tVar 8)) (tCons (tVar 11) tNil))) (tCl (sp__law_same K) (WE0 E) (tCons (tOp (rEqG (He.ga K "Scale") (sp_Scale___eq__ K)) (tVar 13) (tOp (rPlusG (He.ga K "Scale") (sp_Scale___add__ K)) (tVar 9) (tVar 8))) (tCons (tC (.bl true)) tNil))))))))))))))))))))))))))))
theorem pure_law {K : PySem.W.Frag} {vs : List V} {H : Hp} {Q : VK} {E : XK} (h : spLaw K vs H Q E) : t_law K E { nx := fun _ H' => Q .non H', rt := Q } (start N_law vs) H := by
  obtain ⟨sc, ns, rfl, _, hS, k⟩ := h
  have hs := HS.start (Same.refl H)
  show t_law K E _ [some (.ref sc), none, none, none, none, none, none, none, none, none, none, none, none, none, none, none] H
  unfold t_law
  refine x_seq (x_asg (x_cl (x_cons (x_var rfl (x_cons (x_c (x_nil ?_)))))))
  refine use_cell (j := 0) hs hS (fun B1 H1 p a1 b1 sb1 hs1 hv1 => ?_)
  refine x_gname ?_
  dsimp only [List.set]
  refine x_seq (x_asg (x_cl (x_cons (x_var rfl (x_cons (x_c (x_nil ?_)))))))
  refine use_names (m := 7) hs1 hv1 (by omega) (fun B2 H2 a2 b2 n xs sb2 hs2 hv2 hxl nd hok => ?_)
  obtain ⟨B3, hs3, sb3, en⟩ := hs2.stillN (by simp)
  refine x_gname ?_
  dsimp only [List.set]
  have ntk : (xs.take 6).Nodup := nd.sublist (List.take_sublist _ _)
  have hcut : ∀ q ∈ xs.take 6, q ∈ xs := fun q m => List.mem_of_mem_take m
  refine x_seq (x_asg (x_cl (x_cons (x_var rfl (x_cons (x_sl (x_var rfl (x_noPart (x_part (x_c ?_))))))))))
  refine x_exi (x_slL (SqL.of (hs3.up en)) ?_)
  rw [show (6 : Int) = ((6 : Nat) : Int) from rfl, cutV_toS (i := 6) rfl]
  refine new_F hs3 (fun t6 B4 H4 hs4 sb4 et6 _ => ?_)
  refine x_nil ?_
  have htl : (xs.take 6).length ≤ 100 := by rw [List.length_take]; omega
  refine use_weights hs4 hv2 et6 ntk htl (fun B5 H5 a5 b5 d1 k1 f1 sb5 hs5 hv5 nd1 hk1 => ?_)
  obtain ⟨B6, hs6, sb6, ed1⟩ := hs5.stillN (by simp)
  have s36 := (sb4.trans sb5).trans sb6
  have en6 := s36 _ _ en
  refine x_gname ?_
  dsimp only [List.set]
  refine x_seq (x_asg (x_c (x_gname ?_)))
  dsimp only [List.set]
  refine x_join (I := fun σ' H' => ∃ (B' : Hp) (a' b' : Int) (r : Nat), HS [] H H B' H' [(p, stO a' b')] ∧ Same B6 B' ∧ σ' = [some (.ref sc), some (.ref p), some (.ref n), some (.ref d1), some (.int (r : Nat)), none, none, none, none, none, none, none, none, none, none, none]) ?_ (fun R hR => ?_)
  case refine_2 =>
    refine x_if (x_test (x_op (x_cl (x_cons (x_var rfl (x_cons (x_c (x_nil ?_))))))))
    refine use_take hs6 hv5 (by decide) (by decide) (fun B7 H7 a7 b7 n7 sb7 hs7 hv7 _ => ?_)
    refine x_c (x_eq rfl (x_exb ?_))
    refine x_ite (fun _ => ?_) (fun _ => ?_)
    · refine x_asg (x_cl (x_cons (x_var rfl (x_nil ?_))))
      refine use_big hs7 hv7 (fun B8 H8 a8 b8 r sb8 hs8 hv8 => ?_)
      exact x_gname (hR _ _ ⟨B8, a8, b8, r, hs8, sb7.trans sb8, rfl⟩)
    · exact x_next (hR _ _ ⟨B7, a7, b7, 1, hs7, sb7, rfl⟩)
  rintro σ' H7 ⟨B7, a7, b7, r1, hs7, sb7, rfl⟩
  have hs7 : HS [] H H B7 H7 [] := hs7.drop
  have en7 := sb7 _ _ en6
  have ed17 := sb7 _ _ ed1
  refine x_seq (x_asg (x_cl (x_cons (x_var rfl (x_cons (x_c (x_nil ?_)))))))
  refine use_cell (j := 1) hs7 (sqL_sameJ (hs7.bb.trans hs7.bh) hS) (fun B8 H8 st a8 b8 sb8 hs8 hv8 => ?_)
  refine x_gname ?_
  dsimp only [List.set]
  refine x_seq (x_asg (x_cl (x_cons (x_var rfl (x_cons (x_c (x_nil ?_)))))))
  refine use_take hs8 hv8 (by decide) (by decide) (fun B9 H9 a9 b9 kd sb9 hs9 hv9 _ => ?_)
  refine x_gname ?_
  dsimp only [List.set]
  refine x_seq (x_asg (x_cl (x_cons (x_var rfl (x_cons (x_sl (x_var rfl (x_noPart (x_part (x_c ?_))))))))))
  have en9 := (sb8.trans sb9) _ _ en7
  refine x_exi (x_slL (SqL.of (hs9.up en9)) ?_)
  rw [cutV_toS (i := 6) rfl]
  refine new_F hs9 (fun t7 B10 H10 hs10 sb10 et7 _ => ?_)
  refine x_nil ?_
  refine use_weights hs10 hv9 et7 ntk htl (fun B11 H11 a11 b11 d2 k2 f2 sb11 hs11 hv11 nd2 hk2 => ?_)
  refine x_gname ?_
  dsimp only [List.set]
  refine x_seq (x_asg (x_cl (x_cons (x_var rfl (x_nil ?_)))))
  refine use_big hs11 hv11 (fun B12 H12 a12 b12 r2 sb12 hs12 hv12 => ?_)
  refine x_gname ?_
  dsimp only [List.set]
  have s712 := ((sb8.trans sb9).trans (sb10.trans sb11)).trans sb12
  have en12 := s712 _ _ en7
  have ed12 := s712 _ _ ed17
  have h6 : xs[6]? = some (xs[6]'(by omega)) := List.getElem?_eq_getElem (by omega)
  generalize xs[6]'(by omega) = x6 at h6
  have m6 := List.mem_of_getElem? h6
  have hin1 : ∀ q ∈ k1, q ∈ xs := fun q m => hcut q (hk1 q m)
  have hk1l : k1.length ≤ 6 := by
    have := nodup_len nd1 hk1
    rw [List.length_take] at this
    omega
  -- the second scale's weights, whatever they are
  refine x_join (I := fun σ' H' => ∃ (B' : Hp) (d : Addr) (ks : List Str) (f : Str → Nat) (r : Nat), HS [] H H B' H' ((d, .dK (zipV ks (wV f))) :: (st, stO a12 b12) :: []) ∧ Same B12 B' ∧ ks.Nodup ∧ (∀ q ∈ ks, q ∈ xs) ∧ σ' = [some (.ref sc), some (.ref st), some (.ref n), some (.ref d1), some (.int (r1 : Nat)), some (.int (kd : Nat)), some (.ref d), some (.int (r : Nat)), none, none, none, none, none, none, none, none]) ?_ (fun R hR => ?_)
  case refine_2 =>
    refine x_if (x_test (x_op (x_var rfl (x_c (x_ltI (x_exb ?_))))))
    refine x_ite (fun _ => ?_) (fun _ => ?_)
    · refine x_seq (x_asg (x_cl (x_cons (x_var rfl (x_nil ?_)))))
      refine ⟨d1, _, k1, B12, rfl, hs12.bh, ed12, zipV_keys, nd1, by omega, fun B13 H13 T rs c13 pe => ?_⟩
      have e : turnV (zipV k1 (wV f1)) rs = zipV rs (wV f1) := List.map_congr_left fun a ma => by rw [zipV_val (pe.mem_iff.mp ma)]; rfl
      rw [e] at c13
      have hs13 : HS [] H H B13 H13 ((T, .dK (zipV rs (wV f1))) :: (st, stO a12 b12) :: (d2, .dK (zipV k2 (wV f2))) :: []) := hs12.callN c13
      refine x_gname ?_
      dsimp only [List.set]
      refine x_seq (x_asg (x_var rfl (x_gname ?_)))
      dsimp only [List.set]
      refine x_dputU (x_var rfl (x_var rfl (x_op (x_var rfl (x_c ?_)))))
      refine x_ixL (SqL.of (hs13.up (c13.bb _ _ en12))) (atI_str h6) ?_
      have hrl := pe.length_eq
      refine x_dput hs13 (by rw [zipV_len]; omega) (fun H14 hs14 => ?_)
      obtain ⟨ks', f', e', nd', hk'⟩ := put_any (f := f1) (n := r1) (pe.nodup_iff.mpr nd1) (fun q m => hin1 q (pe.mem_iff.mp m)) m6
      rw [e'] at hs14
      exact hR _ _ ⟨B13, T, ks', f', r1, (hs14.perm (List.perm_append_comm (l₁ := [(T, HO.dK (zipV ks' (wV f'))), (st, stO a12 b12)]) (l₂ := [(d2, HO.dK (zipV k2 (wV f2)))]) : List.Perm [(T, HO.dK (zipV ks' (wV f'))), (st, stO a12 b12), (d2, HO.dK (zipV k2 (wV f2)))] [(d2, HO.dK (zipV k2 (wV f2))), (T, HO.dK (zipV ks' (wV f'))), (st, stO a12 b12)])).drop, c13.bb, nd', hk', rfl⟩
    · exact x_next (hR _ _ ⟨B12, d2, k2, f2, r2, hs12.swap, Same.refl _, nd2, fun q m => hcut q (hk2 q m), rfl⟩)
  clear hs12 hs11 hs10 hs9 hs8
  rintro σ' H13 ⟨B13, d, k3, f3, r3, hs13, sb13, nd3, hk3, rfl⟩
  have en13 := sb13 _ _ en12
  refine x_join (I := fun σ' H' => ∃ (B' : Hp) (a' b' : Int) (ks : List Str) (f : Str → Nat) (r : Nat) (z15 : Option V), HS [] H H B' H' ((d, .dK (zipV ks (wV f))) :: (st, stO a' b') :: []) ∧ VSt a' b' ∧ Same B13 B' ∧ ks.Nodup ∧ (∀ q ∈ ks, q ∈ xs) ∧ σ' = [some (.ref sc), some (.ref st), some (.ref n), some (.ref d1), some (.int (r1 : Nat)), some (.int (kd : Nat)), some (.ref d), some (.int (r : Nat)), none, none, none, none, none, none, none, z15]) ?_ (fun R hR => ?_)
  case refine_2 =>
    refine x_if (x_test (x_op (x_var rfl (x_c (x_eq rfl (x_exb ?_))))))
    refine x_ite (fun _ => ?_) (fun _ => ?_)
    · refine x_seq (x_asg (x_cl (x_cons (x_var rfl (x_cons (x_c (x_nil ?_)))))))
      refine use_take hs13.swap hv12 (by decide) (by decide) (fun B14 H14 a14 b14 pl sb14 hs14 hv14 hpl => ?_)
      refine x_gname ?_
      dsimp only [List.set]
      refine x_if (x_test (x_op (x_var rfl (x_c (x_eq rfl (x_exb ?_))))))
      refine x_ite (fun _ => ?_) (fun h7 => ?_)
      · refine x_augI rfl (x_c (x_ipI ?_))
        dsimp only [List.set]
        rw [add1]
        exact hR _ _ ⟨B14, a14, b14, k3, f3, r3 + 1, _, hs14.swap, hv14, sb14, nd3, hk3, rfl⟩
      · have hp7 : pl < 7 := by
          have : pl ≠ 7 := fun e => by rw [e] at h7; simp at h7
          omega
        have hq : xs[pl]? = some (xs[pl]'(by omega)) := List.getElem?_eq_getElem (by omega)
        generalize xs[pl]'(by omega) = q at hq
        have mq := List.mem_of_getElem? hq
        have en14 := sb14 _ _ en13
        obtain ⟨B15, hs15, sb15, e15, back⟩ := HS.lend hs14.swap
        refine x_dputU (x_op (x_cl (x_cons (x_var rfl (x_cons (x_var rfl (x_cons (x_op (x_var rfl (x_var rfl ?_))))))))))
        refine x_ixL (SqL.of (hs15.up (sb15 _ _ en14))) (atI_str hq) (x_nil ?_)
        refine use__law_weight hs15 e15 (fun B16 H16 sb16 hs16 => ?_)
        refine x_c (x_addI ?_)
        rw [add1]
        obtain ⟨B17, hs17, sb17⟩ := back sb16 hs16
        refine x_var rfl (x_op (x_var rfl (x_var rfl ?_)))
        refine x_ixL (SqL.of (hs17.up (sb17 _ _ en14))) (atI_str hq) ?_
        have hkl := nodup_len nd3 hk3
        refine x_dput hs17 (by rw [zipV_len]; omega) (fun H18 hs18 => ?_)
        obtain ⟨ks', f', e', nd', hk'⟩ := put_any (f := f3) (n := wtF k3 f3 r3 q + 1) nd3 hk3 mq
        rw [e'] at hs18
        exact hR _ _ ⟨B17, a14, b14, ks', f', r3, _, hs18, hv14, sb14.trans sb17, nd', hk', rfl⟩
    · exact x_next (hR _ _ ⟨B13, a12, b12, k3, f3, r3, none, hs13, hv12, Same.refl _, nd3, hk3, rfl⟩)
  clear hs13
  clear nd3 hk3 sb12
  rintro σ' H14 ⟨B14, a14, b14, k4, f4, r4, z15, hs14, hv14, sb14, nd4, hk4, rfl⟩
  obtain ⟨hs15, sb15⟩ := hs14.freezeA
  have ed2 : upd B14 d (.dK (zipV k4 (wV f4))) d = some (.dK (zipV k4 (wV f4))) := upd_same
  generalize upd B14 d (.dK (zipV k4 (wV f4))) = B15 at hs15 sb15 ed2
  clear hs14
  have s1215 := (sb13.trans sb14).trans sb15
  have en15 := s1215 _ _ en12
  have ed15 := s1215 _ _ ed12
  have hk4l := nodup_len nd4 hk4
  have okn1 : ∀ a ∈ k1, okName a = true := fun a m => hok a (hin1 a m)
  have okn4 : ∀ a ∈ k4, okName a = true := fun a m => hok a (hk4 a m)
  -- both scales
  refine x_seq (x_asg (x_cl (x_cons (x_var rfl (x_cons (x_var rfl (x_cons (x_op (x_var rfl (x_c (x_eq rfl (x_nil ?_))))))))))))
  refine use_made hs15 ed15 nd1 (by omega) okn1 (fun e => ?_) (fun B16 H16 L sb16 hs16 sL => ?_)
  · have : V.int (r1 : Nat) = V.int 1 := of_decide_eq_true e
    injection this with e
    omega
  refine x_gname ?_
  dsimp only [List.set]
  refine x_seq (x_asg (x_cl (x_cons (x_var rfl (x_cons (x_var rfl (x_cons (x_c (x_nil ?_)))))))))
  refine use_made hs16 (sb16 _ _ ed2) nd4 (by omega) okn4 (fun e => by cases e) (fun B17 H17 Rg sb17 hs17 sR => ?_)
  refine x_gname ?_
  dsimp only [List.set]
  have s17 := sb16.trans sb17
  have en17 := s17 _ _ en15
  have ed117 := s17 _ _ ed15
  have ed217 := s17 _ _ ed2
  have sL := sL.mono sb17
  refine x_seq (x_if (x_or (x_not (x_tB (x_cl (x_cons (x_var rfl (x_cons (x_var rfl (x_cons (x_var rfl (x_cons (x_var rfl (x_nil ?_))))))))))))))
  refine use_scale_fits hs17 sL en17 ed117 (fun a _ => mkScl_wt a) (fun B18 H18 sb18 hs18 => ?_)
  refine x_exb (x_iteF rfl (x_not (x_tB (x_cl (x_cons (x_var rfl (x_cons (x_var rfl (x_cons (x_var rfl (x_cons (x_var rfl (x_nil ?_)))))))))))))
  refine use_scale_fits hs18 (sR.mono sb18) (sb18 _ _ en17) (sb18 _ _ ed217) (fun a _ => mkScl_wt a) (fun B19 H19 sb19 hs19 => ?_)
  refine x_exb (x_iteF rfl (x_next ?_))
  dsimp only
  have s19 := sb18.trans sb19
  refine x_seq (x_asg (x_dnew ?_))
  refine new_M hs19 (fun tot H20 hs20 _ => ?_)
  refine x_gname ?_
  dsimp only [List.set]
  refine x_seq (x_asg (x_op (x_var rfl (x_var rfl (x_eq rfl (x_gname ?_))))))
  dsimp only [List.set]
  have e0 : decide (V.int (r1 : Nat) = V.int (r4 : Nat)) = decide (r1 = r4) := by
    by_cases z : r1 = r4
    · rw [z]; simp
    · have : ¬ ((r1 : Int) = (r4 : Int)) := by omega
      simp [z, this]
  rw [e0]
  refine x_seq (x_for (x_iList (x_var rfl ⟨n, rfl, ⟨_, SqL.of (hs20.up (s19 _ _ en17))⟩, ?_⟩)))
  let w1 := wtF k1 f1 r1
  let w2 := wtF k4 f4 r4
  refine l_list (α := (Bool × List (Key × V)) × Option V) (σf := fun z => [some (.ref sc), some (.ref st), some (.ref n), some (.ref d1), some (.int (r1 : Nat)), some (.int (kd : Nat)), some (.ref d), some (.int (r4 : Nat)), some (.ref L), some (.ref Rg), some (.ref tot), some (.bl z.1.1), z.2, none, none, z15]) (Mf := fun z => [(tot, .dK z.1.2), (st, stO a14 b14)]) (P := fun i z _ => z.1.2 = zipV (xs.take i) (wV fun a => w1 a + w2 a) ∧ z.1.1 = (decide (r1 = r4) && (xs.take i).all fun a => decide (w1 a = w2 a))) (s0 := ((decide (r1 = r4), []), none)) hs20 (s19 _ _ en17) ⟨rfl, by simp⟩ (fun i v z B21 H21 hi sb21 hs21 pp => ?_) (fun z B21 H21 sb21 hs21 pp => ?_)
  · obtain ⟨⟨eq, kv⟩, z12⟩ := z
    obtain ⟨p1, p2⟩ := pp
    dsimp only at hs21 p1 p2 ⊢
    subst p1
    obtain ⟨a, ha, rfl⟩ := strs_get hi
    have hil := (List.getElem?_eq_some_iff.mp ha).1
    have s21 := s19.trans sb21
    have t1 := s21 _ _ ed117
    have t2 := s21 _ _ ed217
    refine x_gname ?_
    dsimp only [List.set]
    refine x_seq (x_dputU (x_op (x_cl (x_cons (x_var rfl (x_cons (x_var rfl (x_cons (x_var rfl (x_nil ?_))))))))))
    refine use__law_weight hs21 t1 (fun B22 H22 sb22 hs22 => ?_)
    refine x_cl (x_cons (x_var rfl (x_cons (x_var rfl (x_cons (x_var rfl (x_nil ?_)))))))
    refine use__law_weight hs22 (sb22 _ _ t2) (fun B23 H23 sb23 hs23 => ?_)
    refine x_addI (x_var rfl (x_var rfl ?_))
    rw [← Int.natCast_add]
    refine x_dput hs23 (by rw [zipV_len, List.length_take]; omega) (fun H24 hs24 => ?_)
    rw [show V.int ((wtF k1 f1 r1 a + wtF k4 f4 r4 a : Nat) : Int) = wV (fun a => w1 a + w2 a) a from rfl, zipV_snoc nd ha] at hs24
    dsimp only
    have s23 := sb22.trans sb23
    refine x_if (x_test (x_op (x_cl (x_cons (x_var rfl (x_cons (x_var rfl (x_cons (x_var rfl (x_nil ?_))))))))))
    refine use__law_weight hs24 (s23 _ _ t1) (fun B25 H25 sb25 hs25 => ?_)
    refine x_cl (x_cons (x_var rfl (x_cons (x_var rfl (x_cons (x_var rfl (x_nil ?_)))))))
    refine use__law_weight hs25 ((s23.trans sb25) _ _ t2) (fun B26 H26 sb26 hs26 => ?_)
    refine x_ne rfl (x_exb ?_)
    have sEnd := (sb21.trans s23).trans (sb25.trans sb26)
    refine x_ite (fun h => ?_) (fun h => ?_)
    · refine x_asg (x_c (x_gname ?_))
      dsimp only [List.set]
      refine ⟨((false, _), some (.str a)), B26, rfl, sEnd, hs26, rfl, ?_⟩
      have hne : ¬ w1 a = w2 a := fun e => by
        have e : wtF k1 f1 r1 a = wtF k4 f4 r4 a := e
        rw [e] at h
        simp at h
      dsimp only
      rw [take_snoc ha, List.all_append]
      simp [hne]
    · refine x_next ?_
      refine ⟨((eq, _), some (.str a)), B26, rfl, sEnd, hs26, rfl, ?_⟩
      have he : w1 a = w2 a := by
        refine Classical.byContradiction fun z => ?_
        have : ¬ ((wtF k1 f1 r1 a : Int) = (wtF k4 f4 r4 a : Int)) := fun e => z (by show wtF k1 f1 r1 a = wtF k4 f4 r4 a; omega)
        simp [this] at h
      dsimp only
      rw [take_snoc ha, List.all_append, p2]
      simp [he]
  obtain ⟨⟨eq, kv⟩, z12⟩ := z
  obtain ⟨p1, p2⟩ := pp
  rw [List.length_map, List.take_length] at p1 p2
  dsimp only at hs21 p1 p2 ⊢
  subst p1
  obtain ⟨hs22, sb22⟩ := hs21.freezeA
  have etot : upd B21 tot (.dK (zipV xs (wV fun a => w1 a + w2 a))) tot = some (.dK (zipV xs (wV fun a => w1 a + w2 a))) := upd_same
  generalize upd B21 tot (.dK (zipV xs (wV fun a => w1 a + w2 a))) = B22 at hs22 sb22 etot
  have s22 := s19.trans (sb21.trans sb22)
  have lS : (mkScl k1 f1 r1).ks.length ≤ 20 := by
    have := List.length_filter_le (fun a => !decide (f1 a = r1)) k1
    show (k1.filter fun a => !decide (f1 a = r1)).length ≤ 20
    omega
  have lT : (mkScl k4 f4 r4).ks.length ≤ 20 := by
    have := List.length_filter_le (fun a => !decide (f4 a = r4)) k4
    show (k4.filter fun a => !decide (f4 a = r4)).length ≤ 20
    omega
  have oS : ∀ a ∈ (mkScl k1 f1 r1).ks, okName a = true := fun a m => okn1 a (mkScl_in m)
  have oT : ∀ a ∈ (mkScl k4 f4 r4).ks, okName a = true := fun a m => okn4 a (mkScl_in m)
  refine x_seq (x_asg (x_op (x_var rfl (x_var rfl ?_))))
  refine use_addScl hs22 (sL.mono s22) (sR.mono s22) lS lT oS oT (fun B23 H23 bo sb23 hs23 sBo => ?_)
  refine x_gname ?_
  dsimp only [List.set]
  have s23 := s22.trans sb23
  have hstn : st ≠ n := fun e => by
    have h1 := (hs23.mu _ List.mem_cons_self).1
    dsimp only at h1
    rw [e, s23 _ _ en17] at h1
    cases h1
  refine x_seq (x_asg (x_cl (x_cons (x_var rfl (x_cons (x_var rfl (x_nil ?_)))))))
  refine use_name hs23 hv14 (hs23.up (s23 _ _ en17)) (by omega) (fun B24 H24 a24 b24 y sb24 hs24 hv24 hy ny => ?_) (Ne.symm hstn)
  refine x_gname ?_
  dsimp only [List.set]
  have s24 := s23.trans sb24
  have sBo := sBo.mono sb24
  obtain ⟨dxb, spb, ebo, _⟩ := id sBo
  have hyw : (addScl (mkScl k1 f1 r1) (mkScl k4 f4 r4)).wt y = r1 + r4 := by
    rw [addScl_wt, mkScl_wt, mkScl_wt]
    unfold wtF
    rw [if_neg fun m => ny (hin1 y m), if_neg fun m => ny (hk4 y m)]
  refine x_seq (x_if (x_not (x_tB (x_cl (x_cons (x_mtU (x_var rfl ?_)))))))
  refine x_mt (hs24.up ebo) (scf_no (by decide +kernel)) (x_cons (x_var rfl (x_nil ?_)))
  refine use_weight hs24 sBo (fun B25 H25 sb25 hs25 => ?_)
  rw [hyw]
  refine x_cons (x_op (x_var rfl (x_var rfl (x_addI ?_))))
  rw [← Int.natCast_add]
  refine x_nil ?_
  obtain ⟨okt, sm⟩ := same_refl 90 (.int (r1 + r4 : Nat)) trivial
  refine use__law_same (n := 90) hs25 (.int _) (.int _) trivial okt (fun B26 H26 sb26 hs26 => ?_)
  rw [sm]
  refine x_exb (x_iteF rfl (x_next ?_))
  dsimp only
  have s2426 := sb25.trans sb26
  have s26 := s24.trans s2426
  refine x_seq (x_if (x_or (x_not (x_tB (x_cl (x_cons (x_var rfl (x_cons (x_var rfl (x_cons (x_var rfl (x_cons (x_op (x_var rfl (x_var rfl (x_addI ?_))))))))))))))))
  rw [← Int.natCast_add]
  refine x_nil ?_
  refine use_scale_fits hs26 (sBo.mono s2426) (s26 _ _ en17) (((sb23.trans sb24).trans s2426) _ _ etot) (fun a ma => ?_) (fun B27 H27 sb27 hs27 => ?_)
  · rw [addScl_wt, mkScl_wt, mkScl_wt]
    unfold wtF
    rw [if_pos ma]
    rfl
  refine x_exb (x_iteF rfl (x_not (x_tB (x_cl (x_cons (x_var rfl (x_cons (x_var rfl (x_cons (x_var rfl (x_cons (x_var rfl (x_nil ?_)))))))))))))
  have s27 := s26.trans sb27
  refine use_scale_fits hs27 (sL.mono s27) (s27 _ _ en17) (s27 _ _ ed117) (fun a _ => mkScl_wt a) (fun B28 H28 sb28 hs28 => ?_)
  refine x_exb (x_iteF rfl (x_next ?_))
  dsimp only
  have s28 := s27.trans sb28
  refine x_seq (x_if (x_not (x_tB (x_cl (x_cons (x_var rfl (x_cons (x_var rfl (x_cons (x_var rfl (x_cons (x_var rfl (x_nil ?_)))))))))))))
  refine use_scale_fits hs28 (sR.mono s28) (s28 _ _ en17) (s28 _ _ ed217) (fun a _ => mkScl_wt a) (fun B29 H29 sb29 hs29 => ?_)
  refine x_exb (x_iteF rfl (x_next ?_))
  dsimp only
  have s29 := s28.trans sb29
  have sbl : ∀ b : Bool, sameD 90 (.bl b) (.bl b) = true := fun b => (decide_eq_true rfl : decide (b = b) = true)
  have in1 : ∀ a ∈ (mkScl k1 f1 r1).ks, a ∈ xs := fun a m => hin1 a (mkScl_in m)
  have in4 : ∀ a ∈ (mkScl k4 f4 r4).ks, a ∈ xs := fun a m => hk4 a (mkScl_in m)
  have q1 : eqScl (mkScl k1 f1 r1) (mkScl k4 f4 r4) = eq := by
    rw [eqScl_wt (mkScl_ok nd1) (mkScl_ok nd4) in1 in4, p2]
    congr 1
    exact congrArg (fun g => xs.all g) (funext fun a => by rw [mkScl_wt, mkScl_wt])
  have q2 : eqScl (mkScl k4 f4 r4) (mkScl k1 f1 r1) = eq := by
    rw [eqScl_wt (mkScl_ok nd4) (mkScl_ok nd1) in4 in1, p2]
    congr 1
    · show decide (r4 = r1) = decide (r1 = r4)
      simp [eq_comm]
    · exact congrArg (fun g => xs.all g) (funext fun a => by rw [mkScl_wt, mkScl_wt]; simp only [eq_comm]; rfl)
  have q3 : eqScl (addScl (mkScl k1 f1 r1) (mkScl k4 f4 r4)) (addScl (mkScl k4 f4 r4) (mkScl k1 f1 r1)) = true := by
    rw [eqScl_wt (xs := xs) addScl_ok addScl_ok (fun a m => (addScl_in m).elim (in1 a) (in4 a)) (fun a m => (addScl_in m).elim (in4 a) (in1 a))]
    rw [Bool.and_eq_true]
    refine ⟨decide_eq_true (Nat.add_comm r1 r4), List.all_eq_true.mpr fun a _ => decide_eq_true ?_⟩
    rw [addScl_wt, addScl_wt, Nat.add_comm]
  refine x_ret (x_andV (x_cl (x_cons (x_op (x_var rfl (x_var rfl ?_))))))
  refine use_eqScl hs29 (sL.mono s29) (sR.mono s29) (fun B30 H30 sb30 hs30 => ?_)
  rw [q1]
  refine x_cons (x_var rfl (x_nil ?_))
  refine use__law_same (n := 90) hs30 (.bl _) (.bl _) trivial trivial (fun B31 H31 sb31 hs31 => ?_)
  rw [sbl]
  refine x_exb (x_iteT rfl (x_andV (x_cl (x_cons (x_op (x_var rfl (x_var rfl ?_)))))))
  have s31 := s29.trans (sb30.trans sb31)
  refine use_eqScl hs31 (sR.mono s31) (sL.mono s31) (fun B32 H32 sb32 hs32 => ?_)
  rw [q2]
  refine x_cons (x_var rfl (x_nil ?_))
  refine use__law_same (n := 90) hs32 (.bl _) (.bl _) trivial trivial (fun B33 H33 sb33 hs33 => ?_)
  rw [sbl]
  refine x_exb (x_iteT rfl (x_cl (x_cons (x_op (x_var rfl (x_op (x_var rfl (x_var rfl ?_))))))))
  have s3133 := sb32.trans sb33
  have s33 := s31.trans s3133
  refine use_addScl hs33 (sR.mono s33) (sL.mono s33) lT lS oT oS (fun B34 H34 bo2 sb34 hs34 sBo2 => ?_)
  have sBoE := sBo.mono ((s2426.trans (sb27.trans (sb28.trans sb29))).trans ((sb30.trans sb31).trans (s3133.trans sb34)))
  refine use_eqScl hs34 sBoE sBo2 (fun B35 H35 sb35 hs35 => ?_)
  rw [q3]
  refine x_cons (x_c (x_nil ?_))
  refine use__law_same (n := 90) hs35 (.bl _) (.bl _) trivial trivial (fun B36 H36 sb36 hs36 => ?_)
  rw [sbl]
  exact k _
end Q

set_option Elab.async false
set_option linter.all false
set_option maxRecDepth 100000
set_option maxHeartbeats 0
/-! ### each def keeps its promise -/
namespace Hd
open PySem PySem.Spec PyProof.Rows L2 Q
structure Top (K : PySem.W.Frag) (mg : Str → Option Value) : Prop where
  f_abs : mg "abs" = none
  f_bool : mg "bool" = none
  f_dict : mg "dict" = none
  f_int : mg "int" = none
  f_isinstance : mg "isinstance" = none
  f_len : mg "len" = none
  f_list : mg "list" = none
  f_min : mg "min" = none
  f_range : mg "range" = none
  f_reversed : mg "reversed" = none
  f_sorted : mg "sorted" = none
  f_str : mg "str" = none
  f_tuple : mg "tuple" = none
  k_LETTERS : ∃ t, mg "LETTERS" = some (.str "abcdefghijklmnopqrstuvwxyz" t)
  g_BadWeights : mg "BadWeights" = some (.ref (He.ga K "BadWeights"))
  g_QuietError : mg "QuietError" = some (.ref (He.ga K "QuietError"))
  g_Scale : mg "Scale" = some (.ref (He.ga K "Scale"))
  g__law_take : mg "_law_take" = some (.ref (He.ga K "_law_take"))
  g__law_big : mg "_law_big" = some (.ref (He.ga K "_law_big"))
  g__law_cell : mg "_law_cell" = some (.ref (He.ga K "_law_cell"))
  g_is_name : mg "is_name" = some (.ref (He.ga K "is_name"))
  g_is_integer : mg "is_integer" = some (.ref (He.ga K "is_integer"))
  g_is_weight : mg "is_weight" = some (.ref (He.ga K "is_weight"))
  g_check_weights : mg "check_weights" = some (.ref (He.ga K "check_weights"))
  g__law_made : mg "_law_made" = some (.ref (He.ga K "_law_made"))
  g__law_name : mg "_law_name" = some (.ref (He.ga K "_law_name"))
  g__law_names : mg "_law_names" = some (.ref (He.ga K "_law_names"))
  g__law_is_integer : mg "_law_is_integer" = some (.ref (He.ga K "_law_is_integer"))
  g__law_same : mg "_law_same" = some (.ref (He.ga K "_law_same"))
  g__law_weight : mg "_law_weight" = some (.ref (He.ga K "_law_weight"))
  g__law_scale_fits : mg "_law_scale_fits" = some (.ref (He.ga K "_law_scale_fits"))
  g__law_turnedO : mg "_law_turned" = some (.ref (He.ga K "_law_turned"))
  g__law_mixed : mg "_law_mixed" = some (.ref (He.ga K "_law_mixed"))
  g__law_weights : mg "_law_weights" = some (.ref (He.ga K "_law_weights"))
  g_law : mg "law" = some (.ref (He.ga K "law"))
  qi : qInitB K "QuietError" = true
  na_BadWeights_name : PySem.W.findIn K (.ref (He.ga K "BadWeights")) "name" = some none
  ox_BadWeights : OexC K (He.ga K "BadWeights")
  mi_BadWeights : Meth K (He.ga K "BadWeights") "__init__" (He.ma K (He.ga K "BadWeights") "__init__")
  ti_BadWeights : PySem.W.typeIn K (.ref (He.ma K (He.ga K "BadWeights") "__init__")) = some (.type "function")
  mk_Scale : Mk K (He.ga K "Scale") (He.ma K (He.ga K "Scale") "__init__")
  me_Scale_weight : Meth K (He.ga K "Scale") "weight" (He.ma K (He.ga K "Scale") "weight")
  me_Scale___add__ : Meth K (He.ga K "Scale") "__add__" (He.ma K (He.ga K "Scale") "__add__")
  me_Scale___eq__ : Meth K (He.ga K "Scale") "__eq__" (He.ma K (He.ga K "Scale") "__eq__")
  sk : SK K
  sf_Scale : PySem.W.selfFirst K (He.ga K "Scale") = true
  si : SI K
section
variable {P : Program} {w : World} {K : PySem.W.Frag} {mg : Str → Option Value} {base : Heap} {f : Addr} {fd : FuncData}
abbrev n__law_take : List Str := ["_law_state", "_law_many", "_law_mixed_here", "_law_digit"]
theorem sc__law_take : FnScope n__law_take ["_law_state", "_law_many"] (defScope s__law_take) := ⟨rfl, rfl, rfl, by decide +kernel, rfl, by decide +kernel, by decide +kernel⟩
theorem ok__law_take (T : Top K mg)  (F : FunD K "_law_take" "_law_take" (defArgs s__law_take) (defBody s__law_take) (defScope s__law_take) [] [] f fd) : FnOk P w K mg base (L2.CX P w) 1 f fd ["_law_state", "_law_many"] (sp__law_take K) := by
  have sc := sc__law_take
  refine F.ok sc (fun vs H Q E h => ?_) (fun cdv A outer s H vs Q E hr h => ⟨t__law_take K E, ?_, pure__law_take h⟩)
  · first | exact h.1 | (obtain ⟨rfl, _⟩ := h; rfl) | (obtain ⟨_, rfl, _⟩ := h; rfl) | (obtain ⟨_, _, rfl, _⟩ := h; rfl) | (obtain ⟨_, _, _, rfl, _⟩ := h; rfl) | (obtain ⟨_, _, _, _, rfl, _⟩ := h; rfl) | (obtain ⟨_, _, _, _, _, rfl, _⟩ := h; rfl) | (obtain ⟨_, _, _, _, _, _, rfl, _⟩ := h; rfl) | (obtain ⟨_, _, _, _, _, _, _, rfl, _⟩ := h; rfl) | (obtain ⟨_, _, _, _, _, _, _, _, rfl, _⟩ := h; rfl) | (obtain ⟨_, _, _, _, _, _, _, _, _, rfl, _⟩ := h; rfl) | (obtain ⟨_, _, _, _, _, _, _, _, _, _, rfl, _⟩ := h; rfl) | (obtain ⟨_, _, _, _, _, _, _, _, _, _, _, rfl, _⟩ := h; rfl) | (obtain ⟨_, _, _, _, _, _, _, _, _, _, _, _, rfl, _⟩ := h; rfl) | (obtain ⟨_, _, _, _, _, _, _, _, _, _, _, _, _, rfl, _⟩ := h; rfl) | (obtain ⟨_, _, _, _, _, _, _, _, _, _, _, _, _, _, rfl, _⟩ := h; rfl) | (obtain ⟨_, _, _, _, _, _, _, _, _, _, _, _, _, _, _, rfl, _⟩ := h; rfl) | (obtain ⟨_, _, _, _, _, _, _, _, _, _, _, _, _, _, _, _, rfl, _⟩ := h; rfl) | (obtain ⟨_, _, _, _, _, _, _, _, _, _, _, _, _, _, _, _, _, rfl, _⟩ := h; rfl) | (obtain ⟨_, _, _, _, _, _, _, _, _, _, _, _, _, _, _, _, _, _, rfl, _⟩ := h; rfl) | (obtain ⟨_, _, _, _, _, _, _, _, _, _, _, _, _, _, _, _, _, _, _, rfl, _⟩ := h; rfl) | (obtain ⟨_, _, _, _, _, _, _, _, _, _, _, _, _, _, _, _, _, _, _, _, rfl, _⟩ := h; rfl) | (obtain ⟨_, _, _, _, _, _, _, _, _, _, _, _, _, _, _, _, _, _, _, _, _, rfl, _⟩ := h; rfl) | (obtain ⟨_, _, _, _, _, _, _, _, _, _, _, _, _, _, _, _, _, _, _, _, _, _, rfl, _⟩ := h; rfl) | (obtain ⟨_, _, _, _, _, _, _, _, _, _, _, _, _, _, _, _, _, _, _, _, _, _, _, rfl, _⟩ := h; rfl) | (obtain ⟨_, _, _, _, _, _, _, _, _, _, _, _, _, _, _, _, _, _, _, _, _, _, _, _, rfl, _⟩ := h; rfl) | (obtain ⟨_, _, _, _, _, _, _, _, _, _, _, _, _, _, _, _, _, _, _, _, _, _, _, _, _, rfl, _⟩ := h; rfl)
  · have tk : Takes (cxOf (L2.CX P w) P w K mg base n__law_take "_law_take" (defScope s__law_take) f cdv A outer s H E) (WE0 E) := takes_of rfl rfl rfl rfl
    have po : PassesOwn (model P w) (cxOf (L2.CX P w) P w K mg base n__law_take "_law_take" (defScope s__law_take) f cdv A outer s H E).A (cxOf (L2.CX P w) P w K mg base n__law_take "_law_take" (defScope s__law_take) f cdv A outer s H E).env (cxOf (L2.CX P w) P w K mg base n__law_take "_law_take" (defScope s__law_take) f cdv A outer s H E).xe := passes_of rfl
    exact (pss_cons (ps_if (pt_cmpR oGtI (pe_ix ix_list (pv 0) pe_int (fun _ _ => rfl)) pe_int (nomark _)) (pss_cons (ps_set (i := 3) sc.nd rfl (by first | exact Or.inl rfl | exact Or.inr rfl) (pe_op oModI (pe_callTy cInt1 (by rfl) T.f_int (by decide +kernel) (pa_cons (pe_ix ix_list (pv 0) pe_int (fun _ _ => rfl)) pa_nil)) (pv 1)))
      (pss_cons (ps_asg (pe_op oDivI (pe_callTy cInt1 (by rfl) T.f_int (by decide +kernel) (pa_cons (pe_ix ix_list (pv 0) pe_int (fun _ _ => rfl)) pa_nil)) (pv 1)) (pg_sub (pv 0) pe_int set_list))
      (pss_one (ps_ret (pv 3))))) pss_nil)
      (pss_cons (ps_asg (pe_op oModI (pe_callTy cInt1 (by rfl) T.f_int (by decide +kernel) (pa_cons (pe_op oAddI (pe_op oMulI (pe_ix ix_list (pv 0) pe_int (fun _ _ => rfl)) pe_int) pe_int) pa_nil)) pe_int) (pg_sub (pv 0) pe_int set_list))
      (pss_cons (ps_set (i := 2) sc.nd rfl (by first | exact Or.inl rfl | exact Or.inr rfl) (pe_op oModI (pe_callTy cInt1 (by rfl) T.f_int (by decide +kernel) (pa_cons (pe_op oMulI (pe_ix ix_list (pv 0) pe_int (fun _ _ => rfl)) (pe_op oAddI (pe_op oDivI (pe_ix ix_list (pv 0) pe_int (fun _ _ => rfl)) pe_int) pe_int)) pa_nil)) pe_int))
      (pss_one (ps_ret (pe_op oModI (pe_callTy cInt1 (by rfl) T.f_int (by decide +kernel) (pa_cons (pe_op oDivI (pv 2) pe_int) pa_nil)) (pv 1)))))))
abbrev n__law_big : List Str := ["_law_state", "_law_kind", "_law_number"]
theorem sc__law_big : FnScope n__law_big ["_law_state"] (defScope s__law_big) := ⟨rfl, rfl, rfl, by decide +kernel, rfl, by decide +kernel, by decide +kernel⟩
theorem ok__law_big (T : Top K mg) (F__law_take : Fn P w K mg base 1 "_law_take" ["_law_state", "_law_many"] (sp__law_take K)) (F : FunD K "_law_big" "_law_big" (defArgs s__law_big) (defBody s__law_big) (defScope s__law_big) [] [] f fd) : FnOk P w K mg base (L2.CX P w) 2 f fd ["_law_state"] (sp__law_big K) := by
  have sc := sc__law_big
  refine F.ok sc (fun vs H Q E h => ?_) (fun cdv A outer s H vs Q E hr h => ⟨t__law_big K E, ?_, pure__law_big h⟩)
  · first | exact h.1 | (obtain ⟨rfl, _⟩ := h; rfl) | (obtain ⟨_, rfl, _⟩ := h; rfl) | (obtain ⟨_, _, rfl, _⟩ := h; rfl) | (obtain ⟨_, _, _, rfl, _⟩ := h; rfl) | (obtain ⟨_, _, _, _, rfl, _⟩ := h; rfl) | (obtain ⟨_, _, _, _, _, rfl, _⟩ := h; rfl) | (obtain ⟨_, _, _, _, _, _, rfl, _⟩ := h; rfl) | (obtain ⟨_, _, _, _, _, _, _, rfl, _⟩ := h; rfl) | (obtain ⟨_, _, _, _, _, _, _, _, rfl, _⟩ := h; rfl) | (obtain ⟨_, _, _, _, _, _, _, _, _, rfl, _⟩ := h; rfl) | (obtain ⟨_, _, _, _, _, _, _, _, _, _, rfl, _⟩ := h; rfl) | (obtain ⟨_, _, _, _, _, _, _, _, _, _, _, rfl, _⟩ := h; rfl) | (obtain ⟨_, _, _, _, _, _, _, _, _, _, _, _, rfl, _⟩ := h; rfl) | (obtain ⟨_, _, _, _, _, _, _, _, _, _, _, _, _, rfl, _⟩ := h; rfl) | (obtain ⟨_, _, _, _, _, _, _, _, _, _, _, _, _, _, rfl, _⟩ := h; rfl) | (obtain ⟨_, _, _, _, _, _, _, _, _, _, _, _, _, _, _, rfl, _⟩ := h; rfl) | (obtain ⟨_, _, _, _, _, _, _, _, _, _, _, _, _, _, _, _, rfl, _⟩ := h; rfl) | (obtain ⟨_, _, _, _, _, _, _, _, _, _, _, _, _, _, _, _, _, rfl, _⟩ := h; rfl) | (obtain ⟨_, _, _, _, _, _, _, _, _, _, _, _, _, _, _, _, _, _, rfl, _⟩ := h; rfl) | (obtain ⟨_, _, _, _, _, _, _, _, _, _, _, _, _, _, _, _, _, _, _, rfl, _⟩ := h; rfl) | (obtain ⟨_, _, _, _, _, _, _, _, _, _, _, _, _, _, _, _, _, _, _, _, rfl, _⟩ := h; rfl) | (obtain ⟨_, _, _, _, _, _, _, _, _, _, _, _, _, _, _, _, _, _, _, _, _, rfl, _⟩ := h; rfl) | (obtain ⟨_, _, _, _, _, _, _, _, _, _, _, _, _, _, _, _, _, _, _, _, _, _, rfl, _⟩ := h; rfl) | (obtain ⟨_, _, _, _, _, _, _, _, _, _, _, _, _, _, _, _, _, _, _, _, _, _, _, rfl, _⟩ := h; rfl) | (obtain ⟨_, _, _, _, _, _, _, _, _, _, _, _, _, _, _, _, _, _, _, _, _, _, _, _, rfl, _⟩ := h; rfl) | (obtain ⟨_, _, _, _, _, _, _, _, _, _, _, _, _, _, _, _, _, _, _, _, _, _, _, _, _, rfl, _⟩ := h; rfl)
  · have tk : Takes (cxOf (L2.CX P w) P w K mg base n__law_big "_law_big" (defScope s__law_big) f cdv A outer s H E) (WE0 E) := takes_of rfl rfl rfl rfl
    have po : PassesOwn (model P w) (cxOf (L2.CX P w) P w K mg base n__law_big "_law_big" (defScope s__law_big) f cdv A outer s H E).A (cxOf (L2.CX P w) P w K mg base n__law_big "_law_big" (defScope s__law_big) f cdv A outer s H E).env (cxOf (L2.CX P w) P w K mg base n__law_big "_law_big" (defScope s__law_big) f cdv A outer s H E).xe := passes_of rfl
    exact (pss_cons (ps_set (i := 1) sc.nd rfl (by first | exact Or.inl rfl | exact Or.inr rfl) (pe_cl F__law_take hr (by decide) tk (pa_cons (pv 0) (pa_cons pe_int pa_nil))))
      (pss_cons (ps_if (pt_cmpR op_eq (pv 1) pe_int (nomark _)) (pss_one (ps_ret pe_int)) pss_nil)
      (pss_cons (ps_if (pt_cmpR op_eq (pv 1) pe_int (nomark _)) (pss_one (ps_ret (pe_cl F__law_take hr (by decide) tk (pa_cons (pv 0) (pa_cons pe_int pa_nil))))) pss_nil)
      (pss_cons (ps_set (i := 2) sc.nd rfl (by first | exact Or.inl rfl | exact Or.inr rfl) (pe_cl F__law_take hr (by decide) tk (pa_cons (pv 0) (pa_cons (pe_op oPowI pe_int pe_int) pa_nil))))
      (pss_cons (ps_if (pt_cmpR op_eq (pv 1) pe_int (nomark _)) (pss_one (ps_ret (pv 2))) pss_nil)
      (pss_one (ps_ret (pe_op oAddI (pe_op oMulI (pv 2) (pe_op oPowI pe_int pe_int)) (pe_cl F__law_take hr (by decide) tk (pa_cons (pv 0) (pa_cons (pe_op oPowI pe_int pe_int) pa_nil)))))))))))
abbrev n__law_cell : List Str := ["_law_script", "_law_k", "_law_number", "_law_seed"]
theorem sc__law_cell : FnScope n__law_cell ["_law_script", "_law_k"] (defScope s__law_cell) := ⟨rfl, rfl, rfl, by decide +kernel, rfl, by decide +kernel, by decide +kernel⟩
theorem ok__law_cell (T : Top K mg)  (F : FunD K "_law_cell" "_law_cell" (defArgs s__law_cell) (defBody s__law_cell) (defScope s__law_cell) [] [] f fd) : FnOk P w K mg base (L2.CX P w) 1 f fd ["_law_script", "_law_k"] (sp__law_cell K) := by
  have sc := sc__law_cell
  refine F.ok sc (fun vs H Q E h => ?_) (fun cdv A outer s H vs Q E hr h => ⟨t__law_cell K E, ?_, pure__law_cell h⟩)
  · first | exact h.1 | (obtain ⟨rfl, _⟩ := h; rfl) | (obtain ⟨_, rfl, _⟩ := h; rfl) | (obtain ⟨_, _, rfl, _⟩ := h; rfl) | (obtain ⟨_, _, _, rfl, _⟩ := h; rfl) | (obtain ⟨_, _, _, _, rfl, _⟩ := h; rfl) | (obtain ⟨_, _, _, _, _, rfl, _⟩ := h; rfl) | (obtain ⟨_, _, _, _, _, _, rfl, _⟩ := h; rfl) | (obtain ⟨_, _, _, _, _, _, _, rfl, _⟩ := h; rfl) | (obtain ⟨_, _, _, _, _, _, _, _, rfl, _⟩ := h; rfl) | (obtain ⟨_, _, _, _, _, _, _, _, _, rfl, _⟩ := h; rfl) | (obtain ⟨_, _, _, _, _, _, _, _, _, _, rfl, _⟩ := h; rfl) | (obtain ⟨_, _, _, _, _, _, _, _, _, _, _, rfl, _⟩ := h; rfl) | (obtain ⟨_, _, _, _, _, _, _, _, _, _, _, _, rfl, _⟩ := h; rfl) | (obtain ⟨_, _, _, _, _, _, _, _, _, _, _, _, _, rfl, _⟩ := h; rfl) | (obtain ⟨_, _, _, _, _, _, _, _, _, _, _, _, _, _, rfl, _⟩ := h; rfl) | (obtain ⟨_, _, _, _, _, _, _, _, _, _, _, _, _, _, _, rfl, _⟩ := h; rfl) | (obtain ⟨_, _, _, _, _, _, _, _, _, _, _, _, _, _, _, _, rfl, _⟩ := h; rfl) | (obtain ⟨_, _, _, _, _, _, _, _, _, _, _, _, _, _, _, _, _, rfl, _⟩ := h; rfl) | (obtain ⟨_, _, _, _, _, _, _, _, _, _, _, _, _, _, _, _, _, _, rfl, _⟩ := h; rfl) | (obtain ⟨_, _, _, _, _, _, _, _, _, _, _, _, _, _, _, _, _, _, _, rfl, _⟩ := h; rfl) | (obtain ⟨_, _, _, _, _, _, _, _, _, _, _, _, _, _, _, _, _, _, _, _, rfl, _⟩ := h; rfl) | (obtain ⟨_, _, _, _, _, _, _, _, _, _, _, _, _, _, _, _, _, _, _, _, _, rfl, _⟩ := h; rfl) | (obtain ⟨_, _, _, _, _, _, _, _, _, _, _, _, _, _, _, _, _, _, _, _, _, _, rfl, _⟩ := h; rfl) | (obtain ⟨_, _, _, _, _, _, _, _, _, _, _, _, _, _, _, _, _, _, _, _, _, _, _, rfl, _⟩ := h; rfl) | (obtain ⟨_, _, _, _, _, _, _, _, _, _, _, _, _, _, _, _, _, _, _, _, _, _, _, _, rfl, _⟩ := h; rfl) | (obtain ⟨_, _, _, _, _, _, _, _, _, _, _, _, _, _, _, _, _, _, _, _, _, _, _, _, _, rfl, _⟩ := h; rfl)
  · have tk : Takes (cxOf (L2.CX P w) P w K mg base n__law_cell "_law_cell" (defScope s__law_cell) f cdv A outer s H E) (WE0 E) := takes_of rfl rfl rfl rfl
    have po : PassesOwn (model P w) (cxOf (L2.CX P w) P w K mg base n__law_cell "_law_cell" (defScope s__law_cell) f cdv A outer s H E).A (cxOf (L2.CX P w) P w K mg base n__law_cell "_law_cell" (defScope s__law_cell) f cdv A outer s H E).env (cxOf (L2.CX P w) P w K mg base n__law_cell "_law_cell" (defScope s__law_cell) f cdv A outer s H E).xe := passes_of rfl
    exact (pss_cons (ps_set (i := 2) sc.nd rfl (by first | exact Or.inl rfl | exact Or.inr rfl) pe_int)
      (pss_cons (ps_if (pt_cmpR oLtI (pv 1) (pe_callB cLenA (by rfl) T.f_len PySem.boot_len (pa_cons (pv 0) pa_nil)) (nomark _)) (pss_one (ps_set (i := 2) sc.nd rfl (by first | exact Or.inl rfl | exact Or.inr rfl) (pe_callB cAbs (by rfl) T.f_abs (by decide +kernel) (pa_cons (pe_ix ix_list (pv 0) (pv 1) (fun _ _ => rfl)) pa_nil)))) pss_nil)
      (pss_cons (ps_set (i := 3) sc.nd rfl (by first | exact Or.inl rfl | exact Or.inr rfl) (pe_op oModI (pe_callTy cInt1 (by rfl) T.f_int (by decide +kernel) (pa_cons (pe_op oAddI (pe_op oAddI (pe_op oAddI (pv 2) (pe_op oMulI pe_int (pv 1))) (pe_op oMulI pe_int (pe_callB (cMin2 rfl) (by rfl) T.f_min (by decide +kernel) (pa_cons (pe_callB cLenA (by rfl) T.f_len PySem.boot_len (pa_cons (pv 0) pa_nil)) (pa_cons pe_int pa_nil))))) pe_int) pa_nil)) pe_int))
      (pss_cons (ps_set (i := 3) sc.nd rfl (by first | exact Or.inl rfl | exact Or.inr rfl) (pe_op oModI (pe_callTy cInt1 (by rfl) T.f_int (by decide +kernel) (pa_cons (pe_op oAddI (pe_op oAddI (pe_op oMulI (pe_op oMulI (pv 3) (pv 3)) (pv 3)) (pe_op oMulI pe_int (pv 3))) pe_int) pa_nil)) pe_int))
      (pss_cons (ps_if (pt_cmpR oLtI (pv 2) (pe_op oPowI pe_int pe_int) (nomark _)) (pss_one (ps_ret (pe_lst (pa_cons pe_int (pa_cons (pv 3) pa_nil))))) pss_nil)
      (pss_one (ps_ret (pe_lst (pa_cons (pv 2) (pa_cons (pv 3) pa_nil))))))))))
abbrev n_is_name : List Str := ["value", "letter"]
theorem sc_is_name : FnScope n_is_name ["value"] (defScope s_is_name) := ⟨rfl, rfl, rfl, by decide +kernel, rfl, by decide +kernel, by decide +kernel⟩
theorem ok_is_name (T : Top K mg)  (F : FunD K "is_name" "is_name" (defArgs s_is_name) (defBody s_is_name) (defScope s_is_name) [] [] f fd) : FnOk P w K mg base (L2.CX P w) 1 f fd ["value"] (sp_is_name K) := by
  have sc := sc_is_name
  refine F.ok sc (fun vs H Q E h => ?_) (fun cdv A outer s H vs Q E hr h => ⟨t_is_name K E, ?_, pure_is_name h⟩)
  · first | exact h.1 | (obtain ⟨rfl, _⟩ := h; rfl) | (obtain ⟨_, rfl, _⟩ := h; rfl) | (obtain ⟨_, _, rfl, _⟩ := h; rfl) | (obtain ⟨_, _, _, rfl, _⟩ := h; rfl) | (obtain ⟨_, _, _, _, rfl, _⟩ := h; rfl) | (obtain ⟨_, _, _, _, _, rfl, _⟩ := h; rfl) | (obtain ⟨_, _, _, _, _, _, rfl, _⟩ := h; rfl) | (obtain ⟨_, _, _, _, _, _, _, rfl, _⟩ := h; rfl) | (obtain ⟨_, _, _, _, _, _, _, _, rfl, _⟩ := h; rfl) | (obtain ⟨_, _, _, _, _, _, _, _, _, rfl, _⟩ := h; rfl) | (obtain ⟨_, _, _, _, _, _, _, _, _, _, rfl, _⟩ := h; rfl) | (obtain ⟨_, _, _, _, _, _, _, _, _, _, _, rfl, _⟩ := h; rfl) | (obtain ⟨_, _, _, _, _, _, _, _, _, _, _, _, rfl, _⟩ := h; rfl) | (obtain ⟨_, _, _, _, _, _, _, _, _, _, _, _, _, rfl, _⟩ := h; rfl) | (obtain ⟨_, _, _, _, _, _, _, _, _, _, _, _, _, _, rfl, _⟩ := h; rfl) | (obtain ⟨_, _, _, _, _, _, _, _, _, _, _, _, _, _, _, rfl, _⟩ := h; rfl) | (obtain ⟨_, _, _, _, _, _, _, _, _, _, _, _, _, _, _, _, rfl, _⟩ := h; rfl) | (obtain ⟨_, _, _, _, _, _, _, _, _, _, _, _, _, _, _, _, _, rfl, _⟩ := h; rfl) | (obtain ⟨_, _, _, _, _, _, _, _, _, _, _, _, _, _, _, _, _, _, rfl, _⟩ := h; rfl) | (obtain ⟨_, _, _, _, _, _, _, _, _, _, _, _, _, _, _, _, _, _, _, rfl, _⟩ := h; rfl) | (obtain ⟨_, _, _, _, _, _, _, _, _, _, _, _, _, _, _, _, _, _, _, _, rfl, _⟩ := h; rfl) | (obtain ⟨_, _, _, _, _, _, _, _, _, _, _, _, _, _, _, _, _, _, _, _, _, rfl, _⟩ := h; rfl) | (obtain ⟨_, _, _, _, _, _, _, _, _, _, _, _, _, _, _, _, _, _, _, _, _, _, rfl, _⟩ := h; rfl) | (obtain ⟨_, _, _, _, _, _, _, _, _, _, _, _, _, _, _, _, _, _, _, _, _, _, _, rfl, _⟩ := h; rfl) | (obtain ⟨_, _, _, _, _, _, _, _, _, _, _, _, _, _, _, _, _, _, _, _, _, _, _, _, rfl, _⟩ := h; rfl) | (obtain ⟨_, _, _, _, _, _, _, _, _, _, _, _, _, _, _, _, _, _, _, _, _, _, _, _, _, rfl, _⟩ := h; rfl)
  · have tk : Takes (cxOf (L2.CX P w) P w K mg base n_is_name "is_name" (defScope s_is_name) f cdv A outer s H E) (WE0 E) := takes_of rfl rfl rfl rfl
    have po : PassesOwn (model P w) (cxOf (L2.CX P w) P w K mg base n_is_name "is_name" (defScope s_is_name) f cdv A outer s H E).A (cxOf (L2.CX P w) P w K mg base n_is_name "is_name" (defScope s_is_name) f cdv A outer s H E).env (cxOf (L2.CX P w) P w K mg base n_is_name "is_name" (defScope s_is_name) f cdv A outer s H E).xe := passes_of rfl
    exact (pss_cons (ps_if (PW.pt (pw_or (pt_not (pt_val (pe_callB call_isi (by rfl) T.f_isinstance (by decide +kernel) (pa_cons (pv 0) (pa_cons (pe_bltn (v := .ty "str") rfl T.f_str (by decide +kernel) rfl) pa_nil))))) (pw_or (pt_cmpR oLtI (pe_callB cLenA (by rfl) T.f_len PySem.boot_len (pa_cons (pv 0) pa_nil)) pe_int (nomark _)) (pw_or1 (pt_cmpR oGtI (pe_callB cLenA (by rfl) T.f_len PySem.boot_len (pa_cons (pv 0) pa_nil)) pe_int (nomark _)))))) (pss_one (ps_ret pe_bl)) pss_nil)
      (pss_cons (ps_for po rfl (pi_str (pv 0)) (pg_name (i := 1) sc.nd rfl (by first | exact Or.inl rfl | exact Or.inr rfl)) (pss_one (ps_if (pt_cmpR op_notInS (pv 1) (pe_glob rfl T.k_LETTERS.choose_spec ⟨_, rfl⟩) (by rfl)) (pss_one (ps_ret pe_bl)) pss_nil)))
      (pss_one (ps_ret pe_bl))))
abbrev n_is_integer : List Str := ["value"]
theorem sc_is_integer : FnScope n_is_integer ["value"] (defScope s_is_integer) := ⟨rfl, rfl, rfl, by decide +kernel, rfl, by decide +kernel, by decide +kernel⟩
theorem ok_is_integer (T : Top K mg)  (F : FunD K "is_integer" "is_integer" (defArgs s_is_integer) (defBody s_is_integer) (defScope s_is_integer) [] [] f fd) : FnOk P w K mg base (L2.CX P w) 1 f fd ["value"] (sp_is_integer K) := by
  have sc := sc_is_integer
  refine F.ok sc (fun vs H Q E h => ?_) (fun cdv A outer s H vs Q E hr h => ⟨t_is_integer K E, ?_, pure_is_integer h⟩)
  · first | exact h.1 | (obtain ⟨rfl, _⟩ := h; rfl) | (obtain ⟨_, rfl, _⟩ := h; rfl) | (obtain ⟨_, _, rfl, _⟩ := h; rfl) | (obtain ⟨_, _, _, rfl, _⟩ := h; rfl) | (obtain ⟨_, _, _, _, rfl, _⟩ := h; rfl) | (obtain ⟨_, _, _, _, _, rfl, _⟩ := h; rfl) | (obtain ⟨_, _, _, _, _, _, rfl, _⟩ := h; rfl) | (obtain ⟨_, _, _, _, _, _, _, rfl, _⟩ := h; rfl) | (obtain ⟨_, _, _, _, _, _, _, _, rfl, _⟩ := h; rfl) | (obtain ⟨_, _, _, _, _, _, _, _, _, rfl, _⟩ := h; rfl) | (obtain ⟨_, _, _, _, _, _, _, _, _, _, rfl, _⟩ := h; rfl) | (obtain ⟨_, _, _, _, _, _, _, _, _, _, _, rfl, _⟩ := h; rfl) | (obtain ⟨_, _, _, _, _, _, _, _, _, _, _, _, rfl, _⟩ := h; rfl) | (obtain ⟨_, _, _, _, _, _, _, _, _, _, _, _, _, rfl, _⟩ := h; rfl) | (obtain ⟨_, _, _, _, _, _, _, _, _, _, _, _, _, _, rfl, _⟩ := h; rfl) | (obtain ⟨_, _, _, _, _, _, _, _, _, _, _, _, _, _, _, rfl, _⟩ := h; rfl) | (obtain ⟨_, _, _, _, _, _, _, _, _, _, _, _, _, _, _, _, rfl, _⟩ := h; rfl) | (obtain ⟨_, _, _, _, _, _, _, _, _, _, _, _, _, _, _, _, _, rfl, _⟩ := h; rfl) | (obtain ⟨_, _, _, _, _, _, _, _, _, _, _, _, _, _, _, _, _, _, rfl, _⟩ := h; rfl) | (obtain ⟨_, _, _, _, _, _, _, _, _, _, _, _, _, _, _, _, _, _, _, rfl, _⟩ := h; rfl) | (obtain ⟨_, _, _, _, _, _, _, _, _, _, _, _, _, _, _, _, _, _, _, _, rfl, _⟩ := h; rfl) | (obtain ⟨_, _, _, _, _, _, _, _, _, _, _, _, _, _, _, _, _, _, _, _, _, rfl, _⟩ := h; rfl) | (obtain ⟨_, _, _, _, _, _, _, _, _, _, _, _, _, _, _, _, _, _, _, _, _, _, rfl, _⟩ := h; rfl) | (obtain ⟨_, _, _, _, _, _, _, _, _, _, _, _, _, _, _, _, _, _, _, _, _, _, _, rfl, _⟩ := h; rfl) | (obtain ⟨_, _, _, _, _, _, _, _, _, _, _, _, _, _, _, _, _, _, _, _, _, _, _, _, rfl, _⟩ := h; rfl) | (obtain ⟨_, _, _, _, _, _, _, _, _, _, _, _, _, _, _, _, _, _, _, _, _, _, _, _, _, rfl, _⟩ := h; rfl)
  · have tk : Takes (cxOf (L2.CX P w) P w K mg base n_is_integer "is_integer" (defScope s_is_integer) f cdv A outer s H E) (WE0 E) := takes_of rfl rfl rfl rfl
    have po : PassesOwn (model P w) (cxOf (L2.CX P w) P w K mg base n_is_integer "is_integer" (defScope s_is_integer) f cdv A outer s H E).A (cxOf (L2.CX P w) P w K mg base n_is_integer "is_integer" (defScope s_is_integer) f cdv A outer s H E).env (cxOf (L2.CX P w) P w K mg base n_is_integer "is_integer" (defScope s_is_integer) f cdv A outer s H E).xe := passes_of rfl
    exact (pss_one (ps_ret (pe_and (pe_callB call_isi (by rfl) T.f_isinstance (by decide +kernel) (pa_cons (pv 0) (pa_cons (pe_bltn (v := .ty "int") rfl T.f_int (by decide +kernel) rfl) pa_nil))) (pe_one (pe_not (pe_callB call_isi (by rfl) T.f_isinstance (by decide +kernel) (pa_cons (pv 0) (pa_cons (pe_bltn (v := .ty "bool") rfl T.f_bool (by decide +kernel) rfl) pa_nil))))))))
abbrev n_is_weight : List Str := ["value"]
theorem sc_is_weight : FnScope n_is_weight ["value"] (defScope s_is_weight) := ⟨rfl, rfl, rfl, by decide +kernel, rfl, by decide +kernel, by decide +kernel⟩
theorem ok_is_weight (T : Top K mg) (F_is_integer : Fn P w K mg base 1 "is_integer" ["value"] (sp_is_integer K)) (F : FunD K "is_weight" "is_weight" (defArgs s_is_weight) (defBody s_is_weight) (defScope s_is_weight) [] [] f fd) : FnOk P w K mg base (L2.CX P w) 2 f fd ["value"] (sp_is_weight K) := by
  have sc := sc_is_weight
  refine F.ok sc (fun vs H Q E h => ?_) (fun cdv A outer s H vs Q E hr h => ⟨t_is_weight K E, ?_, pure_is_weight h⟩)
  · first | exact h.1 | (obtain ⟨rfl, _⟩ := h; rfl) | (obtain ⟨_, rfl, _⟩ := h; rfl) | (obtain ⟨_, _, rfl, _⟩ := h; rfl) | (obtain ⟨_, _, _, rfl, _⟩ := h; rfl) | (obtain ⟨_, _, _, _, rfl, _⟩ := h; rfl) | (obtain ⟨_, _, _, _, _, rfl, _⟩ := h; rfl) | (obtain ⟨_, _, _, _, _, _, rfl, _⟩ := h; rfl) | (obtain ⟨_, _, _, _, _, _, _, rfl, _⟩ := h; rfl) | (obtain ⟨_, _, _, _, _, _, _, _, rfl, _⟩ := h; rfl) | (obtain ⟨_, _, _, _, _, _, _, _, _, rfl, _⟩ := h; rfl) | (obtain ⟨_, _, _, _, _, _, _, _, _, _, rfl, _⟩ := h; rfl) | (obtain ⟨_, _, _, _, _, _, _, _, _, _, _, rfl, _⟩ := h; rfl) | (obtain ⟨_, _, _, _, _, _, _, _, _, _, _, _, rfl, _⟩ := h; rfl) | (obtain ⟨_, _, _, _, _, _, _, _, _, _, _, _, _, rfl, _⟩ := h; rfl) | (obtain ⟨_, _, _, _, _, _, _, _, _, _, _, _, _, _, rfl, _⟩ := h; rfl) | (obtain ⟨_, _, _, _, _, _, _, _, _, _, _, _, _, _, _, rfl, _⟩ := h; rfl) | (obtain ⟨_, _, _, _, _, _, _, _, _, _, _, _, _, _, _, _, rfl, _⟩ := h; rfl) | (obtain ⟨_, _, _, _, _, _, _, _, _, _, _, _, _, _, _, _, _, rfl, _⟩ := h; rfl) | (obtain ⟨_, _, _, _, _, _, _, _, _, _, _, _, _, _, _, _, _, _, rfl, _⟩ := h; rfl) | (obtain ⟨_, _, _, _, _, _, _, _, _, _, _, _, _, _, _, _, _, _, _, rfl, _⟩ := h; rfl) | (obtain ⟨_, _, _, _, _, _, _, _, _, _, _, _, _, _, _, _, _, _, _, _, rfl, _⟩ := h; rfl) | (obtain ⟨_, _, _, _, _, _, _, _, _, _, _, _, _, _, _, _, _, _, _, _, _, rfl, _⟩ := h; rfl) | (obtain ⟨_, _, _, _, _, _, _, _, _, _, _, _, _, _, _, _, _, _, _, _, _, _, rfl, _⟩ := h; rfl) | (obtain ⟨_, _, _, _, _, _, _, _, _, _, _, _, _, _, _, _, _, _, _, _, _, _, _, rfl, _⟩ := h; rfl) | (obtain ⟨_, _, _, _, _, _, _, _, _, _, _, _, _, _, _, _, _, _, _, _, _, _, _, _, rfl, _⟩ := h; rfl) | (obtain ⟨_, _, _, _, _, _, _, _, _, _, _, _, _, _, _, _, _, _, _, _, _, _, _, _, _, rfl, _⟩ := h; rfl)
  · have tk : Takes (cxOf (L2.CX P w) P w K mg base n_is_weight "is_weight" (defScope s_is_weight) f cdv A outer s H E) (WE0 E) := takes_of rfl rfl rfl rfl
    have po : PassesOwn (model P w) (cxOf (L2.CX P w) P w K mg base n_is_weight "is_weight" (defScope s_is_weight) f cdv A outer s H E).A (cxOf (L2.CX P w) P w K mg base n_is_weight "is_weight" (defScope s_is_weight) f cdv A outer s H E).env (cxOf (L2.CX P w) P w K mg base n_is_weight "is_weight" (defScope s_is_weight) f cdv A outer s H E).xe := passes_of rfl
    exact (pss_one (ps_ret (pe_and (pe_cl F_is_integer hr (by decide) tk (pa_cons (pv 0) pa_nil)) (pe_one (pe_cmpR oGeI (pv 0) pe_int (nomark _))))))
abbrev n_BadWeights___init__ : List Str := ["self", "name"]
def t_BadWeights___init__ (K : PySem.W.Frag) (E : XK) : TS := (tSeq (tDrop (tVeI K (tCons (tVar 0) (tCons (tC (.str "the weights are not integers from zero on")) tNil))))
  (tOst K "name" (tVar 0) (tVar 1)))
theorem sc_BadWeights___init__ : FnScope n_BadWeights___init__ ["self", "name"] (defScope s_BadWeights___init__) := ⟨rfl, rfl, rfl, by decide +kernel, rfl, by decide +kernel, by decide +kernel⟩
theorem pure_BadWeights___init__ (T : Top K mg) {vs : List V} {H : Hp} {Q : VK} {E : XK} (h : (spI1 K (He.ga K "BadWeights") "name") vs H Q E) : t_BadWeights___init__ K E { nx := fun _ H' => Q .non H', rt := Q } (start n_BadWeights___init__ vs) H := by
  obtain ⟨a, v, rfl, ha, k⟩ := h
  show t_BadWeights___init__ K E _ [some (.ref a), some v] H
  exact xi1 T.ox_BadWeights T.na_BadWeights_name ha k
theorem ok_BadWeights___init__ (T : Top K mg)  (F : FunD K "__init__" "BadWeights.__init__" (defArgs s_BadWeights___init__) (defBody s_BadWeights___init__) (defScope s_BadWeights___init__) [] [] f fd) : FnOk P w K mg base (L2.CX P w) 1 f fd ["self", "name"] (spI1 K (He.ga K "BadWeights") "name") := by
  have sc := sc_BadWeights___init__
  refine F.ok sc (fun vs H Q E h => ?_) (fun cdv A outer s H vs Q E hr h => ⟨t_BadWeights___init__ K E, ?_, pure_BadWeights___init__ T h⟩)
  · first | exact h.1 | (obtain ⟨rfl, _⟩ := h; rfl) | (obtain ⟨_, rfl, _⟩ := h; rfl) | (obtain ⟨_, _, rfl, _⟩ := h; rfl) | (obtain ⟨_, _, _, rfl, _⟩ := h; rfl) | (obtain ⟨_, _, _, _, rfl, _⟩ := h; rfl) | (obtain ⟨_, _, _, _, _, rfl, _⟩ := h; rfl) | (obtain ⟨_, _, _, _, _, _, rfl, _⟩ := h; rfl) | (obtain ⟨_, _, _, _, _, _, _, rfl, _⟩ := h; rfl) | (obtain ⟨_, _, _, _, _, _, _, _, rfl, _⟩ := h; rfl) | (obtain ⟨_, _, _, _, _, _, _, _, _, rfl, _⟩ := h; rfl) | (obtain ⟨_, _, _, _, _, _, _, _, _, _, rfl, _⟩ := h; rfl) | (obtain ⟨_, _, _, _, _, _, _, _, _, _, _, rfl, _⟩ := h; rfl) | (obtain ⟨_, _, _, _, _, _, _, _, _, _, _, _, rfl, _⟩ := h; rfl) | (obtain ⟨_, _, _, _, _, _, _, _, _, _, _, _, _, rfl, _⟩ := h; rfl) | (obtain ⟨_, _, _, _, _, _, _, _, _, _, _, _, _, _, rfl, _⟩ := h; rfl) | (obtain ⟨_, _, _, _, _, _, _, _, _, _, _, _, _, _, _, rfl, _⟩ := h; rfl) | (obtain ⟨_, _, _, _, _, _, _, _, _, _, _, _, _, _, _, _, rfl, _⟩ := h; rfl) | (obtain ⟨_, _, _, _, _, _, _, _, _, _, _, _, _, _, _, _, _, rfl, _⟩ := h; rfl) | (obtain ⟨_, _, _, _, _, _, _, _, _, _, _, _, _, _, _, _, _, _, rfl, _⟩ := h; rfl) | (obtain ⟨_, _, _, _, _, _, _, _, _, _, _, _, _, _, _, _, _, _, _, rfl, _⟩ := h; rfl) | (obtain ⟨_, _, _, _, _, _, _, _, _, _, _, _, _, _, _, _, _, _, _, _, rfl, _⟩ := h; rfl) | (obtain ⟨_, _, _, _, _, _, _, _, _, _, _, _, _, _, _, _, _, _, _, _, _, rfl, _⟩ := h; rfl) | (obtain ⟨_, _, _, _, _, _, _, _, _, _, _, _, _, _, _, _, _, _, _, _, _, _, rfl, _⟩ := h; rfl) | (obtain ⟨_, _, _, _, _, _, _, _, _, _, _, _, _, _, _, _, _, _, _, _, _, _, _, rfl, _⟩ := h; rfl) | (obtain ⟨_, _, _, _, _, _, _, _, _, _, _, _, _, _, _, _, _, _, _, _, _, _, _, _, rfl, _⟩ := h; rfl) | (obtain ⟨_, _, _, _, _, _, _, _, _, _, _, _, _, _, _, _, _, _, _, _, _, _, _, _, _, rfl, _⟩ := h; rfl)
  · have tk : Takes (cxOf (L2.CX P w) P w K mg base n_BadWeights___init__ "BadWeights.__init__" (defScope s_BadWeights___init__) f cdv A outer s H E) (WE0 E) := takes_of rfl rfl rfl rfl
    have po : PassesOwn (model P w) (cxOf (L2.CX P w) P w K mg base n_BadWeights___init__ "BadWeights.__init__" (defScope s_BadWeights___init__) f cdv A outer s H E).A (cxOf (L2.CX P w) P w K mg base n_BadWeights___init__ "BadWeights.__init__" (defScope s_BadWeights___init__) f cdv A outer s H E).env (cxOf (L2.CX P w) P w K mg base n_BadWeights___init__ "BadWeights.__init__" (defScope s_BadWeights___init__) f cdv A outer s H E).xe := passes_of rfl
    exact (pss_cons (ps_expr (pe_qinit T.g_QuietError T.qi (pa_cons (pv 0) (pa_cons pe_str pa_nil))))
      (pss_one (ps_ost (pv 0) (pv 1))))
abbrev n_check_weights : List Str := ["weights", "rest", "name"]
theorem sc_check_weights : FnScope n_check_weights ["weights", "rest"] (defScope s_check_weights) := ⟨rfl, rfl, rfl, by decide +kernel, rfl, by decide +kernel, by decide +kernel⟩
theorem ok_check_weights (T : Top K mg) (F_is_name : Fn P w K mg base 1 "is_name" ["value"] (sp_is_name K)) (F_is_weight : Fn P w K mg base 2 "is_weight" ["value"] (sp_is_weight K)) (Z_BadWeights : ErC P w K mg base "BadWeights" ["self", "name"] (spI1 K (He.ga K "BadWeights") "name")) (F : FunD K "check_weights" "check_weights" (defArgs s_check_weights) (defBody s_check_weights) (defScope s_check_weights) [] [] f fd) : FnOk P w K mg base (L2.CX P w) 3 f fd ["weights", "rest"] (sp_check_weights K) := by
  have sc := sc_check_weights
  refine F.ok sc (fun vs H Q E h => ?_) (fun cdv A outer s H vs Q E hr h => ⟨t_check_weights K E, ?_, pure_check_weights h⟩)
  · first | exact h.1 | (obtain ⟨rfl, _⟩ := h; rfl) | (obtain ⟨_, rfl, _⟩ := h; rfl) | (obtain ⟨_, _, rfl, _⟩ := h; rfl) | (obtain ⟨_, _, _, rfl, _⟩ := h; rfl) | (obtain ⟨_, _, _, _, rfl, _⟩ := h; rfl) | (obtain ⟨_, _, _, _, _, rfl, _⟩ := h; rfl) | (obtain ⟨_, _, _, _, _, _, rfl, _⟩ := h; rfl) | (obtain ⟨_, _, _, _, _, _, _, rfl, _⟩ := h; rfl) | (obtain ⟨_, _, _, _, _, _, _, _, rfl, _⟩ := h; rfl) | (obtain ⟨_, _, _, _, _, _, _, _, _, rfl, _⟩ := h; rfl) | (obtain ⟨_, _, _, _, _, _, _, _, _, _, rfl, _⟩ := h; rfl) | (obtain ⟨_, _, _, _, _, _, _, _, _, _, _, rfl, _⟩ := h; rfl) | (obtain ⟨_, _, _, _, _, _, _, _, _, _, _, _, rfl, _⟩ := h; rfl) | (obtain ⟨_, _, _, _, _, _, _, _, _, _, _, _, _, rfl, _⟩ := h; rfl) | (obtain ⟨_, _, _, _, _, _, _, _, _, _, _, _, _, _, rfl, _⟩ := h; rfl) | (obtain ⟨_, _, _, _, _, _, _, _, _, _, _, _, _, _, _, rfl, _⟩ := h; rfl) | (obtain ⟨_, _, _, _, _, _, _, _, _, _, _, _, _, _, _, _, rfl, _⟩ := h; rfl) | (obtain ⟨_, _, _, _, _, _, _, _, _, _, _, _, _, _, _, _, _, rfl, _⟩ := h; rfl) | (obtain ⟨_, _, _, _, _, _, _, _, _, _, _, _, _, _, _, _, _, _, rfl, _⟩ := h; rfl) | (obtain ⟨_, _, _, _, _, _, _, _, _, _, _, _, _, _, _, _, _, _, _, rfl, _⟩ := h; rfl) | (obtain ⟨_, _, _, _, _, _, _, _, _, _, _, _, _, _, _, _, _, _, _, _, rfl, _⟩ := h; rfl) | (obtain ⟨_, _, _, _, _, _, _, _, _, _, _, _, _, _, _, _, _, _, _, _, _, rfl, _⟩ := h; rfl) | (obtain ⟨_, _, _, _, _, _, _, _, _, _, _, _, _, _, _, _, _, _, _, _, _, _, rfl, _⟩ := h; rfl) | (obtain ⟨_, _, _, _, _, _, _, _, _, _, _, _, _, _, _, _, _, _, _, _, _, _, _, rfl, _⟩ := h; rfl) | (obtain ⟨_, _, _, _, _, _, _, _, _, _, _, _, _, _, _, _, _, _, _, _, _, _, _, _, rfl, _⟩ := h; rfl) | (obtain ⟨_, _, _, _, _, _, _, _, _, _, _, _, _, _, _, _, _, _, _, _, _, _, _, _, _, rfl, _⟩ := h; rfl)
  · have tk : Takes (cxOf (L2.CX P w) P w K mg base n_check_weights "check_weights" (defScope s_check_weights) f cdv A outer s H E) (WE0 E) := takes_of rfl rfl rfl rfl
    have po : PassesOwn (model P w) (cxOf (L2.CX P w) P w K mg base n_check_weights "check_weights" (defScope s_check_weights) f cdv A outer s H E).A (cxOf (L2.CX P w) P w K mg base n_check_weights "check_weights" (defScope s_check_weights) f cdv A outer s H E).env (cxOf (L2.CX P w) P w K mg base n_check_weights "check_weights" (defScope s_check_weights) f cdv A outer s H E).xe := passes_of rfl
    exact (pss_cons (ps_if (PW.pt (pw_or (pt_not (pt_val (pe_callB call_isi (by rfl) T.f_isinstance (by decide +kernel) (pa_cons (pv 0) (pa_cons (pe_bltn (v := .ty "dict") rfl T.f_dict (by decide +kernel) rfl) pa_nil))))) (pw_or1 (pt_not (pt_val (pe_cl F_is_weight hr (by decide) tk (pa_cons (pv 1) pa_nil))))))) (pss_one (ps_rz1 Z_BadWeights hr (by decide) rfl tk pe_str)) pss_nil)
      (pss_cons (ps_for po rfl (pi_list (pe_callTy (call_list_dK rfl) (by rfl) T.f_list (by decide +kernel) (pa_cons (pv 0) pa_nil))) (pg_name (i := 2) sc.nd rfl (by first | exact Or.inl rfl | exact Or.inr rfl)) (pss_one (ps_if (pt_not (pt_val (pe_cl F_is_name hr (by decide) tk (pa_cons (pv 2) pa_nil)))) (pss_one (ps_rz1 Z_BadWeights hr (by decide) rfl tk pe_str)) pss_nil)))
      (pss_one (ps_for po rfl (pi_list (pe_callB (cSortD rfl) (by rfl) T.f_sorted (by decide +kernel) (pa_cons (pv 0) pa_nil))) (pg_name (i := 2) sc.nd rfl (by first | exact Or.inl rfl | exact Or.inr rfl)) (pss_one (ps_if (pt_not (pt_val (pe_cl F_is_weight hr (by decide) tk (pa_cons (pe_dget (hu_of hr) (pv 0) (pv 2) (fun _ _ => rfl)) pa_nil)))) (pss_one (ps_rz1 Z_BadWeights hr (by decide) rfl tk (pv 2))) pss_nil))))))
abbrev n_Scale___init__ : List Str := ["self", "weights", "rest", "name"]
theorem sc_Scale___init__ : FnScope n_Scale___init__ ["self", "weights", "rest"] (defScope s_Scale___init__) := ⟨rfl, rfl, rfl, by decide +kernel, rfl, by decide +kernel, by decide +kernel⟩
theorem ok_Scale___init__ (T : Top K mg) (F_check_weights : Fn P w K mg base 3 "check_weights" ["weights", "rest"] (sp_check_weights K)) (F : FunD K "__init__" "Scale.__init__" (defArgs s_Scale___init__) (defBody s_Scale___init__) (defScope s_Scale___init__) [] [("rest", .int 1)] f fd) : FnOk P w K mg base (L2.CX P w) 4 f fd ["self", "weights", "rest"] (sp_Scale___init__ K) := by
  have sc := sc_Scale___init__
  refine F.ok sc (fun vs H Q E h => ?_) (fun cdv A outer s H vs Q E hr h => ⟨t_Scale___init__ K E, ?_, pure_Scale___init__ T.sk h⟩)
  · first | exact h.1 | (obtain ⟨rfl, _⟩ := h; rfl) | (obtain ⟨_, rfl, _⟩ := h; rfl) | (obtain ⟨_, _, rfl, _⟩ := h; rfl) | (obtain ⟨_, _, _, rfl, _⟩ := h; rfl) | (obtain ⟨_, _, _, _, rfl, _⟩ := h; rfl) | (obtain ⟨_, _, _, _, _, rfl, _⟩ := h; rfl) | (obtain ⟨_, _, _, _, _, _, rfl, _⟩ := h; rfl) | (obtain ⟨_, _, _, _, _, _, _, rfl, _⟩ := h; rfl) | (obtain ⟨_, _, _, _, _, _, _, _, rfl, _⟩ := h; rfl) | (obtain ⟨_, _, _, _, _, _, _, _, _, rfl, _⟩ := h; rfl) | (obtain ⟨_, _, _, _, _, _, _, _, _, _, rfl, _⟩ := h; rfl) | (obtain ⟨_, _, _, _, _, _, _, _, _, _, _, rfl, _⟩ := h; rfl) | (obtain ⟨_, _, _, _, _, _, _, _, _, _, _, _, rfl, _⟩ := h; rfl) | (obtain ⟨_, _, _, _, _, _, _, _, _, _, _, _, _, rfl, _⟩ := h; rfl) | (obtain ⟨_, _, _, _, _, _, _, _, _, _, _, _, _, _, rfl, _⟩ := h; rfl) | (obtain ⟨_, _, _, _, _, _, _, _, _, _, _, _, _, _, _, rfl, _⟩ := h; rfl) | (obtain ⟨_, _, _, _, _, _, _, _, _, _, _, _, _, _, _, _, rfl, _⟩ := h; rfl) | (obtain ⟨_, _, _, _, _, _, _, _, _, _, _, _, _, _, _, _, _, rfl, _⟩ := h; rfl) | (obtain ⟨_, _, _, _, _, _, _, _, _, _, _, _, _, _, _, _, _, _, rfl, _⟩ := h; rfl) | (obtain ⟨_, _, _, _, _, _, _, _, _, _, _, _, _, _, _, _, _, _, _, rfl, _⟩ := h; rfl) | (obtain ⟨_, _, _, _, _, _, _, _, _, _, _, _, _, _, _, _, _, _, _, _, rfl, _⟩ := h; rfl) | (obtain ⟨_, _, _, _, _, _, _, _, _, _, _, _, _, _, _, _, _, _, _, _, _, rfl, _⟩ := h; rfl) | (obtain ⟨_, _, _, _, _, _, _, _, _, _, _, _, _, _, _, _, _, _, _, _, _, _, rfl, _⟩ := h; rfl) | (obtain ⟨_, _, _, _, _, _, _, _, _, _, _, _, _, _, _, _, _, _, _, _, _, _, _, rfl, _⟩ := h; rfl) | (obtain ⟨_, _, _, _, _, _, _, _, _, _, _, _, _, _, _, _, _, _, _, _, _, _, _, _, rfl, _⟩ := h; rfl) | (obtain ⟨_, _, _, _, _, _, _, _, _, _, _, _, _, _, _, _, _, _, _, _, _, _, _, _, _, rfl, _⟩ := h; rfl)
  · have tk : Takes (cxOf (L2.CX P w) P w K mg base n_Scale___init__ "Scale.__init__" (defScope s_Scale___init__) f cdv A outer s H E) (WE0 E) := takes_of rfl rfl rfl rfl
    have po : PassesOwn (model P w) (cxOf (L2.CX P w) P w K mg base n_Scale___init__ "Scale.__init__" (defScope s_Scale___init__) f cdv A outer s H E).A (cxOf (L2.CX P w) P w K mg base n_Scale___init__ "Scale.__init__" (defScope s_Scale___init__) f cdv A outer s H E).env (cxOf (L2.CX P w) P w K mg base n_Scale___init__ "Scale.__init__" (defScope s_Scale___init__) f cdv A outer s H E).xe := passes_of rfl
    exact (pss_cons (ps_expr (pe_cl F_check_weights hr (by decide) tk (pa_cons (pv 1) (pa_cons (pv 2) pa_nil))))
      (pss_cons (ps_fld (pv 0) (pv 2) rfl)
      (pss_one (ps_fld (pv 0) (pe_lock (pe_dc (own := [("name", 3)]) (g := (gName 3)) (tt := (tTest (tOp rNe (tDGet (tVar 1) (tVar 3)) (tVar 2)))) rfl sc.nd (pi_keys (pv 1)) (blkOk_by (own := [("name", 3)]) (N := n_Scale___init__) (sc := defScope (s_Scale___init__)) (by decide +kernel)) (fun _ _ _ _ _ => (pg_name (i := 3) sc.nd rfl (by first | exact Or.inl rfl | exact Or.inr rfl))) (fun _ _ _ _ _ => (pts_one (pt_cmpR op_ne (pe_dget (hu_of hr) (pv 1) (pv 3) (fun _ _ => rfl)) (pv 2) (nomark _)))) (fun _ _ _ _ _ => (pv 3)) (fun _ _ _ _ _ => (pe_dget (hu_of hr) (pv 1) (pv 3) (fun _ _ => rfl))))) rfl))))
abbrev n__law_made : List Str := ["_law_weights_here", "_law_other", "_law_left_out", "_law_passed", "_law_scale"]
theorem sc__law_made : FnScope n__law_made ["_law_weights_here", "_law_other", "_law_left_out"] (defScope s__law_made) := ⟨rfl, rfl, rfl, by decide +kernel, rfl, by decide +kernel, by decide +kernel⟩
theorem ok__law_made (T : Top K mg) (XK_Scale : MkrK P w K mg base 4 "Scale" ["self", "weights", "rest"] 1 ["rest"] (sp_Scale___init__ K)) (XD_Scale : MkrD P w K mg base 4 "Scale" ["self", "weights", "rest"] [.int 1] (sp_Scale___init__ K)) (F : FunD K "_law_made" "_law_made" (defArgs s__law_made) (defBody s__law_made) (defScope s__law_made) [] [] f fd) : FnOk P w K mg base (L2.CX P w) 6 f fd ["_law_weights_here", "_law_other", "_law_left_out"] (sp__law_made K) := by
  have sc := sc__law_made
  refine F.ok sc (fun vs H Q E h => ?_) (fun cdv A outer s H vs Q E hr h => ⟨t__law_made K E, ?_, pure__law_made h⟩)
  · first | exact h.1 | (obtain ⟨rfl, _⟩ := h; rfl) | (obtain ⟨_, rfl, _⟩ := h; rfl) | (obtain ⟨_, _, rfl, _⟩ := h; rfl) | (obtain ⟨_, _, _, rfl, _⟩ := h; rfl) | (obtain ⟨_, _, _, _, rfl, _⟩ := h; rfl) | (obtain ⟨_, _, _, _, _, rfl, _⟩ := h; rfl) | (obtain ⟨_, _, _, _, _, _, rfl, _⟩ := h; rfl) | (obtain ⟨_, _, _, _, _, _, _, rfl, _⟩ := h; rfl) | (obtain ⟨_, _, _, _, _, _, _, _, rfl, _⟩ := h; rfl) | (obtain ⟨_, _, _, _, _, _, _, _, _, rfl, _⟩ := h; rfl) | (obtain ⟨_, _, _, _, _, _, _, _, _, _, rfl, _⟩ := h; rfl) | (obtain ⟨_, _, _, _, _, _, _, _, _, _, _, rfl, _⟩ := h; rfl) | (obtain ⟨_, _, _, _, _, _, _, _, _, _, _, _, rfl, _⟩ := h; rfl) | (obtain ⟨_, _, _, _, _, _, _, _, _, _, _, _, _, rfl, _⟩ := h; rfl) | (obtain ⟨_, _, _, _, _, _, _, _, _, _, _, _, _, _, rfl, _⟩ := h; rfl) | (obtain ⟨_, _, _, _, _, _, _, _, _, _, _, _, _, _, _, rfl, _⟩ := h; rfl) | (obtain ⟨_, _, _, _, _, _, _, _, _, _, _, _, _, _, _, _, rfl, _⟩ := h; rfl) | (obtain ⟨_, _, _, _, _, _, _, _, _, _, _, _, _, _, _, _, _, rfl, _⟩ := h; rfl) | (obtain ⟨_, _, _, _, _, _, _, _, _, _, _, _, _, _, _, _, _, _, rfl, _⟩ := h; rfl) | (obtain ⟨_, _, _, _, _, _, _, _, _, _, _, _, _, _, _, _, _, _, _, rfl, _⟩ := h; rfl) | (obtain ⟨_, _, _, _, _, _, _, _, _, _, _, _, _, _, _, _, _, _, _, _, rfl, _⟩ := h; rfl) | (obtain ⟨_, _, _, _, _, _, _, _, _, _, _, _, _, _, _, _, _, _, _, _, _, rfl, _⟩ := h; rfl) | (obtain ⟨_, _, _, _, _, _, _, _, _, _, _, _, _, _, _, _, _, _, _, _, _, _, rfl, _⟩ := h; rfl) | (obtain ⟨_, _, _, _, _, _, _, _, _, _, _, _, _, _, _, _, _, _, _, _, _, _, _, rfl, _⟩ := h; rfl) | (obtain ⟨_, _, _, _, _, _, _, _, _, _, _, _, _, _, _, _, _, _, _, _, _, _, _, _, rfl, _⟩ := h; rfl) | (obtain ⟨_, _, _, _, _, _, _, _, _, _, _, _, _, _, _, _, _, _, _, _, _, _, _, _, _, rfl, _⟩ := h; rfl)
  · have tk : Takes (cxOf (L2.CX P w) P w K mg base n__law_made "_law_made" (defScope s__law_made) f cdv A outer s H E) (WE0 E) := takes_of rfl rfl rfl rfl
    have po : PassesOwn (model P w) (cxOf (L2.CX P w) P w K mg base n__law_made "_law_made" (defScope s__law_made) f cdv A outer s H E).A (cxOf (L2.CX P w) P w K mg base n__law_made "_law_made" (defScope s__law_made) f cdv A outer s H E).env (cxOf (L2.CX P w) P w K mg base n__law_made "_law_made" (defScope s__law_made) f cdv A outer s H E).xe := passes_of rfl
    exact (pss_cons (ps_set (i := 3) sc.nd rfl (by first | exact Or.inl rfl | exact Or.inr rfl) (pe_callTy cDictOf (by rfl) T.f_dict (by decide +kernel) (pa_cons (pv 0) pa_nil)))
      (pss_cons (ps_if (pt_val (pv 2)) (pss_one (ps_set (i := 4) sc.nd rfl (by first | exact Or.inl rfl | exact Or.inr rfl) (pe_mkD XD_Scale hr (by decide) tk (pa_cons (pv 3) pa_nil)))) (pss_one (ps_set (i := 4) sc.nd rfl (by first | exact Or.inl rfl | exact Or.inr rfl) (pe_mkK (n := 1) XK_Scale hr (by decide) tk (pa_cons (pv 3) pa_nil) (pk_cons (pv 1) pk_nil)))))
      (pss_cons (ps_expr (pe_dclear (pv 3)))
      (pss_one (ps_ret (pv 4))))))
abbrev n__law_name : List Str := ["_law_state", "_law_taken", "_law_letters", "_law_size", "_law_name_here", "_law_last", "_law_k", "_law_other"]
theorem sc__law_name : FnScope n__law_name ["_law_state", "_law_taken"] (defScope s__law_name) := ⟨rfl, rfl, rfl, by decide +kernel, rfl, by decide +kernel, by decide +kernel⟩
theorem ok__law_name (T : Top K mg) (F__law_take : Fn P w K mg base 1 "_law_take" ["_law_state", "_law_many"] (sp__law_take K)) (F : FunD K "_law_name" "_law_name" (defArgs s__law_name) (defBody s__law_name) (defScope s__law_name) [] [] f fd) : FnOk P w K mg base (L2.CX P w) 2 f fd ["_law_state", "_law_taken"] (sp__law_name K) := by
  have sc := sc__law_name
  refine F.ok sc (fun vs H Q E h => ?_) (fun cdv A outer s H vs Q E hr h => ⟨t__law_name K E, ?_, pure__law_name h⟩)
  · first | exact h.1 | (obtain ⟨rfl, _⟩ := h; rfl) | (obtain ⟨_, rfl, _⟩ := h; rfl) | (obtain ⟨_, _, rfl, _⟩ := h; rfl) | (obtain ⟨_, _, _, rfl, _⟩ := h; rfl) | (obtain ⟨_, _, _, _, rfl, _⟩ := h; rfl) | (obtain ⟨_, _, _, _, _, rfl, _⟩ := h; rfl) | (obtain ⟨_, _, _, _, _, _, rfl, _⟩ := h; rfl) | (obtain ⟨_, _, _, _, _, _, _, rfl, _⟩ := h; rfl) | (obtain ⟨_, _, _, _, _, _, _, _, rfl, _⟩ := h; rfl) | (obtain ⟨_, _, _, _, _, _, _, _, _, rfl, _⟩ := h; rfl) | (obtain ⟨_, _, _, _, _, _, _, _, _, _, rfl, _⟩ := h; rfl) | (obtain ⟨_, _, _, _, _, _, _, _, _, _, _, rfl, _⟩ := h; rfl) | (obtain ⟨_, _, _, _, _, _, _, _, _, _, _, _, rfl, _⟩ := h; rfl) | (obtain ⟨_, _, _, _, _, _, _, _, _, _, _, _, _, rfl, _⟩ := h; rfl) | (obtain ⟨_, _, _, _, _, _, _, _, _, _, _, _, _, _, rfl, _⟩ := h; rfl) | (obtain ⟨_, _, _, _, _, _, _, _, _, _, _, _, _, _, _, rfl, _⟩ := h; rfl) | (obtain ⟨_, _, _, _, _, _, _, _, _, _, _, _, _, _, _, _, rfl, _⟩ := h; rfl) | (obtain ⟨_, _, _, _, _, _, _, _, _, _, _, _, _, _, _, _, _, rfl, _⟩ := h; rfl) | (obtain ⟨_, _, _, _, _, _, _, _, _, _, _, _, _, _, _, _, _, _, rfl, _⟩ := h; rfl) | (obtain ⟨_, _, _, _, _, _, _, _, _, _, _, _, _, _, _, _, _, _, _, rfl, _⟩ := h; rfl) | (obtain ⟨_, _, _, _, _, _, _, _, _, _, _, _, _, _, _, _, _, _, _, _, rfl, _⟩ := h; rfl) | (obtain ⟨_, _, _, _, _, _, _, _, _, _, _, _, _, _, _, _, _, _, _, _, _, rfl, _⟩ := h; rfl) | (obtain ⟨_, _, _, _, _, _, _, _, _, _, _, _, _, _, _, _, _, _, _, _, _, _, rfl, _⟩ := h; rfl) | (obtain ⟨_, _, _, _, _, _, _, _, _, _, _, _, _, _, _, _, _, _, _, _, _, _, _, rfl, _⟩ := h; rfl) | (obtain ⟨_, _, _, _, _, _, _, _, _, _, _, _, _, _, _, _, _, _, _, _, _, _, _, _, rfl, _⟩ := h; rfl) | (obtain ⟨_, _, _, _, _, _, _, _, _, _, _, _, _, _, _, _, _, _, _, _, _, _, _, _, _, rfl, _⟩ := h; rfl)
  · have tk : Takes (cxOf (L2.CX P w) P w K mg base n__law_name "_law_name" (defScope s__law_name) f cdv A outer s H E) (WE0 E) := takes_of rfl rfl rfl rfl
    have po : PassesOwn (model P w) (cxOf (L2.CX P w) P w K mg base n__law_name "_law_name" (defScope s__law_name) f cdv A outer s H E).A (cxOf (L2.CX P w) P w K mg base n__law_name "_law_name" (defScope s__law_name) f cdv A outer s H E).env (cxOf (L2.CX P w) P w K mg base n__law_name "_law_name" (defScope s__law_name) f cdv A outer s H E).xe := passes_of rfl
    exact (pss_cons (ps_set (i := 2) sc.nd rfl (by first | exact Or.inl rfl | exact Or.inr rfl) pe_str)
      (pss_cons (ps_set (i := 3) sc.nd rfl (by first | exact Or.inl rfl | exact Or.inr rfl) (pe_op oAddI pe_int (pe_cl F__law_take hr (by decide) tk (pa_cons (pv 0) (pa_cons pe_int pa_nil)))))
      (pss_cons (ps_set (i := 4) sc.nd rfl (by first | exact Or.inl rfl | exact Or.inr rfl) (pe_join pe_str (pe_lc (own := [("_law_k", 6)]) (g := (gName 6)) (tt := tYes) rfl sc.nd (pi_range1 (by rfl) T.f_range (pa_cons (pv 3) pa_nil)) (blkOk_by (own := [("_law_k", 6)]) (N := n__law_name) (sc := defScope (s__law_name)) (by decide +kernel)) (fun _ _ _ _ _ => (pg_name (i := 6) sc.nd rfl (by first | exact Or.inl rfl | exact Or.inr rfl))) (fun _ _ _ _ _ => pts_nil) (fun _ _ _ _ _ => (pe_ix ix_str (pv 2) (pe_cl F__law_take hr (by decide) takes0 (pa_cons (pv 0) (pa_cons pe_int pa_nil))) (fun _ _ => rfl))))))
      (pss_cons (ps_if (pt_cmpR op_notIn_seq (pv 4) (pv 1) (by rfl)) (pss_one (ps_ret (pv 4))) pss_nil)
      (pss_cons (ps_set (i := 5) sc.nd rfl (by first | exact Or.inl rfl | exact Or.inr rfl) (pe_cl F__law_take hr (by decide) tk (pa_cons (pv 0) (pa_cons pe_int pa_nil))))
      (pss_cons (ps_for po rfl (pi_range1 (by rfl) T.f_range (pa_cons pe_int pa_nil)) (pg_name (i := 6) sc.nd rfl (by first | exact Or.inl rfl | exact Or.inr rfl)) (pss_cons (ps_set (i := 7) sc.nd rfl (by first | exact Or.inl rfl | exact Or.inr rfl) (pe_op oAddS (pe_slice sl_str (pv 4) po_none (po_some pe_int)) (pe_ix ix_str (pv 2) (pe_op oModI (pe_callTy cInt1 (by rfl) T.f_int (by decide +kernel) (pa_cons (pe_op oAddI (pv 5) (pv 6)) pa_nil)) pe_int) (fun _ _ => rfl))))
      (pss_one (ps_if (pt_cmpR op_notIn_seq (pv 7) (pv 1) (by rfl)) (pss_one (ps_ret (pv 7))) pss_nil))))
      (pss_one (ps_ret pe_str))))))))
abbrev n__law_names : List Str := ["_law_state", "_law_many", "_law_names_here", "_law_k"]
theorem sc__law_names : FnScope n__law_names ["_law_state", "_law_many"] (defScope s__law_names) := ⟨rfl, rfl, rfl, by decide +kernel, rfl, by decide +kernel, by decide +kernel⟩
theorem ok__law_names (T : Top K mg) (F__law_name : Fn P w K mg base 2 "_law_name" ["_law_state", "_law_taken"] (sp__law_name K)) (F : FunD K "_law_names" "_law_names" (defArgs s__law_names) (defBody s__law_names) (defScope s__law_names) [] [] f fd) : FnOk P w K mg base (L2.CX P w) 3 f fd ["_law_state", "_law_many"] (sp__law_names K) := by
  have sc := sc__law_names
  refine F.ok sc (fun vs H Q E h => ?_) (fun cdv A outer s H vs Q E hr h => ⟨t__law_names K E, ?_, pure__law_names h⟩)
  · first | exact h.1 | (obtain ⟨rfl, _⟩ := h; rfl) | (obtain ⟨_, rfl, _⟩ := h; rfl) | (obtain ⟨_, _, rfl, _⟩ := h; rfl) | (obtain ⟨_, _, _, rfl, _⟩ := h; rfl) | (obtain ⟨_, _, _, _, rfl, _⟩ := h; rfl) | (obtain ⟨_, _, _, _, _, rfl, _⟩ := h; rfl) | (obtain ⟨_, _, _, _, _, _, rfl, _⟩ := h; rfl) | (obtain ⟨_, _, _, _, _, _, _, rfl, _⟩ := h; rfl) | (obtain ⟨_, _, _, _, _, _, _, _, rfl, _⟩ := h; rfl) | (obtain ⟨_, _, _, _, _, _, _, _, _, rfl, _⟩ := h; rfl) | (obtain ⟨_, _, _, _, _, _, _, _, _, _, rfl, _⟩ := h; rfl) | (obtain ⟨_, _, _, _, _, _, _, _, _, _, _, rfl, _⟩ := h; rfl) | (obtain ⟨_, _, _, _, _, _, _, _, _, _, _, _, rfl, _⟩ := h; rfl) | (obtain ⟨_, _, _, _, _, _, _, _, _, _, _, _, _, rfl, _⟩ := h; rfl) | (obtain ⟨_, _, _, _, _, _, _, _, _, _, _, _, _, _, rfl, _⟩ := h; rfl) | (obtain ⟨_, _, _, _, _, _, _, _, _, _, _, _, _, _, _, rfl, _⟩ := h; rfl) | (obtain ⟨_, _, _, _, _, _, _, _, _, _, _, _, _, _, _, _, rfl, _⟩ := h; rfl) | (obtain ⟨_, _, _, _, _, _, _, _, _, _, _, _, _, _, _, _, _, rfl, _⟩ := h; rfl) | (obtain ⟨_, _, _, _, _, _, _, _, _, _, _, _, _, _, _, _, _, _, rfl, _⟩ := h; rfl) | (obtain ⟨_, _, _, _, _, _, _, _, _, _, _, _, _, _, _, _, _, _, _, rfl, _⟩ := h; rfl) | (obtain ⟨_, _, _, _, _, _, _, _, _, _, _, _, _, _, _, _, _, _, _, _, rfl, _⟩ := h; rfl) | (obtain ⟨_, _, _, _, _, _, _, _, _, _, _, _, _, _, _, _, _, _, _, _, _, rfl, _⟩ := h; rfl) | (obtain ⟨_, _, _, _, _, _, _, _, _, _, _, _, _, _, _, _, _, _, _, _, _, _, rfl, _⟩ := h; rfl) | (obtain ⟨_, _, _, _, _, _, _, _, _, _, _, _, _, _, _, _, _, _, _, _, _, _, _, rfl, _⟩ := h; rfl) | (obtain ⟨_, _, _, _, _, _, _, _, _, _, _, _, _, _, _, _, _, _, _, _, _, _, _, _, rfl, _⟩ := h; rfl) | (obtain ⟨_, _, _, _, _, _, _, _, _, _, _, _, _, _, _, _, _, _, _, _, _, _, _, _, _, rfl, _⟩ := h; rfl)
  · have tk : Takes (cxOf (L2.CX P w) P w K mg base n__law_names "_law_names" (defScope s__law_names) f cdv A outer s H E) (WE0 E) := takes_of rfl rfl rfl rfl
    have po : PassesOwn (model P w) (cxOf (L2.CX P w) P w K mg base n__law_names "_law_names" (defScope s__law_names) f cdv A outer s H E).A (cxOf (L2.CX P w) P w K mg base n__law_names "_law_names" (defScope s__law_names) f cdv A outer s H E).env (cxOf (L2.CX P w) P w K mg base n__law_names "_law_names" (defScope s__law_names) f cdv A outer s H E).xe := passes_of rfl
    exact (pss_cons (ps_set (i := 2) sc.nd rfl (by first | exact Or.inl rfl | exact Or.inr rfl) (pe_lst pa_nil))
      (pss_cons (ps_for po rfl (pi_range1 (by rfl) T.f_range (pa_cons (pv 1) pa_nil)) (pg_name (i := 3) sc.nd rfl (by first | exact Or.inl rfl | exact Or.inr rfl)) (pss_one (ps_expr (pe_bm PySem.F.plainAttrs_list PySem.F.slot_list_append PySem.F.type_list_append mt_append (pv 2) (pa_cons (pe_cl F__law_name hr (by decide) tk (pa_cons (pv 0) (pa_cons (pv 2) pa_nil))) pa_nil)))))
      (pss_one (ps_ret (pv 2)))))
abbrev n__law_is_integer : List Str := ["_law_actual"]
theorem sc__law_is_integer : FnScope n__law_is_integer ["_law_actual"] (defScope s__law_is_integer) := ⟨rfl, rfl, rfl, by decide +kernel, rfl, by decide +kernel, by decide +kernel⟩
theorem ok__law_is_integer (T : Top K mg)  (F : FunD K "_law_is_integer" "_law_is_integer" (defArgs s__law_is_integer) (defBody s__law_is_integer) (defScope s__law_is_integer) [] [] f fd) : FnOk P w K mg base (L2.CX P w) 1 f fd ["_law_actual"] (sp__law_is_integer K) := by
  have sc := sc__law_is_integer
  refine F.ok sc (fun vs H Q E h => ?_) (fun cdv A outer s H vs Q E hr h => ⟨t__law_is_integer K E, ?_, pure__law_is_integer h⟩)
  · first | exact h.1 | (obtain ⟨rfl, _⟩ := h; rfl) | (obtain ⟨_, rfl, _⟩ := h; rfl) | (obtain ⟨_, _, rfl, _⟩ := h; rfl) | (obtain ⟨_, _, _, rfl, _⟩ := h; rfl) | (obtain ⟨_, _, _, _, rfl, _⟩ := h; rfl) | (obtain ⟨_, _, _, _, _, rfl, _⟩ := h; rfl) | (obtain ⟨_, _, _, _, _, _, rfl, _⟩ := h; rfl) | (obtain ⟨_, _, _, _, _, _, _, rfl, _⟩ := h; rfl) | (obtain ⟨_, _, _, _, _, _, _, _, rfl, _⟩ := h; rfl) | (obtain ⟨_, _, _, _, _, _, _, _, _, rfl, _⟩ := h; rfl) | (obtain ⟨_, _, _, _, _, _, _, _, _, _, rfl, _⟩ := h; rfl) | (obtain ⟨_, _, _, _, _, _, _, _, _, _, _, rfl, _⟩ := h; rfl) | (obtain ⟨_, _, _, _, _, _, _, _, _, _, _, _, rfl, _⟩ := h; rfl) | (obtain ⟨_, _, _, _, _, _, _, _, _, _, _, _, _, rfl, _⟩ := h; rfl) | (obtain ⟨_, _, _, _, _, _, _, _, _, _, _, _, _, _, rfl, _⟩ := h; rfl) | (obtain ⟨_, _, _, _, _, _, _, _, _, _, _, _, _, _, _, rfl, _⟩ := h; rfl) | (obtain ⟨_, _, _, _, _, _, _, _, _, _, _, _, _, _, _, _, rfl, _⟩ := h; rfl) | (obtain ⟨_, _, _, _, _, _, _, _, _, _, _, _, _, _, _, _, _, rfl, _⟩ := h; rfl) | (obtain ⟨_, _, _, _, _, _, _, _, _, _, _, _, _, _, _, _, _, _, rfl, _⟩ := h; rfl) | (obtain ⟨_, _, _, _, _, _, _, _, _, _, _, _, _, _, _, _, _, _, _, rfl, _⟩ := h; rfl) | (obtain ⟨_, _, _, _, _, _, _, _, _, _, _, _, _, _, _, _, _, _, _, _, rfl, _⟩ := h; rfl) | (obtain ⟨_, _, _, _, _, _, _, _, _, _, _, _, _, _, _, _, _, _, _, _, _, rfl, _⟩ := h; rfl) | (obtain ⟨_, _, _, _, _, _, _, _, _, _, _, _, _, _, _, _, _, _, _, _, _, _, rfl, _⟩ := h; rfl) | (obtain ⟨_, _, _, _, _, _, _, _, _, _, _, _, _, _, _, _, _, _, _, _, _, _, _, rfl, _⟩ := h; rfl) | (obtain ⟨_, _, _, _, _, _, _, _, _, _, _, _, _, _, _, _, _, _, _, _, _, _, _, _, rfl, _⟩ := h; rfl) | (obtain ⟨_, _, _, _, _, _, _, _, _, _, _, _, _, _, _, _, _, _, _, _, _, _, _, _, _, rfl, _⟩ := h; rfl)
  · have tk : Takes (cxOf (L2.CX P w) P w K mg base n__law_is_integer "_law_is_integer" (defScope s__law_is_integer) f cdv A outer s H E) (WE0 E) := takes_of rfl rfl rfl rfl
    have po : PassesOwn (model P w) (cxOf (L2.CX P w) P w K mg base n__law_is_integer "_law_is_integer" (defScope s__law_is_integer) f cdv A outer s H E).A (cxOf (L2.CX P w) P w K mg base n__law_is_integer "_law_is_integer" (defScope s__law_is_integer) f cdv A outer s H E).env (cxOf (L2.CX P w) P w K mg base n__law_is_integer "_law_is_integer" (defScope s__law_is_integer) f cdv A outer s H E).xe := passes_of rfl
    exact (pss_one (ps_ret (pe_and (pe_callB call_isi (by rfl) T.f_isinstance (by decide +kernel) (pa_cons (pv 0) (pa_cons (pe_bltn (v := .ty "int") rfl T.f_int (by decide +kernel) rfl) pa_nil))) (pe_one (pe_not (pe_callB call_isi (by rfl) T.f_isinstance (by decide +kernel) (pa_cons (pv 0) (pa_cons (pe_bltn (v := .ty "bool") rfl T.f_bool (by decide +kernel) rfl) pa_nil))))))))
abbrev n__law_same : List Str := ["_law_actual", "_law_due", "_law_k", "_law_key"]
theorem sc__law_same : FnScope n__law_same ["_law_actual", "_law_due"] (defScope s__law_same) := ⟨rfl, rfl, rfl, by decide +kernel, rfl, by decide +kernel, by decide +kernel⟩
theorem ok__law_same (T : Top K mg) (F__law_is_integer : Fn P w K mg base 1 "_law_is_integer" ["_law_actual"] (sp__law_is_integer K)) {n : Nat} (F__law_same : Fn P w K mg base (1 + n) "_law_same" ["_law_actual", "_law_due"] (spr__law_same K n)) (F : FunD K "_law_same" "_law_same" (defArgs s__law_same) (defBody s__law_same) (defScope s__law_same) [] [] f fd) : FnOk P w K mg base (L2.CX P w) (1 + n + 1) f fd ["_law_actual", "_law_due"] (spr__law_same K (n + 1)) := by
  have sc := sc__law_same
  refine F.ok sc (fun vs H Q E h => ?_) (fun cdv A outer s H vs Q E hr h => ⟨t__law_same n K E, ?_, pure__law_same h⟩)
  · first | exact h.1 | (obtain ⟨rfl, _⟩ := h; rfl) | (obtain ⟨_, rfl, _⟩ := h; rfl) | (obtain ⟨_, _, rfl, _⟩ := h; rfl) | (obtain ⟨_, _, _, rfl, _⟩ := h; rfl) | (obtain ⟨_, _, _, _, rfl, _⟩ := h; rfl) | (obtain ⟨_, _, _, _, _, rfl, _⟩ := h; rfl) | (obtain ⟨_, _, _, _, _, _, rfl, _⟩ := h; rfl) | (obtain ⟨_, _, _, _, _, _, _, rfl, _⟩ := h; rfl) | (obtain ⟨_, _, _, _, _, _, _, _, rfl, _⟩ := h; rfl) | (obtain ⟨_, _, _, _, _, _, _, _, _, rfl, _⟩ := h; rfl) | (obtain ⟨_, _, _, _, _, _, _, _, _, _, rfl, _⟩ := h; rfl) | (obtain ⟨_, _, _, _, _, _, _, _, _, _, _, rfl, _⟩ := h; rfl) | (obtain ⟨_, _, _, _, _, _, _, _, _, _, _, _, rfl, _⟩ := h; rfl) | (obtain ⟨_, _, _, _, _, _, _, _, _, _, _, _, _, rfl, _⟩ := h; rfl) | (obtain ⟨_, _, _, _, _, _, _, _, _, _, _, _, _, _, rfl, _⟩ := h; rfl) | (obtain ⟨_, _, _, _, _, _, _, _, _, _, _, _, _, _, _, rfl, _⟩ := h; rfl) | (obtain ⟨_, _, _, _, _, _, _, _, _, _, _, _, _, _, _, _, rfl, _⟩ := h; rfl) | (obtain ⟨_, _, _, _, _, _, _, _, _, _, _, _, _, _, _, _, _, rfl, _⟩ := h; rfl) | (obtain ⟨_, _, _, _, _, _, _, _, _, _, _, _, _, _, _, _, _, _, rfl, _⟩ := h; rfl) | (obtain ⟨_, _, _, _, _, _, _, _, _, _, _, _, _, _, _, _, _, _, _, rfl, _⟩ := h; rfl) | (obtain ⟨_, _, _, _, _, _, _, _, _, _, _, _, _, _, _, _, _, _, _, _, rfl, _⟩ := h; rfl) | (obtain ⟨_, _, _, _, _, _, _, _, _, _, _, _, _, _, _, _, _, _, _, _, _, rfl, _⟩ := h; rfl) | (obtain ⟨_, _, _, _, _, _, _, _, _, _, _, _, _, _, _, _, _, _, _, _, _, _, rfl, _⟩ := h; rfl) | (obtain ⟨_, _, _, _, _, _, _, _, _, _, _, _, _, _, _, _, _, _, _, _, _, _, _, rfl, _⟩ := h; rfl) | (obtain ⟨_, _, _, _, _, _, _, _, _, _, _, _, _, _, _, _, _, _, _, _, _, _, _, _, rfl, _⟩ := h; rfl) | (obtain ⟨_, _, _, _, _, _, _, _, _, _, _, _, _, _, _, _, _, _, _, _, _, _, _, _, _, rfl, _⟩ := h; rfl)
  · have tk : Takes (cxOf (L2.CX P w) P w K mg base n__law_same "_law_same" (defScope s__law_same) f cdv A outer s H E) (WE0 E) := takes_of rfl rfl rfl rfl
    have po : PassesOwn (model P w) (cxOf (L2.CX P w) P w K mg base n__law_same "_law_same" (defScope s__law_same) f cdv A outer s H E).A (cxOf (L2.CX P w) P w K mg base n__law_same "_law_same" (defScope s__law_same) f cdv A outer s H E).env (cxOf (L2.CX P w) P w K mg base n__law_same "_law_same" (defScope s__law_same) f cdv A outer s H E).xe := passes_of rfl
    exact (pss_cons (ps_if (pt_cmp (pc_isN (pv 1))) (pss_one (ps_ret (pe_cmp (pc_isN (pv 0))))) pss_nil)
      (pss_cons (ps_if (pt_val (pe_callB call_isi (by rfl) T.f_isinstance (by decide +kernel) (pa_cons (pv 1) (pa_cons (pe_bltn (v := .ty "bool") rfl T.f_bool (by decide +kernel) rfl) pa_nil)))) (pss_one (ps_ret (pe_and (pe_callB call_isi (by rfl) T.f_isinstance (by decide +kernel) (pa_cons (pv 0) (pa_cons (pe_bltn (v := .ty "bool") rfl T.f_bool (by decide +kernel) rfl) pa_nil))) (pe_one (pe_cmpR op_eq (pv 0) (pv 1) (nomark _)))))) pss_nil)
      (pss_cons (ps_if (pt_val (pe_callB call_isi (by rfl) T.f_isinstance (by decide +kernel) (pa_cons (pv 1) (pa_cons (pe_bltn (v := .ty "int") rfl T.f_int (by decide +kernel) rfl) pa_nil)))) (pss_one (ps_ret (pe_and (pe_cl F__law_is_integer hr (by omega) tk (pa_cons (pv 0) pa_nil)) (pe_one (pe_cmpR op_eq (pv 0) (pv 1) (nomark _)))))) pss_nil)
      (pss_cons (ps_if (pt_val (pe_callB call_isi (by rfl) T.f_isinstance (by decide +kernel) (pa_cons (pv 1) (pa_cons (pe_bltn (v := .ty "str") rfl T.f_str (by decide +kernel) rfl) pa_nil)))) (pss_one (ps_ret (pe_and (pe_callB call_isi (by rfl) T.f_isinstance (by decide +kernel) (pa_cons (pv 0) (pa_cons (pe_bltn (v := .ty "str") rfl T.f_str (by decide +kernel) rfl) pa_nil))) (pe_one (pe_cmpR op_eq (pv 0) (pv 1) (nomark _)))))) pss_nil)
      (pss_cons (ps_if (PW.pt (pw_and (pt_val (pe_callB call_isi (by rfl) T.f_isinstance (by decide +kernel) (pa_cons (pv 1) (pa_cons (pe_bltn (v := .ty "tuple") rfl T.f_tuple (by decide +kernel) rfl) pa_nil)))) (pw_and1 (pt_not (pt_val (pe_callB call_isi (by rfl) T.f_isinstance (by decide +kernel) (pa_cons (pv 0) (pa_cons (pe_bltn (v := .ty "tuple") rfl T.f_tuple (by decide +kernel) rfl) pa_nil)))))))) (pss_one (ps_ret pe_bl)) pss_nil)
      (pss_cons (ps_if (PW.pt (pw_and (pt_val (pe_callB call_isi (by rfl) T.f_isinstance (by decide +kernel) (pa_cons (pv 1) (pa_cons (pe_bltn (v := .ty "list") rfl T.f_list (by decide +kernel) rfl) pa_nil)))) (pw_and1 (pt_not (pt_val (pe_callB call_isi (by rfl) T.f_isinstance (by decide +kernel) (pa_cons (pv 0) (pa_cons (pe_bltn (v := .ty "list") rfl T.f_list (by decide +kernel) rfl) pa_nil)))))))) (pss_one (ps_ret pe_bl)) pss_nil)
      (pss_cons (ps_if (PW.pt (pw_or (pt_val (pe_callB call_isi (by rfl) T.f_isinstance (by decide +kernel) (pa_cons (pv 1) (pa_cons (pe_bltn (v := .ty "tuple") rfl T.f_tuple (by decide +kernel) rfl) pa_nil)))) (pw_or1 (pt_val (pe_callB call_isi (by rfl) T.f_isinstance (by decide +kernel) (pa_cons (pv 1) (pa_cons (pe_bltn (v := .ty "list") rfl T.f_list (by decide +kernel) rfl) pa_nil))))))) (pss_cons (ps_if (pt_cmpR op_ne (pe_callB cLenX (by rfl) T.f_len PySem.boot_len (pa_cons (pv 0) pa_nil)) (pe_callB cLenX (by rfl) T.f_len PySem.boot_len (pa_cons (pv 1) pa_nil)) (nomark _)) (pss_one (ps_ret pe_bl)) pss_nil)
      (pss_cons (ps_for po rfl (pi_range1 (by rfl) T.f_range (pa_cons (pe_callB cLenX (by rfl) T.f_len PySem.boot_len (pa_cons (pv 1) pa_nil)) pa_nil)) (pg_name (i := 2) sc.nd rfl (by first | exact Or.inl rfl | exact Or.inr rfl)) (pss_one (ps_if (pt_not (pt_val (pe_cl F__law_same hr (by omega) tk (pa_cons (pe_ix ix_seq (pv 0) (pv 2) (fun _ _ => rfl)) (pa_cons (pe_ix ix_seq (pv 1) (pv 2) (fun _ _ => rfl)) pa_nil))))) (pss_one (ps_ret pe_bl)) pss_nil)))
      (pss_one (ps_ret pe_bl)))) pss_nil)
      (pss_cons (ps_if (pt_val (pe_callB call_isi (by rfl) T.f_isinstance (by decide +kernel) (pa_cons (pv 1) (pa_cons (pe_bltn (v := .ty "dict") rfl T.f_dict (by decide +kernel) rfl) pa_nil)))) (pss_cons (ps_if (PW.pt (pw_or (pt_not (pt_val (pe_callB call_isi (by rfl) T.f_isinstance (by decide +kernel) (pa_cons (pv 0) (pa_cons (pe_bltn (v := .ty "dict") rfl T.f_dict (by decide +kernel) rfl) pa_nil))))) (pw_or1 (pt_cmpR op_ne (pe_callB cLenX (by rfl) T.f_len PySem.boot_len (pa_cons (pv 0) pa_nil)) (pe_callB cLenX (by rfl) T.f_len PySem.boot_len (pa_cons (pv 1) pa_nil)) (nomark _))))) (pss_one (ps_ret pe_bl)) pss_nil)
      (pss_cons (ps_lock (ps_for po rfl (pi_keys (pv 1)) (pg_name (i := 3) sc.nd rfl (by first | exact Or.inl rfl | exact Or.inr rfl)) (pss_one (ps_if (PW.pt (pw_or (pt_cmp (pc_dnotin (hu_of hr) (pv 3) (pv 0))) (pw_or1 (pt_not (pt_val (pe_cl F__law_same hr (by omega) tk (pa_cons (pe_dget (hu_of hr) (pv 0) (pv 3) (fun _ _ => rfl)) (pa_cons (pe_dget (hu_of hr) (pv 1) (pv 3) (fun _ _ => rfl)) pa_nil)))))))) (pss_one (ps_ret pe_bl)) pss_nil))))
      (pss_one (ps_ret pe_bl)))) pss_nil)
      (pss_one (ps_ret (pe_cmpR op_eq (pv 0) (pv 1) (nomark _))))))))))))
theorem all__law_same (T : Top K mg) (F__law_is_integer : Fn P w K mg base 1 "_law_is_integer" ["_law_actual"] (sp__law_is_integer K)) (F : FunD K "_law_same" "_law_same" (defArgs s__law_same) (defBody s__law_same) (defScope s__law_same) [] [] f fd) (hm : mg "_law_same" = some (.ref f)) (kp : PySem.W.keepIn K (.ref f) = true) (bd : Binds K fd ["_law_actual", "_law_due"] []) : ∀ n, FnOk P w K mg base (L2.CX P w) (1 + n) f fd ["_law_actual", "_law_due"] (spr__law_same K n)
  | 0 => ⟨fun _ _ _ _ h => h.elim, fun _ _ _ _ _ _ _ _ _ _ _ _ _ h => h.elim⟩
  | n + 1 => ok__law_same T F__law_is_integer ⟨_, _, hm, kp, bd, all__law_same T F__law_is_integer F hm kp bd n⟩ F
abbrev n__law_weight : List Str := ["_law_weights_here", "_law_other", "_law_name_here"]
theorem sc__law_weight : FnScope n__law_weight ["_law_weights_here", "_law_other", "_law_name_here"] (defScope s__law_weight) := ⟨rfl, rfl, rfl, by decide +kernel, rfl, by decide +kernel, by decide +kernel⟩
theorem ok__law_weight (T : Top K mg)  (F : FunD K "_law_weight" "_law_weight" (defArgs s__law_weight) (defBody s__law_weight) (defScope s__law_weight) [] [] f fd) : FnOk P w K mg base (L2.CX P w) 1 f fd ["_law_weights_here", "_law_other", "_law_name_here"] (sp__law_weight K) := by
  have sc := sc__law_weight
  refine F.ok sc (fun vs H Q E h => ?_) (fun cdv A outer s H vs Q E hr h => ⟨t__law_weight K E, ?_, pure__law_weight h⟩)
  · first | exact h.1 | (obtain ⟨rfl, _⟩ := h; rfl) | (obtain ⟨_, rfl, _⟩ := h; rfl) | (obtain ⟨_, _, rfl, _⟩ := h; rfl) | (obtain ⟨_, _, _, rfl, _⟩ := h; rfl) | (obtain ⟨_, _, _, _, rfl, _⟩ := h; rfl) | (obtain ⟨_, _, _, _, _, rfl, _⟩ := h; rfl) | (obtain ⟨_, _, _, _, _, _, rfl, _⟩ := h; rfl) | (obtain ⟨_, _, _, _, _, _, _, rfl, _⟩ := h; rfl) | (obtain ⟨_, _, _, _, _, _, _, _, rfl, _⟩ := h; rfl) | (obtain ⟨_, _, _, _, _, _, _, _, _, rfl, _⟩ := h; rfl) | (obtain ⟨_, _, _, _, _, _, _, _, _, _, rfl, _⟩ := h; rfl) | (obtain ⟨_, _, _, _, _, _, _, _, _, _, _, rfl, _⟩ := h; rfl) | (obtain ⟨_, _, _, _, _, _, _, _, _, _, _, _, rfl, _⟩ := h; rfl) | (obtain ⟨_, _, _, _, _, _, _, _, _, _, _, _, _, rfl, _⟩ := h; rfl) | (obtain ⟨_, _, _, _, _, _, _, _, _, _, _, _, _, _, rfl, _⟩ := h; rfl) | (obtain ⟨_, _, _, _, _, _, _, _, _, _, _, _, _, _, _, rfl, _⟩ := h; rfl) | (obtain ⟨_, _, _, _, _, _, _, _, _, _, _, _, _, _, _, _, rfl, _⟩ := h; rfl) | (obtain ⟨_, _, _, _, _, _, _, _, _, _, _, _, _, _, _, _, _, rfl, _⟩ := h; rfl) | (obtain ⟨_, _, _, _, _, _, _, _, _, _, _, _, _, _, _, _, _, _, rfl, _⟩ := h; rfl) | (obtain ⟨_, _, _, _, _, _, _, _, _, _, _, _, _, _, _, _, _, _, _, rfl, _⟩ := h; rfl) | (obtain ⟨_, _, _, _, _, _, _, _, _, _, _, _, _, _, _, _, _, _, _, _, rfl, _⟩ := h; rfl) | (obtain ⟨_, _, _, _, _, _, _, _, _, _, _, _, _, _, _, _, _, _, _, _, _, rfl, _⟩ := h; rfl) | (obtain ⟨_, _, _, _, _, _, _, _, _, _, _, _, _, _, _, _, _, _, _, _, _, _, rfl, _⟩ := h; rfl) | (obtain ⟨_, _, _, _, _, _, _, _, _, _, _, _, _, _, _, _, _, _, _, _, _, _, _, rfl, _⟩ := h; rfl) | (obtain ⟨_, _, _, _, _, _, _, _, _, _, _, _, _, _, _, _, _, _, _, _, _, _, _, _, rfl, _⟩ := h; rfl) | (obtain ⟨_, _, _, _, _, _, _, _, _, _, _, _, _, _, _, _, _, _, _, _, _, _, _, _, _, rfl, _⟩ := h; rfl)
  · have tk : Takes (cxOf (L2.CX P w) P w K mg base n__law_weight "_law_weight" (defScope s__law_weight) f cdv A outer s H E) (WE0 E) := takes_of rfl rfl rfl rfl
    have po : PassesOwn (model P w) (cxOf (L2.CX P w) P w K mg base n__law_weight "_law_weight" (defScope s__law_weight) f cdv A outer s H E).A (cxOf (L2.CX P w) P w K mg base n__law_weight "_law_weight" (defScope s__law_weight) f cdv A outer s H E).env (cxOf (L2.CX P w) P w K mg base n__law_weight "_law_weight" (defScope s__law_weight) f cdv A outer s H E).xe := passes_of rfl
    exact (pss_cons (ps_if (pt_cmp (pc_din (hu_of hr) (pv 2) (pv 0))) (pss_one (ps_ret (pe_dget (hu_of hr) (pv 0) (pv 2) (fun _ _ => rfl)))) pss_nil)
      (pss_one (ps_ret (pv 1))))
abbrev n_Scale_weight : List Str := ["self", "name"]
theorem sc_Scale_weight : FnScope n_Scale_weight ["self", "name"] (defScope s_Scale_weight) := ⟨rfl, rfl, rfl, by decide +kernel, rfl, by decide +kernel, by decide +kernel⟩
theorem ok_Scale_weight (T : Top K mg)  (F : FunD K "weight" "Scale.weight" (defArgs s_Scale_weight) (defBody s_Scale_weight) (defScope s_Scale_weight) [] [] f fd) : FnOk P w K mg base (L2.CX P w) 1 f fd ["self", "name"] (sp_Scale_weight K) := by
  have sc := sc_Scale_weight
  refine F.ok sc (fun vs H Q E h => ?_) (fun cdv A outer s H vs Q E hr h => ⟨t_Scale_weight K E, ?_, pure_Scale_weight T.sk h⟩)
  · first | exact h.1 | (obtain ⟨rfl, _⟩ := h; rfl) | (obtain ⟨_, rfl, _⟩ := h; rfl) | (obtain ⟨_, _, rfl, _⟩ := h; rfl) | (obtain ⟨_, _, _, rfl, _⟩ := h; rfl) | (obtain ⟨_, _, _, _, rfl, _⟩ := h; rfl) | (obtain ⟨_, _, _, _, _, rfl, _⟩ := h; rfl) | (obtain ⟨_, _, _, _, _, _, rfl, _⟩ := h; rfl) | (obtain ⟨_, _, _, _, _, _, _, rfl, _⟩ := h; rfl) | (obtain ⟨_, _, _, _, _, _, _, _, rfl, _⟩ := h; rfl) | (obtain ⟨_, _, _, _, _, _, _, _, _, rfl, _⟩ := h; rfl) | (obtain ⟨_, _, _, _, _, _, _, _, _, _, rfl, _⟩ := h; rfl) | (obtain ⟨_, _, _, _, _, _, _, _, _, _, _, rfl, _⟩ := h; rfl) | (obtain ⟨_, _, _, _, _, _, _, _, _, _, _, _, rfl, _⟩ := h; rfl) | (obtain ⟨_, _, _, _, _, _, _, _, _, _, _, _, _, rfl, _⟩ := h; rfl) | (obtain ⟨_, _, _, _, _, _, _, _, _, _, _, _, _, _, rfl, _⟩ := h; rfl) | (obtain ⟨_, _, _, _, _, _, _, _, _, _, _, _, _, _, _, rfl, _⟩ := h; rfl) | (obtain ⟨_, _, _, _, _, _, _, _, _, _, _, _, _, _, _, _, rfl, _⟩ := h; rfl) | (obtain ⟨_, _, _, _, _, _, _, _, _, _, _, _, _, _, _, _, _, rfl, _⟩ := h; rfl) | (obtain ⟨_, _, _, _, _, _, _, _, _, _, _, _, _, _, _, _, _, _, rfl, _⟩ := h; rfl) | (obtain ⟨_, _, _, _, _, _, _, _, _, _, _, _, _, _, _, _, _, _, _, rfl, _⟩ := h; rfl) | (obtain ⟨_, _, _, _, _, _, _, _, _, _, _, _, _, _, _, _, _, _, _, _, rfl, _⟩ := h; rfl) | (obtain ⟨_, _, _, _, _, _, _, _, _, _, _, _, _, _, _, _, _, _, _, _, _, rfl, _⟩ := h; rfl) | (obtain ⟨_, _, _, _, _, _, _, _, _, _, _, _, _, _, _, _, _, _, _, _, _, _, rfl, _⟩ := h; rfl) | (obtain ⟨_, _, _, _, _, _, _, _, _, _, _, _, _, _, _, _, _, _, _, _, _, _, _, rfl, _⟩ := h; rfl) | (obtain ⟨_, _, _, _, _, _, _, _, _, _, _, _, _, _, _, _, _, _, _, _, _, _, _, _, rfl, _⟩ := h; rfl) | (obtain ⟨_, _, _, _, _, _, _, _, _, _, _, _, _, _, _, _, _, _, _, _, _, _, _, _, _, rfl, _⟩ := h; rfl)
  · have tk : Takes (cxOf (L2.CX P w) P w K mg base n_Scale_weight "Scale.weight" (defScope s_Scale_weight) f cdv A outer s H E) (WE0 E) := takes_of rfl rfl rfl rfl
    have po : PassesOwn (model P w) (cxOf (L2.CX P w) P w K mg base n_Scale_weight "Scale.weight" (defScope s_Scale_weight) f cdv A outer s H E).A (cxOf (L2.CX P w) P w K mg base n_Scale_weight "Scale.weight" (defScope s_Scale_weight) f cdv A outer s H E).env (cxOf (L2.CX P w) P w K mg base n_Scale_weight "Scale.weight" (defScope s_Scale_weight) f cdv A outer s H E).xe := passes_of rfl
    exact (pss_one (ps_ret (pe_dget2 (hu_of hr) (pe_fld (pv 0) rfl) (pv 1) (pe_fld (pv 0) rfl) ⟨rfl, rfl, rfl, rfl⟩)))
abbrev n__law_scale_fits : List Str := ["_law_scale", "_law_names_here", "_law_weights_here", "_law_other", "_law_name_here"]
theorem sc__law_scale_fits : FnScope n__law_scale_fits ["_law_scale", "_law_names_here", "_law_weights_here", "_law_other"] (defScope s__law_scale_fits) := ⟨rfl, rfl, rfl, by decide +kernel, rfl, by decide +kernel, by decide +kernel⟩
theorem ok__law_scale_fits (T : Top K mg) (F__law_same : Fn P w K mg base 91 "_law_same" ["_law_actual", "_law_due"] (sp__law_same K)) (F__law_weight : Fn P w K mg base 1 "_law_weight" ["_law_weights_here", "_law_other", "_law_name_here"] (sp__law_weight K)) (M_Scale_weight : Mt P w K mg base 1 "Scale" "weight" ["self", "name"] (sp_Scale_weight K)) (F : FunD K "_law_scale_fits" "_law_scale_fits" (defArgs s__law_scale_fits) (defBody s__law_scale_fits) (defScope s__law_scale_fits) [] [] f fd) : FnOk P w K mg base (L2.CX P w) 92 f fd ["_law_scale", "_law_names_here", "_law_weights_here", "_law_other"] (sp__law_scale_fits K) := by
  have sc := sc__law_scale_fits
  refine F.ok sc (fun vs H Q E h => ?_) (fun cdv A outer s H vs Q E hr h => ⟨t__law_scale_fits K E, ?_, pure__law_scale_fits h⟩)
  · first | exact h.1 | (obtain ⟨rfl, _⟩ := h; rfl) | (obtain ⟨_, rfl, _⟩ := h; rfl) | (obtain ⟨_, _, rfl, _⟩ := h; rfl) | (obtain ⟨_, _, _, rfl, _⟩ := h; rfl) | (obtain ⟨_, _, _, _, rfl, _⟩ := h; rfl) | (obtain ⟨_, _, _, _, _, rfl, _⟩ := h; rfl) | (obtain ⟨_, _, _, _, _, _, rfl, _⟩ := h; rfl) | (obtain ⟨_, _, _, _, _, _, _, rfl, _⟩ := h; rfl) | (obtain ⟨_, _, _, _, _, _, _, _, rfl, _⟩ := h; rfl) | (obtain ⟨_, _, _, _, _, _, _, _, _, rfl, _⟩ := h; rfl) | (obtain ⟨_, _, _, _, _, _, _, _, _, _, rfl, _⟩ := h; rfl) | (obtain ⟨_, _, _, _, _, _, _, _, _, _, _, rfl, _⟩ := h; rfl) | (obtain ⟨_, _, _, _, _, _, _, _, _, _, _, _, rfl, _⟩ := h; rfl) | (obtain ⟨_, _, _, _, _, _, _, _, _, _, _, _, _, rfl, _⟩ := h; rfl) | (obtain ⟨_, _, _, _, _, _, _, _, _, _, _, _, _, _, rfl, _⟩ := h; rfl) | (obtain ⟨_, _, _, _, _, _, _, _, _, _, _, _, _, _, _, rfl, _⟩ := h; rfl) | (obtain ⟨_, _, _, _, _, _, _, _, _, _, _, _, _, _, _, _, rfl, _⟩ := h; rfl) | (obtain ⟨_, _, _, _, _, _, _, _, _, _, _, _, _, _, _, _, _, rfl, _⟩ := h; rfl) | (obtain ⟨_, _, _, _, _, _, _, _, _, _, _, _, _, _, _, _, _, _, rfl, _⟩ := h; rfl) | (obtain ⟨_, _, _, _, _, _, _, _, _, _, _, _, _, _, _, _, _, _, _, rfl, _⟩ := h; rfl) | (obtain ⟨_, _, _, _, _, _, _, _, _, _, _, _, _, _, _, _, _, _, _, _, rfl, _⟩ := h; rfl) | (obtain ⟨_, _, _, _, _, _, _, _, _, _, _, _, _, _, _, _, _, _, _, _, _, rfl, _⟩ := h; rfl) | (obtain ⟨_, _, _, _, _, _, _, _, _, _, _, _, _, _, _, _, _, _, _, _, _, _, rfl, _⟩ := h; rfl) | (obtain ⟨_, _, _, _, _, _, _, _, _, _, _, _, _, _, _, _, _, _, _, _, _, _, _, rfl, _⟩ := h; rfl) | (obtain ⟨_, _, _, _, _, _, _, _, _, _, _, _, _, _, _, _, _, _, _, _, _, _, _, _, rfl, _⟩ := h; rfl) | (obtain ⟨_, _, _, _, _, _, _, _, _, _, _, _, _, _, _, _, _, _, _, _, _, _, _, _, _, rfl, _⟩ := h; rfl)
  · have tk : Takes (cxOf (L2.CX P w) P w K mg base n__law_scale_fits "_law_scale_fits" (defScope s__law_scale_fits) f cdv A outer s H E) (WE0 E) := takes_of rfl rfl rfl rfl
    have po : PassesOwn (model P w) (cxOf (L2.CX P w) P w K mg base n__law_scale_fits "_law_scale_fits" (defScope s__law_scale_fits) f cdv A outer s H E).A (cxOf (L2.CX P w) P w K mg base n__law_scale_fits "_law_scale_fits" (defScope s__law_scale_fits) f cdv A outer s H E).env (cxOf (L2.CX P w) P w K mg base n__law_scale_fits "_law_scale_fits" (defScope s__law_scale_fits) f cdv A outer s H E).xe := passes_of rfl
    exact (pss_cons (ps_for po rfl (pi_list (pv 1)) (pg_name (i := 4) sc.nd rfl (by first | exact Or.inl rfl | exact Or.inr rfl)) (pss_one (ps_if (pt_not (pt_val (pe_cl F__law_same hr (by decide) tk (pa_cons (pe_mt (c := "Scale") M_Scale_weight hr (by decide) tk (pv 0) (pa_cons (pv 4) pa_nil)) (pa_cons (pe_cl F__law_weight hr (by decide) tk (pa_cons (pv 2) (pa_cons (pv 3) (pa_cons (pv 4) pa_nil)))) pa_nil))))) (pss_one (ps_ret pe_bl)) pss_nil)))
      (pss_one (ps_ret pe_bl)))
abbrev n__law_turnedO : List Str := ["_law_x", "_law_turned_here", "_law_a"]
theorem sc__law_turnedO : FnScope n__law_turnedO ["_law_x"] (defScope s__law_turnedO) := ⟨rfl, rfl, rfl, by decide +kernel, rfl, by decide +kernel, by decide +kernel⟩
theorem ok__law_turnedO (T : Top K mg)  (F : FunD K "_law_turned" "_law_turned" (defArgs s__law_turnedO) (defBody s__law_turnedO) (defScope s__law_turnedO) [] [] f fd) : FnOk P w K mg base (L2.CX P w) 1 f fd ["_law_x"] (sp__law_turnedO K) := by
  have sc := sc__law_turnedO
  refine F.ok sc (fun vs H Q E h => ?_) (fun cdv A outer s H vs Q E hr h => ⟨t__law_turnedO K E, ?_, pure__law_turnedO h⟩)
  · first | exact h.1 | (obtain ⟨rfl, _⟩ := h; rfl) | (obtain ⟨_, rfl, _⟩ := h; rfl) | (obtain ⟨_, _, rfl, _⟩ := h; rfl) | (obtain ⟨_, _, _, rfl, _⟩ := h; rfl) | (obtain ⟨_, _, _, _, rfl, _⟩ := h; rfl) | (obtain ⟨_, _, _, _, _, rfl, _⟩ := h; rfl) | (obtain ⟨_, _, _, _, _, _, rfl, _⟩ := h; rfl) | (obtain ⟨_, _, _, _, _, _, _, rfl, _⟩ := h; rfl) | (obtain ⟨_, _, _, _, _, _, _, _, rfl, _⟩ := h; rfl) | (obtain ⟨_, _, _, _, _, _, _, _, _, rfl, _⟩ := h; rfl) | (obtain ⟨_, _, _, _, _, _, _, _, _, _, rfl, _⟩ := h; rfl) | (obtain ⟨_, _, _, _, _, _, _, _, _, _, _, rfl, _⟩ := h; rfl) | (obtain ⟨_, _, _, _, _, _, _, _, _, _, _, _, rfl, _⟩ := h; rfl) | (obtain ⟨_, _, _, _, _, _, _, _, _, _, _, _, _, rfl, _⟩ := h; rfl) | (obtain ⟨_, _, _, _, _, _, _, _, _, _, _, _, _, _, rfl, _⟩ := h; rfl) | (obtain ⟨_, _, _, _, _, _, _, _, _, _, _, _, _, _, _, rfl, _⟩ := h; rfl) | (obtain ⟨_, _, _, _, _, _, _, _, _, _, _, _, _, _, _, _, rfl, _⟩ := h; rfl) | (obtain ⟨_, _, _, _, _, _, _, _, _, _, _, _, _, _, _, _, _, rfl, _⟩ := h; rfl) | (obtain ⟨_, _, _, _, _, _, _, _, _, _, _, _, _, _, _, _, _, _, rfl, _⟩ := h; rfl) | (obtain ⟨_, _, _, _, _, _, _, _, _, _, _, _, _, _, _, _, _, _, _, rfl, _⟩ := h; rfl) | (obtain ⟨_, _, _, _, _, _, _, _, _, _, _, _, _, _, _, _, _, _, _, _, rfl, _⟩ := h; rfl) | (obtain ⟨_, _, _, _, _, _, _, _, _, _, _, _, _, _, _, _, _, _, _, _, _, rfl, _⟩ := h; rfl) | (obtain ⟨_, _, _, _, _, _, _, _, _, _, _, _, _, _, _, _, _, _, _, _, _, _, rfl, _⟩ := h; rfl) | (obtain ⟨_, _, _, _, _, _, _, _, _, _, _, _, _, _, _, _, _, _, _, _, _, _, _, rfl, _⟩ := h; rfl) | (obtain ⟨_, _, _, _, _, _, _, _, _, _, _, _, _, _, _, _, _, _, _, _, _, _, _, _, rfl, _⟩ := h; rfl) | (obtain ⟨_, _, _, _, _, _, _, _, _, _, _, _, _, _, _, _, _, _, _, _, _, _, _, _, _, rfl, _⟩ := h; rfl)
  · have tk : Takes (cxOf (L2.CX P w) P w K mg base n__law_turnedO "_law_turned" (defScope s__law_turnedO) f cdv A outer s H E) (WE0 E) := takes_of rfl rfl rfl rfl
    have po : PassesOwn (model P w) (cxOf (L2.CX P w) P w K mg base n__law_turnedO "_law_turned" (defScope s__law_turnedO) f cdv A outer s H E).A (cxOf (L2.CX P w) P w K mg base n__law_turnedO "_law_turned" (defScope s__law_turnedO) f cdv A outer s H E).env (cxOf (L2.CX P w) P w K mg base n__law_turnedO "_law_turned" (defScope s__law_turnedO) f cdv A outer s H E).xe := passes_of rfl
    exact (pss_cons (ps_set (i := 1) sc.nd rfl (by first | exact Or.inl rfl | exact Or.inr rfl) pe_dnewK)
      (pss_cons (ps_for po rfl (pi_reversed (by rfl) T.f_reversed (pa_cons (pe_callB cSortL (by rfl) T.f_sorted (by decide +kernel) (pa_cons (pe_callTy (call_list_dK rfl) (by rfl) T.f_list (by decide +kernel) (pa_cons (pv 0) pa_nil)) pa_nil)) pa_nil)) (pg_name (i := 2) sc.nd rfl (by first | exact Or.inl rfl | exact Or.inr rfl)) (pss_one (ps_dput (hu_of hr) (pv 1) (pv 2) (pe_dget (hu_of hr) (pv 0) (pv 2) (fun _ _ => rfl)) rfl)))
      (pss_one (ps_ret (pv 1)))))
abbrev n__law_mixed : List Str := ["_law_state", "_law_items", "_law_pool", "_law_row", "_law_k"]
theorem sc__law_mixed : FnScope n__law_mixed ["_law_state", "_law_items"] (defScope s__law_mixed) := ⟨rfl, rfl, rfl, by decide +kernel, rfl, by decide +kernel, by decide +kernel⟩
theorem ok__law_mixed (T : Top K mg) (F__law_take : Fn P w K mg base 1 "_law_take" ["_law_state", "_law_many"] (sp__law_take K)) (F : FunD K "_law_mixed" "_law_mixed" (defArgs s__law_mixed) (defBody s__law_mixed) (defScope s__law_mixed) [] [] f fd) : FnOk P w K mg base (L2.CX P w) 2 f fd ["_law_state", "_law_items"] (sp__law_mixed K) := by
  have sc := sc__law_mixed
  refine F.ok sc (fun vs H Q E h => ?_) (fun cdv A outer s H vs Q E hr h => ⟨t__law_mixed K E, ?_, pure__law_mixed h⟩)
  · first | exact h.1 | (obtain ⟨rfl, _⟩ := h; rfl) | (obtain ⟨_, rfl, _⟩ := h; rfl) | (obtain ⟨_, _, rfl, _⟩ := h; rfl) | (obtain ⟨_, _, _, rfl, _⟩ := h; rfl) | (obtain ⟨_, _, _, _, rfl, _⟩ := h; rfl) | (obtain ⟨_, _, _, _, _, rfl, _⟩ := h; rfl) | (obtain ⟨_, _, _, _, _, _, rfl, _⟩ := h; rfl) | (obtain ⟨_, _, _, _, _, _, _, rfl, _⟩ := h; rfl) | (obtain ⟨_, _, _, _, _, _, _, _, rfl, _⟩ := h; rfl) | (obtain ⟨_, _, _, _, _, _, _, _, _, rfl, _⟩ := h; rfl) | (obtain ⟨_, _, _, _, _, _, _, _, _, _, rfl, _⟩ := h; rfl) | (obtain ⟨_, _, _, _, _, _, _, _, _, _, _, rfl, _⟩ := h; rfl) | (obtain ⟨_, _, _, _, _, _, _, _, _, _, _, _, rfl, _⟩ := h; rfl) | (obtain ⟨_, _, _, _, _, _, _, _, _, _, _, _, _, rfl, _⟩ := h; rfl) | (obtain ⟨_, _, _, _, _, _, _, _, _, _, _, _, _, _, rfl, _⟩ := h; rfl) | (obtain ⟨_, _, _, _, _, _, _, _, _, _, _, _, _, _, _, rfl, _⟩ := h; rfl) | (obtain ⟨_, _, _, _, _, _, _, _, _, _, _, _, _, _, _, _, rfl, _⟩ := h; rfl) | (obtain ⟨_, _, _, _, _, _, _, _, _, _, _, _, _, _, _, _, _, rfl, _⟩ := h; rfl) | (obtain ⟨_, _, _, _, _, _, _, _, _, _, _, _, _, _, _, _, _, _, rfl, _⟩ := h; rfl) | (obtain ⟨_, _, _, _, _, _, _, _, _, _, _, _, _, _, _, _, _, _, _, rfl, _⟩ := h; rfl) | (obtain ⟨_, _, _, _, _, _, _, _, _, _, _, _, _, _, _, _, _, _, _, _, rfl, _⟩ := h; rfl) | (obtain ⟨_, _, _, _, _, _, _, _, _, _, _, _, _, _, _, _, _, _, _, _, _, rfl, _⟩ := h; rfl) | (obtain ⟨_, _, _, _, _, _, _, _, _, _, _, _, _, _, _, _, _, _, _, _, _, _, rfl, _⟩ := h; rfl) | (obtain ⟨_, _, _, _, _, _, _, _, _, _, _, _, _, _, _, _, _, _, _, _, _, _, _, rfl, _⟩ := h; rfl) | (obtain ⟨_, _, _, _, _, _, _, _, _, _, _, _, _, _, _, _, _, _, _, _, _, _, _, _, rfl, _⟩ := h; rfl) | (obtain ⟨_, _, _, _, _, _, _, _, _, _, _, _, _, _, _, _, _, _, _, _, _, _, _, _, _, rfl, _⟩ := h; rfl)
  · have tk : Takes (cxOf (L2.CX P w) P w K mg base n__law_mixed "_law_mixed" (defScope s__law_mixed) f cdv A outer s H E) (WE0 E) := takes_of rfl rfl rfl rfl
    have po : PassesOwn (model P w) (cxOf (L2.CX P w) P w K mg base n__law_mixed "_law_mixed" (defScope s__law_mixed) f cdv A outer s H E).A (cxOf (L2.CX P w) P w K mg base n__law_mixed "_law_mixed" (defScope s__law_mixed) f cdv A outer s H E).env (cxOf (L2.CX P w) P w K mg base n__law_mixed "_law_mixed" (defScope s__law_mixed) f cdv A outer s H E).xe := passes_of rfl
    exact (pss_cons (ps_set (i := 2) sc.nd rfl (by first | exact Or.inl rfl | exact Or.inr rfl) (pe_callTy cListOf (by rfl) T.f_list (by decide +kernel) (pa_cons (pv 1) pa_nil)))
      (pss_cons (ps_set (i := 3) sc.nd rfl (by first | exact Or.inl rfl | exact Or.inr rfl) (pe_lst pa_nil))
      (pss_cons (ps_for po rfl (pi_range1 (by rfl) T.f_range (pa_cons (pe_callB cLenA (by rfl) T.f_len PySem.boot_len (pa_cons (pv 1) pa_nil)) pa_nil)) (pg_name (i := 4) sc.nd rfl (by first | exact Or.inl rfl | exact Or.inr rfl)) (pss_one (ps_expr (pe_bm PySem.F.plainAttrs_list PySem.F.slot_list_append PySem.F.type_list_append mt_append (pv 3) (pa_cons (pe_bm PySem.F.plainAttrs_list PySem.F.slot_list_pop PySem.F.type_list_pop mt_popAt (pv 2) (pa_cons (pe_cl F__law_take hr (by decide) tk (pa_cons (pv 0) (pa_cons (pe_callB cLenA (by rfl) T.f_len PySem.boot_len (pa_cons (pv 2) pa_nil)) pa_nil))) pa_nil)) pa_nil)))))
      (pss_one (ps_ret (pv 3))))))
abbrev n__law_weights : List Str := ["_law_state", "_law_names_here", "_law_weights_here", "_law_a"]
theorem sc__law_weights : FnScope n__law_weights ["_law_state", "_law_names_here"] (defScope s__law_weights) := ⟨rfl, rfl, rfl, by decide +kernel, rfl, by decide +kernel, by decide +kernel⟩
theorem ok__law_weights (T : Top K mg) (F__law_big : Fn P w K mg base 2 "_law_big" ["_law_state"] (sp__law_big K)) (F__law_mixed : Fn P w K mg base 2 "_law_mixed" ["_law_state", "_law_items"] (sp__law_mixed K)) (F__law_take : Fn P w K mg base 1 "_law_take" ["_law_state", "_law_many"] (sp__law_take K)) (F : FunD K "_law_weights" "_law_weights" (defArgs s__law_weights) (defBody s__law_weights) (defScope s__law_weights) [] [] f fd) : FnOk P w K mg base (L2.CX P w) 3 f fd ["_law_state", "_law_names_here"] (sp__law_weights K) := by
  have sc := sc__law_weights
  refine F.ok sc (fun vs H Q E h => ?_) (fun cdv A outer s H vs Q E hr h => ⟨t__law_weights K E, ?_, pure__law_weights h⟩)
  · first | exact h.1 | (obtain ⟨rfl, _⟩ := h; rfl) | (obtain ⟨_, rfl, _⟩ := h; rfl) | (obtain ⟨_, _, rfl, _⟩ := h; rfl) | (obtain ⟨_, _, _, rfl, _⟩ := h; rfl) | (obtain ⟨_, _, _, _, rfl, _⟩ := h; rfl) | (obtain ⟨_, _, _, _, _, rfl, _⟩ := h; rfl) | (obtain ⟨_, _, _, _, _, _, rfl, _⟩ := h; rfl) | (obtain ⟨_, _, _, _, _, _, _, rfl, _⟩ := h; rfl) | (obtain ⟨_, _, _, _, _, _, _, _, rfl, _⟩ := h; rfl) | (obtain ⟨_, _, _, _, _, _, _, _, _, rfl, _⟩ := h; rfl) | (obtain ⟨_, _, _, _, _, _, _, _, _, _, rfl, _⟩ := h; rfl) | (obtain ⟨_, _, _, _, _, _, _, _, _, _, _, rfl, _⟩ := h; rfl) | (obtain ⟨_, _, _, _, _, _, _, _, _, _, _, _, rfl, _⟩ := h; rfl) | (obtain ⟨_, _, _, _, _, _, _, _, _, _, _, _, _, rfl, _⟩ := h; rfl) | (obtain ⟨_, _, _, _, _, _, _, _, _, _, _, _, _, _, rfl, _⟩ := h; rfl) | (obtain ⟨_, _, _, _, _, _, _, _, _, _, _, _, _, _, _, rfl, _⟩ := h; rfl) | (obtain ⟨_, _, _, _, _, _, _, _, _, _, _, _, _, _, _, _, rfl, _⟩ := h; rfl) | (obtain ⟨_, _, _, _, _, _, _, _, _, _, _, _, _, _, _, _, _, rfl, _⟩ := h; rfl) | (obtain ⟨_, _, _, _, _, _, _, _, _, _, _, _, _, _, _, _, _, _, rfl, _⟩ := h; rfl) | (obtain ⟨_, _, _, _, _, _, _, _, _, _, _, _, _, _, _, _, _, _, _, rfl, _⟩ := h; rfl) | (obtain ⟨_, _, _, _, _, _, _, _, _, _, _, _, _, _, _, _, _, _, _, _, rfl, _⟩ := h; rfl) | (obtain ⟨_, _, _, _, _, _, _, _, _, _, _, _, _, _, _, _, _, _, _, _, _, rfl, _⟩ := h; rfl) | (obtain ⟨_, _, _, _, _, _, _, _, _, _, _, _, _, _, _, _, _, _, _, _, _, _, rfl, _⟩ := h; rfl) | (obtain ⟨_, _, _, _, _, _, _, _, _, _, _, _, _, _, _, _, _, _, _, _, _, _, _, rfl, _⟩ := h; rfl) | (obtain ⟨_, _, _, _, _, _, _, _, _, _, _, _, _, _, _, _, _, _, _, _, _, _, _, _, rfl, _⟩ := h; rfl) | (obtain ⟨_, _, _, _, _, _, _, _, _, _, _, _, _, _, _, _, _, _, _, _, _, _, _, _, _, rfl, _⟩ := h; rfl)
  · have tk : Takes (cxOf (L2.CX P w) P w K mg base n__law_weights "_law_weights" (defScope s__law_weights) f cdv A outer s H E) (WE0 E) := takes_of rfl rfl rfl rfl
    have po : PassesOwn (model P w) (cxOf (L2.CX P w) P w K mg base n__law_weights "_law_weights" (defScope s__law_weights) f cdv A outer s H E).A (cxOf (L2.CX P w) P w K mg base n__law_weights "_law_weights" (defScope s__law_weights) f cdv A outer s H E).env (cxOf (L2.CX P w) P w K mg base n__law_weights "_law_weights" (defScope s__law_weights) f cdv A outer s H E).xe := passes_of rfl
    exact (pss_cons (ps_set (i := 2) sc.nd rfl (by first | exact Or.inl rfl | exact Or.inr rfl) pe_dnewK)
      (pss_cons (ps_for po rfl (pi_list (pe_cl F__law_mixed hr (by decide) tk (pa_cons (pv 0) (pa_cons (pv 1) pa_nil)))) (pg_name (i := 3) sc.nd rfl (by first | exact Or.inl rfl | exact Or.inr rfl)) (pss_one (ps_if (pt_cmpR oGtI (pe_cl F__law_take hr (by decide) tk (pa_cons (pv 0) (pa_cons pe_int pa_nil))) pe_int (nomark _)) (pss_one (ps_dput (hu_of hr) (pv 2) (pv 3) (pe_cl F__law_big hr (by decide) tk (pa_cons (pv 0) pa_nil)) rfl)) pss_nil)))
      (pss_one (ps_ret (pv 2)))))
abbrev n_Scale___add__ : List Str := ["self", "other", "names", "weights", "name"]
theorem sc_Scale___add__ : FnScope n_Scale___add__ ["self", "other"] (defScope s_Scale___add__) := ⟨rfl, rfl, rfl, by decide +kernel, rfl, by decide +kernel, by decide +kernel⟩
theorem ok_Scale___add__ (T : Top K mg) (M_Scale_weight : Mt P w K mg base 1 "Scale" "weight" ["self", "name"] (sp_Scale_weight K)) (XK_Scale : MkrK P w K mg base 4 "Scale" ["self", "weights", "rest"] 1 ["rest"] (sp_Scale___init__ K)) (F : FunD K "__add__" "Scale.__add__" (defArgs s_Scale___add__) (defBody s_Scale___add__) (defScope s_Scale___add__) [] [] f fd) : FnOk P w K mg base (L2.CX P w) 6 f fd ["self", "other"] (sp_Scale___add__ K) := by
  have sc := sc_Scale___add__
  refine F.ok sc (fun vs H Q E h => ?_) (fun cdv A outer s H vs Q E hr h => ⟨t_Scale___add__ K E, ?_, pure_Scale___add__ T.sk T.si h⟩)
  · first | exact h.1 | (obtain ⟨rfl, _⟩ := h; rfl) | (obtain ⟨_, rfl, _⟩ := h; rfl) | (obtain ⟨_, _, rfl, _⟩ := h; rfl) | (obtain ⟨_, _, _, rfl, _⟩ := h; rfl) | (obtain ⟨_, _, _, _, rfl, _⟩ := h; rfl) | (obtain ⟨_, _, _, _, _, rfl, _⟩ := h; rfl) | (obtain ⟨_, _, _, _, _, _, rfl, _⟩ := h; rfl) | (obtain ⟨_, _, _, _, _, _, _, rfl, _⟩ := h; rfl) | (obtain ⟨_, _, _, _, _, _, _, _, rfl, _⟩ := h; rfl) | (obtain ⟨_, _, _, _, _, _, _, _, _, rfl, _⟩ := h; rfl) | (obtain ⟨_, _, _, _, _, _, _, _, _, _, rfl, _⟩ := h; rfl) | (obtain ⟨_, _, _, _, _, _, _, _, _, _, _, rfl, _⟩ := h; rfl) | (obtain ⟨_, _, _, _, _, _, _, _, _, _, _, _, rfl, _⟩ := h; rfl) | (obtain ⟨_, _, _, _, _, _, _, _, _, _, _, _, _, rfl, _⟩ := h; rfl) | (obtain ⟨_, _, _, _, _, _, _, _, _, _, _, _, _, _, rfl, _⟩ := h; rfl) | (obtain ⟨_, _, _, _, _, _, _, _, _, _, _, _, _, _, _, rfl, _⟩ := h; rfl) | (obtain ⟨_, _, _, _, _, _, _, _, _, _, _, _, _, _, _, _, rfl, _⟩ := h; rfl) | (obtain ⟨_, _, _, _, _, _, _, _, _, _, _, _, _, _, _, _, _, rfl, _⟩ := h; rfl) | (obtain ⟨_, _, _, _, _, _, _, _, _, _, _, _, _, _, _, _, _, _, rfl, _⟩ := h; rfl) | (obtain ⟨_, _, _, _, _, _, _, _, _, _, _, _, _, _, _, _, _, _, _, rfl, _⟩ := h; rfl) | (obtain ⟨_, _, _, _, _, _, _, _, _, _, _, _, _, _, _, _, _, _, _, _, rfl, _⟩ := h; rfl) | (obtain ⟨_, _, _, _, _, _, _, _, _, _, _, _, _, _, _, _, _, _, _, _, _, rfl, _⟩ := h; rfl) | (obtain ⟨_, _, _, _, _, _, _, _, _, _, _, _, _, _, _, _, _, _, _, _, _, _, rfl, _⟩ := h; rfl) | (obtain ⟨_, _, _, _, _, _, _, _, _, _, _, _, _, _, _, _, _, _, _, _, _, _, _, rfl, _⟩ := h; rfl) | (obtain ⟨_, _, _, _, _, _, _, _, _, _, _, _, _, _, _, _, _, _, _, _, _, _, _, _, rfl, _⟩ := h; rfl) | (obtain ⟨_, _, _, _, _, _, _, _, _, _, _, _, _, _, _, _, _, _, _, _, _, _, _, _, _, rfl, _⟩ := h; rfl)
  · have tk : Takes (cxOf (L2.CX P w) P w K mg base n_Scale___add__ "Scale.__add__" (defScope s_Scale___add__) f cdv A outer s H E) (WE0 E) := takes_of rfl rfl rfl rfl
    have po : PassesOwn (model P w) (cxOf (L2.CX P w) P w K mg base n_Scale___add__ "Scale.__add__" (defScope s_Scale___add__) f cdv A outer s H E).A (cxOf (L2.CX P w) P w K mg base n_Scale___add__ "Scale.__add__" (defScope s_Scale___add__) f cdv A outer s H E).env (cxOf (L2.CX P w) P w K mg base n_Scale___add__ "Scale.__add__" (defScope s_Scale___add__) f cdv A outer s H E).xe := passes_of rfl
    exact (pss_cons (ps_if (pt_not (pt_val (pe_callB call_isi (by rfl) T.f_isinstance (by decide +kernel) (pa_cons (pv 1) (pa_cons (pe_glob (v := .ref (He.ga K "Scale")) rfl T.g_Scale rfl) pa_nil))))) (pss_one ps_dead) pss_nil)
      (pss_cons (ps_set (i := 2) sc.nd rfl (by first | exact Or.inl rfl | exact Or.inr rfl) (pe_op op_cat (pe_callTy (call_list_dK rfl) (by rfl) T.f_list (by decide +kernel) (pa_cons (pe_fld (pv 0) rfl) pa_nil)) (pe_callTy (call_list_dK rfl) (by rfl) T.f_list (by decide +kernel) (pa_cons (pe_fld (pv 1) rfl) pa_nil))))
      (pss_cons (ps_setDc (i := 3) (own := [("name", 4)]) (g := (gName 4)) (tt := tYes) rfl sc.nd rfl rfl (sw_trueD rfl rfl rfl (by decide +kernel)) (pi_list (pv 2)) (blkOk_by (own := [("name", 4)]) (N := n_Scale___add__) (sc := defScope (s_Scale___add__)) (by decide +kernel)) (fun _ _ _ _ _ => (pg_name (i := 4) sc.nd rfl (by first | exact Or.inl rfl | exact Or.inr rfl))) (fun _ _ _ _ _ => pts_nil) (fun _ _ _ _ _ => (pv 4)) (fun _ _ _ _ _ => (pe_op oAddI (pe_mt (c := "Scale") M_Scale_weight hr (by decide) takes0 (pv 0) (pa_cons (pv 4) pa_nil)) (pe_mt (c := "Scale") M_Scale_weight hr (by decide) takes0 (pv 1) (pa_cons (pv 4) pa_nil)))))
      (pss_one (ps_ret (pe_mkK (n := 1) XK_Scale hr (by decide) tk (pa_cons (pv 3) pa_nil) (pk_cons (pe_op oAddI (pe_fld (pv 0) rfl) (pe_fld (pv 1) rfl)) pk_nil)))))))
abbrev n_Scale___eq__ : List Str := ["self", "other"]
theorem sc_Scale___eq__ : FnScope n_Scale___eq__ ["self", "other"] (defScope s_Scale___eq__) := ⟨rfl, rfl, rfl, by decide +kernel, rfl, by decide +kernel, by decide +kernel⟩
theorem ok_Scale___eq__ (T : Top K mg)  (F : FunD K "__eq__" "Scale.__eq__" (defArgs s_Scale___eq__) (defBody s_Scale___eq__) (defScope s_Scale___eq__) [] [] f fd) : FnOk P w K mg base (L2.CX P w) 1 f fd ["self", "other"] (sp_Scale___eq__ K) := by
  have sc := sc_Scale___eq__
  refine F.ok sc (fun vs H Q E h => ?_) (fun cdv A outer s H vs Q E hr h => ⟨t_Scale___eq__ K E, ?_, pure_Scale___eq__ T.sk T.si h⟩)
  · first | exact h.1 | (obtain ⟨rfl, _⟩ := h; rfl) | (obtain ⟨_, rfl, _⟩ := h; rfl) | (obtain ⟨_, _, rfl, _⟩ := h; rfl) | (obtain ⟨_, _, _, rfl, _⟩ := h; rfl) | (obtain ⟨_, _, _, _, rfl, _⟩ := h; rfl) | (obtain ⟨_, _, _, _, _, rfl, _⟩ := h; rfl) | (obtain ⟨_, _, _, _, _, _, rfl, _⟩ := h; rfl) | (obtain ⟨_, _, _, _, _, _, _, rfl, _⟩ := h; rfl) | (obtain ⟨_, _, _, _, _, _, _, _, rfl, _⟩ := h; rfl) | (obtain ⟨_, _, _, _, _, _, _, _, _, rfl, _⟩ := h; rfl) | (obtain ⟨_, _, _, _, _, _, _, _, _, _, rfl, _⟩ := h; rfl) | (obtain ⟨_, _, _, _, _, _, _, _, _, _, _, rfl, _⟩ := h; rfl) | (obtain ⟨_, _, _, _, _, _, _, _, _, _, _, _, rfl, _⟩ := h; rfl) | (obtain ⟨_, _, _, _, _, _, _, _, _, _, _, _, _, rfl, _⟩ := h; rfl) | (obtain ⟨_, _, _, _, _, _, _, _, _, _, _, _, _, _, rfl, _⟩ := h; rfl) | (obtain ⟨_, _, _, _, _, _, _, _, _, _, _, _, _, _, _, rfl, _⟩ := h; rfl) | (obtain ⟨_, _, _, _, _, _, _, _, _, _, _, _, _, _, _, _, rfl, _⟩ := h; rfl) | (obtain ⟨_, _, _, _, _, _, _, _, _, _, _, _, _, _, _, _, _, rfl, _⟩ := h; rfl) | (obtain ⟨_, _, _, _, _, _, _, _, _, _, _, _, _, _, _, _, _, _, rfl, _⟩ := h; rfl) | (obtain ⟨_, _, _, _, _, _, _, _, _, _, _, _, _, _, _, _, _, _, _, rfl, _⟩ := h; rfl) | (obtain ⟨_, _, _, _, _, _, _, _, _, _, _, _, _, _, _, _, _, _, _, _, rfl, _⟩ := h; rfl) | (obtain ⟨_, _, _, _, _, _, _, _, _, _, _, _, _, _, _, _, _, _, _, _, _, rfl, _⟩ := h; rfl) | (obtain ⟨_, _, _, _, _, _, _, _, _, _, _, _, _, _, _, _, _, _, _, _, _, _, rfl, _⟩ := h; rfl) | (obtain ⟨_, _, _, _, _, _, _, _, _, _, _, _, _, _, _, _, _, _, _, _, _, _, _, rfl, _⟩ := h; rfl) | (obtain ⟨_, _, _, _, _, _, _, _, _, _, _, _, _, _, _, _, _, _, _, _, _, _, _, _, rfl, _⟩ := h; rfl) | (obtain ⟨_, _, _, _, _, _, _, _, _, _, _, _, _, _, _, _, _, _, _, _, _, _, _, _, _, rfl, _⟩ := h; rfl)
  · have tk : Takes (cxOf (L2.CX P w) P w K mg base n_Scale___eq__ "Scale.__eq__" (defScope s_Scale___eq__) f cdv A outer s H E) (WE0 E) := takes_of rfl rfl rfl rfl
    have po : PassesOwn (model P w) (cxOf (L2.CX P w) P w K mg base n_Scale___eq__ "Scale.__eq__" (defScope s_Scale___eq__) f cdv A outer s H E).A (cxOf (L2.CX P w) P w K mg base n_Scale___eq__ "Scale.__eq__" (defScope s_Scale___eq__) f cdv A outer s H E).env (cxOf (L2.CX P w) P w K mg base n_Scale___eq__ "Scale.__eq__" (defScope s_Scale___eq__) f cdv A outer s H E).xe := passes_of rfl
    exact (pss_one (ps_ret (pe_and (pe_callB call_isi (by rfl) T.f_isinstance (by decide +kernel) (pa_cons (pv 1) (pa_cons (pe_glob (v := .ref (He.ga K "Scale")) rfl T.g_Scale rfl) pa_nil))) (pe_and (pe_cmpR op_eq (pe_fld (pv 0) rfl) (pe_fld (pv 1) rfl) (nomark _)) (pe_one (pe_cmpR (op_eqE hr.units) (pe_fld (pv 0) rfl) (pe_fld (pv 1) rfl) (nomark _)))))))
abbrev n_law : List Str := ["_law_script", "_law_state", "_law_names_here", "_law_one", "_law_one_other", "_law_kind", "_law_two", "_law_two_other", "_law_left", "_law_right", "_law_total", "_law_equal", "_law_name_here", "_law_both", "_law_other", "_law_place"]
theorem sc_law : FnScope n_law ["_law_script"] (defScope s_law) := ⟨rfl, rfl, rfl, by decide +kernel, rfl, by decide +kernel, by decide +kernel⟩
theorem ok_law (T : Top K mg) (F__law_big : Fn P w K mg base 2 "_law_big" ["_law_state"] (sp__law_big K)) (F__law_cell : Fn P w K mg base 1 "_law_cell" ["_law_script", "_law_k"] (sp__law_cell K)) (F__law_made : Fn P w K mg base 6 "_law_made" ["_law_weights_here", "_law_other", "_law_left_out"] (sp__law_made K)) (F__law_name : Fn P w K mg base 2 "_law_name" ["_law_state", "_law_taken"] (sp__law_name K)) (F__law_names : Fn P w K mg base 3 "_law_names" ["_law_state", "_law_many"] (sp__law_names K)) (F__law_same : Fn P w K mg base 91 "_law_same" ["_law_actual", "_law_due"] (sp__law_same K)) (F__law_scale_fits : Fn P w K mg base 92 "_law_scale_fits" ["_law_scale", "_law_names_here", "_law_weights_here", "_law_other"] (sp__law_scale_fits K)) (F__law_take : Fn P w K mg base 1 "_law_take" ["_law_state", "_law_many"] (sp__law_take K)) (F__law_turned : Fn P w K mg base 1 "_law_turned" ["_law_x"] (sp__law_turnedO K)) (F__law_weight : Fn P w K mg base 1 "_law_weight" ["_law_weights_here", "_law_other", "_law_name_here"] (sp__law_weight K)) (F__law_weights : Fn P w K mg base 3 "_law_weights" ["_law_state", "_law_names_here"] (sp__law_weights K)) (M_Scale___add__ : Mt P w K mg base 6 "Scale" "__add__" ["self", "other"] (sp_Scale___add__ K)) (M_Scale___eq__ : Mt P w K mg base 1 "Scale" "__eq__" ["self", "other"] (sp_Scale___eq__ K)) (M_Scale_weight : Mt P w K mg base 1 "Scale" "weight" ["self", "name"] (sp_Scale_weight K)) (F : FunD K "law" "law" (defArgs s_law) (defBody s_law) (defScope s_law) [] [] f fd) : FnOk P w K mg base (L2.CX P w) 93 f fd ["_law_script"] (spLaw K) := by
  have sc := sc_law
  refine F.ok sc (fun vs H Q E h => ?_) (fun cdv A outer s H vs Q E hr h => ⟨t_law K E, ?_, pure_law h⟩)
  · first | exact h.1 | (obtain ⟨rfl, _⟩ := h; rfl) | (obtain ⟨_, rfl, _⟩ := h; rfl) | (obtain ⟨_, _, rfl, _⟩ := h; rfl) | (obtain ⟨_, _, _, rfl, _⟩ := h; rfl) | (obtain ⟨_, _, _, _, rfl, _⟩ := h; rfl) | (obtain ⟨_, _, _, _, _, rfl, _⟩ := h; rfl) | (obtain ⟨_, _, _, _, _, _, rfl, _⟩ := h; rfl) | (obtain ⟨_, _, _, _, _, _, _, rfl, _⟩ := h; rfl) | (obtain ⟨_, _, _, _, _, _, _, _, rfl, _⟩ := h; rfl) | (obtain ⟨_, _, _, _, _, _, _, _, _, rfl, _⟩ := h; rfl) | (obtain ⟨_, _, _, _, _, _, _, _, _, _, rfl, _⟩ := h; rfl) | (obtain ⟨_, _, _, _, _, _, _, _, _, _, _, rfl, _⟩ := h; rfl) | (obtain ⟨_, _, _, _, _, _, _, _, _, _, _, _, rfl, _⟩ := h; rfl) | (obtain ⟨_, _, _, _, _, _, _, _, _, _, _, _, _, rfl, _⟩ := h; rfl) | (obtain ⟨_, _, _, _, _, _, _, _, _, _, _, _, _, _, rfl, _⟩ := h; rfl) | (obtain ⟨_, _, _, _, _, _, _, _, _, _, _, _, _, _, _, rfl, _⟩ := h; rfl) | (obtain ⟨_, _, _, _, _, _, _, _, _, _, _, _, _, _, _, _, rfl, _⟩ := h; rfl) | (obtain ⟨_, _, _, _, _, _, _, _, _, _, _, _, _, _, _, _, _, rfl, _⟩ := h; rfl) | (obtain ⟨_, _, _, _, _, _, _, _, _, _, _, _, _, _, _, _, _, _, rfl, _⟩ := h; rfl) | (obtain ⟨_, _, _, _, _, _, _, _, _, _, _, _, _, _, _, _, _, _, _, rfl, _⟩ := h; rfl) | (obtain ⟨_, _, _, _, _, _, _, _, _, _, _, _, _, _, _, _, _, _, _, _, rfl, _⟩ := h; rfl) | (obtain ⟨_, _, _, _, _, _, _, _, _, _, _, _, _, _, _, _, _, _, _, _, _, rfl, _⟩ := h; rfl) | (obtain ⟨_, _, _, _, _, _, _, _, _, _, _, _, _, _, _, _, _, _, _, _, _, _, rfl, _⟩ := h; rfl) | (obtain ⟨_, _, _, _, _, _, _, _, _, _, _, _, _, _, _, _, _, _, _, _, _, _, _, rfl, _⟩ := h; rfl) | (obtain ⟨_, _, _, _, _, _, _, _, _, _, _, _, _, _, _, _, _, _, _, _, _, _, _, _, rfl, _⟩ := h; rfl) | (obtain ⟨_, _, _, _, _, _, _, _, _, _, _, _, _, _, _, _, _, _, _, _, _, _, _, _, _, rfl, _⟩ := h; rfl)
  · have tk : Takes (cxOf (L2.CX P w) P w K mg base n_law "law" (defScope s_law) f cdv A outer s H E) (WE0 E) := takes_of rfl rfl rfl rfl
    have po : PassesOwn (model P w) (cxOf (L2.CX P w) P w K mg base n_law "law" (defScope s_law) f cdv A outer s H E).A (cxOf (L2.CX P w) P w K mg base n_law "law" (defScope s_law) f cdv A outer s H E).env (cxOf (L2.CX P w) P w K mg base n_law "law" (defScope s_law) f cdv A outer s H E).xe := passes_of rfl
    exact (pss_cons (ps_set (i := 1) sc.nd rfl (by first | exact Or.inl rfl | exact Or.inr rfl) (pe_cl F__law_cell hr (by decide) tk (pa_cons (pv 0) (pa_cons pe_int pa_nil))))
      (pss_cons (ps_set (i := 2) sc.nd rfl (by first | exact Or.inl rfl | exact Or.inr rfl) (pe_cl F__law_names hr (by decide) tk (pa_cons (pv 1) (pa_cons pe_int pa_nil))))
      (pss_cons (ps_set (i := 3) sc.nd rfl (by first | exact Or.inl rfl | exact Or.inr rfl) (pe_cl F__law_weights hr (by decide) tk (pa_cons (pv 1) (pa_cons (pe_slice sl_list (pv 2) po_none (po_some pe_int)) pa_nil))))
      (pss_cons (ps_set (i := 4) sc.nd rfl (by first | exact Or.inl rfl | exact Or.inr rfl) pe_int)
      (pss_cons (ps_if (pt_cmpR op_eq (pe_cl F__law_take hr (by decide) tk (pa_cons (pv 1) (pa_cons pe_int pa_nil))) pe_int (nomark _)) (pss_one (ps_set (i := 4) sc.nd rfl (by first | exact Or.inl rfl | exact Or.inr rfl) (pe_cl F__law_big hr (by decide) tk (pa_cons (pv 1) pa_nil)))) pss_nil)
      (pss_cons (ps_set (i := 1) sc.nd rfl (by first | exact Or.inl rfl | exact Or.inr rfl) (pe_cl F__law_cell hr (by decide) tk (pa_cons (pv 0) (pa_cons pe_int pa_nil))))
      (pss_cons (ps_set (i := 5) sc.nd rfl (by first | exact Or.inl rfl | exact Or.inr rfl) (pe_cl F__law_take hr (by decide) tk (pa_cons (pv 1) (pa_cons pe_int pa_nil))))
      (pss_cons (ps_set (i := 6) sc.nd rfl (by first | exact Or.inl rfl | exact Or.inr rfl) (pe_cl F__law_weights hr (by decide) tk (pa_cons (pv 1) (pa_cons (pe_slice sl_list (pv 2) po_none (po_some pe_int)) pa_nil))))
      (pss_cons (ps_set (i := 7) sc.nd rfl (by first | exact Or.inl rfl | exact Or.inr rfl) (pe_cl F__law_big hr (by decide) tk (pa_cons (pv 1) pa_nil)))
      (pss_cons (ps_if (pt_cmpR oLtI (pv 5) pe_int (nomark _)) (pss_cons (ps_set (i := 6) sc.nd rfl (by first | exact Or.inl rfl | exact Or.inr rfl) (pe_cl F__law_turned hr (by decide) tk (pa_cons (pv 3) pa_nil)))
      (pss_cons (ps_set (i := 7) sc.nd rfl (by first | exact Or.inl rfl | exact Or.inr rfl) (pv 4))
      (pss_one (ps_dput (hu_of hr) (pv 6) (pe_ix ix_list (pv 2) pe_int (fun _ _ => rfl)) (pv 4) rfl)))) pss_nil)
      (pss_cons (ps_if (pt_cmpR op_eq (pv 5) pe_int (nomark _)) (pss_cons (ps_set (i := 15) sc.nd rfl (by first | exact Or.inl rfl | exact Or.inr rfl) (pe_cl F__law_take hr (by decide) tk (pa_cons (pv 1) (pa_cons pe_int pa_nil))))
      (pss_one (ps_if (pt_cmpR op_eq (pv 15) pe_int (nomark _)) (pss_one (ps_aug (i := 7) sc.nd rfl (by first | exact Or.inl rfl | exact Or.inr rfl) pe_int ip_add)) (pss_one (ps_dput (hu_of hr) (pv 6) (pe_ix ix_list (pv 2) (pv 15) (fun _ _ => rfl)) (pe_op oAddI (pe_cl F__law_weight hr (by decide) tk (pa_cons (pv 6) (pa_cons (pv 7) (pa_cons (pe_ix ix_list (pv 2) (pv 15) (fun _ _ => rfl)) pa_nil)))) pe_int) rfl))))) pss_nil)
      (pss_cons (ps_set (i := 8) sc.nd rfl (by first | exact Or.inl rfl | exact Or.inr rfl) (pe_cl F__law_made hr (by decide) tk (pa_cons (pv 3) (pa_cons (pv 4) (pa_cons (pe_cmpR op_eq (pv 4) pe_int (nomark _)) pa_nil)))))
      (pss_cons (ps_set (i := 9) sc.nd rfl (by first | exact Or.inl rfl | exact Or.inr rfl) (pe_cl F__law_made hr (by decide) tk (pa_cons (pv 6) (pa_cons (pv 7) (pa_cons pe_bl pa_nil)))))
      (pss_cons (ps_if (PW.pt (pw_or (pt_not (pt_val (pe_cl F__law_scale_fits hr (by decide) tk (pa_cons (pv 8) (pa_cons (pv 2) (pa_cons (pv 3) (pa_cons (pv 4) pa_nil))))))) (pw_or1 (pt_not (pt_val (pe_cl F__law_scale_fits hr (by decide) tk (pa_cons (pv 9) (pa_cons (pv 2) (pa_cons (pv 6) (pa_cons (pv 7) pa_nil)))))))))) (pss_one (ps_ret pe_bl)) pss_nil)
      (pss_cons (ps_set (i := 10) sc.nd rfl (by first | exact Or.inl rfl | exact Or.inr rfl) pe_dnewK)
      (pss_cons (ps_set (i := 11) sc.nd rfl (by first | exact Or.inl rfl | exact Or.inr rfl) (pe_cmpR op_eq (pv 4) (pv 7) (nomark _)))
      (pss_cons (ps_for po rfl (pi_list (pv 2)) (pg_name (i := 12) sc.nd rfl (by first | exact Or.inl rfl | exact Or.inr rfl)) (pss_cons (ps_dput (hu_of hr) (pv 10) (pv 12) (pe_op oAddI (pe_cl F__law_weight hr (by decide) tk (pa_cons (pv 3) (pa_cons (pv 4) (pa_cons (pv 12) pa_nil)))) (pe_cl F__law_weight hr (by decide) tk (pa_cons (pv 6) (pa_cons (pv 7) (pa_cons (pv 12) pa_nil))))) rfl)
      (pss_one (ps_if (pt_cmpR op_ne (pe_cl F__law_weight hr (by decide) tk (pa_cons (pv 3) (pa_cons (pv 4) (pa_cons (pv 12) pa_nil)))) (pe_cl F__law_weight hr (by decide) tk (pa_cons (pv 6) (pa_cons (pv 7) (pa_cons (pv 12) pa_nil)))) (nomark _)) (pss_one (ps_set (i := 11) sc.nd rfl (by first | exact Or.inl rfl | exact Or.inr rfl) pe_bl)) pss_nil))))
      (pss_cons (ps_set (i := 13) sc.nd rfl (by first | exact Or.inl rfl | exact Or.inr rfl) (pe_op (o_addG M_Scale___add__ T.sf_Scale hr (by decide)) (pv 8) (pv 9)))
      (pss_cons (ps_set (i := 14) sc.nd rfl (by first | exact Or.inl rfl | exact Or.inr rfl) (pe_cl F__law_name hr (by decide) tk (pa_cons (pv 1) (pa_cons (pv 2) pa_nil))))
      (pss_cons (ps_if (pt_not (pt_val (pe_cl F__law_same hr (by decide) tk (pa_cons (pe_mt (c := "Scale") M_Scale_weight hr (by decide) tk (pv 13) (pa_cons (pv 14) pa_nil)) (pa_cons (pe_op oAddI (pv 4) (pv 7)) pa_nil))))) (pss_one (ps_ret pe_bl)) pss_nil)
      (pss_cons (ps_if (PW.pt (pw_or (pt_not (pt_val (pe_cl F__law_scale_fits hr (by decide) tk (pa_cons (pv 13) (pa_cons (pv 2) (pa_cons (pv 10) (pa_cons (pe_op oAddI (pv 4) (pv 7)) pa_nil))))))) (pw_or1 (pt_not (pt_val (pe_cl F__law_scale_fits hr (by decide) tk (pa_cons (pv 8) (pa_cons (pv 2) (pa_cons (pv 3) (pa_cons (pv 4) pa_nil)))))))))) (pss_one (ps_ret pe_bl)) pss_nil)
      (pss_cons (ps_if (pt_not (pt_val (pe_cl F__law_scale_fits hr (by decide) tk (pa_cons (pv 9) (pa_cons (pv 2) (pa_cons (pv 6) (pa_cons (pv 7) pa_nil))))))) (pss_one (ps_ret pe_bl)) pss_nil)
      (pss_one (ps_ret (pe_and (pe_cl F__law_same hr (by decide) tk (pa_cons (pe_cmpR (o_eqG M_Scale___eq__ hr (by decide)) (pv 8) (pv 9) (nomark _)) (pa_cons (pv 11) pa_nil))) (pe_and (pe_cl F__law_same hr (by decide) tk (pa_cons (pe_cmpR (o_eqG M_Scale___eq__ hr (by decide)) (pv 9) (pv 8) (nomark _)) (pa_cons (pv 11) pa_nil))) (pe_one (pe_cl F__law_same hr (by decide) tk (pa_cons (pe_cmpR (o_eqG M_Scale___eq__ hr (by decide)) (pv 13) (pe_op (o_addG M_Scale___add__ T.sf_Scale hr (by decide)) (pv 9) (pv 8)) (nomark _)) (pa_cons pe_bl pa_nil))))))))))))))))))))))))))))))
end
theorem facts {P : Program} {w : World} {K : PySem.W.Frag} {h : Heap} {mg : Str → Option Value} {f : Addr} (X : K.In h) (G : h.Ns mainGlobals mg) (hfa : mg ("law" : Str) = some (.ref f)) (c : SaysX ex fa fn K) :
    ∃ fd : FuncData, (∀ (s : Shared) (v : Value), BindsTo s fd ⟨[v], []⟩ [("_law_script", v)]) ∧ ∀ base : Heap, K.In base → base.Ns mainGlobals mg → FnOk P w K mg base (L2.CX P w) 93 f fd ["_law_script"] (spLaw K) := by
  have T : Top K mg := ⟨He.free_ok X G (c.two.fact 0 (f := He.Fa.free "abs") rfl),
    He.free_ok X G (c.two.fact 1 (f := He.Fa.free "bool") rfl),
    He.free_ok X G (c.two.fact 2 (f := He.Fa.free "dict") rfl),
    He.free_ok X G (c.two.fact 3 (f := He.Fa.free "int") rfl),
    He.free_ok X G (c.two.fact 4 (f := He.Fa.free "isinstance") rfl),
    He.free_ok X G (c.two.fact 5 (f := He.Fa.free "len") rfl),
    He.free_ok X G (c.two.fact 6 (f := He.Fa.free "list") rfl),
    He.free_ok X G (c.two.fact 7 (f := He.Fa.free "min") rfl),
    He.free_ok X G (c.two.fact 8 (f := He.Fa.free "range") rfl),
    He.free_ok X G (c.two.fact 9 (f := He.Fa.free "reversed") rfl),
    He.free_ok X G (c.two.fact 10 (f := He.Fa.free "sorted") rfl),
    He.free_ok X G (c.two.fact 11 (f := He.Fa.free "str") rfl),
    He.free_ok X G (c.two.fact 12 (f := He.Fa.free "tuple") rfl),
    He.str_ok X G (c.two.fact 13 (f := He.Fa.str "LETTERS" "abcdefghijklmnopqrstuvwxyz") rfl),
    He.glo_ok X G (c.two.fact 14 (f := He.Fa.glo "BadWeights") rfl),
    He.glo_ok X G (c.two.fact 15 (f := He.Fa.glo "QuietError") rfl),
    He.glo_ok X G (c.two.fact 16 (f := He.Fa.glo "Scale") rfl),
    He.glo_ok X G (c.two.fact 17 (f := He.Fa.glo "_law_take") rfl),
    He.glo_ok X G (c.two.fact 18 (f := He.Fa.glo "_law_big") rfl),
    He.glo_ok X G (c.two.fact 19 (f := He.Fa.glo "_law_cell") rfl),
    He.glo_ok X G (c.two.fact 20 (f := He.Fa.glo "is_name") rfl),
    He.glo_ok X G (c.two.fact 21 (f := He.Fa.glo "is_integer") rfl),
    He.glo_ok X G (c.two.fact 22 (f := He.Fa.glo "is_weight") rfl),
    He.glo_ok X G (c.two.fact 23 (f := He.Fa.glo "check_weights") rfl),
    He.glo_ok X G (c.two.fact 24 (f := He.Fa.glo "_law_made") rfl),
    He.glo_ok X G (c.two.fact 25 (f := He.Fa.glo "_law_name") rfl),
    He.glo_ok X G (c.two.fact 26 (f := He.Fa.glo "_law_names") rfl),
    He.glo_ok X G (c.two.fact 27 (f := He.Fa.glo "_law_is_integer") rfl),
    He.glo_ok X G (c.two.fact 28 (f := He.Fa.glo "_law_same") rfl),
    He.glo_ok X G (c.two.fact 29 (f := He.Fa.glo "_law_weight") rfl),
    He.glo_ok X G (c.two.fact 30 (f := He.Fa.glo "_law_scale_fits") rfl),
    He.glo_ok X G (c.two.fact 31 (f := He.Fa.glo "_law_turned") rfl),
    He.glo_ok X G (c.two.fact 32 (f := He.Fa.glo "_law_mixed") rfl),
    He.glo_ok X G (c.two.fact 33 (f := He.Fa.glo "_law_weights") rfl),
    He.glo_ok X G (c.two.fact 34 (f := He.Fa.glo "law") rfl),
    c.ex 0 (b := (fun K => qInitB K "QuietError")) rfl,
    He.noat_ok (c.two.fact 35 (f := He.Fa.noat "BadWeights" "name") rfl),
    oexB_ok (c.ex 1 (b := (fun K => oexB K (He.ga K "BadWeights"))) rfl),
    He.meth_ok (c.two.fact 36 (f := He.Fa.meth "BadWeights" "__init__") rfl),
    of_decide_eq_true (c.ex 2 (b := (fun K => decide (PySem.W.typeIn K (.ref (He.ma K (He.ga K "BadWeights") "__init__")) = some (.type "function")))) rfl),
    He.mkr_ok (c.two.fact 37 (f := He.Fa.mkr "Scale") rfl),
    He.meth_ok (c.two.fact 38 (f := He.Fa.meth "Scale" "weight") rfl),
    He.meth_ok (c.two.fact 39 (f := He.Fa.meth "Scale" "__add__") rfl),
    He.meth_ok (c.two.fact 40 (f := He.Fa.meth "Scale" "__eq__") rfl),
    ⟨He.cls_ok (c.two.fact 41 (f := He.Fa.cls "Scale") rfl), He.noat_ok (c.two.fact 42 (f := He.Fa.noat "Scale" "rest") rfl), He.noat_ok (c.two.fact 43 (f := He.Fa.noat "Scale" "special") rfl)⟩,
    c.ex 3 (b := (fun K => PySem.W.selfFirst K (He.ga K "Scale"))) rfl,
    ⟨insB_ok (He.cls_ok (c.two.fact 41 (f := He.Fa.cls "Scale") rfl)) (c.ex 4 (b := (fun K => insB K (He.ga K "Scale"))) rfl), of_decide_eq_true (c.ex 5 (b := (fun K => decide (PySem.W.kitOne K (.ref (He.ga K "Scale")) (.ref (He.ga K "Scale")) = some true))) rfl)⟩⟩
  obtain ⟨fd__law_take, D__law_take⟩ := c.two.def_ 0 (d := d__law_take) rfl
  obtain ⟨fd__law_big, D__law_big⟩ := c.two.def_ 1 (d := d__law_big) rfl
  obtain ⟨fd__law_cell, D__law_cell⟩ := c.two.def_ 2 (d := d__law_cell) rfl
  obtain ⟨fd_is_name, D_is_name⟩ := c.two.def_ 3 (d := d_is_name) rfl
  obtain ⟨fd_is_integer, D_is_integer⟩ := c.two.def_ 4 (d := d_is_integer) rfl
  obtain ⟨fd_is_weight, D_is_weight⟩ := c.two.def_ 5 (d := d_is_weight) rfl
  obtain ⟨fd_BadWeights___init__, D_BadWeights___init__⟩ := c.two.def_ 6 (d := d_BadWeights___init__) rfl
  obtain ⟨fd_check_weights, D_check_weights⟩ := c.two.def_ 7 (d := d_check_weights) rfl
  obtain ⟨fd_Scale___init__, D_Scale___init__⟩ := c.two.def_ 8 (d := d_Scale___init__) rfl
  obtain ⟨fd__law_made, D__law_made⟩ := c.two.def_ 9 (d := d__law_made) rfl
  obtain ⟨fd__law_name, D__law_name⟩ := c.two.def_ 10 (d := d__law_name) rfl
  obtain ⟨fd__law_names, D__law_names⟩ := c.two.def_ 11 (d := d__law_names) rfl
  obtain ⟨fd__law_is_integer, D__law_is_integer⟩ := c.two.def_ 12 (d := d__law_is_integer) rfl
  obtain ⟨fd__law_same, D__law_same⟩ := c.two.def_ 13 (d := d__law_same) rfl
  obtain ⟨fd__law_weight, D__law_weight⟩ := c.two.def_ 14 (d := d__law_weight) rfl
  obtain ⟨fd_Scale_weight, D_Scale_weight⟩ := c.two.def_ 15 (d := d_Scale_weight) rfl
  obtain ⟨fd__law_scale_fits, D__law_scale_fits⟩ := c.two.def_ 16 (d := d__law_scale_fits) rfl
  obtain ⟨fd__law_turnedO, D__law_turnedO⟩ := c.two.def_ 17 (d := d__law_turnedO) rfl
  obtain ⟨fd__law_mixed, D__law_mixed⟩ := c.two.def_ 18 (d := d__law_mixed) rfl
  obtain ⟨fd__law_weights, D__law_weights⟩ := c.two.def_ 19 (d := d__law_weights) rfl
  obtain ⟨fd_Scale___add__, D_Scale___add__⟩ := c.two.def_ 20 (d := d_Scale___add__) rfl
  obtain ⟨fd_Scale___eq__, D_Scale___eq__⟩ := c.two.def_ 21 (d := d_Scale___eq__) rfl
  obtain ⟨fd_law, D_law⟩ := c.two.def_ 22 (d := d_law) rfl
  have e := hfa.symm.trans T.g_law
  cases e
  have b := FunD.bindsA (ps := ["_law_script"]) D_law fun _ _ _ _ _ _ us hl => match us, hl with | [_], _ => rfl
  refine ⟨fd_law, fun s v => b s [v] rfl, fun base _ _ => ?_⟩
  have F__law_take : Fn P w K mg base 1 "_law_take" ["_law_state", "_law_many"] (sp__law_take K) := ⟨_, _, T.g__law_take, D__law_take.kp, (FunD.bindsN (ps := ["_law_state", "_law_many"]) D__law_take fun _ _ _ _ _ _ us hl => match us, hl with | [_, _], _ => rfl), (ok__law_take T  D__law_take)⟩
  have F__law_big : Fn P w K mg base 2 "_law_big" ["_law_state"] (sp__law_big K) := ⟨_, _, T.g__law_big, D__law_big.kp, (FunD.bindsN (ps := ["_law_state"]) D__law_big fun _ _ _ _ _ _ us hl => match us, hl with | [_], _ => rfl), (ok__law_big T F__law_take D__law_big)⟩
  have F__law_cell : Fn P w K mg base 1 "_law_cell" ["_law_script", "_law_k"] (sp__law_cell K) := ⟨_, _, T.g__law_cell, D__law_cell.kp, (FunD.bindsN (ps := ["_law_script", "_law_k"]) D__law_cell fun _ _ _ _ _ _ us hl => match us, hl with | [_, _], _ => rfl), (ok__law_cell T  D__law_cell)⟩
  have F_is_name : Fn P w K mg base 1 "is_name" ["value"] (sp_is_name K) := ⟨_, _, T.g_is_name, D_is_name.kp, (FunD.bindsN (ps := ["value"]) D_is_name fun _ _ _ _ _ _ us hl => match us, hl with | [_], _ => rfl), (ok_is_name T  D_is_name)⟩
  have F_is_integer : Fn P w K mg base 1 "is_integer" ["value"] (sp_is_integer K) := ⟨_, _, T.g_is_integer, D_is_integer.kp, (FunD.bindsN (ps := ["value"]) D_is_integer fun _ _ _ _ _ _ us hl => match us, hl with | [_], _ => rfl), (ok_is_integer T  D_is_integer)⟩
  have F_is_weight : Fn P w K mg base 2 "is_weight" ["value"] (sp_is_weight K) := ⟨_, _, T.g_is_weight, D_is_weight.kp, (FunD.bindsN (ps := ["value"]) D_is_weight fun _ _ _ _ _ _ us hl => match us, hl with | [_], _ => rfl), (ok_is_weight T F_is_integer D_is_weight)⟩
  have Z_BadWeights : ErC P w K mg base "BadWeights" ["self", "name"] (spI1 K (He.ga K "BadWeights") "name") := ⟨_, _, T.g_BadWeights, T.ox_BadWeights, T.mi_BadWeights.at_, T.ti_BadWeights, (FunD.bindsN (ps := ["self", "name"]) D_BadWeights___init__ fun _ _ _ _ _ _ us hl => match us, hl with | [_, _], _ => rfl), (ok_BadWeights___init__ T  D_BadWeights___init__)⟩
  have F_check_weights : Fn P w K mg base 3 "check_weights" ["weights", "rest"] (sp_check_weights K) := ⟨_, _, T.g_check_weights, D_check_weights.kp, (FunD.bindsN (ps := ["weights", "rest"]) D_check_weights fun _ _ _ _ _ _ us hl => match us, hl with | [_, _], _ => rfl), (ok_check_weights T F_is_name F_is_weight Z_BadWeights D_check_weights)⟩
  have XK_Scale : MkrK P w K mg base 4 "Scale" ["self", "weights", "rest"] 1 ["rest"] (sp_Scale___init__ K) := ⟨_, _, T.g_Scale, T.mk_Scale, kbindsP D_Scale___init__ 2 ["rest"] fun _ _ _ _ _ _ us ws h1 h2 => (match us, ws, h1, h2 with | [_, _], [_], _, _ => rfl), (ok_Scale___init__ T F_check_weights D_Scale___init__)⟩
  have XD_Scale : MkrD P w K mg base 4 "Scale" ["self", "weights", "rest"] [.int 1] (sp_Scale___init__ K) := by
    obtain ⟨ds, rd, b⟩ := bindsD1 (ps := ["self", "weights", "rest"]) D_Scale___init__ 2 rfl (fun D doc pm an cdv ct us u hl => match us, hl with | [_, _], _ => ⟨_, _, _, _, _, _, rfl, rfl, rfl⟩)
    exact ⟨_, _, ds, T.g_Scale, T.mk_Scale, rd, b, (ok_Scale___init__ T F_check_weights D_Scale___init__)⟩
  have F__law_made : Fn P w K mg base 6 "_law_made" ["_law_weights_here", "_law_other", "_law_left_out"] (sp__law_made K) := ⟨_, _, T.g__law_made, D__law_made.kp, (FunD.bindsN (ps := ["_law_weights_here", "_law_other", "_law_left_out"]) D__law_made fun _ _ _ _ _ _ us hl => match us, hl with | [_, _, _], _ => rfl), (ok__law_made T XK_Scale XD_Scale D__law_made)⟩
  have F__law_name : Fn P w K mg base 2 "_law_name" ["_law_state", "_law_taken"] (sp__law_name K) := ⟨_, _, T.g__law_name, D__law_name.kp, (FunD.bindsN (ps := ["_law_state", "_law_taken"]) D__law_name fun _ _ _ _ _ _ us hl => match us, hl with | [_, _], _ => rfl), (ok__law_name T F__law_take D__law_name)⟩
  have F__law_names : Fn P w K mg base 3 "_law_names" ["_law_state", "_law_many"] (sp__law_names K) := ⟨_, _, T.g__law_names, D__law_names.kp, (FunD.bindsN (ps := ["_law_state", "_law_many"]) D__law_names fun _ _ _ _ _ _ us hl => match us, hl with | [_, _], _ => rfl), (ok__law_names T F__law_name D__law_names)⟩
  have F__law_is_integer : Fn P w K mg base 1 "_law_is_integer" ["_law_actual"] (sp__law_is_integer K) := ⟨_, _, T.g__law_is_integer, D__law_is_integer.kp, (FunD.bindsN (ps := ["_law_actual"]) D__law_is_integer fun _ _ _ _ _ _ us hl => match us, hl with | [_], _ => rfl), (ok__law_is_integer T  D__law_is_integer)⟩
  have F__law_same : Fn P w K mg base 91 "_law_same" ["_law_actual", "_law_due"] (sp__law_same K) := ⟨_, _, T.g__law_same, D__law_same.kp, (FunD.bindsN (ps := ["_law_actual", "_law_due"]) D__law_same fun _ _ _ _ _ _ us hl => match us, hl with | [_, _], _ => rfl), (all__law_same T F__law_is_integer D__law_same T.g__law_same D__law_same.kp (FunD.bindsN (ps := ["_law_actual", "_law_due"]) D__law_same fun _ _ _ _ _ _ us hl => match us, hl with | [_, _], _ => rfl) 90)⟩
  have F__law_weight : Fn P w K mg base 1 "_law_weight" ["_law_weights_here", "_law_other", "_law_name_here"] (sp__law_weight K) := ⟨_, _, T.g__law_weight, D__law_weight.kp, (FunD.bindsN (ps := ["_law_weights_here", "_law_other", "_law_name_here"]) D__law_weight fun _ _ _ _ _ _ us hl => match us, hl with | [_, _, _], _ => rfl), (ok__law_weight T  D__law_weight)⟩
  have M_Scale_weight : Mt P w K mg base 1 "Scale" "weight" ["self", "name"] (sp_Scale_weight K) := ⟨_, _, T.sk.cl, T.me_Scale_weight, (FunD.bindsN (ps := ["self", "name"]) D_Scale_weight fun _ _ _ _ _ _ us hl => match us, hl with | [_, _], _ => rfl), (ok_Scale_weight T  D_Scale_weight)⟩
  have F__law_scale_fits : Fn P w K mg base 92 "_law_scale_fits" ["_law_scale", "_law_names_here", "_law_weights_here", "_law_other"] (sp__law_scale_fits K) := ⟨_, _, T.g__law_scale_fits, D__law_scale_fits.kp, (FunD.bindsN (ps := ["_law_scale", "_law_names_here", "_law_weights_here", "_law_other"]) D__law_scale_fits fun _ _ _ _ _ _ us hl => match us, hl with | [_, _, _, _], _ => rfl), (ok__law_scale_fits T F__law_same F__law_weight M_Scale_weight D__law_scale_fits)⟩
  have F__law_turned : Fn P w K mg base 1 "_law_turned" ["_law_x"] (sp__law_turnedO K) := ⟨_, _, T.g__law_turnedO, D__law_turnedO.kp, (FunD.bindsN (ps := ["_law_x"]) D__law_turnedO fun _ _ _ _ _ _ us hl => match us, hl with | [_], _ => rfl), (ok__law_turnedO T  D__law_turnedO)⟩
  have F__law_mixed : Fn P w K mg base 2 "_law_mixed" ["_law_state", "_law_items"] (sp__law_mixed K) := ⟨_, _, T.g__law_mixed, D__law_mixed.kp, (FunD.bindsN (ps := ["_law_state", "_law_items"]) D__law_mixed fun _ _ _ _ _ _ us hl => match us, hl with | [_, _], _ => rfl), (ok__law_mixed T F__law_take D__law_mixed)⟩
  have F__law_weights : Fn P w K mg base 3 "_law_weights" ["_law_state", "_law_names_here"] (sp__law_weights K) := ⟨_, _, T.g__law_weights, D__law_weights.kp, (FunD.bindsN (ps := ["_law_state", "_law_names_here"]) D__law_weights fun _ _ _ _ _ _ us hl => match us, hl with | [_, _], _ => rfl), (ok__law_weights T F__law_big F__law_mixed F__law_take D__law_weights)⟩
  have M_Scale___add__ : Mt P w K mg base 6 "Scale" "__add__" ["self", "other"] (sp_Scale___add__ K) := ⟨_, _, T.sk.cl, T.me_Scale___add__, (FunD.bindsN (ps := ["self", "other"]) D_Scale___add__ fun _ _ _ _ _ _ us hl => match us, hl with | [_, _], _ => rfl), (ok_Scale___add__ T M_Scale_weight XK_Scale D_Scale___add__)⟩
  have M_Scale___eq__ : Mt P w K mg base 1 "Scale" "__eq__" ["self", "other"] (sp_Scale___eq__ K) := ⟨_, _, T.sk.cl, T.me_Scale___eq__, (FunD.bindsN (ps := ["self", "other"]) D_Scale___eq__ fun _ _ _ _ _ _ us hl => match us, hl with | [_, _], _ => rfl), (ok_Scale___eq__ T  D_Scale___eq__)⟩
  exact (ok_law T F__law_big F__law_cell F__law_made F__law_name F__law_names F__law_same F__law_scale_fits F__law_take F__law_turned F__law_weight F__law_weights M_Scale___add__ M_Scale___eq__ M_Scale_weight D_law)
end Hd
open PySem PySem.W PySem.Calls PyProof.Rows
theorem PySem.Challenge.cw_quietpairs_k68_scales_holds : PySem.Challenge.rw_quietpairs_k68_scales.Holds := by
  w_on; o_law
  refine HandSHeadRun.head_any (r := OpenLaw.row PySem.Challenge.rw_quietpairs_k68_scales) (q := view (OpenLaw.row PySem.Challenge.rw_quietpairs_k68_scales).prog [30]) (H := Hd.hk) (ob := Hd.ob) (M := 20000) (loose := Hd.loose) (d := HandSHeadRun.topDef (OpenLaw.row PySem.Challenge.rw_quietpairs_k68_scales).prog 30) (kwd := []) Hd.ob_eq
    (by kernel_rfl) (fun s => by kernel_rfl) Hd.run (by kernel_rfl) (by kernel_rfl) (by kernel_rfl) (by rfl) (by first | assumption | decide +kernel) (by decide +kernel) ⟨rfl, rfl, rfl, rfl, rfl, by decide +kernel⟩ ?hw ?hc
  case hw => w_witness2
  case hc =>
    refine L2.walk_ofE (l := PySem.Challenge.rw_quietpairs_k68_scales) (n := 63) (k := 93) (x := "_law_script") (CX := Q.CXE (PySem.Challenge.rw_quietpairs_k68_scales).prog) rfl (by decide) (by kernel_rfl) ⟨rfl, by decide, by decide⟩ ?F Q.cxe_no
    intro w mg fa h Y G hmg0
    obtain ⟨K, KX, c⟩ := Y
    have hmg : mg ("law" : PySem.Str) = some (.ref fa) := by
      have e : (HandSHeadRun.topDef (OpenLaw.row PySem.Challenge.rw_quietpairs_k68_scales).prog 30).name = ("law" : PySem.Str) := by kernel_rfl
      rw [← e]
      exact hmg0
    obtain ⟨fd, hb, hF⟩ := Hd.facts (P := (PySem.Challenge.rw_quietpairs_k68_scales).prog) (w := w) KX G hmg c
    exact ⟨K, fd, Q.spLaw K, KX, hb, fun H a ns hl _ hS => ⟨a, ns, rfl, hl, hS, fun _ => rfl⟩, fun base h1 h2 => Q.fnok_cxe (hF base h1 h2)⟩
