import PyProof.Rows.All
import Wide.All
import OpenK.AllK
import Wide.FinOn
import HandS.ForMost
import HandS.Exc
import HandS.Defaults
import HandS.Flow
import HandS.ExcOwn
import HandS.ExcInit
import HandS.TryOnly
import HandS.TryMany
import HandS.WordsExc
import HandS.CallSlots
import HandS.Small
import HandS.HeadHook1
import HandS.HeadHook2
import HandS.Text
import HandS.Codes
import HandS.ReplaceLit
import HandS.ReplaceDef
import HandS.IsInst
import HandS.Zip
import HandS.Dict
import HandS.Walk
import HandS.Head0
import HandS.Head1
import HandS.Head2
import HandS.HeadEnd
import HandS.HeadHook3
import HandS.HeadHook4
import HandS.ReplaceList
import KE.IntTextLaws
import PySem.Challenge.RW_taglook_k91_words_read_and_written
import KE.KStateDown
import HandS.HeadWalk
set_option Elab.async false
set_option linter.all false
set_option maxRecDepth 100000
set_option maxHeartbeats 2000000
namespace DL
open PySem L2

def Ex (H H' : Hp) : Prop := ∀ a o, H a = some o → H' a = some o
theorem Ex.refl (H : Hp) : Ex H H := fun _ _ h => h
theorem Ex.trans {H H1 H2 : Hp} (a : Ex H H1) (b : Ex H1 H2) : Ex H H2 := fun x o h => b x o (a x o h)
theorem Ex.new {H : Hp} {p : Addr} {o : HO} (h : H p = none) : Ex H (upd H p o) := fun a u e => by
  rw [upd_ne (ne_of_none e h)]
  exact e
theorem Ex.free {H H' : Hp} {p : Addr} (e : Ex H H') (h : H' p = none) : H p = none := by
  cases q : H p with
  | none => rfl
  | some o => rw [e p o q] at h; cases h
def emp : Hp := fun _ => none
def one (a : Addr) (o : HO) : Hp := fun b => if b = a then some o else none
theorem one_same {a : Addr} {o : HO} : one a o a = some o := by unfold one; rw [if_pos rfl]
theorem one_ne {a b : Addr} {o : HO} (h : b ≠ a) : one a o b = none := by unfold one; rw [if_neg h]
def un (P Q : Hp) : Hp := fun a => match P a with
  | some o => some o
  | none => Q a
def Dis (P Q : Hp) : Prop := ∀ a, P a = none ∨ Q a = none
theorem Dis.symm {P Q : Hp} (h : Dis P Q) : Dis Q P := fun a => (h a).symm
structure Split (H : Hp) (Ps : List Hp) : Prop where
  sub : ∀ P ∈ Ps, Ex P H
  cov : ∀ a o, H a = some o → ∃ P ∈ Ps, P a = some o
  dis : Ps.Pairwise Dis
theorem Split.perm {H : Hp} {Ps Qs : List Hp} (s : Split H Ps) (p : Ps.Perm Qs) : Split H Qs :=
  ⟨fun P hP => s.sub P (p.mem_iff.mpr hP), fun a o e => let ⟨P, hP, q⟩ := s.cov a o e; ⟨P, p.mem_iff.mp hP, q⟩, (p.pairwise_iff (fun {P Q} h => Dis.symm h)).mp s.dis⟩
theorem Split.free {H : Hp} {Ps : List Hp} (s : Split H Ps) {a : Addr} (h : H a = none) {P : Hp} (hP : P ∈ Ps) : P a = none := (s.sub P hP).free h
theorem Split.get {H : Hp} {Ps : List Hp} (s : Split H Ps) {P : Hp} (hP : P ∈ Ps) {a : Addr} {o : HO} (e : P a = some o) : H a = some o := s.sub P hP a o e
theorem Split.head {H P : Hp} {Ps : List Hp} (s : Split H (P :: Ps)) {a : Addr} {o : HO} (e : P a = some o) : H a = some o := s.get List.mem_cons_self e
theorem Split.swap {H P Q : Hp} {Ps : List Hp} (s : Split H (P :: Q :: Ps)) : Split H (Q :: P :: Ps) := s.perm (List.Perm.swap Q P Ps)
/-- a new object beside -/
theorem Split.new1 {H : Hp} {Ps : List Hp} (s : Split H Ps) {p : Addr} (h : H p = none) (o : HO) : Split (upd H p o) (one p o :: Ps) where
  sub := fun P hP => by
    rcases List.mem_cons.mp hP with rfl | hP
    · intro a u e
      unfold one at e
      by_cases ha : a = p
      · rw [if_pos ha] at e; cases e; rw [ha]; exact upd_same
      · rw [if_neg ha] at e; cases e
    · exact (s.sub P hP).trans (Ex.new h)
  cov := fun a u e => by
    by_cases ha : a = p
    · subst ha; rw [upd_same] at e; cases e; exact ⟨_, List.mem_cons_self, one_same⟩
    · rw [upd_ne ha] at e
      obtain ⟨P, hP, q⟩ := s.cov a u e
      exact ⟨P, List.mem_cons_of_mem _ hP, q⟩
  dis := List.pairwise_cons.mpr ⟨fun P hP a => by
    by_cases ha : a = p
    · right; rw [ha]; exact s.free h hP
    · left; exact one_ne ha, s.dis⟩
/-- two parts in one -/
theorem un_l {P Q : Hp} {a : Addr} {o : HO} (h : P a = some o) : un P Q a = some o := by unfold un; rw [h]
theorem un_r {P Q : Hp} {a : Addr} (h : P a = none) : un P Q a = Q a := by unfold un; rw [h]
theorem un_cases {P Q : Hp} {a : Addr} {o : HO} (h : un P Q a = some o) : P a = some o ∨ (P a = none ∧ Q a = some o) := by
  unfold un at h
  cases e : P a with
  | none => rw [e] at h; exact .inr ⟨rfl, h⟩
  | some u => rw [e] at h; exact .inl h
theorem Ex.unl {P Q : Hp} : Ex P (un P Q) := fun _ _ e => un_l e
theorem Ex.unr {P Q : Hp} (d : Dis P Q) : Ex Q (un P Q) := fun a o e => by
  rcases d a with h | h
  · rw [un_r h]; exact e
  · rw [h] at e; cases e
theorem Split.join {H P Q : Hp} {Ps : List Hp} (s : Split H (P :: Q :: Ps)) : Split H (un P Q :: Ps) := by
  obtain ⟨d1, d2⟩ := List.pairwise_cons.mp s.dis
  obtain ⟨d3, d4⟩ := List.pairwise_cons.mp d2
  refine ⟨fun R hR => ?_, fun a o e => ?_, List.pairwise_cons.mpr ⟨fun R hR a => ?_, d4⟩⟩
  · rcases List.mem_cons.mp hR with rfl | hR
    · intro a o e
      rcases un_cases e with e | ⟨_, e⟩
      · exact s.head e
      · exact s.get (List.mem_cons_of_mem _ List.mem_cons_self) e
    · exact s.sub R (List.mem_cons_of_mem _ (List.mem_cons_of_mem _ hR))
  · obtain ⟨R, hR, q⟩ := s.cov a o e
    rcases List.mem_cons.mp hR with rfl | hR
    · exact ⟨_, List.mem_cons_self, un_l q⟩
    · rcases List.mem_cons.mp hR with rfl | hR
      · refine ⟨_, List.mem_cons_self, ?_⟩
        exact Ex.unr (d1 _ List.mem_cons_self) _ _ q
      · exact ⟨R, List.mem_cons_of_mem _ hR, q⟩
  · rcases d1 R (List.mem_cons_of_mem _ hR) a with h | h
    · rcases d3 R hR a with h2 | h2
      · left; rw [un_r h]; exact h2
      · exact .inr h2
    · exact .inr h
/-- a part that is itself split -/
theorem Split.open_ {H M : Hp} {Qs Ps : List Hp} (s : Split H (M :: Ps)) (m : Split M Qs) : Split H (Qs ++ Ps) := by
  obtain ⟨d1, d2⟩ := List.pairwise_cons.mp s.dis
  refine ⟨fun R hR => ?_, fun a o e => ?_, List.pairwise_append.mpr ⟨m.dis, d2, fun Q hQ P hP a => ?_⟩⟩
  · rcases List.mem_append.mp hR with hR | hR
    · exact (m.sub R hR).trans (s.sub M List.mem_cons_self)
    · exact s.sub R (List.mem_cons_of_mem _ hR)
  · obtain ⟨R, hR, q⟩ := s.cov a o e
    rcases List.mem_cons.mp hR with rfl | hR
    · obtain ⟨Q, hQ, z⟩ := m.cov a o q
      exact ⟨Q, List.mem_append_left _ hQ, z⟩
    · exact ⟨R, List.mem_append_right _ hR, q⟩
  · rcases d1 P hP a with h | h
    · exact .inl (m.free h hQ)
    · exact .inr h
/-- the union of some parts -/
def uni : List Hp → Hp
  | [] => emp
  | P :: Ps => un P (uni Ps)
theorem uni_split : ∀ {Ps : List Hp}, Ps.Pairwise Dis → Split (uni Ps) Ps
  | [], _ => ⟨fun _ h => (nomatch h), fun a o e => (by cases (show (none : Option HO) = some o from e)), List.Pairwise.nil⟩
  | P :: Ps, h => by
    obtain ⟨h1, h2⟩ := List.pairwise_cons.mp h
    have ih := uni_split h2
    have d : Dis P (uni Ps) := fun a => by
      cases e : P a with
      | none => exact .inl rfl
      | some o =>
        right
        cases q : uni Ps a with
        | none => rfl
        | some u =>
          obtain ⟨Q, hQ, z⟩ := ih.cov a u q
          rcases h1 Q hQ a with y | y
          · rw [e] at y; cases y
          · rw [z] at y; cases y
    refine ⟨fun R hR => ?_, fun a o e => ?_, h⟩
    · rcases List.mem_cons.mp hR with rfl | hR
      · exact Ex.unl
      · exact (ih.sub R hR).trans (Ex.unr d)
    · rcases un_cases e with e | ⟨_, e⟩
      · exact ⟨P, List.mem_cons_self, e⟩
      · obtain ⟨Q, hQ, z⟩ := ih.cov a o e
        exact ⟨Q, List.mem_cons_of_mem _ hQ, z⟩
theorem Split.close {H : Hp} {Qs Ps : List Hp} (s : Split H (Qs ++ Ps)) : Split H (uni Qs :: Ps) ∧ Split (uni Qs) Qs := by
  obtain ⟨d1, d2, d3⟩ := List.pairwise_append.mp s.dis
  have m := uni_split d1
  refine ⟨⟨fun R hR => ?_, fun a o e => ?_, List.pairwise_cons.mpr ⟨fun P hP a => ?_, d2⟩⟩, m⟩
  · rcases List.mem_cons.mp hR with rfl | hR
    · intro a o e
      obtain ⟨Q, hQ, z⟩ := m.cov a o e
      exact s.get (List.mem_append_left _ hQ) z
    · exact s.sub R (List.mem_append_right _ hR)
  · obtain ⟨R, hR, q⟩ := s.cov a o e
    rcases List.mem_append.mp hR with hR | hR
    · exact ⟨_, List.mem_cons_self, m.get hR q⟩
    · exact ⟨R, List.mem_cons_of_mem _ hR, q⟩
  · cases e : uni Qs a with
    | none => exact .inl rfl
    | some o =>
      obtain ⟨Q, hQ, z⟩ := m.cov a o e
      rcases d3 Q hQ P hP a with y | y
      · rw [z] at y; cases y
      · exact .inr y
/-- an object of the first part is written -/
theorem Split.write {H P : Hp} {Ps : List Hp} (s : Split H (P :: Ps)) {a : Addr} {o : HO} (e : P a = some o) (o' : HO) : Split (upd H a o') (upd P a o' :: Ps) := by
  obtain ⟨d1, d2⟩ := List.pairwise_cons.mp s.dis
  have nR : ∀ R ∈ Ps, R a = none := fun R hR => by
    rcases d1 R hR a with h | h
    · rw [e] at h; cases h
    · exact h
  refine ⟨fun R hR => ?_, fun b u q => ?_, List.pairwise_cons.mpr ⟨fun R hR b => ?_, d2⟩⟩
  · rcases List.mem_cons.mp hR with rfl | hR
    · intro b u q
      by_cases hb : b = a
      · subst hb; rw [upd_same] at q ⊢; exact q
      · rw [upd_ne hb] at q ⊢; exact s.head q
    · intro b u q
      have hb : b ≠ a := fun z => by rw [z, nR R hR] at q; cases q
      rw [upd_ne hb]
      exact s.get (List.mem_cons_of_mem _ hR) q
  · by_cases hb : b = a
    · subst hb; rw [upd_same] at q; exact ⟨_, List.mem_cons_self, by rw [upd_same]; exact q⟩
    · rw [upd_ne hb] at q
      obtain ⟨R, hR, z⟩ := s.cov b u q
      rcases List.mem_cons.mp hR with rfl | hR
      · exact ⟨_, List.mem_cons_self, by rw [upd_ne hb]; exact z⟩
      · exact ⟨R, List.mem_cons_of_mem _ hR, z⟩
  · by_cases hb : b = a
    · right; rw [hb]; exact nR R hR
    · rw [upd_ne hb]; exact d1 R hR b
theorem upd_one {a : Addr} {o o' : HO} : upd (one a o) a o' = one a o' := by
  funext b
  unfold upd one
  split <;> rfl
theorem Split.write1 {H : Hp} {Ps : List Hp} {a : Addr} {o : HO} (s : Split H (one a o :: Ps)) (o' : HO) : Split (upd H a o') (one a o' :: Ps) := by
  have z := s.write one_same o'
  rw [upd_one] at z
  exact z
/-- a new object of the first part -/
theorem Split.new {H B : Hp} {Ms : List Hp} (s : Split H (B :: Ms)) {p : Addr} (h : H p = none) (o : HO) : Split (upd H p o) (upd B p o :: Ms) := by
  have z := (s.new1 h o).join
  have e : un (one p o) B = upd B p o := by
    funext b
    by_cases hb : b = p
    · subst hb; rw [un_l one_same, upd_same]
    · rw [un_r (one_ne hb), upd_ne hb]
  rw [e] at z
  exact z
theorem Split.newEx {H B : Hp} {Ms : List Hp} (s : Split H (B :: Ms)) {p : Addr} (h : H p = none) (o : HO) : Ex B (upd B p o) := Ex.new (s.free h List.mem_cons_self)

section
variable {K : PySem.W.Frag}
theorem rd_mono {H H' : Hp} {a : Addr} {u : HO} (e : Ex H H') (h : Rd H a u) : Rd H' a u := by
  rcases h with h | ⟨o, h⟩
  · exact .inl (e a _ h)
  · exact .inr ⟨o, e a _ h⟩
theorem sql_mono {H H' : Hp} {a : Addr} {xs : List V} (e : Ex H H') (h : SqL K H a xs) : SqL K H' a xs := by
  rcases h with h | h
  · exact .inl (rd_mono e h)
  · exact .inr h
theorem sqt_mono {H H' : Hp} {a : Addr} {xs : List V} (e : Ex H H') (h : SqT K H a xs) : SqT K H' a xs := by
  rcases h with h | h
  · exact .inl (rd_mono e h)
  · exact .inr h
mutual
theorem dp_mono {H H' : Hp} (e : Ex H H') : ∀ {v : V} {d : PyData}, Dp K H v d → Dp K H' v d
  | _, _, .non => .non
  | _, _, .bl b => .bl b
  | _, _, .int i => .int i
  | _, _, .str x => .str x
  | _, _, .lst h t => .lst (sql_mono e h) (dpa_mono e t)
  | _, _, .tup h t => .tup (sqt_mono e h) (dpa_mono e t)
theorem dpa_mono {H H' : Hp} (e : Ex H H') : ∀ {vs : List V} {ds : List PyData}, DpAll K H vs ds → DpAll K H' vs ds
  | _, _, .nil => .nil
  | _, _, .cons h t => .cons (dp_mono e h) (dpa_mono e t)
end
theorem dpa_len : ∀ {H : Hp} {vs : List V} {ds : List PyData}, DpAll K H vs ds → vs.length = ds.length
  | _, _, _, .nil => rfl
  | _, _, _, .cons _ t => by rw [List.length_cons, List.length_cons, dpa_len t]
theorem dpa_get {H : Hp} : ∀ {vs : List V} {ds : List PyData} {i : Nat} {v : V}, DpAll K H vs ds → vs[i]? = some v → ∃ d, ds[i]? = some d ∧ Dp K H v d
  | _, _, _, _, .nil, e => by simp at e
  | _, _, 0, _, .cons h _, e => by simp at e; subst e; exact ⟨_, rfl, h⟩
  | _, _, i + 1, _, .cons _ t, e => by
    obtain ⟨d, h1, h2⟩ := dpa_get (i := i) t (by simpa using e)
    exact ⟨d, by simpa using h1, h2⟩
theorem dpa_get' {H : Hp} : ∀ {vs : List V} {ds : List PyData} {i : Nat} {d : PyData}, DpAll K H vs ds → ds[i]? = some d → ∃ v, vs[i]? = some v ∧ Dp K H v d
  | _, _, _, _, .nil, e => by simp at e
  | _, _, 0, _, .cons h _, e => by simp at e; subst e; exact ⟨_, rfl, h⟩
  | _, _, i + 1, _, .cons _ t, e => by
    obtain ⟨d, h1, h2⟩ := dpa_get' (i := i) t (by simpa using e)
    exact ⟨d, by simpa using h1, h2⟩
theorem dpa_app {H : Hp} : ∀ {vs us : List V} {ds es : List PyData}, DpAll K H vs ds → DpAll K H us es → DpAll K H (vs ++ us) (ds ++ es)
  | _, _, _, _, .nil, t => t
  | _, _, _, _, .cons h t, s => .cons h (dpa_app t s)
theorem dpa_take {H : Hp} : ∀ {vs : List V} {ds : List PyData} (n : Nat), DpAll K H vs ds → DpAll K H (vs.take n) (ds.take n)
  | _, _, 0, _ => .nil
  | _, _, _ + 1, .nil => .nil
  | _, _, n + 1, .cons h t => .cons h (dpa_take n t)
theorem dpa_drop {H : Hp} : ∀ {vs : List V} {ds : List PyData} (n : Nat), DpAll K H vs ds → DpAll K H (vs.drop n) (ds.drop n)
  | _, _, 0, h => h
  | _, _, _ + 1, .nil => .nil
  | _, _, n + 1, .cons _ t => dpa_drop n t
theorem dpa_rev {H : Hp} : ∀ {vs : List V} {ds : List PyData}, DpAll K H vs ds → DpAll K H vs.reverse ds.reverse
  | _, _, .nil => .nil
  | _, _, .cons h t => by
    rw [List.reverse_cons, List.reverse_cons]
    exact dpa_app (dpa_rev t) (.cons h .nil)
theorem dpa_one {H : Hp} {v : V} {d : PyData} (h : Dp K H v d) : DpAll K H [v] [d] := .cons h .nil
theorem dpa_set {H : Hp} {v : V} {d : PyData} (h : Dp K H v d) : ∀ {vs : List V} {ds : List PyData} (i : Nat), DpAll K H vs ds → DpAll K H (vs.set i v) (ds.set i d)
  | _, _, _, .nil => .nil
  | _, _, 0, .cons _ t => .cons h t
  | _, _, i + 1, .cons q t => .cons q (dpa_set h i t)
theorem dpa_erase {H : Hp} : ∀ {vs : List V} {ds : List PyData} (i : Nat), DpAll K H vs ds → DpAll K H (vs.eraseIdx i) (ds.eraseIdx i)
  | _, _, _, .nil => .nil
  | _, _, 0, .cons _ t => t
  | _, _, i + 1, .cons q t => .cons q (dpa_erase i t)
theorem dpa_strs {H : Hp} : ∀ {vs : List V} {ss : List Str}, DpAll K H vs (ss.map PyData.str) → vs = ss.map V.str
  | _, [], .nil => rfl
  | _, s :: ss, .cons h t => by
    cases h
    rw [dpa_strs t]
    rfl
theorem dpa_of_strs {H : Hp} : ∀ {ss : List Str}, DpAll K H (ss.map V.str) (ss.map PyData.str)
  | [] => .nil
  | s :: ss => .cons (.str s) dpa_of_strs
theorem dpa_ints {H : Hp} : ∀ {vs : List V} {ss : List Int}, DpAll K H vs (ss.map PyData.int) → vs = ss.map V.int
  | _, [], .nil => rfl
  | _, s :: ss, .cons h t => by
    cases h
    rw [dpa_ints t]
    rfl
theorem dpa_of_ints {H : Hp} : ∀ {ss : List Int}, DpAll K H (ss.map V.int) (ss.map PyData.int)
  | [] => .nil
  | s :: ss => .cons (.int s) dpa_of_ints
theorem dpa_bools {H : Hp} : ∀ {vs : List V} {ss : List Bool}, DpAll K H vs (ss.map PyData.bool) → vs = ss.map V.bl
  | _, [], .nil => rfl
  | _, s :: ss, .cons h t => by
    cases h
    rw [dpa_bools t]
    rfl
end

structure Rdb where
  p : V → Hp → List Hp → Prop
  mono : ∀ {v : V} {B B' : Hp} {Ms : List Hp}, Ex B B' → p v B Ms → p v B' Ms
  sub : ∀ {v : V} {B : Hp} {Ms Ms' : List Hp}, (∀ M ∈ Ms, M ∈ Ms') → p v B Ms → p v B Ms'
structure Asn where
  p : Hp → Hp → Prop
  mono : ∀ {B B' M : Hp}, Ex B B' → p B M → p B' M
def X (v : V) : Rdb := ⟨fun u _ _ => u = v, fun _ h => h, fun _ h => h⟩
/-- a datum: None, truths, ints, texts by themselves; else lists and tuples in the still part -/
def D (K : PySem.W.Frag) : PyData → Rdb
  | .none => X .non
  | .bool b => X (.bl b)
  | .int i => X (.int i)
  | .str x => X (.str x)
  | .list ds => ⟨fun v B _ => Dp K B v (.list ds), fun e h => dp_mono e h, fun _ h => h⟩
  | .tuple ds => ⟨fun v B _ => Dp K B v (.tuple ds), fun e h => dp_mono e h, fun _ h => h⟩
  | .dict kvs => ⟨fun v B _ => Dp K B v (.dict kvs), fun e h => dp_mono e h, fun _ h => h⟩
theorem D.of {K : PySem.W.Frag} {d : PyData} {v : V} {B : Hp} {Ms : List Hp} (h : Dp K B v d) : (D K d).p v B Ms := by
  cases h with
  | non => rfl
  | bl b => rfl
  | int i => rfl
  | str x => rfl
  | lst h1 h2 => exact Dp.lst h1 h2
  | tup h1 h2 => exact Dp.tup h1 h2
theorem D.to {K : PySem.W.Frag} {d : PyData} {v : V} {B : Hp} {Ms : List Hp} (h : (D K d).p v B Ms) : Dp K B v d := by
  cases d with
  | none => have e : v = .non := h; rw [e]; exact .non
  | bool b => have e : v = .bl b := h; rw [e]; exact .bl b
  | int b => have e : v = .int b := h; rw [e]; exact .int b
  | str b => have e : v = .str b := h; rw [e]; exact .str b
  | list ds => exact h
  | tuple ds => exact h
  | dict ds => exact h
/-- data, or a list of one's own whose items are data -/
def W (K : PySem.W.Frag) (ds : List PyData) : Rdb := ⟨fun v B Ms => ∃ l vs, v = .ref l ∧ (SqL K B l vs ∨ ∃ M ∈ Ms, M l = some (.lst vs)) ∧ DpAll K B vs ds,
  fun e ⟨l, vs, e1, h1, h2⟩ => ⟨l, vs, e1, h1.imp (sql_mono e) id, dpa_mono e h2⟩, fun k ⟨l, vs, e1, h1, h2⟩ => ⟨l, vs, e1, h1.imp id fun ⟨M, hM, z⟩ => ⟨M, k M hM, z⟩, h2⟩⟩
/-- a tracked list that stands still -/
def T (K : PySem.W.Frag) (ds : List PyData) : Rdb := ⟨fun v B _ => ∃ l vs, v = .ref l ∧ B l = some (.lst vs) ∧ DpAll K B vs ds, fun e ⟨l, vs, h1, h2, h3⟩ => ⟨l, vs, h1, e _ _ h2, dpa_mono e h3⟩, fun _ h => h⟩
def EnvP (B : Hp) (Ms : List Hp) : L2.St → List (Option Rdb) → Prop
  | [], [] => True
  | s :: σ, r :: ρ => (match r with
    | none => True
    | some r => ∃ v, s = some v ∧ r.p v B Ms) ∧ EnvP B Ms σ ρ
  | _, _ => False
theorem EnvP.mono {B B' : Hp} {Ms : List Hp} (e : Ex B B') : ∀ {σ : L2.St} {ρ : List (Option Rdb)}, EnvP B Ms σ ρ → EnvP B' Ms σ ρ
  | [], [], _ => trivial
  | s :: σ, none :: ρ, ⟨_, t⟩ => ⟨trivial, EnvP.mono e t⟩
  | s :: σ, some r :: ρ, ⟨⟨v, h1, h2⟩, t⟩ => ⟨⟨v, h1, r.mono e h2⟩, EnvP.mono e t⟩
  | [], _ :: _, h => h.elim
  | _ :: _, [], h => h.elim
theorem EnvP.sub {B : Hp} {Ms Ms' : List Hp} (k : ∀ M ∈ Ms, M ∈ Ms') : ∀ {σ : L2.St} {ρ : List (Option Rdb)}, EnvP B Ms σ ρ → EnvP B Ms' σ ρ
  | [], [], _ => trivial
  | s :: σ, none :: ρ, ⟨_, t⟩ => ⟨trivial, EnvP.sub k t⟩
  | s :: σ, some r :: ρ, ⟨⟨v, h1, h2⟩, t⟩ => ⟨⟨v, h1, r.sub k h2⟩, EnvP.sub k t⟩
  | [], _ :: _, h => h.elim
  | _ :: _, [], h => h.elim
theorem EnvP.get {B : Hp} {Ms : List Hp} : ∀ {σ : L2.St} {ρ : List (Option Rdb)} {i : Nat} {r : Rdb}, EnvP B Ms σ ρ → ρ[i]? = some (some r) → ∃ v, σ[i]? = some (some v) ∧ r.p v B Ms
  | s :: σ, r0 :: ρ, 0, r, ⟨h, _⟩, e => by
    have e' : r0 = some r := by simpa using e
    subst e'
    obtain ⟨v, h1, h2⟩ := h
    exact ⟨v, by simp [h1], h2⟩
  | s :: σ, r0 :: ρ, i + 1, r, ⟨_, t⟩, e => by
    obtain ⟨v, h1, h2⟩ := EnvP.get (i := i) t (by simpa using e)
    exact ⟨v, by simpa using h1, h2⟩
  | [], [], _, _, _, e => by simp at e
  | [], _ :: _, _, _, h, _ => h.elim
  | _ :: _, [], _, _, h, _ => h.elim
theorem EnvP.set {B : Hp} {Ms : List Hp} {r : Rdb} {v : V} (h : r.p v B Ms) : ∀ {σ : L2.St} {ρ : List (Option Rdb)} (i : Nat), EnvP B Ms σ ρ → EnvP B Ms (σ.set i (some v)) (ρ.set i (some r))
  | s :: σ, r0 :: ρ, 0, ⟨_, t⟩ => ⟨⟨v, rfl, h⟩, t⟩
  | s :: σ, r0 :: ρ, i + 1, ⟨q, t⟩ => ⟨q, EnvP.set h i t⟩
  | [], [], _, _ => trivial
  | [], _ :: _, _, h => h.elim
  | _ :: _, [], _, h => h.elim
/-- a slot is forgotten -/
theorem EnvP.drop {B : Hp} {Ms : List Hp} : ∀ {σ : L2.St} {ρ : List (Option Rdb)} (i : Nat), EnvP B Ms σ ρ → EnvP B Ms σ (ρ.set i none)
  | s :: σ, r0 :: ρ, 0, ⟨_, t⟩ => ⟨trivial, t⟩
  | s :: σ, r0 :: ρ, i + 1, ⟨q, t⟩ => ⟨q, EnvP.drop i t⟩
  | [], [], _, _ => trivial
  | [], _ :: _, _, h => h.elim
  | _ :: _, [], _, h => h.elim
theorem EnvP.setN {B : Hp} {Ms : List Hp} {o : Option V} : ∀ {σ : L2.St} {ρ : List (Option Rdb)} (i : Nat), EnvP B Ms σ ρ → EnvP B Ms (σ.set i o) (ρ.set i none)
  | s :: σ, r0 :: ρ, 0, ⟨_, t⟩ => ⟨trivial, t⟩
  | s :: σ, r0 :: ρ, i + 1, ⟨q, t⟩ => ⟨q, EnvP.setN i t⟩
  | [], [], _, _ => trivial
  | [], _ :: _, _, h => h.elim
  | _ :: _, [], _, h => h.elim
theorem EnvP.len {B : Hp} {Ms : List Hp} : ∀ {σ : L2.St} {ρ : List (Option Rdb)}, EnvP B Ms σ ρ → σ.length = ρ.length
  | [], [], _ => rfl
  | s :: σ, r :: ρ, ⟨_, t⟩ => by rw [List.length_cons, List.length_cons, EnvP.len t]
  | [], _ :: _, h => h.elim
  | _ :: _, [], h => h.elim
def AllP (B : Hp) : List Asn → List Hp → Prop
  | [], [] => True
  | A :: As, M :: Ms => A.p B M ∧ AllP B As Ms
  | _, _ => False
theorem AllP.mono {B B' : Hp} (e : Ex B B') : ∀ {As : List Asn} {Ms : List Hp}, AllP B As Ms → AllP B' As Ms
  | [], [], _ => trivial
  | A :: As, M :: Ms, ⟨h, t⟩ => ⟨A.mono e h, AllP.mono e t⟩
  | [], _ :: _, h => h.elim
  | _ :: _, [], h => h.elim
theorem AllP.get {B : Hp} : ∀ {As : List Asn} {Ms : List Hp} {A : Asn}, AllP B As Ms → A ∈ As → ∃ M ∈ Ms, A.p B M
  | A :: As, M :: Ms, A', ⟨h, t⟩, e => by
    rcases List.mem_cons.mp e with rfl | e
    · exact ⟨M, List.mem_cons_self, h⟩
    · obtain ⟨M', h1, h2⟩ := AllP.get t e
      exact ⟨M', List.mem_cons_of_mem _ h1, h2⟩
  | [], [], _, _, e => nomatch e
  | [], _ :: _, _, h, _ => h.elim
  | _ :: _, [], _, h, _ => h.elim
def RepsP (B : Hp) (Ms : List Hp) : List V → List Rdb → Prop
  | [], [] => True
  | v :: vs, r :: rs => r.p v B Ms ∧ RepsP B Ms vs rs
  | _, _ => False
theorem RepsP.mono {B B' : Hp} {Ms : List Hp} (e : Ex B B') : ∀ {vs : List V} {rs : List Rdb}, RepsP B Ms vs rs → RepsP B' Ms vs rs
  | [], [], _ => trivial
  | v :: vs, r :: rs, ⟨h, t⟩ => ⟨r.mono e h, RepsP.mono e t⟩
  | [], _ :: _, h => h.elim
  | _ :: _, [], h => h.elim
theorem RepsP.sub {B : Hp} {Ms Ms' : List Hp} (k : ∀ M ∈ Ms, M ∈ Ms') : ∀ {vs : List V} {rs : List Rdb}, RepsP B Ms vs rs → RepsP B Ms' vs rs
  | [], [], _ => trivial
  | v :: vs, r :: rs, ⟨h, t⟩ => ⟨r.sub k h, RepsP.sub k t⟩
  | [], _ :: _, h => h.elim
  | _ :: _, [], h => h.elim
theorem RepsP.len {B : Hp} {Ms : List Hp} : ∀ {vs : List V} {rs : List Rdb}, RepsP B Ms vs rs → vs.length = rs.length
  | [], [], _ => rfl
  | s :: σ, r :: ρ, ⟨_, t⟩ => by rw [List.length_cons, List.length_cons, RepsP.len t]
  | [], _ :: _, h => h.elim
  | _ :: _, [], h => h.elim

/-- just this part -/
def Eq1 (M0 : Hp) : Asn := ⟨fun _ M => M = M0, fun _ h => h⟩
/-- a list of one's own; its items -/
def OwnL (K : PySem.W.Frag) (l : Addr) (ds : List PyData) : Asn := ⟨fun B M => ∃ vs, M = one l (.lst vs) ∧ DpAll K B vs ds, fun e ⟨vs, h1, h2⟩ => ⟨vs, h1, dpa_mono e h2⟩⟩
/-- an object -/
def Obj1 (p C : Addr) (fs : List (Str × V)) : Asn := ⟨fun _ M => ∃ dx, dx ≠ p ∧ M = un (one p (.ins C dx fs)) (one dx (.own p)), fun _ h => h⟩
def exA {α : Type} (f : α → Asn) : Asn := ⟨fun B M => ∃ x, (f x).p B M, fun e ⟨x, h⟩ => ⟨x, (f x).mono e h⟩⟩
def stars (As : List Asn) : Asn := ⟨fun B M => ∃ Ms, Split M Ms ∧ AllP B As Ms, fun e ⟨Ms, h1, h2⟩ => ⟨Ms, h1, h2.mono e⟩⟩
def Pure1 (P : Prop) (A : Asn) : Asn := ⟨fun B M => P ∧ A.p B M, fun e ⟨h1, h2⟩ => ⟨h1, A.mono e h2⟩⟩
def eqs (Ms : List Hp) : List Asn := Ms.map Eq1
theorem allP_eqs {B : Hp} : ∀ {Ms : List Hp}, AllP B (eqs Ms) Ms
  | [] => trivial
  | _ :: _ => ⟨rfl, allP_eqs⟩
theorem eqs_allP {B : Hp} : ∀ {Ms Ns : List Hp}, AllP B (eqs Ms) Ns → Ns = Ms
  | [], [], _ => rfl
  | M :: Ms, N :: Ns, ⟨h, t⟩ => by rw [show N = M from h, eqs_allP t]
  | [], _ :: _, h => h.elim
  | _ :: _, [], h => h.elim
theorem allP_app {B : Hp} : ∀ {As Bs : List Asn} {Ms Ns : List Hp}, AllP B As Ms → AllP B Bs Ns → AllP B (As ++ Bs) (Ms ++ Ns)
  | [], _, [], _, _, h => h
  | A :: As, _, M :: Ms, _, ⟨h, t⟩, k => ⟨h, allP_app t k⟩
  | [], _, _ :: _, _, h, _ => h.elim
  | _ :: _, _, [], _, h, _ => h.elim
theorem allP_split {B : Hp} : ∀ {As Bs : List Asn} {Ns : List Hp}, AllP B (As ++ Bs) Ns → ∃ Ms Ms', Ns = Ms ++ Ms' ∧ AllP B As Ms ∧ AllP B Bs Ms'
  | [], _, Ns, h => ⟨[], Ns, rfl, trivial, h⟩
  | A :: As, _, N :: Ns, ⟨h, t⟩ => by
    obtain ⟨Ms, Ms', e, h1, h2⟩ := allP_split t
    exact ⟨N :: Ms, Ms', by rw [e]; rfl, ⟨h, h1⟩, h2⟩
  | _ :: _, _, [], h => h.elim
theorem allP_perm {B : Hp} : ∀ {As Bs : List Asn} (p : As.Perm Bs) {Ms : List Hp}, AllP B As Ms → ∃ Ns, Ms.Perm Ns ∧ AllP B Bs Ns := by
  intro As Bs p
  induction p with
  | nil => intro Ms h; exact ⟨Ms, List.Perm.refl _, h⟩
  | cons a p ih =>
    intro Ms h
    cases Ms with
    | nil => exact h.elim
    | cons M Ms =>
      obtain ⟨Ns, p2, h2⟩ := ih h.2
      exact ⟨M :: Ns, p2.cons M, ⟨h.1, h2⟩⟩
  | swap a b l =>
    intro Ms h
    cases Ms with
    | nil => exact h.elim
    | cons M Ms =>
      cases Ms with
      | nil => exact h.2.elim
      | cons N Ms => exact ⟨N :: M :: Ms, List.Perm.swap _ _ _, ⟨h.2.1, h.1, h.2.2⟩⟩
  | trans p q ih1 ih2 =>
    intro Ms h
    obtain ⟨Ns, p2, h2⟩ := ih1 h
    obtain ⟨Ls, p3, h3⟩ := ih2 h2
    exact ⟨Ls, p2.trans p3, h3⟩
end DL

set_option maxHeartbeats 2000000
namespace DL
open PySem L2

abbrev Rho := List (Option Rdb)

def E (te : TE) (ρ : Rho) (Fr : List Hp) (As : List Asn) (r : Rdb) : Prop := ∀ σ B Ms Gs H Q, (∀ M ∈ Fr, M ∈ Gs) → EnvP B Fr σ ρ → Split H (B :: (Ms ++ Gs)) → AllP B As Ms →
  (∀ v B2 H2, Ex B B2 → Split H2 (B2 :: (Ms ++ Gs)) → r.p v B2 Fr → Q v H2) → te σ H Q
def EA (ta : TA) (ρ : Rho) (Fr : List Hp) (As : List Asn) (rs : List Rdb) : Prop := ∀ σ B Ms Gs H Q, (∀ M ∈ Fr, M ∈ Gs) → EnvP B Fr σ ρ → Split H (B :: (Ms ++ Gs)) → AllP B As Ms →
  (∀ vs B2 H2, Ex B B2 → Split H2 (B2 :: (Ms ++ Gs)) → RepsP B2 Fr vs rs → Q vs H2) → ta σ H Q
def ET (tt : TT) (ρ : Rho) (Fr : List Hp) (As : List Asn) (b : Bool) : Prop := ∀ σ B Ms Gs H Q, (∀ M ∈ Fr, M ∈ Gs) → EnvP B Fr σ ρ → Split H (B :: (Ms ++ Gs)) → AllP B As Ms →
  (∀ B2 H2, Ex B B2 → Split H2 (B2 :: (Ms ++ Gs)) → Q b H2) → tt σ H Q
def EO (to : TO) (ρ : Rho) (Fr : List Hp) (As : List Asn) (o : Option Int) : Prop := ∀ σ B Ms Gs H Q, (∀ M ∈ Fr, M ∈ Gs) → EnvP B Fr σ ρ → Split H (B :: (Ms ++ Gs)) → AllP B As Ms →
  (∀ B2 H2, Ex B B2 → Split H2 (B2 :: (Ms ++ Gs)) → Q o H2) → to σ H Q
/-- operations by values -/
def Op2 (op : R2) (Fr : List Hp) (As : List Asn) (r1 r2 r : Rdb) : Prop := ∀ x y B Ms Gs H Q, (∀ M ∈ Fr, M ∈ Gs) → Split H (B :: (Ms ++ Gs)) → AllP B As Ms → r1.p x B Fr → r2.p y B Fr →
  (∀ v B2 H2, Ex B B2 → Split H2 (B2 :: (Ms ++ Gs)) → r.p v B2 Fr → Q v H2) → op x y H Q
def Op1 (op : V → Hp → VK → Prop) (Fr : List Hp) (As : List Asn) (r1 r : Rdb) : Prop := ∀ x B Ms Gs H Q, (∀ M ∈ Fr, M ∈ Gs) → Split H (B :: (Ms ++ Gs)) → AllP B As Ms → r1.p x B Fr →
  (∀ v B2 H2, Ex B B2 → Split H2 (B2 :: (Ms ++ Gs)) → r.p v B2 Fr → Q v H2) → op x H Q
def OpN (op : List V → Hp → VK → Prop) (Fr : List Hp) (As : List Asn) (rs : List Rdb) (r : Rdb) : Prop := ∀ vs B Ms Gs H Q, (∀ M ∈ Fr, M ∈ Gs) → Split H (B :: (Ms ++ Gs)) → AllP B As Ms → RepsP B Fr vs rs →
  (∀ v B2 H2, Ex B B2 → Split H2 (B2 :: (Ms ++ Gs)) → r.p v B2 Fr → Q v H2) → op vs H Q
/-- a def's promise, at these arguments, where nothing of one's own is changed -/
def Sp1 (sp : Sp) (Ee : XK) (Fr : List Hp) (As : List Asn) (rs : List Rdb) (r : Rdb) : Prop := ∀ vs B Ms Gs H Q, (∀ M ∈ Fr, M ∈ Gs) → Split H (B :: (Ms ++ Gs)) → AllP B As Ms → RepsP B (Ms ++ Gs) vs rs →
  (∀ v B2 H2, Ex B B2 → Split H2 (B2 :: (Ms ++ Gs)) → r.p v B2 Fr → Q v H2) → sp vs H Q Ee

section
variable {K : PySem.W.Frag} {ρ : Rho} {Fr : List Hp} {As : List Asn} {ta tb te tc : TE} {tA tB : TT} {r r1 r2 r' : Rdb}
theorem sub_app {Fr Gs Ms : List Hp} (g : ∀ M ∈ Fr, M ∈ Gs) : ∀ M ∈ Ms ++ Fr, M ∈ Ms ++ Gs := fun M h => by
  rcases List.mem_append.mp h with h | h
  · exact List.mem_append_left _ h
  · exact List.mem_append_right _ (g M h)
theorem E.conv (h : E te ρ Fr As r) (c : ∀ v B Ms, AllP B As Ms → r.p v B Fr → r'.p v B Fr) : E te ρ Fr As r' := fun σ B Ms Gs H Q g e s a q =>
  h σ B Ms Gs H Q g e s a fun v B2 H2 x s2 rv => q v B2 H2 x s2 (c v B2 Ms (a.mono x) rv)
theorem E.to (h : E te ρ Fr As r) (e : r = r') : E te ρ Fr As r' := e ▸ h
/-- coercions -/
inductive Le (K : PySem.W.Frag) : Rdb → Rdb → Prop
  | refl (r : Rdb) : Le K r r
  | td (ds : List PyData) : Le K (T K ds) (D K (.list ds))
  | tw (ds : List PyData) : Le K (T K ds) (W K ds)
  | dw (ds : List PyData) : Le K (D K (.list ds)) (W K ds)
theorem Le.ok (h : Le K r r') : ∀ v B Ms, r.p v B Ms → r'.p v B Ms := by
  intro v B Ms q
  cases h with
  | refl => exact q
  | td ds =>
    obtain ⟨l, vs, e, h1, h2⟩ := q
    subst e
    exact Dp.lst (SqL.of h1) h2
  | tw ds =>
    obtain ⟨l, vs, e, h1, h2⟩ := q
    exact ⟨l, vs, e, .inl (SqL.of h1), h2⟩
  | dw ds =>
    have q' : Dp K B v (.list ds) := q
    cases q' with
    | lst h1 h2 => exact ⟨_, _, rfl, .inl h1, h2⟩
/-- a value taken as a datum -/
inductive Dt (K : PySem.W.Frag) : Rdb → PyData → Prop
  | int (i : Int) : Dt K (X (.int i)) (.int i)
  | str (i : Str) : Dt K (X (.str i)) (.str i)
  | bl (i : Bool) : Dt K (X (.bl i)) (.bool i)
  | non : Dt K (X .non) .none
  | d (d : PyData) : Dt K (D K d) d
  | t (ds : List PyData) : Dt K (T K ds) (.list ds)
theorem Dt.ok {d : PyData} (h : Dt K r d) {v : V} {B : Hp} {Ms : List Hp} (q : r.p v B Ms) : Dp K B v d := by
  cases h with
  | int i => exact D.to (K := K) (d := .int i) q
  | str i => exact D.to (K := K) (d := .str i) q
  | bl i => exact D.to (K := K) (d := .bool i) q
  | non => exact D.to (K := K) (d := .none) q
  | d => exact D.to q
  | t ds =>
    obtain ⟨l, vs, e, h1, h2⟩ := q
    subst e
    exact .lst (SqL.of h1) h2
inductive Dts (K : PySem.W.Frag) : List Rdb → List PyData → Prop
  | nil : Dts K [] []
  | cons {r : Rdb} {d : PyData} {rs : List Rdb} {ds : List PyData} : Dt K r d → Dts K rs ds → Dts K (r :: rs) (d :: ds)
theorem Dts.ok {rs : List Rdb} {ds : List PyData} (h : Dts K rs ds) : ∀ {vs : List V} {B : Hp} {Ms : List Hp}, RepsP B Ms vs rs → DpAll K B vs ds := by
  induction h with
  | nil => intro vs B Ms q; cases vs with
    | nil => exact .nil
    | cons v vs => exact q.elim
  | cons h t ih =>
    intro vs B Ms q
    cases vs with
    | nil => exact q.elim
    | cons v vs => exact .cons (h.ok q.1) (ih q.2)
theorem E.le (h : E te ρ Fr As r) (c : Le K r r') : E te ρ Fr As r' := h.conv fun v B Ms _ q => c.ok v B Fr q
/-- an argument, handed on: a list of one's own may be read -/
inductive La (K : PySem.W.Frag) (As : List Asn) : Rdb → Rdb → Prop
  | le {r r' : Rdb} (h : Le K r r') : La K As r r'
  | own {l : Addr} {ds : List PyData} (h : OwnL K l ds ∈ As) : La K As (X (.ref l)) (W K ds)
theorem La.ok (h : La K As r r') : ∀ v B Ms, AllP B As Ms → r.p v B Fr → r'.p v B (Ms ++ Fr) := by
  intro v B Ms a q
  cases h with
  | le h => exact h.ok v B _ (r.sub (fun M hM => List.mem_append_right _ hM) q)
  | own h =>
    have e : v = .ref _ := q
    obtain ⟨M, hM, vs, e1, h2⟩ := a.get h
    exact ⟨_, vs, e, .inr ⟨M, List.mem_append_left _ hM, by rw [e1]; exact one_same⟩, h2⟩
inductive Las (K : PySem.W.Frag) (As : List Asn) : List Rdb → List Rdb → Prop
  | nil : Las K As [] []
  | cons {r r' : Rdb} {rs rs' : List Rdb} : La K As r r' → Las K As rs rs' → Las K As (r :: rs) (r' :: rs')
theorem Las.ok {rs rs' : List Rdb} (h : Las K As rs rs') : ∀ vs B Ms, AllP B As Ms → RepsP B Fr vs rs → RepsP B (Ms ++ Fr) vs rs' := by
  induction h with
  | nil => intro vs B Ms a q; cases vs with
    | nil => exact trivial
    | cons v vs => exact q.elim
  | cons h t ih =>
    intro vs B Ms a q
    cases vs with
    | nil => exact q.elim
    | cons v vs => exact ⟨h.ok v B Ms a q.1, ih vs B Ms a q.2⟩
inductive Les (K : PySem.W.Frag) : List Rdb → List Rdb → Prop
  | nil : Les K [] []
  | cons {r r' : Rdb} {rs rs' : List Rdb} : Le K r r' → Les K rs rs' → Les K (r :: rs) (r' :: rs')
theorem Les.ok {rs rs' : List Rdb} (h : Les K rs rs') : ∀ vs B Ms, RepsP B Ms vs rs → RepsP B Ms vs rs' := by
  induction h with
  | nil => intro vs B Ms q; exact q
  | cons h t ih =>
    intro vs B Ms q
    cases vs with
    | nil => exact q.elim
    | cons v vs => exact ⟨h.ok v B Ms q.1, ih vs B Ms q.2⟩
/-- a list that can be read now -/
inductive Rl (K : PySem.W.Frag) (As : List Asn) : Rdb → List PyData → Prop
  | t (ds : List PyData) : Rl K As (T K ds) ds
  | d (ds : List PyData) : Rl K As (D K (.list ds)) ds
  | w (ds : List PyData) : Rl K As (W K ds) ds
  | own {l : Addr} {ds : List PyData} (h : OwnL K l ds ∈ As) : Rl K As (X (.ref l)) ds
theorem Rl.at {ds : List PyData} (h : Rl K As r ds) {v : V} {B : Hp} {Ms : List Hp} (a : AllP B As Ms) (q : r.p v B Fr) :
    ∃ l vs, v = .ref l ∧ (SqL K B l vs ∨ ∃ M ∈ Ms ++ Fr, M l = some (.lst vs)) ∧ DpAll K B vs ds := by
  have w : (W K ds).p v B (Ms ++ Fr) := by
    cases h with
    | t => exact La.ok (As := As) (.le (.tw ds)) v B Ms a q
    | d => exact La.ok (As := As) (.le (.dw ds)) v B Ms a q
    | w => exact La.ok (K := K) (As := As) (.le (.refl _)) v B Ms a q
    | own h => exact La.ok (As := As) (.own h) v B Ms a q
  exact w
theorem Rl.ok {ds : List PyData} (h : Rl K As r ds) {v : V} {B H : Hp} {Ms Gs : List Hp} (g : ∀ M ∈ Fr, M ∈ Gs) (s : Split H (B :: (Ms ++ Gs))) (a : AllP B As Ms) (q : r.p v B Fr) :
    ∃ l vs, v = .ref l ∧ SqL K H l vs ∧ DpAll K B vs ds := by
  obtain ⟨l, vs, e, h1, h2⟩ := h.at a q
  refine ⟨l, vs, e, ?_, h2⟩
  rcases h1 with h1 | ⟨M, hM, z⟩
  · exact sql_mono (s.sub B List.mem_cons_self) h1
  · exact SqL.of (s.get (List.mem_cons_of_mem _ (sub_app g M hM)) z)

theorem e_var {i : Nat} (h : ρ[i]? = some (some r)) : E (tVar i) ρ Fr As r := fun σ B Ms Gs H Q g e s a q => by
  obtain ⟨v, h1, h2⟩ := e.get h
  exact ⟨v, h1, q v B H (Ex.refl B) s h2⟩
theorem e_c {v : V} : E (tC v) ρ Fr As (X v) := fun σ B Ms Gs H Q g e s a q => q v B H (Ex.refl B) s rfl
theorem e_cint {i : Int} : E (tC (.int i)) ρ Fr As (X (.int i)) := fun σ B Ms Gs H Q g e s a q => q _ B H (Ex.refl B) s rfl
theorem e_cstr {i : Str} : E (tC (.str i)) ρ Fr As (X (.str i)) := fun σ B Ms Gs H Q g e s a q => q _ B H (Ex.refl B) s rfl
theorem e_cbl {i : Bool} : E (tC (.bl i)) ρ Fr As (X (.bl i)) := fun σ B Ms Gs H Q g e s a q => q _ B H (Ex.refl B) s rfl
theorem e_cnon : E (tC .non) ρ Fr As (X .non) := fun σ B Ms Gs H Q g e s a q => q _ B H (Ex.refl B) s rfl
theorem e_op {op : R2} (ha : E ta ρ Fr As r1) (hb : E tb ρ Fr As r2) (ho : Op2 op Fr As r1 r2 r) : E (tOp op ta tb) ρ Fr As r := fun σ B Ms Gs H Q g e s a q =>
  ha σ B Ms Gs H _ g e s a fun x B1 H1 x1 s1 q1 => hb σ B1 Ms Gs H1 _ g (e.mono x1) s1 (a.mono x1) fun y B2 H2 x2 s2 q2 =>
    ho x y B2 Ms Gs H2 Q g s2 ((a.mono x1).mono x2) (r1.mono x2 q1) q2 fun v B3 H3 x3 s3 q3 => q v B3 H3 ((x1.trans x2).trans x3) s3 q3
theorem e_un {op : V → Hp → VK → Prop} (ha : E ta ρ Fr As r1) (ho : Op1 op Fr As r1 r) : E (tUn op ta) ρ Fr As r := fun σ B Ms Gs H Q g e s a q =>
  ha σ B Ms Gs H _ g e s a fun x B1 H1 x1 s1 q1 => ho x B1 Ms Gs H1 Q g s1 (a.mono x1) q1 fun v B3 H3 x3 s3 q3 => q v B3 H3 (x1.trans x3) s3 q3
theorem ea_nil : EA tNil ρ Fr As [] := fun σ B Ms Gs H Q g e s a q => q [] B H (Ex.refl B) s trivial
theorem ea_cons {t : TA} {rs : List Rdb} (ha : E ta ρ Fr As r) (ht : EA t ρ Fr As rs) : EA (tCons ta t) ρ Fr As (r :: rs) := fun σ B Ms Gs H Q g e s a q =>
  ha σ B Ms Gs H _ g e s a fun x B1 H1 x1 s1 q1 => ht σ B1 Ms Gs H1 _ g (e.mono x1) s1 (a.mono x1) fun vs B2 H2 x2 s2 q2 => q (x :: vs) B2 H2 (x1.trans x2) s2 ⟨r.mono x2 q1, q2⟩
theorem EA.les {t : TA} {rs rs' : List Rdb} (h : EA t ρ Fr As rs) (c : Les K rs rs') : EA t ρ Fr As rs' := fun σ B Ms Gs H Q g e s a q =>
  h σ B Ms Gs H _ g e s a fun vs B2 H2 x2 s2 q2 => q vs B2 H2 x2 s2 (c.ok vs B2 Fr q2)
theorem e_cb {op : List V → Hp → VK → Prop} {t : TA} {rs : List Rdb} (ha : EA t ρ Fr As rs) (ho : OpN op Fr As rs r) : E (tCB op t) ρ Fr As r := fun σ B Ms Gs H Q g e s a q =>
  ha σ B Ms Gs H _ g e s a fun vs B1 H1 x1 s1 q1 => ho vs B1 Ms Gs H1 Q g s1 (a.mono x1) q1 fun v B3 H3 x3 s3 q3 => q v B3 H3 (x1.trans x3) s3 q3
theorem e_call {sp : Sp} {Ee : XK} {t : TA} {rs rs' : List Rdb} (ha : EA t ρ Fr As rs) (hc : Las K As rs rs') (ho : Sp1 sp Ee Fr As rs' r) : E (tCall sp [] Ee t) ρ Fr As r := fun σ B Ms Gs H Q g e s a q =>
  ha σ B Ms Gs H _ g e s a fun vs B1 H1 x1 s1 q1 => by
    show sp (vs ++ []) H1 Q Ee
    rw [List.append_nil]
    exact ho vs B1 Ms Gs H1 Q g s1 (a.mono x1) ((hc.ok vs B1 Ms (a.mono x1) q1).sub (sub_app g)) fun v B3 H3 x3 s3 q3 => q v B3 H3 (x1.trans x3) s3 q3
theorem reps_datas : ∀ {B : Hp} {Ms : List Hp} {vs : List V} {ds : List PyData}, RepsP B Ms vs (ds.map (D K)) → DpAll K B vs ds
  | _, _, [], [], _ => .nil
  | _, _, v :: vs, d :: ds, ⟨h, t⟩ => .cons (D.to h) (reps_datas t)
  | _, _, [], _ :: _, h => h.elim
  | _, _, _ :: _, [], h => h.elim
theorem e_tup {t : TA} {rs : List Rdb} {ds : List PyData} (ha : EA t ρ Fr As rs) (hc : Dts K rs ds) (hl : ds.length ≤ 100000) : E (tTup t) ρ Fr As (D K (.tuple ds)) := fun σ B Ms Gs H Q g e s a q =>
  ha σ B Ms Gs H _ g e s a fun vs B1 H1 x1 s1 q1 => by
    have d := hc.ok q1
    refine ⟨by rw [dpa_len d]; exact Nat.le_trans hl (by decide), fun p hp => q _ (upd B1 p (.tup vs)) _ (x1.trans (s1.newEx hp _)) (s1.new hp _) ?_⟩
    exact Dp.tup (SqT.of upd_same) (dpa_mono (s1.newEx hp _) d)
theorem e_lst {t : TA} {rs : List Rdb} {ds : List PyData} (ha : EA t ρ Fr As rs) (hc : Dts K rs ds) (hl : ds.length ≤ 100000) : E (tLst t) ρ Fr As (T K ds) := fun σ B Ms Gs H Q g e s a q =>
  ha σ B Ms Gs H _ g e s a fun vs B1 H1 x1 s1 q1 => by
    have d := hc.ok q1
    refine ⟨by rw [dpa_len d]; exact Nat.le_trans hl (by decide), fun p hp => q _ (upd B1 p (.lst vs)) _ (x1.trans (s1.newEx hp _)) (s1.new hp _) ?_⟩
    exact ⟨p, vs, rfl, upd_same, dpa_mono (s1.newEx hp _) d⟩
theorem e_fld {p C : Addr} {fs : List (Str × V)} {f : Str} {v : V} (ha : E ta ρ Fr As (X (.ref p))) (ho : Obj1 p C fs ∈ As) (hc : Cls K C) (hn : NoAttr K C f) (hl : fs.lookup f = some v) : E (tFld K ta f) ρ Fr As (X v) := fun σ B Ms Gs H Q g e s a q =>
  ha σ B Ms Gs H _ g e s a fun x B1 H1 x1 s1 q1 => by
    have e1 : x = .ref p := q1
    obtain ⟨M, hM, dx, hd, eM⟩ := a.get ho
    have h1 : H1 p = some (.ins C dx fs) := s1.get (P := M) (List.mem_cons_of_mem _ (List.mem_append_left _ hM)) (by rw [eM]; exact un_l one_same)
    exact ⟨p, C, dx, fs, v, e1, h1, hc, hn, hl, q v B1 H1 x1 s1 rfl⟩
theorem et_test {b : Bool} (h : E te ρ Fr As (X (.bl b))) : ET (tTest te) ρ Fr As b := fun σ B Ms Gs H Q g e s a q => h σ B Ms Gs H _ g e s a fun v B2 H2 x s2 rv => by
  have rv' : v = .bl b := rv
  subst rv'
  exact ⟨b, rfl, q B2 H2 x s2⟩
theorem et_B {b : Bool} (h : E te ρ Fr As (X (.bl b))) : ET (L2.tB te) ρ Fr As b := fun σ B Ms Gs H Q g e s a q => h σ B Ms Gs H _ g e s a fun v B2 H2 x s2 rv => by
  have rv' : v = .bl b := rv
  subst rv'
  exact ⟨b, rfl, q B2 H2 x s2⟩
theorem ET.to {b b' : Bool} (h : ET tA ρ Fr As b) (e : b = b') : ET tA ρ Fr As b' := e ▸ h
theorem et_yes : ET tYes ρ Fr As true := fun σ B Ms Gs H Q g e s a q => q B H (Ex.refl B) s
theorem et_not {b : Bool} (h : ET tA ρ Fr As b) : ET (tNot tA) ρ Fr As (!b) := fun σ B Ms Gs H Q g e s a q => h σ B Ms Gs H _ g e s a q
theorem et_and {b c : Bool} (h1 : ET tA ρ Fr As b) (h2 : b = true → ET tB ρ Fr As c) : ET (tAnd tA tB) ρ Fr As (b && c) := fun σ B Ms Gs H Q g e s a q =>
  h1 σ B Ms Gs H _ g e s a fun B1 H1 x1 s1 => by
    cases b with
    | true =>
      show tB σ H1 Q
      exact h2 rfl σ B1 Ms Gs H1 Q g (e.mono x1) s1 (a.mono x1) fun B2 H2 x2 s2 => q B2 H2 (x1.trans x2) s2
    | false =>
      show Q false H1
      exact q B1 H1 x1 s1
theorem et_or {b c : Bool} (h1 : ET tA ρ Fr As b) (h2 : b = false → ET tB ρ Fr As c) : ET (tOr tA tB) ρ Fr As (b || c) := fun σ B Ms Gs H Q g e s a q =>
  h1 σ B Ms Gs H _ g e s a fun B1 H1 x1 s1 => by
    cases b with
    | false =>
      show tB σ H1 Q
      exact h2 rfl σ B1 Ms Gs H1 Q g (e.mono x1) s1 (a.mono x1) fun B2 H2 x2 s2 => q B2 H2 (x1.trans x2) s2
    | true =>
      show Q true H1
      exact q B1 H1 x1 s1
theorem e_andV {b c : Bool} (h1 : E ta ρ Fr As (X (.bl b))) (h2 : b = true → E tb ρ Fr As (X (.bl c))) : E (tAndV ta tb) ρ Fr As (X (.bl (b && c))) := fun σ B Ms Gs H Q g e s a q =>
  h1 σ B Ms Gs H _ g e s a fun v B1 H1 x1 s1 rv => by
    have rv' : v = .bl b := rv
    subst rv'
    refine ⟨b, rfl, ?_⟩
    cases b with
    | true =>
      show tb σ H1 Q
      exact h2 rfl σ B1 Ms Gs H1 Q g (e.mono x1) s1 (a.mono x1) fun v2 B2 H2 x2 s2 rv2 => q v2 B2 H2 (x1.trans x2) s2 rv2
    | false =>
      show Q (.bl false) H1
      exact q _ B1 H1 x1 s1 rfl
theorem e_orV {b c : Bool} (h1 : E ta ρ Fr As (X (.bl b))) (h2 : b = false → E tb ρ Fr As (X (.bl c))) : E (tOrV ta tb) ρ Fr As (X (.bl (b || c))) := fun σ B Ms Gs H Q g e s a q =>
  h1 σ B Ms Gs H _ g e s a fun v B1 H1 x1 s1 rv => by
    have rv' : v = .bl b := rv
    subst rv'
    refine ⟨b, rfl, ?_⟩
    cases b with
    | false =>
      show tb σ H1 Q
      exact h2 rfl σ B1 Ms Gs H1 Q g (e.mono x1) s1 (a.mono x1) fun v2 B2 H2 x2 s2 rv2 => q v2 B2 H2 (x1.trans x2) s2 rv2
    | true =>
      show Q (.bl true) H1
      exact q _ B1 H1 x1 s1 rfl
theorem e_notV {b : Bool} (h1 : E ta ρ Fr As (X (.bl b))) : E (tNotV ta) ρ Fr As (X (.bl (!b))) := fun σ B Ms Gs H Q g e s a q =>
  h1 σ B Ms Gs H _ g e s a fun v B1 H1 x1 s1 rv => by
    have rv' : v = .bl b := rv
    subst rv'
    exact ⟨b, rfl, q _ B1 H1 x1 s1 rfl⟩
theorem e_if {b : Bool} (h : ET tA ρ Fr As b) (h1 : b = true → E ta ρ Fr As r) (h2 : b = false → E tb ρ Fr As r) : E (tIf tA ta tb) ρ Fr As r := fun σ B Ms Gs H Q g e s a q =>
  h σ B Ms Gs H _ g e s a fun B1 H1 x1 s1 => by
    cases b with
    | true =>
      show ta σ H1 Q
      exact h1 rfl σ B1 Ms Gs H1 Q g (e.mono x1) s1 (a.mono x1) fun v2 B2 H2 x2 s2 rv2 => q v2 B2 H2 (x1.trans x2) s2 rv2
    | false =>
      show tb σ H1 Q
      exact h2 rfl σ B1 Ms Gs H1 Q g (e.mono x1) s1 (a.mono x1) fun v2 B2 H2 x2 s2 rv2 => q v2 B2 H2 (x1.trans x2) s2 rv2
theorem e_chain {o1 o2 : R2} {r3 : Rdb} {b c : Bool} (ha : E ta ρ Fr As r1) (hb : E tb ρ Fr As r2) (h1 : Op2 o1 Fr As r1 r2 (X (.bl b))) (hc : b = true → E tc ρ Fr As r3) (h2 : b = true → Op2 o2 Fr As r2 r3 (X (.bl c))) :
    E (tChain o1 o2 ta tb tc) ρ Fr As (X (.bl (b && c))) := fun σ B Ms Gs H Q g e s a q =>
  ha σ B Ms Gs H _ g e s a fun x B1 H1 x1 s1 q1 => hb σ B1 Ms Gs H1 _ g (e.mono x1) s1 (a.mono x1) fun y B2 H2 x2 s2 q2 =>
    h1 x y B2 Ms Gs H2 _ g s2 ((a.mono x1).mono x2) (r1.mono x2 q1) q2 fun z B3 H3 x3 s3 q3 => by
      have q3' : z = .bl b := q3
      subst q3'
      refine ⟨b, rfl, ?_⟩
      have x123 := (x1.trans x2).trans x3
      cases b with
      | true =>
        refine iteT ?_
        exact hc rfl σ B3 Ms Gs H3 _ g (e.mono x123) s3 (a.mono x123) fun w B4 H4 x4 s4 q4 => h2 rfl y w B4 Ms Gs H4 Q g s4 (a.mono (x123.trans x4)) (r2.mono (x3.trans x4) q2) q4 fun v B5 H5 x5 s5 q5 => q v B5 H5 ((x123.trans x4).trans x5) s5 q5
      | false =>
        refine iteF ?_
        exact q _ B3 H3 x123 s3 rfl
theorem eo_none : EO tNoPart ρ Fr As none := fun σ B Ms Gs H Q g e s a q => q B H (Ex.refl B) s
theorem eo_some {i : Int} (h : E te ρ Fr As (X (.int i))) : EO (tPart te) ρ Fr As (some i) := fun σ B Ms Gs H Q g e s a q => h σ B Ms Gs H _ g e s a fun v B2 H2 x s2 rv => by
  have rv' : v = .int i := rv
  subst rv'
  exact ⟨i, rfl, q B2 H2 x s2⟩
end

/-- where one stands: the slots, the parts -/
structure Cur (B0 : Hp) (Fr : List Hp) (As : List Asn) (ρ : Rho) (σ : L2.St) (H : Hp) : Prop where
  ex : ∃ B Ms, Ex B0 B ∧ EnvP B Fr σ ρ ∧ Split H (B :: (Ms ++ Fr)) ∧ AllP B As Ms
section
variable {K : PySem.W.Frag} {B0 : Hp} {ρ : Rho} {Fr : List Hp} {As : List Asn} {ta tb te tv : TE} {tA : TT} {r r1 r2 : Rdb} {D0 : Ends} {σ : L2.St} {H : Hp} {tu tw tz : TS}
theorem Cur.weak {ρ' : Rho} (c : Cur B0 Fr As ρ σ H) (h : ∀ B, EnvP B Fr σ ρ → EnvP B Fr σ ρ') : Cur B0 Fr As ρ' σ H := by
  obtain ⟨B, Ms, x, e, s, a⟩ := c.ex
  exact ⟨B, Ms, x, h B e, s, a⟩
theorem Cur.len (c : Cur B0 Fr As ρ σ H) : σ.length = ρ.length := by
  obtain ⟨B, Ms, x, e, s, a⟩ := c.ex
  exact e.len
theorem x_asg {i : Nat} (c : Cur B0 Fr As ρ σ H) (h : E te ρ Fr As r) (k : ∀ σ1 H1, Cur B0 Fr As (ρ.set i (some r)) σ1 H1 → tz D0 σ1 H1) : tSeq (tAsg te (gName i)) tz D0 σ H := by
  obtain ⟨B, Ms, x, e, s, a⟩ := c.ex
  exact h σ B Ms Fr H _ (fun _ h => h) e s a fun v B2 H2 x2 s2 rv => k _ H2 ⟨B2, Ms, x.trans x2, (e.mono x2).set rv i, s2, a.mono x2⟩
theorem x_asg1 {i : Nat} (c : Cur B0 Fr As ρ σ H) (h : E te ρ Fr As r) (k : ∀ σ1 H1, Cur B0 Fr As (ρ.set i (some r)) σ1 H1 → D0.nx σ1 H1) : tAsg te (gName i) D0 σ H := by
  obtain ⟨B, Ms, x, e, s, a⟩ := c.ex
  exact h σ B Ms Fr H _ (fun _ h => h) e s a fun v B2 H2 x2 s2 rv => k _ H2 ⟨B2, Ms, x.trans x2, (e.mono x2).set rv i, s2, a.mono x2⟩
/-- what is told at the end -/
def Res (B0 : Hp) (Fr : List Hp) (As : List Asn) (r : Rdb) (v : V) (H : Hp) : Prop := ∃ B Ms, Ex B0 B ∧ Split H (B :: (Ms ++ Fr)) ∧ AllP B As Ms ∧ r.p v B Fr
theorem x_ret (c : Cur B0 Fr As ρ σ H) (h : E te ρ Fr As r) (k : ∀ v H1, Res B0 Fr As r v H1 → D0.rt v H1) : tRet te D0 σ H := by
  obtain ⟨B, Ms, x, e, s, a⟩ := c.ex
  exact h σ B Ms Fr H _ (fun _ h => h) e s a fun v B2 H2 x2 s2 rv => k v H2 ⟨B2, Ms, x.trans x2, s2, a.mono x2, rv⟩
theorem x_retN (c : Cur B0 Fr As ρ σ H) (k : ∀ H1, Res B0 Fr As (X .non) .non H1 → D0.rt .non H1) : tRetN D0 σ H := by
  obtain ⟨B, Ms, x, e, s, a⟩ := c.ex
  exact k H ⟨B, Ms, x, s, a, rfl⟩
/-- the body's end without a return -/
theorem x_end (c : Cur B0 Fr As ρ σ H) (k : ∀ H1, Res B0 Fr As (X .non) .non H1 → D0.rt .non H1) : D0.rt .non H := by
  obtain ⟨B, Ms, x, e, s, a⟩ := c.ex
  exact k H ⟨B, Ms, x, s, a, rfl⟩
theorem x_if {b : Bool} (c : Cur B0 Fr As ρ σ H) (h : ET tA ρ Fr As b) (h1 : b = true → ∀ H1, Cur B0 Fr As ρ σ H1 → tu D0 σ H1) (h2 : b = false → ∀ H1, Cur B0 Fr As ρ σ H1 → tw D0 σ H1) : tIfS tA tu tw D0 σ H := by
  obtain ⟨B, Ms, x, e, s, a⟩ := c.ex
  refine h σ B Ms Fr H _ (fun _ h => h) e s a fun B2 H2 x2 s2 => ?_
  have c2 : Cur B0 Fr As ρ σ H2 := ⟨B2, Ms, x.trans x2, e.mono x2, s2, a.mono x2⟩
  cases b with
  | true => exact iteT (h1 rfl H2 c2)
  | false => exact iteF (h2 rfl H2 c2)
theorem x_seq (h : tu { D0 with nx := tz D0 } σ H) : tSeq tu tz D0 σ H := h
theorem x_next (h : D0.nx σ H) : tNext D0 σ H := h
theorem x_drop (c : Cur B0 Fr As ρ σ H) (h : E te ρ Fr As r) (k : ∀ H1, Cur B0 Fr As ρ σ H1 → tz D0 σ H1) : tSeq (tDrop te) tz D0 σ H := by
  obtain ⟨B, Ms, x, e, s, a⟩ := c.ex
  exact h σ B Ms Fr H _ (fun _ h => h) e s a fun v B2 H2 x2 s2 rv => k H2 ⟨B2, Ms, x.trans x2, e.mono x2, s2, a.mono x2⟩
/-- an expression in its place, the rest by hand -/
theorem Cur.use (c : Cur B0 Fr As ρ σ H) (h : E te ρ Fr As r) {Q : VK} (k : ∀ v H1, (∃ B Ms, Ex B0 B ∧ EnvP B Fr σ ρ ∧ Split H1 (B :: (Ms ++ Fr)) ∧ AllP B As Ms ∧ r.p v B Fr) → Q v H1) : te σ H Q := by
  obtain ⟨B, Ms, x, e, s, a⟩ := c.ex
  exact h σ B Ms Fr H _ (fun _ h => h) e s a fun v B2 H2 x2 s2 rv => k v H2 ⟨B2, Ms, x.trans x2, e.mono x2, s2, a.mono x2, rv⟩
/-- another order of the parts -/
theorem Cur.perm {As' : List Asn} (c : Cur B0 Fr As ρ σ H) (p : As.Perm As') : Cur B0 Fr As' ρ σ H := by
  obtain ⟨B, Ms, x, e, s, a⟩ := c.ex
  obtain ⟨Ns, q, a'⟩ := allP_perm p a
  exact ⟨B, Ns, x, e, s.perm ((q.append_right Fr).cons B), a'⟩
end
end DL

set_option maxHeartbeats 2000000
namespace DL
open PySem L2

section
variable {Xc : Cx} {K : PySem.W.Frag} {Fr : List Hp} {As : List Asn} {r r1 r2 : Rdb}
def rAddS : R2 := fun x y H Q => ∃ i j, x = .str i ∧ y = .str j ∧ i.length + j.length ≤ sizeLine ∧ Q (.str (i ++ j)) H
def rAddU : R2 := fun x y H Q => rI0 (fun i j => .int (i + j)) x y H Q ∨ (rAddS x y H Q ∨ rCat x y H Q)
theorem u_add : OpR Xc (binaryOp .Add) rAddU := OpR.or op_add (OpR.or op_add_str op_cat)
def rEqU (K : PySem.W.Frag) : R2 := fun x y H Q => rEq x y H Q ∨ rEqD K x y H Q
theorem u_eq (hu : Xc.A.units + 64 < cLine) : OpR Xc (compareOp .Eq) (rEqU Xc.K) := OpR.or op_eq (op_eqD hu)
def rNeU (K : PySem.W.Frag) : R2 := fun x y H Q => rNe x y H Q ∨ rNeD K x y H Q
theorem u_ne (hu : Xc.A.units + 64 < cLine) : OpR Xc (compareOp .NotEq) (rNeU Xc.K) := OpR.or op_ne (op_neD hu)
def rInSign : R2 := fun x y H Q => ∃ (c : Nat) (z : Str), x = .str ⟨#[c]⟩ ∧ y = .str z ∧ Q (.bl (decide (c ∈ z.cps.toList))) H
def rNotInSign : R2 := fun x y H Q => ∃ (c : Nat) (z : Str), x = .str ⟨#[c]⟩ ∧ y = .str z ∧ Q (.bl (!decide (c ∈ z.cps.toList))) H
def rInU (K : PySem.W.Frag) : R2 := fun x y H Q => rInSign x y H Q ∨ rIn K false x y H Q
theorem u_in : OpR Xc (compareOp .In) (rInU Xc.K) := OpR.or op_in_sign op_in_seq
def rNotInU (K : PySem.W.Frag) : R2 := fun x y H Q => rNotInSign x y H Q ∨ rIn K true x y H Q
theorem u_notin : OpR Xc (compareOp .NotIn) (rNotInU Xc.K) := OpR.or op_notIn_sign op_notIn_seq
def rIsNU : R2 := fun x y H Q => y = .non ∧ Q (.bl (decide (x = .non))) H
def rNotNU : R2 := fun x y H Q => y = .non ∧ Q (.bl (!decide (x = .non))) H
theorem u_is : OpR Xc (compareOp .Is) rIsNU := op_isN
theorem u_isnot : OpR Xc (compareOp .IsNot) rNotNU := op_notN
def rLtU : R2 := rI0 fun i j => .bl (decide (i < j))
def rLeU : R2 := rI0 fun i j => .bl (decide (i ≤ j))
def rGtU : R2 := rI0 fun i j => .bl (decide (j < i))
def rGeU : R2 := rI0 fun i j => .bl (decide (j ≤ i))
theorem u_lt : OpR Xc (compareOp .Lt) rLtU := op_lt
theorem u_le : OpR Xc (compareOp .LtE) rLeU := op_le
theorem u_gt : OpR Xc (compareOp .Gt) rGtU := op_gt
theorem u_ge : OpR Xc (compareOp .GtE) rGeU := op_ge
def rSubU : R2 := rI0 fun i j => .int (i - j)
theorem u_sub : OpR Xc (binaryOp .Sub) rSubU := op_sub
theorem op_mulK : OpR Xc (binaryOp .Mult) (rI IntMulOk fun i j => .int (i * j)) := opI fun _ _ _ _ _ _ _ hc q => PyProof.Rows.mul_int q hc
def rMulU : R2 := fun x y H Q => rI IntMulOk (fun i j => .int (i * j)) x y H Q ∨ rRep x y H Q
theorem u_mul : OpR Xc (binaryOp .Mult) rMulU := OpR.or op_mulK op_rep
def rModU : R2 := rI (fun _ j => 0 < j) fun i j => .int (i % j)
theorem u_mod : OpR Xc (binaryOp .Mod) rModU := op_mod
def rDivU : R2 := rI CDiv fun i j => .int (i / j)
theorem u_div : OpR Xc (binaryOp .FloorDiv) rDivU := op_fdiv
def rPowU : R2 := rI CPow fun i j => .int (i ^ j.toNat)
theorem u_pow : OpR Xc (binaryOp .Pow) rPowU := op_pow
def rLenU (K : PySem.W.Frag) : List V → Hp → VK → Prop := fun xs H Q => ∃ x n, xs = [x] ∧ LenV K x H n ∧ Q (.int n) H
theorem u_len : CallR Xc (.builtin "len") (rLenU Xc.K) := call_len
def rListU (K : PySem.W.Frag) : List V → Hp → VK → Prop := fun xs H Q => ∃ p ys, xs = [.ref p] ∧ (SqL K H p ys ∨ SqT K H p ys) ∧ ∀ l, H l = none → Q (.ref l) (upd H l (.lst ys))
theorem u_list : CallR Xc (.type "list") (rListU Xc.K) := call_list_of
def rTupleU (K : PySem.W.Frag) : List V → Hp → VK → Prop := fun xs H Q => ∃ p ys, xs = [.ref p] ∧ ((SqL K H p ys ∧ ∀ l, H l = none → Q (.ref l) (upd H l (.tup ys))) ∨ (SqT K H p ys ∧ Q (.ref p) H))
theorem u_tuple : CallR Xc (.type "tuple") (rTupleU Xc.K) := call_tuple_of
def rMinU : List V → Hp → VK → Prop := fun xs H Q => ∃ i j, xs = [.int i, .int j] ∧ Q (.int (if j < i then j else i)) H
theorem u_min (hc : Xc.calm = true) : CallR Xc (.builtin "min") rMinU := call_min2 hc
def rIntU : List V → Hp → VK → Prop := fun xs H Q => (∃ i, xs = [.int i] ∧ Q (.int i) H) ∨ ∃ k, xs = [.bl k] ∧ Q (.int (if k then 1 else 0)) H
theorem u_int : CallR Xc (.type "int") rIntU := call_int1
def rSlU (K : PySem.W.Frag) : V → Option Int → Option Int → Hp → VK → Prop := fun x lo hi H Q => rSlL K x lo hi H Q ∨ rSlS x lo hi H Q
theorem u_sl : SlR Xc (rSlU Xc.K) := SlR.or sl_list sl_str

theorem dp_int {B : Hp} {Ms : List Hp} {v : V} {i : Int} (h : (X (.int i)).p v B Ms) : v = .int i := h
theorem dp_str {B : Hp} {Ms : List Hp} {v : V} {i : Str} (h : (X (.str i)).p v B Ms) : v = .str i := h
theorem dp_bool {B : Hp} {Ms : List Hp} {v : V} {i : Bool} (h : (X (.bl i)).p v B Ms) : v = .bl i := h
theorem dp_none {B : Hp} {Ms : List Hp} {v : V} (h : (X .non).p v B Ms) : v = .non := h
theorem o_addI {i j : Int} : Op2 rAddU Fr As (X (.int i)) (X (.int j)) (X (.int (i + j))) := fun x y B Ms Gs H Q g s a h1 h2 q => by
  rw [dp_int h1, dp_int h2]
  exact .inl ⟨i, j, rfl, rfl, q _ B H (Ex.refl B) s rfl⟩
theorem o_addS {i j : Str} (hl : i.length + j.length ≤ sizeLine) : Op2 rAddU Fr As (X (.str i)) (X (.str j)) (X (.str (i ++ j))) := fun x y B Ms Gs H Q g s a h1 h2 q => by
  rw [dp_str h1, dp_str h2]
  exact .inr (.inl ⟨i, j, rfl, rfl, hl, q _ B H (Ex.refl B) s rfl⟩)
/-- a tracked list, of others' or of one's own -/
inductive Rt (K : PySem.W.Frag) (As : List Asn) : Rdb → List PyData → Prop
  | t (ds : List PyData) : Rt K As (T K ds) ds
  | own {l : Addr} {ds : List PyData} (h : OwnL K l ds ∈ As) : Rt K As (X (.ref l)) ds
theorem Rt.ok {ds : List PyData} (h : Rt K As r ds) {v : V} {B H : Hp} {Ms Gs : List Hp} (g : ∀ M ∈ Fr, M ∈ Gs) (s : Split H (B :: (Ms ++ Gs))) (a : AllP B As Ms) (q : r.p v B Fr) :
    ∃ l vs, v = .ref l ∧ H l = some (.lst vs) ∧ DpAll K B vs ds := by
  cases h with
  | t =>
    obtain ⟨l, vs, e, h1, h2⟩ := q
    exact ⟨l, vs, e, s.head h1, h2⟩
  | own h =>
    have e : v = .ref _ := q
    obtain ⟨M, hM, vs, e1, h2⟩ := a.get h
    exact ⟨_, vs, e, s.get (P := M) (List.mem_cons_of_mem _ (List.mem_append_left _ hM)) (by rw [e1]; exact one_same), h2⟩
theorem o_cat {ds es : List PyData} (h1 : Rt K As r1 ds) (h2 : Rt K As r2 es) (hl : ds.length + es.length ≤ sizeLine) : Op2 rAddU Fr As r1 r2 (T K (ds ++ es)) := fun x y B Ms Gs H Q g s a q1 q2 q => by
  obtain ⟨l, vs, e1, k1, d1⟩ := h1.ok g s a q1
  obtain ⟨b, us, e2, k2, d2⟩ := h2.ok g s a q2
  subst e1; subst e2
  refine .inr (.inr ⟨l, b, vs, us, rfl, rfl, k1, k2, by rw [dpa_len d1, dpa_len d2]; exact hl, fun p hp => q _ (upd B p (.lst (vs ++ us))) _ (s.newEx hp _) (s.new hp _) ?_⟩)
  exact ⟨p, _, rfl, upd_same, dpa_mono (s.newEx hp _) (dpa_app d1 d2)⟩
theorem o_subI {i j : Int} : Op2 rSubU Fr As (X (.int i)) (X (.int j)) (X (.int (i - j))) := fun x y B Ms Gs H Q g s a h1 h2 q => by
  rw [dp_int h1, dp_int h2]
  exact ⟨i, j, rfl, rfl, q _ B H (Ex.refl B) s rfl⟩
theorem o_mulI {i j : Int} (h : CMul i j) : Op2 rMulU Fr As (X (.int i)) (X (.int j)) (X (.int (i * j))) := fun x y B Ms Gs H Q g s a h1 h2 q => by
  rw [dp_int h1, dp_int h2]
  exact .inl ⟨i, j, rfl, rfl, h.ok, q _ B H (Ex.refl B) s rfl⟩
theorem o_mulB {i j : Int} (h : IntMulOk i j) : Op2 rMulU Fr As (X (.int i)) (X (.int j)) (X (.int (i * j))) := fun x y B Ms Gs H Q g s a h1 h2 q => by
  rw [dp_int h1, dp_int h2]
  exact .inl ⟨i, j, rfl, rfl, h, q _ B H (Ex.refl B) s rfl⟩
theorem dpa_rep {B : Hp} {vs : List V} {ds : List PyData} (h : DpAll K B vs ds) : ∀ n : Nat, DpAll K B (List.replicate n vs).flatten (List.replicate n ds).flatten
  | 0 => .nil
  | n + 1 => by
    rw [List.replicate_succ, List.replicate_succ, List.flatten_cons, List.flatten_cons]
    exact dpa_app h (dpa_rep h n)
theorem o_rep {ds : List PyData} {k : Int} (h1 : Rt K As r1 ds) (h0 : 0 ≤ k) (hk : k ≤ 1000) (hl : ds.length ≤ 1000) : Op2 rMulU Fr As r1 (X (.int k)) (T K (List.replicate k.toNat ds).flatten) := fun x y B Ms Gs H Q g s a q1 q2 q => by
  obtain ⟨l, vs, e1, k1, d1⟩ := h1.ok g s a q1
  subst e1
  rw [dp_int q2]
  refine .inr ⟨l, k, vs, rfl, rfl, k1, by omega, by omega, ?_, fun p hp => q _ (upd B p (.lst (List.replicate k.toNat vs).flatten)) _ (s.newEx hp _) (s.new hp _) ⟨p, _, rfl, upd_same, dpa_mono (s.newEx hp _) (dpa_rep d1 _)⟩⟩
  rw [dpa_len d1]
  exact Nat.le_trans (Nat.mul_le_mul hl (show k.toNat ≤ 1000 by omega)) (by decide)
theorem o_modI {i j : Int} (h : 0 < j) : Op2 rModU Fr As (X (.int i)) (X (.int j)) (X (.int (i % j))) := fun x y B Ms Gs H Q g s a h1 h2 q => by
  rw [dp_int h1, dp_int h2]
  exact ⟨i, j, rfl, rfl, h, q _ B H (Ex.refl B) s rfl⟩
theorem o_divI {i j : Int} (h : 0 < j ∧ j < 1073741824) : Op2 rDivU Fr As (X (.int i)) (X (.int j)) (X (.int (i / j))) := fun x y B Ms Gs H Q g s a h1 h2 q => by
  rw [dp_int h1, dp_int h2]
  exact ⟨i, j, rfl, rfl, h, q _ B H (Ex.refl B) s rfl⟩
theorem o_powI {i j : Int} (h : CPow i j) : Op2 rPowU Fr As (X (.int i)) (X (.int j)) (X (.int (i ^ j.toNat))) := fun x y B Ms Gs H Q g s a h1 h2 q => by
  rw [dp_int h1, dp_int h2]
  exact ⟨i, j, rfl, rfl, h, q _ B H (Ex.refl B) s rfl⟩
theorem o_lt {i j : Int} : Op2 rLtU Fr As (X (.int i)) (X (.int j)) (X (.bl (decide (i < j)))) := fun x y B Ms Gs H Q g s a h1 h2 q => by
  rw [dp_int h1, dp_int h2]
  exact ⟨i, j, rfl, rfl, q _ B H (Ex.refl B) s rfl⟩
theorem o_le {i j : Int} : Op2 rLeU Fr As (X (.int i)) (X (.int j)) (X (.bl (decide (i ≤ j)))) := fun x y B Ms Gs H Q g s a h1 h2 q => by
  rw [dp_int h1, dp_int h2]
  exact ⟨i, j, rfl, rfl, q _ B H (Ex.refl B) s rfl⟩
theorem o_gt {i j : Int} : Op2 rGtU Fr As (X (.int i)) (X (.int j)) (X (.bl (decide (j < i)))) := fun x y B Ms Gs H Q g s a h1 h2 q => by
  rw [dp_int h1, dp_int h2]
  exact ⟨i, j, rfl, rfl, q _ B H (Ex.refl B) s rfl⟩
theorem o_ge {i j : Int} : Op2 rGeU Fr As (X (.int i)) (X (.int j)) (X (.bl (decide (j ≤ i)))) := fun x y B Ms Gs H Q g s a h1 h2 q => by
  rw [dp_int h1, dp_int h2]
  exact ⟨i, j, rfl, rfl, q _ B H (Ex.refl B) s rfl⟩
theorem scal_ii {i j : Int} : scal (.int i) (.int j) = true := by rfl
theorem scal_ss {i j : Str} : scal (.str i) (.str j) = true := by rfl
theorem o_eqI {i j : Int} : Op2 (rEqU K) Fr As (X (.int i)) (X (.int j)) (X (.bl (decide (i = j)))) := fun x y B Ms Gs H Q g s a h1 h2 q => by
  rw [dp_int h1, dp_int h2]
  refine .inl ⟨scal_ii, ?_⟩
  have e : decide (V.int i = V.int j) = decide (i = j) := by by_cases h : i = j <;> simp [h]
  rw [e]
  exact q _ B H (Ex.refl B) s rfl
theorem o_eqS {i j : Str} : Op2 (rEqU K) Fr As (X (.str i)) (X (.str j)) (X (.bl (decide (i = j)))) := fun x y B Ms Gs H Q g s a h1 h2 q => by
  rw [dp_str h1, dp_str h2]
  refine .inl ⟨scal_ss, ?_⟩
  have e : decide (V.str i = V.str j) = decide (i = j) := by by_cases h : i = j <;> simp [h]
  rw [e]
  exact q _ B H (Ex.refl B) s rfl
theorem o_neI {i j : Int} : Op2 (rNeU K) Fr As (X (.int i)) (X (.int j)) (X (.bl (!decide (i = j)))) := fun x y B Ms Gs H Q g s a h1 h2 q => by
  rw [dp_int h1, dp_int h2]
  refine .inl ⟨scal_ii, ?_⟩
  have e : decide (V.int i = V.int j) = decide (i = j) := by by_cases h : i = j <;> simp [h]
  rw [e]
  exact q _ B H (Ex.refl B) s rfl
theorem o_neS {i j : Str} : Op2 (rNeU K) Fr As (X (.str i)) (X (.str j)) (X (.bl (!decide (i = j)))) := fun x y B Ms Gs H Q g s a h1 h2 q => by
  rw [dp_str h1, dp_str h2]
  refine .inl ⟨scal_ss, ?_⟩
  have e : decide (V.str i = V.str j) = decide (i = j) := by by_cases h : i = j <;> simp [h]
  rw [e]
  exact q _ B H (Ex.refl B) s rfl
/-- data on either side, also lists of one's own -/
inductive Rd1 (K : PySem.W.Frag) (As : List Asn) : Rdb → PyData → Prop
  | d (d : PyData) : Rd1 K As (D K d) d
  | l {r : Rdb} {ds : List PyData} (h : Rl K As r ds) : Rd1 K As r (.list ds)
theorem Rd1.ok {d : PyData} (h : Rd1 K As r d) {v : V} {B H : Hp} {Ms Gs : List Hp} (g : ∀ M ∈ Fr, M ∈ Gs) (s : Split H (B :: (Ms ++ Gs))) (a : AllP B As Ms) (q : r.p v B Fr) : Dp K H v d := by
  cases h with
  | d => exact dp_mono (s.sub B List.mem_cons_self) (D.to q)
  | l h =>
    obtain ⟨l, vs, e, h1, h2⟩ := h.ok g s a q
    subst e
    exact .lst h1 (dpa_mono (s.sub B List.mem_cons_self) h2)
theorem o_eqD {d e : PyData} (h1 : Rd1 K As r1 d) (h2 : Rd1 K As r2 e) (s1 : SeqAt.shaped d = true) (s2 : SeqAt.shaped e = true) : Op2 (rEqU K) Fr As r1 r2 (X (.bl (PyData.eqv d e))) := fun x y B Ms Gs H Q g s a q1 q2 q =>
  .inr ⟨d, e, h1.ok g s a q1, h2.ok g s a q2, s1, s2, q _ B H (Ex.refl B) s rfl⟩
theorem o_neD {d e : PyData} (h1 : Rd1 K As r1 d) (h2 : Rd1 K As r2 e) (s1 : SeqAt.shaped d = true) (s2 : SeqAt.shaped e = true) : Op2 (rNeU K) Fr As r1 r2 (X (.bl (!PyData.eqv d e))) := fun x y B Ms Gs H Q g s a q1 q2 q =>
  .inr ⟨d, e, h1.ok g s a q1, h2.ok g s a q2, s1, s2, q _ B H (Ex.refl B) s rfl⟩
theorem inV_strs {x : Str} : ∀ {ss : List Str}, inV (.str x) (ss.map V.str) = decide (x ∈ ss)
  | [] => rfl
  | s :: ss => by
    have ih := inV_strs (x := x) (ss := ss)
    unfold inV at ih ⊢
    rw [List.map_cons, List.any_cons, ih]
    show ((s == x) || decide (x ∈ ss)) = decide (x ∈ s :: ss)
    by_cases h : s = x
    · subst h; simp
    · have h' : (s == x) = false := beq_eq_false_iff_ne.mpr h
      rw [h']
      by_cases h2 : x ∈ ss <;> simp [h2, Ne.symm h]
theorem flat_strs : ∀ {ss : List Str}, (ss.map V.str).all flatV = true
  | [] => rfl
  | s :: ss => by
    rw [List.map_cons, List.all_cons, flat_strs]
    rfl
theorem o_inL {x : Str} {ss : List Str} (h : Rl K As r (ss.map PyData.str)) : Op2 (rInU K) Fr As (X (.str x)) r (X (.bl (decide (x ∈ ss)))) := fun v y B Ms Gs H Q g s a q1 q2 q => by
  obtain ⟨l, vs, e, h1, h2⟩ := h.ok g s a q2
  rw [dp_str q1]
  subst e
  rw [dpa_strs h2] at h1
  refine .inr ⟨l, _, rfl, .inl h1, rfl, flat_strs, ?_⟩
  show Q (V.bl (inV (.str x) (ss.map V.str))) H
  rw [inV_strs]
  exact q _ B H (Ex.refl B) s rfl
theorem o_notinL {x : Str} {ss : List Str} (h : Rl K As r (ss.map PyData.str)) : Op2 (rNotInU K) Fr As (X (.str x)) r (X (.bl (!decide (x ∈ ss)))) := fun v y B Ms Gs H Q g s a q1 q2 q => by
  obtain ⟨l, vs, e, h1, h2⟩ := h.ok g s a q2
  rw [dp_str q1]
  subst e
  rw [dpa_strs h2] at h1
  refine .inr ⟨l, _, rfl, .inl h1, rfl, flat_strs, ?_⟩
  show Q (V.bl (!inV (.str x) (ss.map V.str))) H
  rw [inV_strs]
  exact q _ B H (Ex.refl B) s rfl
theorem o_inS {c : Nat} {z : Str} : Op2 (rInU K) Fr As (X (.str ⟨#[c]⟩)) (X (.str z)) (X (.bl (decide (c ∈ z.cps.toList)))) := fun v y B Ms Gs H Q g s a q1 q2 q => by
  rw [dp_str q1, dp_str q2]
  exact .inl ⟨c, z, rfl, rfl, q _ B H (Ex.refl B) s rfl⟩
theorem o_notinS {c : Nat} {z : Str} : Op2 (rNotInU K) Fr As (X (.str ⟨#[c]⟩)) (X (.str z)) (X (.bl (!decide (c ∈ z.cps.toList)))) := fun v y B Ms Gs H Q g s a q1 q2 q => by
  rw [dp_str q1, dp_str q2]
  exact .inl ⟨c, z, rfl, rfl, q _ B H (Ex.refl B) s rfl⟩
/-- is it None -/
def nonD : PyData → Bool
  | .none => true
  | _ => false
theorem o_isN {d : PyData} : Op2 rIsNU Fr As (D K d) (X .non) (X (.bl (nonD d))) := fun v y B Ms Gs H Q g s a q1 q2 q => by
  refine ⟨dp_none q2, ?_⟩
  have e : decide (v = V.non) = nonD d := by
    have q1' : Dp K B v d := D.to q1
    cases q1' <;> rfl
  rw [e]
  exact q _ B H (Ex.refl B) s rfl
theorem o_notN {d : PyData} : Op2 rNotNU Fr As (D K d) (X .non) (X (.bl (!nonD d))) := fun v y B Ms Gs H Q g s a q1 q2 q => by
  refine ⟨dp_none q2, ?_⟩
  have e : decide (v = V.non) = nonD d := by
    have q1' : Dp K B v d := D.to q1
    cases q1' <;> rfl
  rw [e]
  exact q _ B H (Ex.refl B) s rfl
theorem atI_get {α β : Type} {xs : List α} {ys : List β} (h : xs.length = ys.length) {i : Int} {y : β} (e : atI ys i = some y) : ∃ (j : Nat) (x : α), ys[j]? = some y ∧ xs[j]? = some x ∧ atI xs i = some x := by
  unfold atI at e ⊢
  cases z : ixN ys.length i with
  | none => rw [z] at e; cases e
  | some j =>
    rw [z] at e
    have e' : ys[j]? = some y := e
    have hj : j < xs.length := by rw [h]; exact (List.getElem?_eq_some_iff.mp e').1
    refine ⟨j, xs[j], e', by simp [hj], ?_⟩
    rw [h, z]
    show xs[j]? = some xs[j]
    simp [hj]
theorem o_ixL {ds : List PyData} {i : Int} {d : PyData} (h : Rl K As r ds) (hi : atI ds i = some d) : Op2 (rIx K) Fr As r (X (.int i)) (D K d) := fun x y B Ms Gs H Q g s a q1 q2 q => by
  obtain ⟨l, vs, e, h1, h2⟩ := h.ok g s a q1
  subst e
  obtain ⟨j, v, e1, e2, e3⟩ := atI_get (dpa_len h2) hi
  obtain ⟨d', e4, hd⟩ := dpa_get h2 e2
  rw [e1] at e4
  cases e4
  rw [dp_int q2]
  exact .inl ⟨l, vs, i, v, rfl, rfl, h1, e3, q _ B H (Ex.refl B) s (D.of hd)⟩
theorem o_ixT {ds : List PyData} {i : Int} {d : PyData} (hi : atI ds i = some d) : Op2 (rIx K) Fr As (D K (.tuple ds)) (X (.int i)) (D K d) := fun x y B Ms Gs H Q g s a q1 q2 q => by
  have q1' : Dp K B x (.tuple ds) := q1
  cases q1' with
  | tup h1 h2 =>
    obtain ⟨j, v, e1, e2, e3⟩ := atI_get (dpa_len h2) hi
    obtain ⟨d', e4, hd⟩ := dpa_get h2 e2
    rw [e1] at e4
    cases e4
    rw [dp_int q2]
    exact .inr (.inl ⟨_, _, i, v, rfl, rfl, sqt_mono (s.sub B List.mem_cons_self) h1, e3, q _ B H (Ex.refl B) s (D.of hd)⟩)
theorem o_ixS {z : Str} {i : Int} {c : Nat} (hz : z.length ≤ sizeLine) (hi : atI z.cps.toList i = some c) : Op2 (rIx K) Fr As (X (.str z)) (X (.int i)) (X (.str ⟨#[c]⟩)) := fun x y B Ms Gs H Q g s a q1 q2 q => by
  rw [dp_str q1, dp_int q2]
  exact .inr (.inr ⟨z, i, c, rfl, rfl, hz, hi, q _ B H (Ex.refl B) s rfl⟩)
theorem n_lenL {ds : List PyData} (h : Rl K As r ds) : OpN (rLenU K) Fr As [r] (X (.int ds.length)) := fun vs B Ms Gs H Q g s a q1 q => by
  match vs, q1 with
  | [v], ⟨q1, _⟩ =>
    obtain ⟨l, us, e, h1, h2⟩ := h.ok g s a q1
    subst e
    refine ⟨_, us.length, rfl, .inl ⟨us, h1, rfl⟩, ?_⟩
    rw [dpa_len h2]
    exact q _ B H (Ex.refl B) s rfl
theorem n_lenS {z : Str} (h : z.length ≤ sizeLine) : OpN (rLenU K) Fr As [X (.str z)] (X (.int z.length)) := fun vs B Ms Gs H Q g s a q1 q => by
  match vs, q1 with
  | [v], ⟨q1, _⟩ =>
    rw [dp_str q1]
    exact ⟨_, z.length, rfl, ⟨h, rfl⟩, q _ B H (Ex.refl B) s rfl⟩
theorem n_lenT {ds : List PyData} : OpN (rLenU K) Fr As [D K (.tuple ds)] (X (.int ds.length)) := fun vs B Ms Gs H Q g s a q1 q => by
  match vs, q1 with
  | [v], ⟨q1, _⟩ =>
    have q1' : Dp K B v (.tuple ds) := q1
    cases q1' with
    | tup h1 h2 =>
      refine ⟨_, _, rfl, .inr ⟨_, sqt_mono (s.sub B List.mem_cons_self) h1, rfl⟩, ?_⟩
      rw [dpa_len h2]
      exact q _ B H (Ex.refl B) s rfl
theorem n_list {ds : List PyData} (h : Rl K As r ds) : OpN (rListU K) Fr As [r] (T K ds) := fun vs B Ms Gs H Q g s a q1 q => by
  match vs, q1 with
  | [v], ⟨q1, _⟩ =>
    obtain ⟨l, us, e, h1, h2⟩ := h.ok g s a q1
    subst e
    exact ⟨l, us, rfl, .inl h1, fun p hp => q _ (upd B p (.lst us)) _ (s.newEx hp _) (s.new hp _) ⟨p, us, rfl, upd_same, dpa_mono (s.newEx hp _) h2⟩⟩
theorem n_listT {ds : List PyData} : OpN (rListU K) Fr As [D K (.tuple ds)] (T K ds) := fun vs B Ms Gs H Q g s a q1 q => by
  match vs, q1 with
  | [v], ⟨q1, _⟩ =>
    have q1' : Dp K B v (.tuple ds) := q1
    cases q1' with
    | @tup l us _ h1 h2 => exact ⟨l, us, rfl, .inr (sqt_mono (s.sub B List.mem_cons_self) h1), fun p hp => q _ (upd B p (.lst us)) _ (s.newEx hp _) (s.new hp _) ⟨p, us, rfl, upd_same, dpa_mono (s.newEx hp _) h2⟩⟩
theorem n_tuple {ds : List PyData} (h : Rl K As r ds) : OpN (rTupleU K) Fr As [r] (D K (.tuple ds)) := fun vs B Ms Gs H Q g s a q1 q => by
  match vs, q1 with
  | [v], ⟨q1, _⟩ =>
    obtain ⟨l, us, e, h1, h2⟩ := h.ok g s a q1
    subst e
    exact ⟨l, us, rfl, .inl ⟨h1, fun p hp => q _ (upd B p (.tup us)) _ (s.newEx hp _) (s.new hp _) (Dp.tup (SqT.of upd_same) (dpa_mono (s.newEx hp _) h2))⟩⟩
theorem n_min {i j : Int} : OpN rMinU Fr As [X (.int i), X (.int j)] (X (.int (if j < i then j else i))) := fun vs B Ms Gs H Q g s a q1 q => by
  match vs, q1 with
  | [v, u], ⟨q1, q2, _⟩ =>
    rw [dp_int q1, dp_int q2]
    exact ⟨i, j, rfl, q _ B H (Ex.refl B) s rfl⟩
theorem n_intB {b : Bool} : OpN rIntU Fr As [X (.bl b)] (X (.int (if b then 1 else 0))) := fun vs B Ms Gs H Q g s a q1 q => by
  match vs, q1 with
  | [v], ⟨q1, _⟩ =>
    rw [dp_bool q1]
    exact .inr ⟨b, rfl, q _ B H (Ex.refl B) s rfl⟩
theorem n_any {bs : List Bool} (h : Rl K As r (bs.map PyData.bool)) : OpN (rAny K) Fr As [r] (X (.bl (bs.any id))) := fun vs B Ms Gs H Q g s a q1 q => by
  match vs, q1 with
  | [v], ⟨q1, _⟩ =>
    obtain ⟨l, us, e, h1, h2⟩ := h.ok g s a q1
    subst e
    rw [dpa_bools h2] at h1
    exact ⟨l, bs, rfl, h1, q _ B H (Ex.refl B) s rfl⟩
theorem n_all {bs : List Bool} (h : Rl K As r (bs.map PyData.bool)) : OpN (rAll K) Fr As [r] (X (.bl (bs.all id))) := fun vs B Ms Gs H Q g s a q1 q => by
  match vs, q1 with
  | [v], ⟨q1, _⟩ =>
    obtain ⟨l, us, e, h1, h2⟩ := h.ok g s a q1
    subst e
    rw [dpa_bools h2] at h1
    exact ⟨l, bs, rfl, h1, q _ B H (Ex.refl B) s rfl⟩
def cutD {α : Type} (xs : List α) (lo hi : Option Int) : List α := (xs.drop (HT.sIx xs.length 0 lo)).take (HT.sIx xs.length xs.length hi - HT.sIx xs.length 0 lo)
theorem e_sl {te : TE} {tl th : TO} {ρ : Rho} {lo hi : Option Int} {ds : List PyData} (he : E te ρ Fr As r) (h : Rl K As r ds) (hl : EO tl ρ Fr As lo) (hh : EO th ρ Fr As hi) : E (tSl (rSlU K) te tl th) ρ Fr As (T K (cutD ds lo hi)) := fun σ B Ms Gs H Q g e s a q =>
  he σ B Ms Gs H _ g e s a fun x B1 H1 x1 s1 q1 => hl σ B1 Ms Gs H1 _ g (e.mono x1) s1 (a.mono x1) fun B2 H2 x2 s2 => hh σ B2 Ms Gs H2 _ g (e.mono (x1.trans x2)) s2 (a.mono (x1.trans x2)) fun B3 H3 x3 s3 => by
    obtain ⟨l, vs, ev, h1, h2⟩ := h.ok g s3 (a.mono ((x1.trans x2).trans x3)) (r.mono (x2.trans x3) q1)
    subst ev
    refine .inl ⟨l, vs, rfl, h1, fun p hp => q _ (upd B3 p (.lst (cutV vs lo hi))) _ (((x1.trans x2).trans x3).trans (s3.newEx hp _)) (s3.new hp _) ⟨p, _, rfl, upd_same, dpa_mono (s3.newEx hp _) ?_⟩⟩
    unfold cutV cutD
    rw [dpa_len h2]
    exact dpa_take _ (dpa_drop _ h2)
theorem e_slS {te : TE} {tl th : TO} {ρ : Rho} {lo hi : Option Int} {z : Str} (he : E te ρ Fr As (X (.str z))) (hz : z.length ≤ sizeLine) (hl : EO tl ρ Fr As lo) (hh : EO th ρ Fr As hi) : E (tSl (rSlU K) te tl th) ρ Fr As (X (.str (cutS z lo hi))) := fun σ B Ms Gs H Q g e s a q =>
  he σ B Ms Gs H _ g e s a fun x B1 H1 x1 s1 q1 => hl σ B1 Ms Gs H1 _ g (e.mono x1) s1 (a.mono x1) fun B2 H2 x2 s2 => hh σ B2 Ms Gs H2 _ g (e.mono (x1.trans x2)) s2 (a.mono (x1.trans x2)) fun B3 H3 x3 s3 => by
    rw [dp_str q1]
    exact .inr ⟨z, rfl, hz, q _ B3 H3 ((x1.trans x2).trans x3) s3 rfl⟩
end
end DL

set_option maxHeartbeats 2000000
namespace DL
open PySem L2

section
variable {K : PySem.W.Frag} {Fr : List Hp} {As : List Asn} {r r1 r2 : Rdb} {ρ : Rho} {B0 : Hp} {D0 : Ends} {σ : L2.St} {H : Hp} {tu tw tz tb : TS} {tl te : TE} {tt tc : TT} {g0 : TG}
theorem Cur.base {B1 : Hp} (x : Ex B0 B1) (c : Cur B1 Fr As ρ σ H) : Cur B0 Fr As ρ σ H := by
  obtain ⟨B, Ms, y, e, s, a⟩ := c.ex
  exact ⟨B, Ms, x.trans y, e, s, a⟩
theorem Res.base {B1 : Hp} {v : V} (x : Ex B0 B1) (c : Res B1 Fr As r v H) : Res B0 Fr As r v H := by
  obtain ⟨B, Ms, y, s, a, q⟩ := c
  exact ⟨B, Ms, x.trans y, s, a, q⟩
/-- a list that stands still -/
inductive Rs (K : PySem.W.Frag) : Rdb → List PyData → Prop
  | t (ds : List PyData) : Rs K (T K ds) ds
  | d (ds : List PyData) : Rs K (D K (.list ds)) ds
  | w (ds : List PyData) : Rs K (W K ds) ds
theorem Rs.ok {ds : List PyData} (h : Rs K r ds) {v : V} {B : Hp} (q : r.p v B Fr) : ∃ l vs, v = .ref l ∧ (SqL K B l vs ∨ ∃ M ∈ Fr, M l = some (.lst vs)) ∧ DpAll K B vs ds := by
  cases h with
  | t => exact Le.ok (.tw ds) v B Fr q
  | d => exact Le.ok (.dw ds) v B Fr q
  | w => exact q
theorem still {l : Addr} {vs : List V} {B B1 : Hp} {Ms Gs : List Hp} (g : ∀ M ∈ Fr, M ∈ Gs) (h : SqL K B l vs ∨ ∃ M ∈ Fr, M l = some (.lst vs)) (x : Ex B B1) (s : Split H (B1 :: (Ms ++ Gs))) : SqL K H l vs := by
  rcases h with h | ⟨M, hM, z⟩
  · exact sql_mono (s.sub B1 List.mem_cons_self) (sql_mono x h)
  · exact SqL.of (s.get (List.mem_cons_of_mem _ (List.mem_append_right _ (g M hM))) z)
/-- a target takes a datum: the slots js -/
def TgOk (K : PySem.W.Frag) (Fr : List Hp) (g0 : TG) (d : PyData) (js : List Nat) (f : Rho → Rho) : Prop := ∀ v B H σ ρ Q, EnvP B Fr σ ρ → Ex B H → Dp K B v d →
  (∀ σ', EnvP B Fr σ' (f ρ) → (∀ vs : List Nat, (∀ j ∈ js, j ∈ vs) → wipe σ' vs = wipe σ vs) → Q σ' H) → g0 v σ H Q
theorem set_set_comm {σ : L2.St} (i j : Nat) (a b : Option V) (h : i ≠ j) : (σ.set i a).set j b = (σ.set j b).set i a := List.set_comm a b h
theorem wipe_set : ∀ (vs : List Nat) (σ : L2.St) (j : Nat) (x : Option V), wipe (σ.set j x) vs = if j ∈ vs then wipe σ vs else (wipe σ vs).set j x
  | [], σ, j, x => by rw [if_neg (List.not_mem_nil)]; rfl
  | v :: vs, σ, j, x => by
    show (wipe (σ.set j x) vs).set v none = _
    rw [wipe_set vs σ j x]
    by_cases h : j ∈ vs
    · rw [if_pos h, if_pos (List.mem_cons_of_mem _ h)]; rfl
    · rw [if_neg h]
      by_cases e : j = v
      · subst e
        rw [if_pos List.mem_cons_self, List.set_set]; rfl
      · rw [if_neg (fun z => (List.mem_cons.mp z).elim e h), List.set_comm _ _ e]
        rfl
theorem tg_name {j : Nat} {d : PyData} : TgOk K Fr (gName j) d [j] fun ρ => ρ.set j (some (D K d)) := fun v B H σ ρ Q e x h q =>
  q _ (e.set (r := D K d) (D.of h) j) fun vs hv => by rw [wipe_set, if_pos (hv j (by simp))]
theorem tg_tup2 {i j : Nat} {d e0 : PyData} : TgOk K Fr (gTup K 2 (gCons (gName i) (gCons (gName j) gNil))) (.tuple [d, e0]) [i, j] fun ρ => (ρ.set i (some (D K d))).set j (some (D K e0)) := fun v B H σ ρ Q e x h q => by
  cases h with
  | tup h1 h2 =>
    cases h2 with
    | cons p1 h2 =>
      cases h2 with
      | cons p2 h2 =>
        cases h2
        refine ⟨_, _, rfl, sqt_mono x h1, rfl, _, _, rfl, _, _, rfl, rfl, q _ ((e.set (r := D K d) (D.of p1) i).set (r := D K e0) (D.of p2) j) fun vs hv => ?_⟩
        rw [wipe_set, if_pos (hv j (by simp)), wipe_set, if_pos (hv i (by simp))]
theorem tg_tup3 {i j k : Nat} {d e0 f0 : PyData} : TgOk K Fr (gTup K 3 (gCons (gName i) (gCons (gName j) (gCons (gName k) gNil)))) (.tuple [d, e0, f0]) [i, j, k] fun ρ => ((ρ.set i (some (D K d))).set j (some (D K e0))).set k (some (D K f0)) := fun v B H σ ρ Q e x h q => by
  cases h with
  | tup h1 h2 =>
    cases h2 with
    | cons p1 h2 =>
      cases h2 with
      | cons p2 h2 =>
        cases h2 with
        | cons p3 h2 =>
          cases h2
          refine ⟨_, _, rfl, sqt_mono x h1, rfl, _, _, rfl, _, _, rfl, _, _, rfl, rfl, q _ (((e.set (r := D K d) (D.of p1) i).set (r := D K e0) (D.of p2) j).set (r := D K f0) (D.of p3) k) fun vs hv => ?_⟩
          rw [wipe_set, if_pos (hv k (by simp)), wipe_set, if_pos (hv j (by simp)), wipe_set, if_pos (hv i (by simp))]
def ptail (xs : List PyData) (vs : List V) (i : Nat) : Prop := True
theorem drop_get {α : Type} {xs : List α} {i : Nat} {x : α} (h : xs[i]? = some x) : xs.drop i = x :: xs.drop (i + 1) := by
  obtain ⟨h1, h2⟩ := List.getElem?_eq_some_iff.mp h
  rw [List.drop_eq_getElem_cons h1, h2]
/-- for target in a list that stands still; I rest: what holds while rest is still to come -/
theorem x_for {α : Type} (enc : α → PyData) (xs : List α) (I : List α → List Asn → Rho → Prop) {js : List Nat} {f : α → Rho → Rho} (c : Cur B0 Fr As ρ σ H) (hl : E tl ρ Fr As r) (hr : Rs K r (xs.map enc)) (tg : ∀ x, TgOk K Fr g0 (enc x) js (f x)) (h0 : I xs As ρ)
    (hs : ∀ B1 x rest As' ρ' σ' H', Ex B0 B1 → x ∈ xs → I (x :: rest) As' ρ' → Cur B1 Fr As' (f x ρ') σ' H' →
      tb { D0 with nx := fun σ2 H2 => ∃ As2 ρ2, I rest As2 ρ2 ∧ Cur B1 Fr As2 ρ2 σ2 H2, ct := fun σ2 H2 => ∃ As2 ρ2, I rest As2 ρ2 ∧ Cur B1 Fr As2 ρ2 σ2 H2, bk := tz D0 } σ' H')
    (hd : ∀ As' ρ' σ' H', I [] As' ρ' → Cur B0 Fr As' ρ' σ' H' → tz D0 σ' H') : tSeq (tFor (iList K tl) g0 tb) tz D0 σ H := by
  obtain ⟨B, Ms, x0, e, s, a⟩ := c.ex
  refine hl σ B Ms Fr H _ (fun _ h => h) e s a fun v B1 H1 x1 s1 q1 => ?_
  obtain ⟨l, vs, ev, h1, h2⟩ := hr.ok q1
  have hlen : vs.length = xs.length := by rw [dpa_len h2, List.length_map]
  refine ⟨l, ev, ⟨vs, still (fun _ h => h) h1 (Ex.refl B1) s1⟩, for_list (K := K) (a := l) (xs := vs) (fun i σ2 H2 => ∃ As2 ρ2, I (xs.drop i) As2 ρ2 ∧ Cur B1 Fr As2 ρ2 σ2 H2) ⟨As, ρ, h0, ⟨B1, Ms, Ex.refl B1, e.mono x1, s1, a.mono x1⟩⟩ ?_ ?_ ?_⟩
  · rintro i σ2 H2 _ ⟨As2, ρ2, _, c2⟩
    obtain ⟨B2, Ms2, x2, e2, s2, a2⟩ := c2.ex
    exact still (fun _ h => h) h1 x2 s2
  · rintro i y σ2 H2 hi ⟨As2, ρ2, hI, c2⟩
    obtain ⟨B2, Ms2, x2, e2, s2, a2⟩ := c2.ex
    obtain ⟨d, hd1, hd2⟩ := dpa_get h2 hi
    rw [List.getElem?_map] at hd1
    cases hx : xs[i]? with
    | none => rw [hx] at hd1; cases hd1
    | some x =>
      rw [hx] at hd1
      have ed : enc x = d := Option.some.inj hd1
      subst ed
      rw [drop_get hx] at hI
      refine tg x y B2 H2 σ2 ρ2 _ e2 (s2.sub B2 List.mem_cons_self) (dp_mono x2 hd2) fun σ' e' _ => ?_
      exact hs B1 x (xs.drop (i + 1)) As2 ρ2 σ' H2 (x0.trans x1) (List.mem_of_getElem? hx) hI ⟨B2, Ms2, x2, e', s2, a2⟩
  · rintro σ2 H2 ⟨As2, ρ2, hI, c2⟩
    rw [hlen, List.drop_length] at hI
    exact hd As2 ρ2 σ2 H2 hI (c2.base (x0.trans x1))
/-- over range(n) -/
theorem x_forR {j : Nat} {n : Int} {ta : TA} (I : Nat → List Asn → Rho → Prop) (c : Cur B0 Fr As ρ σ H) (hl : EA ta ρ Fr As [X (.int n)]) (hn : n < 1000000) (hn0 : -1000000 < n) (h0 : I 0 As ρ)
    (hs : ∀ (i : Nat) As' ρ' σ' H', (i : Int) < n → I i As' ρ' → Cur B0 Fr As' (ρ'.set j (some (X (.int (i : Int))))) σ' H' →
      tb { D0 with nx := fun σ2 H2 => ∃ As2 ρ2, I (i + 1) As2 ρ2 ∧ Cur B0 Fr As2 ρ2 σ2 H2, ct := fun σ2 H2 => ∃ As2 ρ2, I (i + 1) As2 ρ2 ∧ Cur B0 Fr As2 ρ2 σ2 H2, bk := tz D0 } σ' H')
    (hd : ∀ As' ρ' σ' H', I n.toNat As' ρ' → Cur B0 Fr As' ρ' σ' H' → tz D0 σ' H') : tSeq (tFor (iRng1 ta) (gName j) tb) tz D0 σ H := by
  obtain ⟨B, Ms, x0, e, s, a⟩ := c.ex
  refine hl σ B Ms Fr H _ (fun _ h => h) e s a fun vs B1 H1 x1 s1 q1 => ?_
  match vs, q1 with
  | [v], ⟨q1, _⟩ =>
    rw [dp_int q1]
    refine ⟨n, rfl, by omega, by omega, for_range (lo := 0) (n := n.toNat) (fun i σ2 H2 => ∃ As2 ρ2, I i As2 ρ2 ∧ Cur B0 Fr As2 ρ2 σ2 H2) ⟨As, ρ, h0, ⟨B1, Ms, x0.trans x1, e.mono x1, s1, a.mono x1⟩⟩ ?_ ?_⟩
    · rintro i σ2 H2 hi ⟨As2, ρ2, hI, c2⟩
      obtain ⟨B2, Ms2, x2, e2, s2, a2⟩ := c2.ex
      have e0 : (0 : Int) + (i : Int) = (i : Int) := Int.zero_add _
      rw [e0]
      exact hs i As2 ρ2 _ H2 (by omega) hI ⟨B2, Ms2, x2, e2.set (r := X (.int (i : Int))) rfl j, s2, a2⟩
    · rintro σ2 H2 ⟨As2, ρ2, hI, c2⟩
      exact hd As2 ρ2 σ2 H2 hI c2
theorem x_while (I : Nat → List Asn → Rho → Prop) (m0 : Nat) (c : Cur B0 Fr As ρ σ H) (h0 : I m0 As ρ)
    (hs : ∀ m As' ρ' σ' H', I m As' ρ' → Cur B0 Fr As' ρ' σ' H' → ∃ b, ET tc ρ' Fr As' b ∧
      (b = true → ∀ H1, Cur B0 Fr As' ρ' σ' H1 → tb { D0 with nx := fun σ2 H2 => ∃ m2 As2 ρ2, m2 < m ∧ I m2 As2 ρ2 ∧ Cur B0 Fr As2 ρ2 σ2 H2, ct := fun σ2 H2 => ∃ m2 As2 ρ2, m2 < m ∧ I m2 As2 ρ2 ∧ Cur B0 Fr As2 ρ2 σ2 H2, bk := tz D0 } σ' H1) ∧
      (b = false → ∀ H1, Cur B0 Fr As' ρ' σ' H1 → tz D0 σ' H1)) : tSeq (tWhile tc tb) tz D0 σ H := by
  refine ⟨fun m σ2 H2 => ∃ As2 ρ2, I m As2 ρ2 ∧ Cur B0 Fr As2 ρ2 σ2 H2, ⟨m0, As, ρ, h0, c⟩, ?_⟩
  rintro m σ2 H2 ⟨As2, ρ2, hI, c2⟩
  obtain ⟨b, hb, h1, h2⟩ := hs m As2 ρ2 σ2 H2 hI c2
  obtain ⟨B2, Ms2, x2, e2, s2, a2⟩ := c2.ex
  refine hb σ2 B2 Ms2 Fr H2 _ (fun _ h => h) e2 s2 a2 fun B3 H3 x3 s3 => ?_
  have c3 : Cur B0 Fr As2 ρ2 σ2 H3 := ⟨B3, Ms2, x2.trans x3, e2.mono x3, s3, a2.mono x3⟩
  cases b with
  | true => exact iteT ⟨fun σ2 H2 => ∃ m2 As2 ρ2, m2 < m ∧ I m2 As2 ρ2 ∧ Cur B0 Fr As2 ρ2 σ2 H2, fun σ4 H4 ⟨m2, As2, ρ2, hm, hI, c4⟩ => ⟨m2, hm, As2, ρ2, hI, c4⟩, h1 rfl H3 c3⟩
  | false => exact iteF (h2 rfl H3 c3)
def wipeR (ρ : Rho) : List Nat → Rho
  | [] => ρ
  | v :: vs => (wipeR ρ vs).set v none
theorem EnvP.wipe {B : Hp} {Ms : List Hp} (e : EnvP B Ms σ ρ) : ∀ vs : List Nat, EnvP B Ms (wipe σ vs) (wipeR ρ vs)
  | [] => e
  | v :: vs => (EnvP.wipe e vs).setN v
theorem wipe_wipe (vs us : List Nat) (h : ∀ j ∈ us, j ∈ vs) : L2.wipe (L2.wipe σ us) vs = L2.wipe σ vs := by
  induction us with
  | nil => rfl
  | cons u us ih =>
    show L2.wipe ((L2.wipe σ us).set u none) vs = _
    rw [wipe_set, if_pos (h u (by simp)), ih fun j hj => h j (List.mem_cons_of_mem _ hj)]
theorem filter_take {α : Type} {xs : List α} {i : Nat} {x : α} (h : xs[i]? = some x) (p : α → Bool) : (xs.take (i + 1)).filter p = (xs.take i).filter p ++ (if p x then [x] else []) := by
  have e : xs.take (i + 1) = xs.take i ++ [x] := by
    obtain ⟨h1, h2⟩ := List.getElem?_eq_some_iff.mp h
    rw [List.take_add_one, h]
    rfl
  rw [e, List.filter_append, List.filter_cons, List.filter_nil]
/-- [e for target in a list (if t)] -/
theorem e_lc {α : Type} (enc : α → PyData) (xs : List α) (p : α → Bool) (g2 : α → PyData) {js vs : List Nat} {f : α → Rho → Rho} (hl : E tl ρ Fr As r) (hr : Rl K As r (xs.map enc)) (hz : xs.length ≤ 100000) (tg : ∀ x, TgOk K Fr g0 (enc x) js (f x))
    (hj : ∀ j ∈ js, j ∈ vs) (ht : ∀ x ∈ xs, ET tt (f x (wipeR ρ vs)) Fr As (p x)) (rg : α → Rdb) (he : ∀ x ∈ xs, p x = true → E te (f x (wipeR ρ vs)) Fr As (rg x)) (hg : ∀ x ∈ xs, Dt K (rg x) (g2 x)) :
    E (tLc (iList K tl) g0 tt te vs) ρ Fr As (T K ((xs.filter p).map g2)) := fun σ B Ms Gs H Q g e s a q =>
  hl σ B Ms Gs H _ g e s a fun v B1 H1 x1 s1 q1 => by
    obtain ⟨l, us, ev, h1, h2⟩ := hr.at (a.mono x1) q1
    have hlen : us.length = xs.length := by rw [dpa_len h2, List.length_map]
    have rd : ∀ {B2 H2 : Hp} {Gs2 : List Hp}, Ex B1 B2 → (∀ M ∈ Fr, M ∈ Gs2) → Split H2 (B2 :: (Ms ++ Gs2)) → SqL K H2 l us := fun {B2 H2 Gs2} x2 g2 s2 => by
      rcases h1 with h | ⟨M, hM, z⟩
      · exact sql_mono (s2.sub B2 List.mem_cons_self) (sql_mono x2 h)
      · exact SqL.of (s2.get (List.mem_cons_of_mem _ (sub_app g2 M hM)) z)
    refine ⟨l, ev, ⟨us, rd (Ex.refl B1) g s1⟩, fun Dl hD => ?_⟩
    have gD : ∀ o, ∀ M ∈ Fr, M ∈ one Dl o :: Gs := fun o M h => List.mem_cons_of_mem _ (g M h)
    -- behind i items
    refine lc_list (K := K) (a := l) (xs := us) (fun i H2 => ∃ B2 acc, Ex B1 B2 ∧ Split H2 (B2 :: (Ms ++ (one Dl (.lst acc) :: Gs))) ∧ DpAll K B2 acc (((xs.take i).filter p).map g2)) ?_ ?_ ?_ ?_
    · refine ⟨B1, [], Ex.refl B1, ?_, .nil⟩
      exact (s1.new1 hD (.lst [])).perm ((List.Perm.swap _ _ _).trans ((List.perm_middle.symm).cons B1))
    · rintro i H2 _ ⟨B2, acc, x2, s2, _⟩
      exact rd x2 (gD _) s2
    · rintro i y H2 hi ⟨B2, acc, x2, s2, d2⟩
      obtain ⟨d, hd1, hd2⟩ := dpa_get h2 hi
      rw [List.getElem?_map] at hd1
      cases hx : xs[i]? with
      | none => rw [hx] at hd1; cases hd1
      | some x =>
        rw [hx] at hd1
        have ed : enc x = d := Option.some.inj hd1
        subst ed
        have hm : x ∈ xs := List.mem_of_getElem? hx
        have ex2 : Ex B B2 := x1.trans x2
        refine tg x y B2 H2 (L2.wipe σ vs) (wipeR ρ vs) _ ((e.mono ex2).wipe vs) (s2.sub B2 List.mem_cons_self) (dp_mono x2 hd2) fun σ' e' hw => ?_
        refine ⟨by rw [hw vs hj, wipe_wipe vs vs fun _ h => h], ?_⟩
        refine ht x hm σ' B2 Ms _ H2 _ (gD _) e' s2 (a.mono ex2) fun B3 H3 x3 s3 => ?_
        cases hp : p x with
        | false =>
          refine iteF ⟨B3, acc, x2.trans x3, s3, ?_⟩
          rw [filter_take hx, hp]
          simpa using dpa_mono x3 d2
        | true =>
          refine iteT (he x hm hp σ' B3 Ms _ H3 _ (gD _) (e'.mono x3) s3 (a.mono (ex2.trans x3)) fun z B4 H4 x4 s4 q4 => ?_)
          have s5 : Split H4 (one Dl (.lst acc) :: B4 :: (Ms ++ Gs)) := s4.perm (((List.perm_middle).cons B4).trans (List.Perm.swap _ _ _))
          have hacc : acc.length ≤ xs.length := by
            rw [dpa_len d2, List.length_map]
            exact Nat.le_trans (List.length_filter_le _ _) (by rw [List.length_take]; omega)
          refine ⟨acc, s5.head one_same, Nat.lt_of_le_of_lt (Nat.le_trans hacc hz) (by decide), B4, acc ++ [z], (x2.trans x3).trans x4, ?_, ?_⟩
          · exact (s5.write1 (.lst (acc ++ [z]))).perm ((List.Perm.swap _ _ _).trans ((List.perm_middle.symm).cons B4))
          · rw [filter_take hx, hp, List.map_append]
            exact dpa_app (dpa_mono (x3.trans x4) d2) (.cons ((hg x hm).ok q4) .nil)
    · rintro H2 ⟨B2, acc, x2, s2, d2⟩
      have s5 : Split H2 (one Dl (.lst acc) :: B2 :: (Ms ++ Gs)) := s2.perm (((List.perm_middle).cons B2).trans (List.Perm.swap _ _ _))
      obtain ⟨dd, _⟩ := List.pairwise_cons.mp s5.dis
      have xn : Ex B2 (un (one Dl (.lst acc)) B2) := Ex.unr (dd B2 List.mem_cons_self)
      refine q _ (un (one Dl (.lst acc)) B2) H2 ((x1.trans x2).trans xn) s5.join ⟨Dl, acc, rfl, un_l one_same, dpa_mono xn ?_⟩
      rw [hlen, List.take_length] at d2
      exact d2
/-- .. over range(n) -/
theorem e_lcR (n : Int) (p : Nat → Bool) (g2 : Nat → PyData) {ta : TA} {j : Nat} {vs : List Nat} (hl : EA ta ρ Fr As [X (.int n)]) (hn : n ≤ 100000) (hn0 : -100000 ≤ n) (hj : j ∈ vs)
    (ht : ∀ i : Nat, (i : Int) < n → ET tt ((wipeR ρ vs).set j (some (X (.int (i : Int))))) Fr As (p i)) (rg : Nat → Rdb) (he : ∀ i : Nat, (i : Int) < n → p i = true → E te ((wipeR ρ vs).set j (some (X (.int (i : Int))))) Fr As (rg i)) (hg : ∀ i : Nat, (i : Int) < n → Dt K (rg i) (g2 i)) :
    E (tLc (iRng1 ta) (gName j) tt te vs) ρ Fr As (T K (((List.range n.toNat).filter p).map g2)) := fun σ B Ms Gs H Q g e s a q =>
  hl σ B Ms Gs H _ g e s a fun us B1 H1 x1 s1 q1 => by
    match us, q1 with
    | [v], ⟨q1, _⟩ =>
      rw [dp_int q1]
      refine ⟨n, rfl, by omega, by omega, fun Dl hD => ?_⟩
      have gD : ∀ o, ∀ M ∈ Fr, M ∈ one Dl o :: Gs := fun o M h => List.mem_cons_of_mem _ (g M h)
      refine lc_range (lo := 0) (n := n.toNat) (fun i H2 => ∃ B2 acc, Ex B1 B2 ∧ Split H2 (B2 :: (Ms ++ (one Dl (.lst acc) :: Gs))) ∧ DpAll K B2 acc (((List.range i).filter p).map g2)) ?_ ?_ ?_
      · refine ⟨B1, [], Ex.refl B1, ?_, .nil⟩
        exact (s1.new1 hD (.lst [])).perm ((List.Perm.swap _ _ _).trans ((List.perm_middle.symm).cons B1))
      · rintro i H2 hi ⟨B2, acc, x2, s2, d2⟩
        have hi' : (i : Int) < n := by omega
        have ex2 : Ex B B2 := x1.trans x2
        have e0 : (0 : Int) + (i : Int) = (i : Int) := Int.zero_add _
        rw [e0]
        have e' : EnvP B2 Fr ((L2.wipe σ vs).set j (some (.int (i : Int)))) ((wipeR ρ vs).set j (some (X (.int (i : Int))))) := ((e.mono ex2).wipe vs).set (r := X (.int (i : Int))) rfl j
        refine ⟨by rw [wipe_set, if_pos hj, wipe_wipe vs vs fun _ h => h], ?_⟩
        refine ht i hi' _ B2 Ms _ H2 _ (gD _) e' s2 (a.mono ex2) fun B3 H3 x3 s3 => ?_
        cases hp : p i with
        | false =>
          refine iteF ⟨B3, acc, x2.trans x3, s3, ?_⟩
          rw [List.range_succ, List.filter_append, List.filter_cons, hp]
          simpa using dpa_mono x3 d2
        | true =>
          refine iteT (he i hi' hp _ B3 Ms _ H3 _ (gD _) (e'.mono x3) s3 (a.mono (ex2.trans x3)) fun z B4 H4 x4 s4 q4 => ?_)
          have s5 : Split H4 (one Dl (.lst acc) :: B4 :: (Ms ++ Gs)) := s4.perm (((List.perm_middle).cons B4).trans (List.Perm.swap _ _ _))
          have hacc : acc.length ≤ 100000 := by
            rw [dpa_len d2, List.length_map]
            refine Nat.le_trans (List.length_filter_le _ _) ?_
            rw [List.length_range]
            omega
          refine ⟨acc, s5.head one_same, Nat.lt_of_le_of_lt hacc (by decide), B4, acc ++ [z], (x2.trans x3).trans x4, ?_, ?_⟩
          · exact (s5.write1 (.lst (acc ++ [z]))).perm ((List.Perm.swap _ _ _).trans ((List.perm_middle.symm).cons B4))
          · rw [List.range_succ, List.filter_append, List.filter_cons, hp, List.map_append]
            exact dpa_app (dpa_mono (x3.trans x4) d2) (.cons ((hg i hi').ok q4) .nil)
      · rintro H2 ⟨B2, acc, x2, s2, d2⟩
        have s5 : Split H2 (one Dl (.lst acc) :: B2 :: (Ms ++ Gs)) := s2.perm (((List.perm_middle).cons B2).trans (List.Perm.swap _ _ _))
        obtain ⟨dd, _⟩ := List.pairwise_cons.mp s5.dis
        have xn : Ex B2 (un (one Dl (.lst acc)) B2) := Ex.unr (dd B2 List.mem_cons_self)
        exact q _ (un (one Dl (.lst acc)) B2) H2 ((x1.trans x2).trans xn) s5.join ⟨Dl, acc, rfl, un_l one_same, dpa_mono xn d2⟩
/-- name = an expression that makes a list: it becomes one's own -/
theorem x_own {i : Nat} {ds : List PyData} (c : Cur B0 Fr As ρ σ H) (h : ∀ σ B Ms Gs H Q, (∀ M ∈ Fr, M ∈ Gs) → EnvP B Fr σ ρ → Split H (B :: (Ms ++ Gs)) → AllP B As Ms → (∀ p vs B2 H2, Ex B B2 → Split H2 (B2 :: (Ms ++ Gs)) → H2 p = none → DpAll K B2 vs ds → Q (.ref p) (upd H2 p (.lst vs))) → te σ H Q)
    (k : ∀ l σ1 H1, Cur B0 Fr (OwnL K l ds :: As) (ρ.set i (some (X (.ref l)))) σ1 H1 → tz D0 σ1 H1) : tSeq (tAsg te (gName i)) tz D0 σ H := by
  obtain ⟨B, Ms, x, e, s, a⟩ := c.ex
  refine h σ B Ms Fr H _ (fun _ h => h) e s a fun p vs B2 H2 x2 s2 hp d => ?_
  refine k p _ _ ⟨B2, one p (.lst vs) :: Ms, x.trans x2, (e.mono x2).set (r := X (.ref p)) rfl i, ?_, ⟨vs, rfl, d⟩, a.mono x2⟩
  exact (s2.new1 hp (.lst vs)).perm (List.Perm.swap _ _ _)
/-- [] -/
theorem own_nil : ∀ σ B Ms Gs H Q, (∀ M ∈ Fr, M ∈ Gs) → EnvP B Fr σ ρ → Split H (B :: (Ms ++ Gs)) → AllP B As Ms → (∀ p vs B2 H2, Ex B B2 → Split H2 (B2 :: (Ms ++ Gs)) → H2 p = none → DpAll K B2 vs [] → Q (.ref p) (upd H2 p (.lst vs))) → tLst tNil σ H Q :=
  fun σ B Ms Gs H Q g e s a q => ⟨Nat.zero_le _, fun p hp => q p [] B H (Ex.refl B) s hp .nil⟩
/-- list(..) -/
theorem own_list {ta : TA} {ds : List PyData} (h : EA ta ρ Fr As [r]) (hr : Rl K As r ds) : ∀ σ B Ms Gs H Q, (∀ M ∈ Fr, M ∈ Gs) → EnvP B Fr σ ρ → Split H (B :: (Ms ++ Gs)) → AllP B As Ms → (∀ p vs B2 H2, Ex B B2 → Split H2 (B2 :: (Ms ++ Gs)) → H2 p = none → DpAll K B2 vs ds → Q (.ref p) (upd H2 p (.lst vs))) → tCB (rListU K) ta σ H Q :=
  fun σ B Ms Gs H Q g e s a q => h σ B Ms Gs H _ g e s a fun vs B1 H1 x1 s1 q1 => by
    match vs, q1 with
    | [v], ⟨q1, _⟩ =>
      obtain ⟨l, us, ev, h1, h2⟩ := hr.ok g s1 (a.mono x1) q1
      subst ev
      exact ⟨l, us, rfl, .inl h1, fun p hp => q p us B1 H1 x1 s1 hp h2⟩
theorem x_append {l : Addr} {ds : List PyData} {d : PyData} {ta : TE} (c : Cur B0 Fr (OwnL K l ds :: As) ρ σ H) (ha : E ta ρ Fr (OwnL K l ds :: As) (X (.ref l))) (h : E te ρ Fr (OwnL K l ds :: As) r) (hd : Dt K r d) (hz : ds.length < 1000000)
    (k : ∀ H1, Cur B0 Fr (OwnL K l (ds ++ [d]) :: As) ρ σ H1 → tz D0 σ H1) : tSeq (tDrop (tBM K "list" rAppend ta (tCons te tNil))) tz D0 σ H := by
  obtain ⟨B, Ms, x, e, s, a⟩ := c.ex
  refine ha σ B Ms Fr H _ (fun _ h => h) e s a fun v B1 H1 x1 s1 q1 => ?_
  have ev : v = .ref l := q1
  subst ev
  have look : ∀ {B2 H2 : Hp}, Split H2 (B2 :: (Ms ++ Fr)) → AllP B2 (OwnL K l ds :: As) Ms → ∃ vs, H2 l = some (.lst vs) ∧ DpAll K B2 vs ds := fun {B2 H2} s2 a2 => by
    obtain ⟨M, hM, vs, e1, h2⟩ := a2.get List.mem_cons_self
    exact ⟨vs, s2.get (P := M) (List.mem_cons_of_mem _ (List.mem_append_left _ hM)) (by rw [e1]; exact one_same), h2⟩
  obtain ⟨vs, hl, _⟩ := look s1 (a.mono x1)
  refine ⟨.inl ⟨rfl, vs, SqL.of hl⟩, ?_⟩
  refine h σ B1 Ms Fr H1 _ (fun _ h => h) (e.mono x1) s1 (a.mono x1) fun y B2 H2 x2 s2 q2 => ?_
  match Ms, a, s2 with
  | M :: Ms, a, s2 =>
    obtain ⟨⟨us, eM, du⟩, a2⟩ := a.mono (x1.trans x2)
    subst eM
    have s3 : Split H2 (one l (.lst us) :: B2 :: (Ms ++ Fr)) := s2.perm (List.Perm.swap _ _ _)
    refine ⟨l, us, y, rfl, rfl, s3.head one_same, Nat.lt_of_lt_of_le (by rw [dpa_len du]; exact hz) (by decide), ?_⟩
    refine k _ ⟨B2, one l (.lst (us ++ [y])) :: Ms, (x.trans x1).trans x2, e.mono (x1.trans x2), ?_, ⟨us ++ [y], rfl, dpa_app du (.cons (hd.ok q2) .nil)⟩, a2⟩
    exact (s3.write1 _).perm (List.Perm.swap _ _ _)
  | [], a, _ => exact a.elim
/-- at the end: what is told, all else still -/
def Ret (B0 : Hp) (Fr : List Hp) (r : Rdb) (v : V) (H : Hp) : Prop := ∃ B, Ex B0 B ∧ Split H (B :: Fr) ∧ r.p v B []
theorem Split.melt {B : Hp} {Ms Gs : List Hp} (s : Split H (B :: (Ms ++ Gs))) : Split H (un (uni Ms) B :: Gs) ∧ Ex B (un (uni Ms) B) ∧ ∀ M ∈ Ms, Ex M (un (uni Ms) B) := by
  have s1 : Split H (Ms ++ (B :: Gs)) := s.perm List.perm_middle.symm
  obtain ⟨s2, m⟩ := s1.close
  obtain ⟨d, _⟩ := List.pairwise_cons.mp s2.dis
  exact ⟨s2.join, Ex.unr (d B List.mem_cons_self), fun M hM => (m.sub M hM).trans Ex.unl⟩
theorem Res.ret {r' : Rdb} {v : V} (h : Res B0 Fr As r v H) (c : ∀ B, r.p v B Fr → r'.p v B []) : Ret B0 Fr r' v H := by
  obtain ⟨B, Ms, x, s, a, q⟩ := h
  obtain ⟨s2, x2, _⟩ := s.melt
  exact ⟨_, x.trans x2, s2, c _ (r.mono x2 q)⟩
theorem Res.own {v : V} {l : Addr} {ds : List PyData} (h : Res B0 Fr As (X (.ref l)) v H) (hm : OwnL K l ds ∈ As) : Ret B0 Fr (T K ds) v H := by
  obtain ⟨B, Ms, x, s, a, q⟩ := h
  obtain ⟨s2, x2, x3⟩ := s.melt
  obtain ⟨M, hM, vs, e1, h2⟩ := a.get hm
  exact ⟨_, x.trans x2, s2, l, vs, q, x3 M hM l _ (by rw [e1]; exact one_same), dpa_mono x2 h2⟩
/-- the promise of a def that reads its arguments and tells something new -/
def PSp {α : Type} (args : α → List Rdb) (pre : α → Prop) (out : α → Rdb) : Sp := fun vs H Q _ => ∃ (x : α) (B : Hp) (Ms : List Hp), Split H (B :: Ms) ∧ RepsP B Ms vs (args x) ∧ pre x ∧ ∀ v H2, Ret B Ms (out x) v H2 → Q v H2
theorem psp_len {α : Type} {args : α → List Rdb} {pre : α → Prop} {out : α → Rdb} {n : Nat} (h : ∀ x, (args x).length = n) : ∀ vs H Q E, PSp args pre out vs H Q E → vs.length = n := fun vs H Q E ⟨x, B, Ms, _, q, _⟩ => by rw [q.len, h]
theorem PSp.sp1 {α : Type} {args : α → List Rdb} {pre : α → Prop} {out : α → Rdb} {Ee : XK} (x : α) (hx : pre x) : Sp1 (PSp args pre out) Ee Fr As (args x) (out x) := fun vs B Ms Gs H Q g s a q1 q =>
  ⟨x, B, Ms ++ Gs, s, q1, hx, fun v H2 ⟨B2, x2, s2, q2⟩ => q v B2 H2 x2 s2 ((out x).sub (fun _ h => absurd h List.not_mem_nil) q2)⟩
theorem e_callP {α : Type} {args : α → List Rdb} {pre : α → Prop} {out : α → Rdb} {Ee : XK} {t : TA} {rs : List Rdb} (x : α) (ha : EA t ρ Fr As rs) (hc : Las K As rs (args x)) (hx : pre x) : E (tCall (PSp args pre out) [] Ee t) ρ Fr As (out x) :=
  e_call ha hc (PSp.sp1 x hx)
/-- where a def begins -/
theorem envP_start : ∀ {B : Hp} {Ms : List Hp} {vs : List V} {rs : List Rdb} (n : Nat), RepsP B Ms vs rs → EnvP B Ms (vs.map some ++ List.replicate n none) (rs.map some ++ List.replicate n none)
  | B, Ms, [], [], 0, _ => trivial
  | B, Ms, [], [], n + 1, _ => ⟨trivial, envP_start (vs := []) (rs := []) n trivial⟩
  | B, Ms, v :: vs, r :: rs, n, ⟨h, t⟩ => ⟨⟨v, rfl, h⟩, envP_start n t⟩
  | _, _, [], _ :: _, _, h => h.elim
  | _, _, _ :: _, [], _, h => h.elim
theorem begin_ {N : List Str} {B : Hp} {Ms : List Hp} {vs : List V} {rs : List Rdb} (s : Split H (B :: Ms)) (q : RepsP B Ms vs rs) : Cur B Ms [] (rs.map some ++ List.replicate (N.length - rs.length) none) (L2.start N vs) H :=
  ⟨B, [], Ex.refl B, by unfold L2.start; rw [q.len]; exact envP_start _ q, s, trivial⟩
end
end DL

set_option maxHeartbeats 2000000
namespace DL
open PySem PySem.Spec PyProof.Rows L2

/-- the module's def of that name keeps its promise -/
structure GFn (P : Program) (w : World) (K : PySem.W.Frag) (mg : Str → Option Value) (base : Heap) (k : Nat) (x : Str) (dvs : List V) (sp : Sp) : Prop where
  ex : ∃ (f : Addr) (fd : FuncData) (ps : List Str) (ds : List Value), mg x = some (.ref f) ∧ PySem.W.keepIn K (.ref f) = true ∧ Binds K fd ps ds ∧ Vals dvs ds ∧ FnOk P w K mg base (L2.CX P w) k f fd ps sp
/-- a class's method -/
structure GMe (P : Program) (w : World) (K : PySem.W.Frag) (mg : Str → Option Value) (base : Heap) (k : Nat) (C : Addr) (m : Str) (dvs : List V) (sp : Sp) : Prop where
  ex : ∃ (f : Addr) (fd : FuncData) (ps : List Str) (ds : List Value), Meth K C m f ∧ Binds K fd ps ds ∧ Vals dvs ds ∧ FnOk P w K mg base (L2.CX P w) k f fd ps sp
/-- a class's making -/
structure GMk (P : Program) (w : World) (K : PySem.W.Frag) (mg : Str → Option Value) (base : Heap) (k : Nat) (x : Str) (C : Addr) (dvs : List V) (sp : Sp) : Prop where
  ex : ∃ (f : Addr) (fd : FuncData) (ps : List Str) (ds : List Value), mg x = some (.ref C) ∧ Mk K C f ∧ Binds K fd ps ds ∧ Vals dvs ds ∧ FnOk P w K mg base (L2.CX P w) k f fd ps sp
section
variable {P : Program} {w : World} {K : PySem.W.Frag} {mg : Str → Option Value} {base : Heap} {k j : Nat} {x m : Str} {C : Addr} {dvs : List V} {sp : Sp}
theorem GFn.mono (G : GFn P w K mg base k x dvs sp) (h : k ≤ j) : GFn P w K mg base j x dvs sp := by
  obtain ⟨f, fd, ps, ds, h1, h2, h3, h4, h5⟩ := G.ex
  exact ⟨f, fd, ps, ds, h1, h2, h3, h4, h5.mono h⟩
end
def kCall (sp : Sp) (dvs : List V) (W : WX) (t : TA) : TE := fun σ H Q => t σ H fun vs H1 => sp (vs ++ dvs) H1 Q (WE W σ)
def kMeth (C : Addr) (m : Str) (sp : Sp) (dvs : List V) (W : WX) (ta : TE) (t : TA) : TE := fun σ H Q => ta σ H fun x H1 => ∃ a dx fs, x = .ref a ∧ H1 a = some (.ins C dx fs) ∧ fs.lookup m = none ∧
  t σ H1 fun vs H2 => sp (x :: (vs ++ dvs)) H2 Q (WE W σ)
def kMake (C : Addr) (sp : Sp) (dvs : List V) (W : WX) (t : TA) : TE := fun σ H Q => t σ H fun vs H1 => ∀ x dx, H1 x = none → H1 dx = none → dx ≠ x →
  sp (.ref x :: (vs ++ dvs)) (upd (upd H1 dx (.own x)) x (.ins C dx [])) (fun v H2 => v = .non ∧ Q (.ref x) H2) (WE W σ)
abbrev W0 : WX := fun _ _ _ _ => False
abbrev WO (E : XK) : WX := fun cls d _ H => E cls d H
section
variable {X : Cx} {k k' : Nat} {x m : Str} {C : Addr} {dvs : List V} {sp : Sp} {W : WX} {o e : Expr} {es : List Expr} {ta : TE} {t : TA} {p pos apos : Pos}
theorem g_call (G : GFn X.prog X.w X.K X.mg X.base k x dvs sp) (hr : Room k' X.A) (hk : k ≤ k') (tk : Takes X W) (ha : PA X (e :: es) t) (hg : Gl X x := by rfl)
    (hdb : (x == ("__debug__" : Str)) = false := by decide) (he : starEach (e :: es) X.env = (false, eval e X.env) :: starEach es X.env := by rfl) (hpl : (backTo pos (starEach es X.env)).any (·.1) = false := by rfl) :
    PE X (.Call (.Name x p) (e :: es) [] pos) (kCall sp dvs W t) := by
  obtain ⟨f, fd, ps, ds, h1, h2, h3, h4, h5⟩ := G.ex
  exact pe_callSD (E := WE W) h5 (hr.mono hk) hg h1 h2 h3 h4 (fun σ => passAt tk σ) ha hdb he hpl
theorem g_call0 (G : GFn X.prog X.w X.K X.mg X.base k x dvs sp) (hr : Room k' X.A) (hk : k ≤ k') (tk : Takes X W) (hg : Gl X x := by rfl)
    (hdb : (x == ("__debug__" : Str)) = false := by decide) :
    PE X (.Call (.Name x p) [] [] pos) (kCall sp dvs W tNil) := by
  obtain ⟨f, fd, ps, ds, h1, h2, h3, h4, h5⟩ := G.ex
  refine ⟨fun pins s σ H Q I h => ?_⟩
  refine wpAny_Call_Name_kw (ld_glob I hg h1 ?_ hdb)
  exact PySem.W.callWith_K0 I.kIn h2 (run_fnSD (E := WE W) (us := []) h5 (hr.mono hk) h3 h4 (passAt tk σ) I .nil h)
theorem g_meth {pl : Sem Bool} (G : GMe X.prog X.w X.K X.mg X.base k C m dvs sp) (c : Cls X.K C) (hr : Room k' X.A) (hk : k ≤ k') (tk : Takes X W) (he : PE X o ta) (ha : PA X (e :: es) t)
    (hst : starEach (e :: es) X.env = (false, eval e X.env) :: starEach es X.env := by rfl) (hpl : (backTo pos (starEach es X.env)).any (·.1) = false := by rfl)
    (ht : eval (.Call (.Attribute o m apos) (e :: es) [] pos) X.env = (do
      let ov ← eval o X.env
      standAt apos.atName
      let (f, first) ← holding [ov] (getMethod ov m pl)
      callWith pos f first (backTo pos (starEach (e :: es) X.env)) (backToKw pos (keywordEach [] X.env))) := by rfl) :
    PE X (.Call (.Attribute o m apos) (e :: es) [] pos) (kMeth C m sp dvs W ta t) := by
  obtain ⟨f, fd, ps, ds, hm, h3, h4, h5⟩ := G.ex
  refine ⟨fun pins s σ H Q I h => ?_⟩
  refine PySem.W.methodCall_KW (pl := pl) (thn (he.run pins s σ H _ I h) fun u s1 ⟨x, H1, I1, rx, a, dx, fs, ex, ea, l, q⟩ => ?_) ht
  subst ex
  obtain rfl : u = Value.ref a := rx
  refine getmeth_ok I1 ea c hm l ?_
  refine PySem.W.callWith_K (first := [.ref a]) (h₀ := X.base) I.ok.mod.kin hm.kp (thn (ha.run pos pins s1 σ H1 _ I1 q) fun us s2 ⟨vs, H2, I2, r, q2⟩ => ⟨I2.kIn, ?_⟩) hst hpl
  exact run_fnSD (E := WE W) (us := .ref a :: us) (vs := .ref a :: vs) h5 (hr.mono hk) h3 h4 (passAt tk σ) I2 (.cons rfl r) q2
theorem g_meth0 {pl : Sem Bool} (G : GMe X.prog X.w X.K X.mg X.base k C m dvs sp) (c : Cls X.K C) (hr : Room k' X.A) (hk : k ≤ k') (tk : Takes X W) (he : PE X o ta)
    (ht : eval (.Call (.Attribute o m apos) [] [] pos) X.env = (do
      let ov ← eval o X.env
      standAt apos.atName
      let (f, first) ← holding [ov] (getMethod ov m pl)
      callWith pos f first (backTo pos (starEach [] X.env)) (backToKw pos (keywordEach [] X.env))) := by rfl) :
    PE X (.Call (.Attribute o m apos) [] [] pos) (kMeth C m sp dvs W ta tNil) := by
  obtain ⟨f, fd, ps, ds, hm, h3, h4, h5⟩ := G.ex
  refine ⟨fun pins s σ H Q I h => ?_⟩
  refine PySem.W.methodCall_KW (pl := pl) (thn (he.run pins s σ H _ I h) fun u s1 ⟨x, H1, I1, rx, a, dx, fs, ex, ea, l, q⟩ => ?_) ht
  subst ex
  obtain rfl : u = Value.ref a := rx
  refine getmeth_ok I1 ea c hm l ?_
  exact PySem.W.callWith_K0 (first := [.ref a]) I1.kIn hm.kp (run_fnSD (E := WE W) (us := [.ref a]) (vs := [.ref a]) h5 (hr.mono hk) h3 h4 (passAt tk σ) I1 (.cons rfl .nil) q)
theorem run_makeSD {pins : List (Addr × Obj)} {σ : L2.St} {H : Hp} {s : Shared} {Q : VK} {us : List Value} {vs : List V} {f : Addr} {fd : FuncData} {ps : List Str} {ds : List Value} {E : XK} (M : Mk X.K C f) (F : FnOk X.prog X.w X.K X.mg X.base (L2.CX X.prog X.w) k f fd ps sp) (hr : Room (k + 1) X.A) (hb : Binds X.K fd ps ds) (hd : Vals dvs ds)
    (hx : ∀ (pins : List (Addr × Obj)) (H : Hp) (s : Shared) (e : Value) (s' : Shared), Inv X pins σ H s → (L2.CX X.prog X.w) X.stack H s E e s' → X.xe e s') (I : Inv X pins σ H s) (r : Vals vs us)
    (h : ∀ x dx, H x = none → H dx = none → dx ≠ x → sp (.ref x :: (vs ++ dvs)) (upd (upd H dx (.own x)) x (.ins C dx [])) (fun v H2 => v = .non ∧ Q (.ref x) H2) E) :
    wpAny (model X.prog X.w) X.A (call (.ref C) us) (EP X pins σ Q) X.xe s := by
  have hq := h (s.heap.objs.size + 1) s.heap.objs.size (I.hok.fresh (Nat.le_succ _)) (I.hok.fresh (Nat.le_refl _)) (Nat.ne_of_lt (Nat.lt_succ_self _))
  have I2 := Inv.made (C := C) I
  have r2 : Vals (V.ref (s.heap.objs.size + 1) :: (vs ++ dvs)) (Value.ref (s.heap.objs.size + 1) :: (us ++ ds)) := .cons rfl (r.append hd)
  have hl : (Value.ref (s.heap.objs.size + 1) :: us ++ ds).length = ps.length := by
    have e := r2.length
    rw [F.len _ _ _ _ hq] at e
    exact e.symm
  refine wpAny_call (make_map (f := f) I.kIn M.makes M.init (beq_iff_eq.mp M.fn) (codeAny_mono (F.run _ X.stack _ _ ⟨Value.ref (s.heap.objs.size + 1) :: us, []⟩ (Value.ref (s.heap.objs.size + 1) :: (us ++ ds)) _ _ E (hr.make C us [])
    (I2.env0.make C us []) (hb _ (Value.ref (s.heap.objs.size + 1) :: us) I2.kIn hl) r2 hq) fun r s' hq' => ?_))
  cases r with
  | error e => exact hx pins _ _ e s' I2 hq'
  | ok fl =>
    cases fl with
    | ret u =>
      obtain ⟨v, H', I3, rv, ev, q3⟩ := I2.after hq'
      subst ev
      exact ⟨rv, ⟨V.ref (s.heap.objs.size + 1), H', I3, rfl, q3⟩⟩
    | next => exact False.elim hq'
    | brk => exact False.elim hq'
    | cont => exact False.elim hq'
theorem g_make (G : GMk X.prog X.w X.K X.mg X.base k x C dvs sp) (hr : Room k' X.A) (hk : k + 1 ≤ k') (tk : Takes X W) (ha : PA X (e :: es) t) (hg : Gl X x := by rfl)
    (hdb : (x == ("__debug__" : Str)) = false := by decide) (he : starEach (e :: es) X.env = (false, eval e X.env) :: starEach es X.env := by rfl) (hpl : (backTo pos (starEach es X.env)).any (·.1) = false := by rfl) :
    PE X (.Call (.Name x p) (e :: es) [] pos) (kMake C sp dvs W t) := by
  obtain ⟨f, fd, ps, ds, h1, hm, h3, h4, h5⟩ := G.ex
  refine ⟨fun pins s σ H Q I h => ?_⟩
  refine wpAny_Call_Name_kw (ld_glob I hg h1 ?_ hdb)
  refine PySem.W.callWith_K (h₀ := X.base) I.ok.mod.kin hm.kp (thn (ha.run pos pins s σ H _ I h) fun us s1 ⟨vs, H1, I1, r, q⟩ => ⟨I1.kIn, ?_⟩) he hpl
  exact run_makeSD (E := WE W σ) hm h5 (hr.mono hk) h3 h4 (passAt tk σ) I1 r q
theorem g_make0 (G : GMk X.prog X.w X.K X.mg X.base k x C dvs sp) (hr : Room k' X.A) (hk : k + 1 ≤ k') (tk : Takes X W) (hg : Gl X x := by rfl)
    (hdb : (x == ("__debug__" : Str)) = false := by decide) : PE X (.Call (.Name x p) [] [] pos) (kMake C sp dvs W tNil) := by
  obtain ⟨f, fd, ps, ds, h1, hm, h3, h4, h5⟩ := G.ex
  refine ⟨fun pins s σ H Q I h => ?_⟩
  refine wpAny_Call_Name_kw (ld_glob I hg h1 ?_ hdb)
  exact PySem.W.callWith_K0 I.kIn hm.kp (run_makeSD (E := WE W σ) (us := []) hm h5 (hr.mono hk) h3 h4 (passAt tk σ) I .nil h)
end
section
variable {K : PySem.W.Frag} {Fr : List Hp} {As : List Asn} {r : Rdb} {ρ : Rho} {W : WX}
theorem e_kcallP {α : Type} {args : α → List Rdb} {pre : α → Prop} {out : α → Rdb} {t : TA} {rs : List Rdb} (x : α) (ha : EA t ρ Fr As rs) (hc : Las K As rs (args x)) (hx : pre x) : E (kCall (PSp args pre out) [] W t) ρ Fr As (out x) := fun σ B Ms Gs H Q g e s a q =>
  ha σ B Ms Gs H _ g e s a fun vs B1 H1 x1 s1 q1 => by
    show PSp args pre out (vs ++ []) H1 Q _
    rw [List.append_nil]
    exact PSp.sp1 x hx vs B1 Ms Gs H1 Q g s1 (a.mono x1) ((hc.ok vs B1 Ms (a.mono x1) q1).sub (sub_app g)) fun v B3 H3 x3 s3 q3 => q v B3 H3 (x1.trans x3) s3 q3
end
end DL

set_option maxHeartbeats 4000000
namespace DL
open PySem L2
abbrev strOk (s : Str) : Bool := PyData.strOk s
def depthAll_le {n : Nat} : ∀ {ds : List PyData}, (∀ d ∈ ds, d.depth ≤ n) → PyData.depthAll ds ≤ n
  | [], _ => Nat.zero_le _
  | d :: ds, h => by
    show max d.depth (PyData.depthAll ds) ≤ n
    have h1 := h d List.mem_cons_self
    have h2 := depthAll_le (n := n) (ds := ds) fun e he => h e (List.mem_cons_of_mem _ he)
    omega
theorem canLayAll_of {ds : List PyData} : (∀ d ∈ ds, d.canLay0 = true) → PyData.canLayAll0 ds = true := by
  induction ds with
  | nil => intro _; rfl
  | cons d ds ih =>
    intro h
    show (d.canLay0 && PyData.canLayAll0 ds) = true
    rw [h d List.mem_cons_self, ih fun e he => h e (List.mem_cons_of_mem _ he)]
    rfl
/-- data that may be compared, of nesting at most n -/
def Shp (n : Nat) (d : PyData) : Prop := d.canLay0 = true ∧ d.depth ≤ n
theorem Shp.shaped {n : Nat} {d : PyData} (h : Shp n d) (hn : n ≤ 64 := by decide) : SeqAt.shaped d = true := by
  unfold SeqAt.shaped
  rw [h.1, decide_eq_true (Nat.le_trans h.2 hn)]
  rfl
theorem shp_non {n : Nat} : Shp n .none := ⟨rfl, Nat.zero_le _⟩
theorem shp_bool {n : Nat} {b : Bool} : Shp n (.bool b) := ⟨rfl, Nat.zero_le _⟩
theorem shp_int {n : Nat} {i : Int} : Shp n (.int i) := ⟨rfl, Nat.zero_le _⟩
theorem shp_str {n : Nat} {s : Str} (h : strOk s = true) : Shp n (.str s) := ⟨h, Nat.zero_le _⟩
theorem shp_list {n : Nat} {ds : List PyData} (h : ∀ d ∈ ds, Shp n d) : Shp (n + 1) (.list ds) :=
  ⟨canLayAll_of fun d hd => (h d hd).1, Nat.succ_le_succ (depthAll_le fun d hd => (h d hd).2)⟩
theorem shp_tup {n : Nat} {ds : List PyData} (h : ∀ d ∈ ds, Shp n d) : Shp (n + 1) (.tuple ds) :=
  ⟨canLayAll_of fun d hd => (h d hd).1, Nat.succ_le_succ (depthAll_le fun d hd => (h d hd).2)⟩
theorem shp_map {α : Type} {n : Nat} {f : α → PyData} {xs : List α} (h : ∀ x ∈ xs, Shp n (f x)) : Shp (n + 1) (.list (xs.map f)) :=
  shp_list fun d hd => by
    obtain ⟨x, hx, e⟩ := List.mem_map.mp hd
    rw [← e]
    exact h x hx
theorem Shp.up {n m : Nat} {d : PyData} (h : Shp n d) (k : n ≤ m) : Shp m d := ⟨h.1, Nat.le_trans h.2 k⟩
theorem shp_strs {n : Nat} {ss : List Str} (h : ∀ s ∈ ss, strOk s = true) : Shp (n + 1) (.list (ss.map .str)) := shp_map fun s hs => shp_str (h s hs)
theorem eqv_str {a b : Str} : PyData.eqv (.str a) (.str b) = decide (a = b) := by
  show (a == b) = decide (a = b)
  by_cases h : a = b
  · subst h; simp
  · rw [beq_eq_false_iff_ne.mpr h, decide_eq_false h]
theorem eqv_int {a b : Int} : PyData.eqv (.int a) (.int b) = decide (a = b) := by
  show (a == b) = decide (a = b)
  by_cases h : a = b
  · subst h; simp
  · rw [beq_eq_false_iff_ne.mpr h, decide_eq_false h]
/-- where the encoding tells its things apart -/
theorem eqvAll_map {α : Type} [DecidableEq α] {f : α → PyData} : ∀ {xs ys : List α}, (∀ x ∈ xs, ∀ y ∈ ys, PyData.eqv (f x) (f y) = decide (x = y)) → PyData.eqvAll (xs.map f) (ys.map f) = decide (xs = ys)
  | [], [], _ => by rfl
  | [], _ :: _, _ => by rfl
  | _ :: _, [], _ => by rfl
  | x :: xs, y :: ys, h => by
    show (PyData.eqv (f x) (f y) && PyData.eqvAll (xs.map f) (ys.map f)) = decide (x :: xs = y :: ys)
    rw [h x List.mem_cons_self y List.mem_cons_self, eqvAll_map fun a ha b hb => h a (List.mem_cons_of_mem _ ha) b (List.mem_cons_of_mem _ hb)]
    by_cases e1 : x = y <;> by_cases e2 : xs = ys <;> simp [e1, e2]
theorem eqv_list {α : Type} [DecidableEq α] {f : α → PyData} {xs ys : List α} (h : ∀ x ∈ xs, ∀ y ∈ ys, PyData.eqv (f x) (f y) = decide (x = y)) : PyData.eqv (.list (xs.map f)) (.list (ys.map f)) = decide (xs = ys) := by
  show PyData.eqvAll _ _ = _
  exact eqvAll_map h
theorem eqv_strs {xs ys : List Str} : PyData.eqv (.list (xs.map .str)) (.list (ys.map .str)) = decide (xs = ys) := eqv_list fun _ _ _ _ => eqv_str
theorem eqv_nil {ds : List PyData} : PyData.eqv (.list ds) (.list []) = ds.isEmpty := by cases ds <;> rfl

local macro_rules | `(tactic| walk_at "dl") => `(tactic| skip)
end DL
namespace DL
open PySem L2
theorem cutD_map {α β : Type} (f : α → β) (xs : List α) (lo hi : Option Int) : cutD (xs.map f) lo hi = (cutD xs lo hi).map f := by
  unfold cutD
  rw [List.length_map, List.map_take, List.map_drop]
section
variable {K : PySem.W.Frag} {Fr : List Hp} {As : List Asn} {r : Rdb}
theorem e_slM {α : Type} {f : α → PyData} {te : TE} {tl th : TO} {ρ : Rho} {lo hi : Option Int} {xs : List α} (he : E te ρ Fr As r) (h : Rl K As r (xs.map f)) (hl : EO tl ρ Fr As lo) (hh : EO th ρ Fr As hi) : E (tSl (rSlU K) te tl th) ρ Fr As (T K ((cutD xs lo hi).map f)) := by
  rw [← cutD_map]
  exact e_sl he h hl hh
theorem cutD_from {α : Type} (xs : List α) (n : Nat) : cutD xs (some (n : Int)) none = xs.drop n := by
  unfold cutD
  rw [HT.sIx_none, HT.sIx_nat]
  rw [List.take_of_length_le (by rw [List.length_drop]; exact Nat.le_refl _)]
  by_cases h : n ≤ xs.length
  · rw [Nat.min_eq_left h]
  · rw [Nat.min_eq_right (by omega), List.drop_length, List.drop_of_length_le (by omega)]
theorem cutD_to {α : Type} (xs : List α) (n : Nat) : cutD xs none (some (n : Int)) = xs.take n := by
  unfold cutD
  rw [HT.sIx_none, HT.sIx_nat, List.drop_zero, Nat.sub_zero]
  by_cases h : n ≤ xs.length
  · rw [Nat.min_eq_left h]
  · rw [Nat.min_eq_right (by omega), List.take_length, List.take_of_length_le (by omega)]
/-- items by their places, typed -/
theorem atI_map {α β : Type} (f : α → β) (xs : List α) (i : Int) : atI (xs.map f) i = (atI xs i).map f := by
  unfold atI
  rw [List.length_map]
  cases ixN xs.length i with
  | none => rfl
  | some j => show (xs.map f)[j]? = _; rw [List.getElem?_map]; rfl
theorem o_ixM {α : Type} {f : α → PyData} {xs : List α} {i : Int} {x : α} (h : Rl K As r (xs.map f)) (hi : atI xs i = some x) : Op2 (rIx K) Fr As r (D K (.int i)) (D K (f x)) :=
  o_ixL h (by rw [atI_map, hi]; rfl)
theorem Ret.to {B : Hp} {Ms : List Hp} {r' : Rdb} {v : V} {H : Hp} (h : Ret B Ms r v H) (e : r = r') : Ret B Ms r' v H := e ▸ h
end
end DL
namespace DL
theorem cutD_1 {α : Type} (xs : List α) : cutD xs (some 1) none = xs.drop 1 := cutD_from xs 1
section
open PySem L2
variable {X : Cx} {x : Str} {pos : Pos}
theorem g_int {i : Int} (h : ∃ t, X.mg x = some (.int i t)) (hg : Gl X x := by rfl) (hd : (x == ("__debug__" : Str)) = false := by decide) : PE X (.Name x pos) (tC (.int i)) := by
  obtain ⟨t, h⟩ := h
  exact pe_glob hg h ⟨t, rfl⟩ hd
theorem g_str {i : Str} (h : ∃ t, X.mg x = some (.str i t)) (hg : Gl X x := by rfl) (hd : (x == ("__debug__" : Str)) = false := by decide) : PE X (.Name x pos) (tC (.str i)) := by
  obtain ⟨t, h⟩ := h
  exact pe_glob hg h ⟨t, rfl⟩ hd
theorem g_ref {i : Addr} (h : X.mg x = some (.ref i)) (hg : Gl X x := by rfl) (hd : (x == ("__debug__" : Str)) = false := by decide) : PE X (.Name x pos) (tC (.ref i)) := pe_glob hg h rfl hd
end
end DL

set_option maxHeartbeats 4000000
namespace DL
open PySem PySem.Spec PyProof.Rows L2
/-- the base class at L: what its name, its __init__ are -/
structure LeOk (K : PySem.W.Frag) (mg : Str → Option Value) (L : Addr) : Prop where
  gL : mg "LookError" = some (.ref L)
  sg : PySem.W.specialIn K (.ref L) "__getattribute__" = some (some (.builtin "type.__getattribute__"))
  rd : PySem.W.readsIn K L (.type "type") = true
  fc : PySem.W.findCls K (.ref L) (.type "type") "__init__" = some (.val (.builtin "ValueError.__init__"))
section
variable {X : Cx} {o e : Expr} {es : List Expr} {to te : TE} {ta : TA} {f : Str} {p p' p1 p2 pos : Pos}
theorem pe_leinit {pl : Sem Bool} {L : Addr} (T : LeOk X.K X.mg L) (ha : PA X (e :: es) ta) (hg : Gl X "LookError" := by rfl)
    (hc : eval (.Call (.Attribute (.Name "LookError" p1) "__init__" p2) (e :: es) [] pos) X.env = (do
      let ov ← eval (.Name "LookError" p1) X.env
      standAt p2.atName
      let (f, first) ← holding [ov] (getMethod ov "__init__" pl)
      callWith pos f first (backTo pos (starEach (e :: es) X.env)) (backToKw pos (keywordEach [] X.env))) := by rfl)
    (he : starEach (e :: es) X.env = (false, eval e X.env) :: starEach es X.env := by rfl) (hpl : (backTo pos (starEach es X.env)).any (·.1) = false := by rfl) :
    PE X (.Call (.Attribute (.Name "LookError" p1) "__init__" p2) (e :: es) [] pos) (tVeI X.K ta) := by
  refine ⟨fun pins s σ H Q I h => ?_⟩
  refine PySem.W.methodCall_KW (ld_glob I hg T.gL ?_ (by decide)) hc
  refine PySem.W.method_cls I.kIn T.sg (PySem.W.cls_value I.kIn T.rd T.fc (by decide +kernel) ?_)
  show wpAny _ _ (callWith pos (Value.builtin "ValueError.__init__") [] (backTo pos (starEach (e :: es) X.env)) []) _ _ _
  refine PyProof.Rows.callWith_method1 (thn (ha.run pos pins _ σ H _ (I.tok _) h) fun us s1 ⟨vs, H1, I1, r1, a, C, ws, ev, hl, T2, ea, q⟩ => ?_) he hpl
  subst ev
  cases r1 with
  | @cons _ u0 _ ur ra rw' =>
    obtain rfl : u0 = Value.ref a := ra
    have hlen : ur.length ≤ sizeLine := by
      rw [← Paired.length rw', sizeLine_eq]
      omega
    exact oinit_ok T2 I1 ea hlen fun s' J => ⟨.non, H1, J, rfl, q⟩
end
/-- the class at C, its __init__ keeping sp -/
structure GEx (P : Program) (w : World) (K : PySem.W.Frag) (mg : Str → Option Value) (base : Heap) (k : Nat) (x : Str) (C : Addr) (sp : Sp) : Prop where
  ex : ∃ (f : Addr) (fd : FuncData) (ps : List Str), mg x = some (.ref C) ∧ OexC K C ∧ PySem.W.findIn K (.ref C) "__init__" = some (some (.ref f)) ∧ PySem.W.typeIn K (.ref f) = some (.type "function") ∧ L2.Binds K fd ps [] ∧ FnOk P w K mg base (L2.CX P w) k f fd ps sp
def kRaise (C : Addr) (sp : Sp) (W : WX) (t : TA) : TS := fun _ σ H => tMkO C sp [] t σ H fun cls d H' => W cls d σ H'
def kRaise0 (C : Addr) (W : WX) : TS := fun _ σ H => W (.ref C) none σ H
/-- an own class without an __init__ of its own -/
structure GEx0 (K : PySem.W.Frag) (mg : Str → Option Value) (x : Str) (C : Addr) : Prop where
  g : mg x = some (.ref C)
  q : PySem.W.excIn K C He.veBase "ValueError.__new__" = true
  k : PySem.W.keepIn K (.ref C) = true
  b : PySem.W.subIn K (.ref C) (.type "BaseException") = some true
  t : PySem.W.typeIn K (.ref C) = some (.type "type")
section
variable {X : Cx} {k k' : Nat} {x : Str} {C : Addr} {sp : Sp} {W : WX} {e : Expr} {es : List Expr} {t : TA} {p pos pos2 : Pos}
theorem g_raise (G : GEx X.prog X.w X.K X.mg X.base k x C sp) (hc : X.calm = true) (hr : Room k' X.A) (hk : k + 1 ≤ k') (tk : Takes X W) (ha : PA X (e :: es) t) (hg : Gl X x := by rfl)
    (hdb : (x == ("__debug__" : Str)) = false := by decide) (he : starEach (e :: es) X.env = (false, eval e X.env) :: starEach es X.env := by rfl) (hpl : (backTo pos (starEach es X.env)).any (·.1) = false := by rfl) :
    PS X (.Raise (some (.Call (.Name x p) (e :: es) [] pos)) none pos2) (kRaise C sp W t) := by
  obtain ⟨f, fd, ps, h1, h2, h3, h4, h5, h6⟩ := G.ex
  exact ps_raise hc tk (pmk_oex h2 h3 h4 h6 (hr.mono hk) h5 .nil passL hg h1 ha hdb he hpl)
theorem pmk_own0 {B newId initId : String} {bmB : List Value} (F : ExcBaseFacts B newId initId bmB) (q : PySem.W.excIn X.K C bmB newId = true) (gC : X.mg x = some (.ref C)) (kC : PySem.W.keepIn X.K (.ref C) = true) (r : Raises X (.ref C)) (hg : Gl X x)
    (hdb : (x == ("__debug__" : Str)) = false := by decide) : PMk X (.Call (.Name x p) [] [] pos) (fun _ H Q => Q (.ref C) none H) := by
  intro pins s σ H Q I h
  refine wpAny_Call_Name_kw (ld_glob I hg gC ?_ hdb)
  refine PySem.W.callWith_K0 I.kIn kC ?_
  show wpAny _ _ (call (.ref C) []) _ _ _
  obtain ⟨bm, N, nm, qn, bs, hdct, sn, sub, ab, col, dd, k0, k1, k2, k3, k5, mN, hC, hN, hni, T⟩ := exc_obj I.kIn q
  refine wpAny_call_exc_subT F T hC hN hni (fun h' e hm => ?_) (Nat.zero_le _)
  exact mk_of I hm r h (I.hok.gone hm.new)
theorem g_raise0 (G : GEx0 X.K X.mg x C) (hc : X.calm = true) (tk : Takes X W) (hg : Gl X x := by rfl) (hdb : (x == ("__debug__" : Str)) = false := by decide) :
    PS X (.Raise (some (.Call (.Name x p) [] [] pos)) none pos2) (kRaise0 C W) :=
  ps_raise hc tk (pmk_own0 PySem.F.excBase_ValueError G.q G.g G.k (raises_own G.b G.t) hg hdb)
end
/-- an exception: its class, its fields (the last one stored first) -/
structure Exn where
  C : Addr
  fs : List (Str × Rdb)
def FldP (B : Hp) : List (Str × V) → List (Str × Rdb) → Prop
  | [], [] => True
  | (f, v) :: vs, (g, r) :: rs => f = g ∧ r.p v B [] ∧ FldP B vs rs
  | _, _ => False
theorem FldP.mono {B B' : Hp} (e : Ex B B') : ∀ {vs : List (Str × V)} {rs : List (Str × Rdb)}, FldP B vs rs → FldP B' vs rs
  | [], [], _ => trivial
  | (f, v) :: vs, (g, r) :: rs, ⟨h1, h2, h3⟩ => ⟨h1, r.mono e h2, FldP.mono e h3⟩
  | [], _ :: _, h => h.elim
  | _ :: _, [], h => h.elim
def XRet (B0 : Hp) (Fr : List Hp) (e : Exn) (d : Option Addr) (H : Hp) : Prop := ∃ B, Ex B0 B ∧ Split H (B :: Fr) ∧ (match e.fs with
  | [] => d = none
  | _ => ∃ a vs, d = some a ∧ B a = some (.xd vs) ∧ FldP B vs e.fs)
def XRes (B0 : Hp) (Fr : List Hp) (As : List Asn) (e : Exn) (d : Option Addr) (H : Hp) : Prop := ∃ B Ms, Ex B0 B ∧ Split H (B :: (Ms ++ Fr)) ∧ AllP B As Ms ∧ (match e.fs with
  | [] => d = none
  | _ => ∃ a vs, d = some a ∧ B a = some (.xd vs) ∧ FldP B vs e.fs)
section
variable {K : PySem.W.Frag} {Fr : List Hp} {As : List Asn} {ρ : Rho} {B0 : Hp} {D0 : Ends} {σ : L2.St} {H : Hp} {W : WX} {C : Addr} {r r1 r2 : Rdb} {te te2 : TE}
theorem XRes.ret {e : Exn} {d : Option Addr} (h : XRes B0 Fr As e d H) : XRet B0 Fr e d H := by
  obtain ⟨B, Ms, x, s, a, q⟩ := h
  obtain ⟨s2, x2, _⟩ := s.melt
  refine ⟨_, x.trans x2, s2, ?_⟩
  obtain ⟨C, fs⟩ := e
  cases fs with
  | nil => exact q
  | cons f fs =>
    obtain ⟨a, vs, e1, e2, e3⟩ := q
    exact ⟨a, vs, e1, x2 _ _ e2, e3.mono x2⟩
theorem XRes.base {B1 : Hp} {e : Exn} {d : Option Addr} (x : Ex B0 B1) (h : XRes B1 Fr As e d H) : XRes B0 Fr As e d H := by
  obtain ⟨B, Ms, y, s, a, q⟩ := h
  exact ⟨B, Ms, x.trans y, s, a, q⟩
/-- self.f = v alone -/
def spX1 (C : Addr) (f : Str) : Sp := fun vs H Q _ => ∃ a y, vs = [.ref a, y] ∧ H a = some (exo a C none) ∧ ∀ d, H d = none → d ≠ a → Q .non (upd (upd H d (exd d [(f, y)])) a (exo a C (some d)))
theorem del_upd {H : Hp} {a d : Addr} {o1 o2 o3 o4 : HO} (ha : H a = none) (hd : d ≠ a) : upd (del (upd (upd (upd H a o1) d o2) a o3) a) d o4 = upd H d o4 := by
  funext b
  unfold upd del
  by_cases h1 : b = d
  · rw [if_pos h1, if_pos h1]
  · rw [if_neg h1, if_neg h1]
    by_cases h2 : b = a
    · rw [if_pos h2, h2, ha]
    · rw [if_neg h2]
      show (if b = a then some o3 else if b = d then some o2 else if b = a then some o1 else H b) = H b
      rw [if_neg h2, if_neg h1, if_neg h2]
theorem x_raise1 {f : Str} (c : Cur B0 Fr As ρ σ H) (h : E te ρ Fr As r) (hr : ∀ v B, r.p v B Fr → r1.p v B []) (k : ∀ d H1, XRes B0 Fr As ⟨C, [(f, r1)]⟩ d H1 → W (.ref C) d σ H1) : kRaise C (spX1 C f) W (tCons te tNil) D0 σ H := by
  obtain ⟨B, Ms, x, e, s, a⟩ := c.ex
  refine h σ B Ms Fr H _ (fun _ h => h) e s a fun v B1 H1 x1 s1 q1 => ⟨by show 1 ≤ 1000; decide, fun b hb => ?_⟩
  refine ⟨b, v, rfl, upd_same, fun d hd hne => ⟨rfl, d, [(f, v)], ?_, ?_, ?_, ?_⟩⟩
  · exact upd_same
  · rw [upd_ne hne, upd_same]
  · rw [upd_ne hne] at hd; exact hd
  · have hd1 : H1 d = none := by rw [upd_ne hne] at hd; exact hd
    rw [del_upd hb hne]
    refine k _ _ ⟨upd B1 d (.xd [(f, v)]), Ms, (x.trans x1).trans (s1.newEx hd1 _), s1.new hd1 _, a.mono (x1.trans (s1.newEx hd1 _)), d, [(f, v)], rfl, upd_same, rfl, r1.mono (s1.newEx hd1 _) (hr v B1 q1), trivial⟩
theorem x_raise0 (c : Cur B0 Fr As ρ σ H) (k : ∀ H1, XRes B0 Fr As ⟨C, []⟩ none H1 → W (.ref C) none σ H1) : kRaise0 C W D0 σ H := by
  obtain ⟨B, Ms, x, e, s, a⟩ := c.ex
  exact k H ⟨B, Ms, x, s, a, rfl⟩
end
/-- the promise of a def that may raise -/
def PSx {α : Type} (args : α → List Rdb) (pre : α → Prop) (out : α → Except Exn Rdb) : Sp := fun vs H Q Ee => ∃ (x : α) (B : Hp) (Ms : List Hp), Split H (B :: Ms) ∧ RepsP B Ms vs (args x) ∧ pre x ∧ (match out x with
  | .ok r => ∀ v H2, Ret B Ms r v H2 → Q v H2
  | .error e => ∀ d H2, XRet B Ms e d H2 → Ee (.ref e.C) d H2)
theorem psx_len {α : Type} {args : α → List Rdb} {pre : α → Prop} {out : α → Except Exn Rdb} {n : Nat} (h : ∀ x, (args x).length = n) : ∀ vs H Q E, PSx args pre out vs H Q E → vs.length = n := fun vs H Q E ⟨x, B, Ms, _, q, _⟩ => by rw [q.len, h]
end DL

set_option maxHeartbeats 2000000
namespace DL
open PySem L2
section
variable {X : Cx} {o e : Expr} {es : List Expr} {to te : TE} {apos pos : Pos}
def rSplit : V → List V → Hp → VK → Prop := fun x xs H Q => ∃ a b, x = .str a ∧ xs = [.str b] ∧ (b.length == 0) = false ∧ a.length + 2 ≤ sizeLine ∧ rNewStrs (Txt.split a b) H Q
def rPart : V → List V → Hp → VK → Prop := fun x xs H Q => ∃ a b, x = .str a ∧ xs = [.str b] ∧ (b.length == 0) = false ∧ a.length ≤ sizeLine ∧
    ∀ p, H p = none → Q (.ref p) (upd H p (.tup [.str (Txt.partition a b).1, .str (Txt.partition a b).2.1, .str (Txt.partition a b).2.2]))
def rJoin (K : PySem.W.Frag) : V → List V → Hp → VK → Prop := fun x xs H Q => ∃ a p, ∃ ys : List Str, x = .str a ∧ xs = [.ref p] ∧ (SqL K H p (ys.map V.str) ∨ SqT K H p (ys.map V.str)) ∧
    (ys.map (·.length)).sum + ys.length * a.length ≤ 16777216 ∧ Q (.str (Txt.join a ys)) H
def rFind : V → List V → Hp → VK → Prop := fun x xs H Q => ∃ a b, x = .str a ∧ xs = [.str b] ∧ Q (.int (Txt.find a b)) H
def rCount : V → List V → Hp → VK → Prop := fun x xs H Q => ∃ a b, x = .str a ∧ xs = [.str b] ∧ Q (.int (Txt.count a b)) H
theorem pe_splitU (ho : PE X o to) (he : PE X e te) (hs : starEach [e] X.env = [(false, eval e X.env)] := by rfl) (hbase : attributeBase o "split" X.env (eval o X.env) = eval o X.env := by rfl) (hline : (apos.endLine == pos.line) = true := by rfl) :
    PE X (.Call (.Attribute o "split" apos) [e] [] pos) (tM1 rSplit to te) := pe_m1 PySem.F.slot_str_split PySem.F.type_str_split mt_split ho he hs hbase hline
theorem pe_partU (ho : PE X o to) (he : PE X e te) (hs : starEach [e] X.env = [(false, eval e X.env)] := by rfl) (hbase : attributeBase o "partition" X.env (eval o X.env) = eval o X.env := by rfl) (hline : (apos.endLine == pos.line) = true := by rfl) :
    PE X (.Call (.Attribute o "partition" apos) [e] [] pos) (tM1 rPart to te) := pe_m1 PySem.F.slot_str_partition PySem.F.type_str_partition mt_partition ho he hs hbase hline
theorem pe_joinU (ho : PE X o to) (he : PE X e te) (hs : starEach [e] X.env = [(false, eval e X.env)] := by rfl) (hbase : attributeBase o "join" X.env (eval o X.env) = eval o X.env := by rfl) (hline : (apos.endLine == pos.line) = true := by rfl) :
    PE X (.Call (.Attribute o "join" apos) [e] [] pos) (tM1 (rJoin X.K) to te) := pe_m1 PySem.F.slot_str_join PySem.F.type_str_join mt_join ho he hs hbase hline
theorem pe_findU (ho : PE X o to) (he : PE X e te) (hs : starEach [e] X.env = [(false, eval e X.env)] := by rfl) (hbase : attributeBase o "find" X.env (eval o X.env) = eval o X.env := by rfl) (hline : (apos.endLine == pos.line) = true := by rfl) :
    PE X (.Call (.Attribute o "find" apos) [e] [] pos) (tM1 rFind to te) := pe_m1 PySem.F.slot_str_find PySem.F.type_str_find mt_find ho he hs hbase hline
theorem pe_countU (ho : PE X o to) (he : PE X e te) (hs : starEach [e] X.env = [(false, eval e X.env)] := by rfl) (hbase : attributeBase o "count" X.env (eval o X.env) = eval o X.env := by rfl) (hline : (apos.endLine == pos.line) = true := by rfl) :
    PE X (.Call (.Attribute o "count" apos) [e] [] pos) (tM1 rCount to te) := pe_m1 PySem.F.slot_str_count PySem.F.type_str_count mt_count ho he hs hbase hline
/-- the receiver wants a token -/
theorem pet_splitU (ho : PET X o to) (he : PE X e te) (hs : starEach [e] X.env = [(false, eval e X.env)] := by rfl) (hbase : attributeBase o "split" X.env (eval o X.env) = eval o X.env := by rfl) (hline : (apos.endLine == pos.line) = true := by rfl) :
    PET X (.Call (.Attribute o "split" apos) [e] [] pos) (tM1 rSplit to te) := by
  intro pins s σ H Q h0 I h
  refine PySem.Call_method1 hbase hs hline (thn (ho pins s σ H _ h0 I h) fun v s1 ⟨x, H1, I1, r1, q1⟩ => ?_)
  obtain ⟨⟨a, rfl⟩, q1⟩ := q1
  obtain ⟨t, rfl⟩ := _root_.id r1
  refine ⟨"str", _, PySem.F.plainAttrs_str, PySem.F.slot_str_split, PySem.F.type_str_split, typeIs_str _ _ _, (fun _ e => nomatch e), Calls.callWith_builtin rfl (Calls.evalArgs_plain (Calls.spliced_cons ?_))⟩
  exact thn (he.run pins s1 σ H1 _ I1 q1) fun u s2 ⟨y, H2, I2, r2, q2⟩ => Calls.spliced_nil (mt_split pins s2 σ H2 _ [y] _ [u] Q I2 r1 (.cons r2 .nil) q2)
def rIntS : List V → Hp → VK → Prop := fun xs H Q => ∃ a n, xs = [.str a] ∧ PySem.intText? a = some n ∧ a.length ≤ 640 ∧ Q (.int n) H
theorem u_intS : CallR X (.type "int") rIntS := call_int_str
def rStrI : List V → Hp → VK → Prop := fun xs H Q => ∃ i, xs = [.int i] ∧ i.natAbs.log2 < 1920 ∧ Q (.str (toString i)) H
theorem u_strI : CallR X (.type "str") rStrI := call_str_int
end
end DL
namespace DL
open PySem PySem.Spec PyProof.Rows L2
def OptV : Option V → Option Value → Prop
  | none, none => True
  | some v, some u => RelV v u
  | _, _ => False
def KdV (K : PySem.W.Frag) (P : Params) (a : Addr) (z : Str) (o : Option V) : Prop := ∃ es n r, K.lookup a = some ⟨.type "dict", none, .dict es n, #[]⟩ ∧ PySem.W.KeysLit P es.toList ∧ (a == sysModules) = false ∧ PySem.W.nsIn K a z = some r ∧ OptV o r
theorem OptV.some? {o : Option V} {r : Option Value} (h : OptV o r) : r.isSome = o.isSome := by
  cases o <;> cases r <;> first | rfl | exact h.elim
theorem OptV.get {o : Option V} {r : Option Value} (h : OptV o r) : RelV (o.getD .non) (r.getD .none) := by
  cases o <;> cases r
  · rfl
  · exact h.elim
  · exact h.elim
  · exact h
def tKNotIn (K : PySem.W.Frag) (P : Params) (ty td : TE) : TE := fun σ H Q => ty σ H fun y H1 => td σ H1 fun x H2 => ∃ a z o, x = .ref a ∧ y = .str z ∧ KdV K P a z o ∧ Q (.bl (!o.isSome)) H2
def tKIx (K : PySem.W.Frag) (P : Params) (td ty : TE) : TE := fun σ H Q => td σ H fun x H1 => ty σ H1 fun y H2 => ∃ a z v, x = .ref a ∧ y = .str z ∧ KdV K P a z (some v) ∧ Q v H2
def tKGet1 (K : PySem.W.Frag) (P : Params) (td ty : TE) : TE := fun σ H Q => td σ H fun x H1 => ∃ a, x = .ref a ∧ (∃ z o, KdV K P a z o) ∧ ty σ H1 fun y H2 => ∃ z o, y = .str z ∧ KdV K P a z o ∧ Q (o.getD .non) H2
section
variable {X : Cx} {o i e : Expr} {td ty : TE} {P : Params} {pos apos cpos : Pos}
theorem pc_knotin (hp : X.w.params = P) (hi : PE X i ty) (ho : PE X o td) : PC X .NotIn i o (tKNotIn X.K P ty td) := by
  subst hp
  refine ⟨fun pins s σ H Q I h => ?_⟩
  refine thn (hi.run pins s σ H _ I h) fun iv s1 ⟨y, H1, I1, ry, q1⟩ => thn (ho.run pins s1 σ H1 _ I1 q1) fun u s2 ⟨x, H2, I2, rx, a, z, ov, ex, ey, ⟨es, n, r, hl, hk, low, hn, ro⟩, q2⟩ => ?_
  subst ex; subst ey
  obtain rfl : u = Value.ref a := rx
  obtain ⟨t, rfl⟩ := ry
  have hm := PySem.W.mapOf_K (prog := X.prog) (w := X.w) I2.kIn hl hk
  refine wpAny_notIn_of (strKind_is X.prog X.w z t) low hm ?_
  rw [PySem.W.find_K hl hn, ro.some?]
  exact ⟨.bl (!ov.isSome), H2, I2.tok _, rfl, q2⟩
theorem pe_kix (hp : X.w.params = P) (ho : PE X o td) (hi : PE X i ty) (hs : NoSl i) : PE X (.Subscript o i pos) (tKIx X.K P td ty) := by
  subst hp
  refine ⟨fun pins s σ H Q I h => ?_⟩
  refine subD_of PySem.F.slot_dict_getitem.lookup hs (thn (ho.run pins s σ H _ I h) fun u s1 ⟨x, H1, I1, rx, q1⟩ => thn (hi.run pins s1 σ H1 _ I1 q1) fun iv s2 ⟨y, H2, I2, ry, a, z, v, ex, ey, ⟨es, n, r, hl, hk, low, hn, ro⟩, q2⟩ => ?_)
  subst ex; subst ey
  obtain rfl : u = Value.ref a := rx
  obtain ⟨t, rfl⟩ := ry
  have hm := PySem.W.mapOf_K (prog := X.prog) (w := X.w) I2.kIn hl hk
  cases r with
  | none => exact ro.elim
  | some u => exact ⟨hm.typeIs, wpAny_getItem_of (strKind_is X.prog X.w z t) hm (PySem.W.find_K hl hn) ⟨v, H2, I2.tok _, ro, q2⟩⟩
theorem pe_kget1 (hp : X.w.params = P) (ho : PE X o td) (he : PE X e ty) (m : M1 X o "get" apos e cpos) : PE X (.Call (.Attribute o "get" apos) [e] [] cpos) (tKGet1 X.K P td ty) := by
  subst hp
  refine ⟨fun pins s σ H Q I h => ?_⟩
  refine wpAny_Call_method m.base m.few m.line PySem.F.plainAttrs_dict PySem.F.slot_dict_get PySem.F.type_dict_get (thn (ho.run pins s σ H _ I h) fun u s1 ⟨x, H1, I1, rx, a, ex, ⟨z0, o0, es, n, r0, hl, hk, low, _, _⟩, q1⟩ => ?_)
  subst ex
  obtain rfl : u = Value.ref a := rx
  have hm := PySem.W.mapOf_K (prog := X.prog) (w := X.w) I1.kIn hl hk
  refine ⟨hm.typeIs, hm.noDict, ?_⟩
  rw [m.trees]
  refine Calls.callWith_builtin rfl (Calls.evalArgs_plain (Calls.spliced_cons (thn (he.run pins s1 σ H1 _ I1 q1) fun iv s2 ⟨y, H2, I2, ry, z, ov, ey, ⟨es, n, r, hl, hk, low, hn, ro⟩, q2⟩ => Calls.spliced_nil ?_)))
  subst ey
  obtain ⟨t, rfl⟩ := ry
  have hm := PySem.W.mapOf_K (prog := X.prog) (w := X.w) I2.kIn hl hk
  refine call_meetsIn PySem.F.slot_dict_get hm.typeIs PySem.F.entry_dict_get (PySem.F.args_dict_get_2 _ _) (meets_dict_get (strKind X.prog X.w) a (strKind_is X.prog X.w z t) low) ⟨_, hm, ?_⟩
  rw [PySem.W.find_K hl hn]
  exact ⟨_, H2, I2.tok _, ro.get, q2⟩
end
end DL
namespace DL
open PySem PySem.Spec PyProof.Rows L2
section
variable {X : Cx} {pos : Pos}
theorem pst_set {i : Nat} {x : Str} {e : Expr} {te : TE} {pos' : Pos} (hN : X.N.Nodup) (hi : X.N[i]? = some x) (hx : Loc X.env.scope x) (he : PET X e te) (hs : swapsWith e (some (.Name x pos')) pos.line X.env = pure false := by rfl) (hf : X.fn x = true ∨ X.env.scope.names.lookup x = some .local := by first | exact .inl rfl | exact .inr rfl | assumption) :
    PST X (.Assign [.Name x pos'] e pos) (tAsg te (gName i)) := by
  intro pins s σ H D h0 I h
  refine wpAny_Assign_Name (thn (he pins s σ H _ h0 I h) fun v s1 ⟨y, H1, I1, r1, q1⟩ => ?_) hs
  exact store_ok I1 hN hi hx r1 (fun s2 I2 => ⟨_, H1, I2, q1⟩) hf
theorem PETof {e : Expr} {te : TE} (h : PE X e te) : PET X e te := fun pins s σ H Q _ I q => h.run pins s σ H Q I q
theorem psst_last {st : Stmt} {t : TS} (h : PST X st t) : PSsT X [st] t := psst_cons h (PSsT.of pss_nil)
end
section
variable {P : Program} {w : World} {K : PySem.W.Frag} {mg : Str → Option Value} {base : Heap} {x qual : Str} {params : Arguments} {body : List Stmt} {scope : Scope} {dvs : List V} {kws : List (Str × V)} {f : Addr} {fd : FuncData}
theorem okT {CX : CXT} {N ps : List Str} {k : Nat} {sp : Sp} (F : FunD K x qual params body scope dvs kws f fd) (S : FnScope N ps scope) (hnc : ∀ y ∈ scope.names, y.2 ≠ .cell) (hps : 1 ≤ ps.length) (len : ∀ vs H Q E, sp vs H Q E → vs.length = ps.length)
    (hbody : ∀ (cdv : Value) (A : Around) (outer : List Env) (s : Shared) (H : Hp) (vs : List V) (Q : VK) (E : XK), Room k (A.deeper (envOfC qual scope s.heap.objs.size f cdv)) → sp vs H Q E →
      ∃ t, PSsT (cxOf CX P w K mg base N qual scope f cdv A outer s H E) body t ∧ t { nx := fun _ H' => Q .non H', rt := Q } (start N vs) H) : FnOk P w K mg base CX (k + 1) f fd ps sp := by
  obtain ⟨oc, od, dV, kV, doc, pm, an, cdv, ct, osl, rfl, lk, hcd, _, _⟩ := F.ex
  exact fn_ofT lk hcd S hnc hps len fun A outer s H vs Q E hr hsp => hbody cdv A outer s H vs Q E hr hsp
end
end DL

set_option maxHeartbeats 2000000
namespace DL
open PySem L2
section
variable {K : PySem.W.Frag} {Fr : List Hp} {As : List Asn} {r0 r r1 r2 : Rdb} {ρ : Rho} {B0 : Hp} {D0 : Ends} {σ : L2.St} {H : Hp} {tu tw tz tb : TS} {tl te : TE} {tt tc : TT} {g0 : TG} {ta : TA}
/-- a walk over what stands still: n turns, at turn i a value read as rd i -/
def GoodI (Fr : List Hp) (J : It) (n : Nat) (B2 : Hp) (rd : Nat → Rdb) : Prop := ∃ Gd Y, Walk J n Gd Y ∧ (∀ B3 Ns G3 H3, Ex B2 B3 → (∀ M ∈ Fr, M ∈ G3) → Split H3 (B3 :: (Ns ++ G3)) → Gd H3) ∧
  ∀ i B3 Ns G3 H3 x H4, i < n → Ex B2 B3 → (∀ M ∈ Fr, M ∈ G3) → Split H3 (B3 :: (Ns ++ G3)) → Y i H3 x H4 → ∃ B4, Ex B3 B4 ∧ Split H4 (B4 :: (Ns ++ G3)) ∧ (rd i).p x B4 Fr
def EI (ti : TI) (ρ : Rho) (Fr : List Hp) (As : List Asn) (n : Nat) (rd : Nat → Rdb) : Prop := ∀ σ B Ms Gs H (R : It → Hp → Prop), (∀ M ∈ Fr, M ∈ Gs) → EnvP B Fr σ ρ → Split H (B :: (Ms ++ Gs)) → AllP B As Ms →
  (∀ J B2 H2, Ex B B2 → Split H2 (B2 :: (Ms ++ Gs)) → GoodI Fr J n B2 rd → R J H2) → ti σ H R
/-- a target takes a value -/
def TgR (Fr : List Hp) (g0 : TG) (r : Rdb) (js : List Nat) (f : Rho → Rho) : Prop := ∀ v B H σ ρ Q, EnvP B Fr σ ρ → Ex B H → r.p v B Fr →
  (∀ σ', EnvP B Fr σ' (f ρ) → (∀ vs : List Nat, (∀ j ∈ js, j ∈ vs) → wipe σ' vs = wipe σ vs) → Q σ' H) → g0 v σ H Q
theorem TgOk.tr {d : PyData} {js : List Nat} {f : Rho → Rho} (h : TgOk K Fr g0 d js f) : TgR Fr g0 (D K d) js f := fun v B H σ ρ Q e x q k => h v B H σ ρ Q e x (D.to q) k
theorem tr_name {j : Nat} : TgR Fr (gName j) r [j] fun ρ => ρ.set j (some r) := fun v B H σ ρ Q e x h q =>
  q _ (e.set h j) fun vs hv => by rw [wipe_set, if_pos (hv j (by simp))]
/-- a pair, its two by themselves -/
def P2 (r1 r2 : Rdb) : Rdb := ⟨fun v B Ms => ∃ T x y, v = .ref T ∧ B T = some (.tup [x, y]) ∧ r1.p x B Ms ∧ r2.p y B Ms,
  fun e ⟨T, x, y, h1, h2, h3, h4⟩ => ⟨T, x, y, h1, e _ _ h2, r1.mono e h3, r2.mono e h4⟩, fun k ⟨T, x, y, h1, h2, h3, h4⟩ => ⟨T, x, y, h1, h2, r1.sub k h3, r2.sub k h4⟩⟩
theorem tr_pair {i j : Nat} : TgR Fr (gTup K 2 (gCons (gName i) (gCons (gName j) gNil))) (P2 r1 r2) [i, j] fun ρ => (ρ.set i (some r1)).set j (some r2) := fun v B H σ ρ Q e x h q => by
  obtain ⟨T, a, b, e1, e2, q1, q2⟩ := h
  refine ⟨_, _, e1, SqT.of (x _ _ e2), rfl, _, _, rfl, _, _, rfl, rfl, q _ ((e.set q1 i).set q2 j) fun vs hv => ?_⟩
  rw [wipe_set, if_pos (hv j (by simp)), wipe_set, if_pos (hv i (by simp))]
theorem x_forI {ti : TI} {n : Nat} {rd : Nat → Rdb} (I : Nat → List Asn → Rho → Prop) {js : List Nat} {f : Nat → Rho → Rho} (c : Cur B0 Fr As ρ σ H) (hl : EI ti ρ Fr As n rd) (tg : ∀ i, i < n → TgR Fr g0 (rd i) js (f i)) (h0 : I 0 As ρ)
    (hs : ∀ B1 i As' ρ' σ' H', Ex B0 B1 → i < n → I i As' ρ' → Cur B1 Fr As' (f i ρ') σ' H' →
      tb { D0 with nx := fun σ2 H2 => ∃ As2 ρ2, I (i + 1) As2 ρ2 ∧ Cur B1 Fr As2 ρ2 σ2 H2, ct := fun σ2 H2 => ∃ As2 ρ2, I (i + 1) As2 ρ2 ∧ Cur B1 Fr As2 ρ2 σ2 H2, bk := tz D0 } σ' H')
    (hd : ∀ As' ρ' σ' H', I n As' ρ' → Cur B0 Fr As' ρ' σ' H' → tz D0 σ' H') : tSeq (tFor ti g0 tb) tz D0 σ H := by
  obtain ⟨B, Ms, x0, e, s, a⟩ := c.ex
  refine hl σ B Ms Fr H _ (fun _ h => h) e s a fun J B1 H1 x1 s1 ⟨Gd, Y, w, hg, hy⟩ => ?_
  refine for_it w (fun i σ2 H2 => ∃ As2 ρ2, I i As2 ρ2 ∧ Cur B1 Fr As2 ρ2 σ2 H2) ⟨As, ρ, h0, ⟨B1, Ms, Ex.refl B1, e.mono x1, s1, a.mono x1⟩⟩ ?_ ?_ ?_
  · rintro i σ2 H2 _ ⟨As2, ρ2, _, c2⟩
    obtain ⟨B2, Ms2, x2, e2, s2, a2⟩ := c2.ex
    exact hg B2 Ms2 Fr H2 x2 (fun _ h => h) s2
  · rintro i x σ2 H2 H3 hi ⟨As2, ρ2, hI, c2⟩ y
    obtain ⟨B2, Ms2, x2, e2, s2, a2⟩ := c2.ex
    obtain ⟨B4, x4, s4, q4⟩ := hy i B2 Ms2 Fr H2 x H3 hi x2 (fun _ h => h) s2 y
    refine tg i hi x B4 H3 σ2 ρ2 _ (e2.mono x4) (s4.sub B4 List.mem_cons_self) q4 fun σ' e' _ => ?_
    exact hs B1 i As2 ρ2 σ' H3 (x0.trans x1) hi hI ⟨B4, Ms2, x2.trans x4, e', s4, a2.mono x4⟩
  · rintro σ2 H2 ⟨As2, ρ2, hI, c2⟩
    exact hd As2 ρ2 σ2 H2 hI (c2.base (x0.trans x1))
theorem e_lcI {ti : TI} {n : Nat} {rd : Nat → Rdb} (p : Nat → Bool) (g2 : Nat → PyData) {js vs : List Nat} {f : Nat → Rho → Rho} (hl : EI ti ρ Fr As n rd) (hz : n ≤ 100000) (tg : ∀ i, i < n → TgR Fr g0 (rd i) js (f i))
    (hj : ∀ j ∈ js, j ∈ vs) (ht : ∀ i, i < n → ET tt (f i (wipeR ρ vs)) Fr As (p i)) (rg : Nat → Rdb) (he : ∀ i, i < n → p i = true → E te (f i (wipeR ρ vs)) Fr As (rg i)) (hg : ∀ i, i < n → Dt K (rg i) (g2 i)) :
    E (tLc ti g0 tt te vs) ρ Fr As (T K (((List.range n).filter p).map g2)) := fun σ B Ms Gs H Q g e s a q =>
  hl σ B Ms Gs H _ g e s a fun J B1 H1 x1 s1 ⟨Gd, Y, w, hgd, hy⟩ => by
    refine fun Dl hD => ?_
    have gD : ∀ o, ∀ M ∈ Fr, M ∈ one Dl o :: Gs := fun o M h => List.mem_cons_of_mem _ (g M h)
    refine lc_it w (fun i H2 => ∃ B2 acc, Ex B1 B2 ∧ Split H2 (B2 :: (Ms ++ (one Dl (.lst acc) :: Gs))) ∧ DpAll K B2 acc (((List.range i).filter p).map g2)) ?_ ?_ ?_ ?_
    · refine ⟨B1, [], Ex.refl B1, ?_, .nil⟩
      exact (s1.new1 hD (.lst [])).perm ((List.Perm.swap _ _ _).trans ((List.perm_middle.symm).cons B1))
    · rintro i H2 _ ⟨B2, acc, x2, s2, _⟩
      exact hgd B2 Ms _ H2 x2 (gD _) s2
    · rintro i x H2 H2' hi ⟨B2, acc, x2, s2, d2⟩ y
      obtain ⟨B4, x4, s4, q4⟩ := hy i B2 Ms _ H2 x H2' hi x2 (gD _) s2 y
      have ex2 : Ex B B4 := (x1.trans x2).trans x4
      refine tg i hi x B4 H2' (L2.wipe σ vs) (wipeR ρ vs) _ ((e.mono ex2).wipe vs) (s4.sub B4 List.mem_cons_self) q4 fun σ' e' hw => ?_
      refine ⟨by rw [hw vs hj, wipe_wipe vs vs fun _ h => h], ?_⟩
      refine ht i hi σ' B4 Ms _ H2' _ (gD _) e' s4 (a.mono ex2) fun B3 H3 x3 s3 => ?_
      cases hp : p i with
      | false =>
        refine iteF ⟨B3, acc, (x2.trans x4).trans x3, s3, ?_⟩
        rw [List.range_succ, List.filter_append, List.filter_cons, hp]
        simpa using dpa_mono (x4.trans x3) d2
      | true =>
        refine iteT (he i hi hp σ' B3 Ms _ H3 _ (gD _) (e'.mono x3) s3 (a.mono (ex2.trans x3)) fun z B5 H5 x5 s5' q5 => ?_)
        have s5 : Split H5 (one Dl (.lst acc) :: B5 :: (Ms ++ Gs)) := s5'.perm (((List.perm_middle).cons B5).trans (List.Perm.swap _ _ _))
        have hacc : acc.length ≤ 100000 := by
          rw [dpa_len d2, List.length_map]
          refine Nat.le_trans (List.length_filter_le _ _) ?_
          rw [List.length_range]
          omega
        refine ⟨acc, s5.head one_same, Nat.lt_of_le_of_lt hacc (by decide), B5, acc ++ [z], ((x2.trans x4).trans x3).trans x5, ?_, ?_⟩
        · exact (s5.write1 (.lst (acc ++ [z]))).perm ((List.Perm.swap _ _ _).trans ((List.perm_middle.symm).cons B5))
        · rw [List.range_succ, List.filter_append, List.filter_cons, hp, List.map_append]
          exact dpa_app (dpa_mono ((x4.trans x3).trans x5) d2) (.cons ((hg i hi).ok q5) .nil)
    · rintro H2 ⟨B2, acc, x2, s2, d2⟩
      have s5 : Split H2 (one Dl (.lst acc) :: B2 :: (Ms ++ Gs)) := s2.perm (((List.perm_middle).cons B2).trans (List.Perm.swap _ _ _))
      obtain ⟨dd, _⟩ := List.pairwise_cons.mp s5.dis
      have xn : Ex B2 (un (one Dl (.lst acc)) B2) := Ex.unr (dd B2 List.mem_cons_self)
      exact q _ (un (one Dl (.lst acc)) B2) H2 ((x1.trans x2).trans xn) s5.join ⟨Dl, acc, rfl, un_l one_same, dpa_mono xn d2⟩
theorem ei_str {z : Str} (h : E te ρ Fr As (X (.str z))) : EI (iStr te) ρ Fr As z.cps.size (fun i => X (.str ⟨#[z.cps.getD i 0]⟩)) := fun σ B Ms Gs H R g e s a q =>
  h σ B Ms Gs H _ g e s a fun v B1 H1 x1 s1 q1 => ⟨z, q1, q _ B1 H1 x1 s1 ⟨_, _, walk_str, fun _ _ _ _ _ _ _ => trivial, fun i B3 Ns G3 H3 x H4 hi _ _ s3 y => by
    obtain ⟨rfl, c, e1, e2⟩ := y
    refine ⟨B3, Ex.refl _, s3, ?_⟩
    show x = _
    rw [e2, Array.getD_eq_getD_getElem?, e1]
    rfl⟩⟩
theorem ei_rng {n : Int} (h : EA ta ρ Fr As [X (.int n)]) (hn : n < 1000000) (hn0 : -1000000 < n) : EI (iRng1 ta) ρ Fr As n.toNat (fun i => X (.int (i : Int))) := fun σ B Ms Gs H R g e s a q =>
  h σ B Ms Gs H _ g e s a fun vs B1 H1 x1 s1 q1 => by
    match vs, q1 with
    | [v], ⟨q1, _⟩ =>
      rw [dp_int q1]
      refine ⟨n, rfl, by omega, by omega, q _ B1 H1 x1 s1 ⟨_, _, walk_range (lo := 0), fun _ _ _ _ _ _ _ => trivial, fun i B3 Ns G3 H3 x H4 hi _ _ s3 y => ?_⟩⟩
      obtain ⟨rfl, e2⟩ := y
      refine ⟨B3, Ex.refl _, s3, ?_⟩
      show x = _
      rw [e2]
      show V.int (0 + (i : Int)) = V.int (i : Int)
      rw [Int.zero_add]
theorem ei_list {ds : List PyData} (h : E te ρ Fr As r) (hr : Rs K r ds) : EI (iList K te) ρ Fr As ds.length (fun i => D K (ds.getD i .none)) := fun σ B Ms Gs H R g e s a q =>
  h σ B Ms Gs H _ g e s a fun v B1 H1 x1 s1 q1 => by
    obtain ⟨l, vs, ev, h1, h2⟩ := hr.ok q1
    have hl := dpa_len h2
    refine ⟨l, ev, ⟨vs, still g h1 (Ex.refl B1) s1⟩, q _ B1 H1 x1 s1 ⟨_, _, hl ▸ walk_list (xs := vs), fun B3 Ns G3 H3 x3 g3 s3 => still g3 h1 x3 s3, fun i B3 Ns G3 H3 x H4 hi x3 _ s3 y => ?_⟩⟩
    obtain ⟨rfl, e1⟩ := y
    obtain ⟨d, hd1, hd2⟩ := dpa_get h2 e1
    refine ⟨B3, Ex.refl _, s3, ?_⟩
    show (D K (ds.getD i .none)).p x B3 Fr
    rw [List.getD_eq_getElem?_getD, hd1]
    exact D.of (dp_mono x3 hd2)
end
end DL

set_option maxHeartbeats 2000000
namespace DL
open PySem L2
mutual
inductive Ap (K : PySem.W.Frag) (B : Hp) (Ms : List Hp) : V → PyData → Prop
  | non : Ap K B Ms .non .none
  | bl (b : Bool) : Ap K B Ms (.bl b) (.bool b)
  | int (i : Int) : Ap K B Ms (.int i) (.int i)
  | str (i : Str) : Ap K B Ms (.str i) (.str i)
  | lst {l : Addr} {vs : List V} {ds : List PyData} (h : SqL K B l vs ∨ ∃ M ∈ Ms, M l = some (.lst vs)) (t : ApAll K B Ms vs ds) : Ap K B Ms (.ref l) (.list ds)
  | tup {l : Addr} {vs : List V} {ds : List PyData} (h : SqT K B l vs) (t : ApAll K B Ms vs ds) : Ap K B Ms (.ref l) (.tuple ds)
inductive ApAll (K : PySem.W.Frag) (B : Hp) (Ms : List Hp) : List V → List PyData → Prop
  | nil : ApAll K B Ms [] []
  | cons {v : V} {d : PyData} {vs : List V} {ds : List PyData} (h : Ap K B Ms v d) (t : ApAll K B Ms vs ds) : ApAll K B Ms (v :: vs) (d :: ds)
end
section
variable {K : PySem.W.Frag}
mutual
theorem ap_mono {B B' : Hp} {Ms : List Hp} (e : Ex B B') : ∀ {v : V} {d : PyData}, Ap K B Ms v d → Ap K B' Ms v d
  | _, _, .non => .non
  | _, _, .bl b => .bl b
  | _, _, .int i => .int i
  | _, _, .str x => .str x
  | _, _, .lst h t => .lst (h.imp (sql_mono e) id) (apa_mono e t)
  | _, _, .tup h t => .tup (sqt_mono e h) (apa_mono e t)
theorem apa_mono {B B' : Hp} {Ms : List Hp} (e : Ex B B') : ∀ {vs : List V} {ds : List PyData}, ApAll K B Ms vs ds → ApAll K B' Ms vs ds
  | _, _, .nil => .nil
  | _, _, .cons h t => .cons (ap_mono e h) (apa_mono e t)
end
mutual
theorem ap_sub {B : Hp} {Ms Ms' : List Hp} (k : ∀ M ∈ Ms, M ∈ Ms') : ∀ {v : V} {d : PyData}, Ap K B Ms v d → Ap K B Ms' v d
  | _, _, .non => .non
  | _, _, .bl b => .bl b
  | _, _, .int i => .int i
  | _, _, .str x => .str x
  | _, _, .lst h t => .lst (h.imp id fun ⟨M, hM, z⟩ => ⟨M, k M hM, z⟩) (apa_sub k t)
  | _, _, .tup h t => .tup h (apa_sub k t)
theorem apa_sub {B : Hp} {Ms Ms' : List Hp} (k : ∀ M ∈ Ms, M ∈ Ms') : ∀ {vs : List V} {ds : List PyData}, ApAll K B Ms vs ds → ApAll K B Ms' vs ds
  | _, _, .nil => .nil
  | _, _, .cons h t => .cons (ap_sub k h) (apa_sub k t)
end
mutual
theorem ap_dp {B : Hp} {Ms : List Hp} : ∀ {v : V} {d : PyData}, Dp K B v d → Ap K B Ms v d
  | _, _, .non => .non
  | _, _, .bl b => .bl b
  | _, _, .int i => .int i
  | _, _, .str x => .str x
  | _, _, .lst h t => .lst (.inl h) (apa_dpa t)
  | _, _, .tup h t => .tup h (apa_dpa t)
theorem apa_dpa {B : Hp} {Ms : List Hp} : ∀ {vs : List V} {ds : List PyData}, DpAll K B vs ds → ApAll K B Ms vs ds
  | _, _, .nil => .nil
  | _, _, .cons h t => .cons (ap_dp h) (apa_dpa t)
end
theorem apa_len {B : Hp} {Ms : List Hp} : ∀ {vs : List V} {ds : List PyData}, ApAll K B Ms vs ds → vs.length = ds.length
  | _, _, .nil => rfl
  | _, _, .cons _ t => by rw [List.length_cons, List.length_cons, apa_len t]
theorem apa_get {B : Hp} {Ms : List Hp} : ∀ {vs : List V} {ds : List PyData} {i : Nat} {v : V}, ApAll K B Ms vs ds → vs[i]? = some v → ∃ d, ds[i]? = some d ∧ Ap K B Ms v d
  | _, _, _, _, .nil, e => by simp at e
  | _, _, 0, _, .cons h _, e => by simp at e; subst e; exact ⟨_, rfl, h⟩
  | _, _, i + 1, _, .cons _ t, e => by
    obtain ⟨d, h1, h2⟩ := apa_get (i := i) t (by simpa using e)
    exact ⟨d, by simpa using h1, h2⟩
end
/-- data whose lists may stand in any part -/
def A (K : PySem.W.Frag) : PyData → Rdb
  | .list ds => ⟨fun v B Ms => Ap K B Ms v (.list ds), fun e h => ap_mono e h, fun k h => ap_sub k h⟩
  | .tuple ds => ⟨fun v B Ms => Ap K B Ms v (.tuple ds), fun e h => ap_mono e h, fun k h => ap_sub k h⟩
  | d => D K d
section
variable {K : PySem.W.Frag}
theorem A.of {d : PyData} {v : V} {B : Hp} {Ms : List Hp} (h : Ap K B Ms v d) : (A K d).p v B Ms := by
  cases h with
  | non => rfl
  | bl b => rfl
  | int i => rfl
  | str x => rfl
  | lst h1 h2 => exact Ap.lst h1 h2
  | tup h1 h2 => exact Ap.tup h1 h2
theorem A.dt {d : PyData} {v : V} {B : Hp} {Ms : List Hp} (h : (D K d).p v B Ms) : (A K d).p v B Ms := A.of (ap_dp (D.to h))
theorem stl {B H : Hp} {Ms Gs Fr : List Hp} {l : Addr} {vs : List V} (g : ∀ M ∈ Fr, M ∈ Gs) (s : Split H (B :: (Ms ++ Gs))) (h : SqL K B l vs ∨ ∃ M ∈ Fr, M l = some (.lst vs)) : SqL K H l vs := still g h (Ex.refl B) s
end
section
variable {K : PySem.W.Frag} {Fr : List Hp} {As : List Asn} {r0 r r1 r2 : Rdb} {ρ : Rho} {te to : TE} {ta : TA}
theorem o_isNA {d : PyData} : Op2 rIsNU Fr As (A K d) (X .non) (X (.bl (nonD d))) := fun v y B Ms Gs H Q g s a q1 q2 q => by
  refine ⟨dp_none q2, ?_⟩
  have e : decide (v = V.non) = nonD d := by
    cases d with
    | none => rw [show v = .non from q1]; rfl
    | bool b => rw [show v = .bl b from q1]; rfl
    | int b => rw [show v = .int b from q1]; rfl
    | str b => rw [show v = .str b from q1]; rfl
    | list ds =>
      have q1' : Ap K B Fr v (.list ds) := q1
      cases q1'; rfl
    | tuple ds =>
      have q1' : Ap K B Fr v (.tuple ds) := q1
      cases q1'; rfl
    | dict ds =>
      have q1' : Dp K B v (.dict ds) := q1
      cases q1'
  rw [e]
  exact q _ B H (Ex.refl B) s rfl
/-- the name of a datum's class -/
def tyN : PyData → String
  | .none => "NoneType"
  | .bool _ => "bool"
  | .int _ => "int"
  | .str _ => "str"
  | .list _ => "list"
  | .tuple _ => "tuple"
  | .dict _ => "dict"
theorem sql_ty {H : Hp} {l : Addr} {vs : List V} (h : SqL K H l vs) : TyX K H (.ref l) (.type "list") := by
  rcases h with h | ⟨o, its, n, h1, h2, _⟩
  · rcases h with h | ⟨o, h⟩
    · exact .base (.lst h)
    · exact .base (.frz h)
  · exact .kList h1 h2
theorem sqt_ty {H : Hp} {l : Addr} {vs : List V} (h : SqT K H l vs) : TyX K H (.ref l) (.type "tuple") := by
  rcases h with h | ⟨o, its, n, h1, h2, _⟩
  · rcases h with h | ⟨o, h⟩
    · exact .base (.tup h)
    · exact .fTuple h
  · exact .kTuple h1 h2
theorem ty_A {d : PyData} {v : V} {B H : Hp} {Ms Gs : List Hp} (g : ∀ M ∈ Fr, M ∈ Gs) (s : Split H (B :: (Ms ++ Gs))) (q : (A K d).p v B Fr) : TyX K H v (.type (tyN d)) := by
  cases d with
  | none => rw [show v = .non from q]; exact .base .non
  | bool b => rw [show v = .bl b from q]; exact .base (.bl b)
  | int b => rw [show v = .int b from q]; exact .base (.int b)
  | str b => rw [show v = .str b from q]; exact .base (.str b)
  | list ds =>
    have q1' : Ap K B Fr v (.list ds) := q
    cases q1' with
    | lst h t => exact sql_ty (stl g s h)
  | tuple ds =>
    have q1' : Ap K B Fr v (.tuple ds) := q
    cases q1' with
    | tup h t => exact sqt_ty (sqt_mono (s.sub B List.mem_cons_self) h)
  | dict ds =>
    have q1' : Dp K B v (.dict ds) := q
    cases q1'
theorem n_isiA {d : PyData} {T : String} {b : Bool} (h : kitB (tyN d) T = some b) : OpN (rIsi K) Fr As [A K d, X (.ty T)] (X (.bl b)) := fun vs B Ms Gs H Q g s a q1 q => by
  match vs, q1 with
  | [v, c], ⟨q1, q2, _⟩ =>
    have e : c = .ty T := q2
    subst e
    exact ⟨v, _, _, .type T, b, rfl, .ty T, ty_A g s q1, kit_ty h, q _ B H (Ex.refl B) s rfl⟩
theorem n_isiS {z : Str} {T : String} {b : Bool} (h : kitB "str" T = some b) : OpN (rIsi K) Fr As [X (.str z), X (.ty T)] (X (.bl b)) := n_isiA (d := .str z) h
end
end DL

set_option maxHeartbeats 2000000
namespace DL
open PySem L2 RZ CwR
section
variable {K : PySem.W.Frag} {Fr : List Hp} {As : List Asn} {r0 r r1 r2 : Rdb} {ρ : Rho} {te to : TE} {ta : TA}
/-- isinstance(x, (T1, T2)) -/
theorem e_isi2 {d : PyData} {T1 T2 : String} {b1 b2 : Bool} (h : E te ρ Fr As (A K d)) (h1 : kitB (tyN d) T1 = some b1) (h2 : kitB (tyN d) T2 = some b2) :
    E (tCB (rIsiT K) (tCons te (tCons (tTup (tCons (tC (.ty T1)) (tCons (tC (.ty T2)) tNil))) tNil))) ρ Fr As (X (.bl (b1 || b2))) := fun σ B Ms Gs H Q g e s a q =>
  h σ B Ms Gs H _ g e s a fun v B1 H1 x1 s1 q1 => by
    refine ⟨by show 2 ≤ _; decide, fun p hp => ?_⟩
    have s2 := s1.new hp (.tup [.ty T1, .ty T2])
    have x2 := s1.newEx hp (.tup [.ty T1, .ty T2])
    refine ⟨v, p, [.ty T1, .ty T2], _, [.type T1, .type T2], b1 || b2, rfl, upd_same, .cons (.ty T1) (.cons (.ty T2) .nil), ty_A g s2 ((A K d).mono x2 q1), ?_, q _ _ _ (x1.trans x2) s2 rfl⟩
    refine kitAny_cons (kit_ty h1) (fun e1 => ?_) (fun e1 => by rw [e1]; rfl)
    rw [e1, Bool.false_or]
    refine kitAny_cons (kit_ty h2) (fun e2 => ?_) (fun e2 => e2)
    rw [e2]
    exact kitAny_nil
theorem n_lenA {d : PyData} {ds : List PyData} (hd : d = .list ds ∨ d = .tuple ds) : OpN (rLenU K) Fr As [A K d] (X (.int ds.length)) := fun vs B Ms Gs H Q g s a q1 q => by
  match vs, q1 with
  | [v], ⟨q1, _⟩ =>
    rcases hd with rfl | rfl
    · have q1' : Ap K B Fr v (.list ds) := q1
      cases q1' with
      | lst h t =>
        refine ⟨_, _, rfl, .inl ⟨_, stl g s h, rfl⟩, ?_⟩
        rw [apa_len t]
        exact q _ B H (Ex.refl B) s rfl
    · have q1' : Ap K B Fr v (.tuple ds) := q1
      cases q1' with
      | tup h t =>
        refine ⟨_, _, rfl, .inr ⟨_, sqt_mono (s.sub B List.mem_cons_self) h, rfl⟩, ?_⟩
        rw [apa_len t]
        exact q _ B H (Ex.refl B) s rfl
theorem apa_at {B : Hp} {vs : List V} {ds : List PyData} (t : ApAll K B Fr vs ds) {i : Nat} {x : V} (e : vs[i]? = some x) : (A K (ds.getD i .none)).p x B Fr := by
  obtain ⟨d, h1, h2⟩ := apa_get t e
  rw [List.getD_eq_getElem?_getD, h1]
  exact A.of h2
/-- zip of two lists, of two tuples, of one length -/
theorem ei_zip {d e0 : PyData} {ds es : List PyData} (hd : (d = .list ds ∧ e0 = .list es) ∨ (d = .tuple ds ∧ e0 = .tuple es)) (hl : ds.length = es.length) (h : EA ta ρ Fr As [A K d, A K e0]) :
    EI (iZipA K ta) ρ Fr As ds.length (fun i => P2 (A K (ds.getD i .none)) (A K (es.getD i .none))) := fun σ B Ms Gs H R g e s a q =>
  h σ B Ms Gs H _ g e s a fun vs B1 H1 x1 s1 q1 => by
    match vs, q1 with
    | [v, u], ⟨p1, p2, _⟩ =>
      rcases hd with ⟨rfl, rfl⟩ | ⟨rfl, rfl⟩
      · have q1' : Ap K B1 Fr v (.list ds) := p1
        have q2' : Ap K B1 Fr u (.list es) := p2
        cases q1' with
        | @lst l1 xs _ h1 t1 =>
          cases q2' with
          | @lst l2 ys _ h2 t2 =>
            refine ⟨l1, l2, xs, ys, rfl, .inl ⟨stl g s1 h1, stl g s1 h2, q _ B1 H1 x1 s1 ⟨_, _, walk_zip (xs := xs) (ys := ys) (n := ds.length) (by rw [apa_len t1, apa_len t2, hl, Nat.min_self]), fun B3 Ns G3 H3 x3 g3 s3 => ⟨still g3 h1 x3 s3, still g3 h2 x3 s3⟩, ?_⟩⟩⟩
            rintro i B3 Ns G3 H3 x H4 hi x3 g3 s3 ⟨T, a1, b1, rfl, hT, rfl, e1, e2⟩
            have xn := s3.newEx hT (.tup [a1, b1])
            exact ⟨upd B3 T (.tup [a1, b1]), xn, s3.new hT _, T, a1, b1, rfl, upd_same, (A K _).mono (x3.trans xn) (apa_at t1 e1), (A K _).mono (x3.trans xn) (apa_at t2 e2)⟩
      · have q1' : Ap K B1 Fr v (.tuple ds) := p1
        have q2' : Ap K B1 Fr u (.tuple es) := p2
        cases q1' with
        | @tup l1 xs _ h1 t1 =>
          cases q2' with
          | @tup l2 ys _ h2 t2 =>
            have m : ∀ {B3 H3 : Hp} {Ns G3 : List Hp}, Ex B1 B3 → Split H3 (B3 :: (Ns ++ G3)) → Ex B1 H3 := fun x3 s3 => x3.trans (s3.sub _ List.mem_cons_self)
            have wz : Walk (ItzT K l1 l2) ds.length (fun H => SqT K H l1 xs ∧ SqT K H l2 ys) (YPair (fun i => xs[i]?) (fun i => ys[i]?)) := by
              have n1 : xs.length = ds.length := apa_len t1
              have n2 : ys.length = ds.length := by rw [apa_len t2, hl]
              refine ⟨fun i _ hi q => ?_, fun _ q => ⟨xs, ys, q.1, q.2, by omega⟩, fun i H v H' _ q y => ?_⟩
              · have h1 : i < xs.length := by omega
                have h2 : i < ys.length := by omega
                exact ⟨xs, ys, xs[i], ys[i], q.1, q.2, by simp [h1], by simp [h2]⟩
              · obtain ⟨T, x, z, h1, h2, h3, h4, h5⟩ := y
                exact ⟨T, x, z, h1, h2, h3, h4 xs q.1, h5 ys q.2⟩
            refine ⟨l1, l2, xs, ys, rfl, .inr ⟨sqt_mono (s1.sub B1 List.mem_cons_self) h1, sqt_mono (s1.sub B1 List.mem_cons_self) h2, q _ B1 H1 x1 s1 ⟨_, _, wz, fun B3 Ns G3 H3 x3 g3 s3 => ⟨sqt_mono (m x3 s3) h1, sqt_mono (m x3 s3) h2⟩, ?_⟩⟩⟩
            rintro i B3 Ns G3 H3 x H4 hi x3 g3 s3 ⟨T, a1, b1, rfl, hT, rfl, e1, e2⟩
            have xn := s3.newEx hT (.tup [a1, b1])
            exact ⟨upd B3 T (.tup [a1, b1]), xn, s3.new hT _, T, a1, b1, rfl, upd_same, (A K _).mono (x3.trans xn) (apa_at t1 e1), (A K _).mono (x3.trans xn) (apa_at t2 e2)⟩
theorem e_m1 {rm : V → List V → Hp → VK → Prop} {a b : Str} (h : E to ρ Fr As (X (.str a))) (h2 : E te ρ Fr As r1) (hm : ∀ y B Ms Gs H Q, (∀ M ∈ Fr, M ∈ Gs) → Split H (B :: (Ms ++ Gs)) → AllP B As Ms → r1.p y B Fr →
    (∀ v B2 H2, Ex B B2 → Split H2 (B2 :: (Ms ++ Gs)) → r.p v B2 Fr → Q v H2) → rm (.str a) [y] H Q) : E (tM1 rm to te) ρ Fr As r := fun σ B Ms Gs H Q g e s a0 q =>
  h σ B Ms Gs H _ g e s a0 fun v B1 H1 x1 s1 q1 => by
    have ev : v = .str a := q1
    subst ev
    exact ⟨⟨a, rfl⟩, h2 σ B1 Ms Gs H1 _ g (e.mono x1) s1 (a0.mono x1) fun y B2 H2 x2 s2 q2 => hm y B2 Ms Gs H2 Q g s2 (a0.mono (x1.trans x2)) q2 fun v B3 H3 x3 s3 q3 => q v B3 H3 ((x1.trans x2).trans x3) s3 q3⟩
theorem e_split {a b : Str} (h : E to ρ Fr As (X (.str a))) (h2 : E te ρ Fr As (X (.str b))) (hb : (b.length == 0) = false) (ha : a.length ≤ 100000) : E (tM1 rSplit to te) ρ Fr As (T K ((Txt.split a b).map .str)) :=
  e_m1 (b := b) h h2 fun y B Ms Gs H Q g s a0 q1 q => by
    rw [dp_str q1]
    exact ⟨a, b, rfl, rfl, hb, Nat.le_trans (Nat.add_le_add_right ha 2) (by decide), fun p hp => q _ (upd B p (.lst ((Txt.split a b).map .str))) _ (s.newEx hp _) (s.new hp _) ⟨p, _, rfl, upd_same, dpa_of_strs⟩⟩
theorem e_part {a b : Str} (h : E to ρ Fr As (X (.str a))) (h2 : E te ρ Fr As (X (.str b))) (hb : (b.length == 0) = false) (ha : a.length ≤ 100000) :
    E (tM1 rPart to te) ρ Fr As (D K (.tuple [.str (Txt.partition a b).1, .str (Txt.partition a b).2.1, .str (Txt.partition a b).2.2])) :=
  e_m1 (b := b) h h2 fun y B Ms Gs H Q g s a0 q1 q => by
    rw [dp_str q1]
    refine ⟨a, b, rfl, rfl, hb, Nat.le_trans ha (by decide), fun p hp => q _ (upd B p _) _ (s.newEx hp _) (s.new hp _) ?_⟩
    exact Dp.tup (SqT.of upd_same) (.cons (.str _) (.cons (.str _) (.cons (.str _) .nil)))
theorem e_find {a b : Str} (h : E to ρ Fr As (X (.str a))) (h2 : E te ρ Fr As (X (.str b))) : E (tM1 rFind to te) ρ Fr As (X (.int (Txt.find a b))) :=
  e_m1 (b := b) h h2 fun y B Ms Gs H Q g s a0 q1 q => by
    rw [dp_str q1]
    exact ⟨a, b, rfl, rfl, q _ B H (Ex.refl B) s rfl⟩
theorem e_count {a b : Str} (h : E to ρ Fr As (X (.str a))) (h2 : E te ρ Fr As (X (.str b))) : E (tM1 rCount to te) ρ Fr As (X (.int (Txt.count a b))) :=
  e_m1 (b := b) h h2 fun y B Ms Gs H Q g s a0 q1 q => by
    rw [dp_str q1]
    exact ⟨a, b, rfl, rfl, q _ B H (Ex.refl B) s rfl⟩
/-- texts in a list or a tuple -/
inductive Ts (K : PySem.W.Frag) (As : List Asn) : Rdb → List Str → Prop
  | l {r : Rdb} {ys : List Str} (h : Rl K As r (ys.map .str)) : Ts K As r ys
  | t {ys : List Str} : Ts K As (D K (.tuple (ys.map .str))) ys
  | a {ys : List Str} : Ts K As (A K (.tuple (ys.map .str))) ys
theorem apa_strs {B : Hp} {Ms : List Hp} : ∀ {vs : List V} {ss : List Str}, ApAll K B Ms vs (ss.map PyData.str) → vs = ss.map V.str
  | _, [], .nil => rfl
  | _, s :: ss, .cons h t => by
    cases h
    rw [apa_strs t]
    rfl
theorem e_join {a : Str} {ys : List Str} (h : E to ρ Fr As (X (.str a))) (h2 : E te ρ Fr As r) (hy : Ts K As r ys) (hz : (ys.map (·.length)).sum + ys.length * a.length ≤ 16777216) : E (tM1 (rJoin K) to te) ρ Fr As (X (.str (Txt.join a ys))) :=
  e_m1 (b := a) h h2 fun y B Ms Gs H Q g s a0 q1 q => by
    cases hy with
    | l h =>
      obtain ⟨l, vs, e, h1, h2⟩ := h.ok g s a0 q1
      subst e
      rw [dpa_strs h2] at h1
      exact ⟨a, l, ys, rfl, rfl, .inl h1, hz, q _ B H (Ex.refl B) s rfl⟩
    | t =>
      have q1' : Dp K B y (.tuple (ys.map .str)) := q1
      cases q1' with
      | @tup l us _ h1 h2 =>
        rw [dpa_strs h2] at h1
        exact ⟨a, l, ys, rfl, rfl, .inr (sqt_mono (s.sub B List.mem_cons_self) h1), hz, q _ B H (Ex.refl B) s rfl⟩
    | a =>
      have q1' : Ap K B Fr y (.tuple (ys.map .str)) := q1
      cases q1' with
      | @tup l us _ h1 h2 =>
        rw [apa_strs h2] at h1
        exact ⟨a, l, ys, rfl, rfl, .inr (sqt_mono (s.sub B List.mem_cons_self) h1), hz, q _ B H (Ex.refl B) s rfl⟩
theorem n_intS {a : Str} {n : Int} (h : PySem.intText? a = some n) (hl : a.length ≤ 640) : OpN rIntS Fr As [X (.str a)] (X (.int n)) := fun vs B Ms Gs H Q g s a0 q1 q => by
  match vs, q1 with
  | [v], ⟨q1, _⟩ =>
    rw [dp_str q1]
    exact ⟨a, n, rfl, h, hl, q _ B H (Ex.refl B) s rfl⟩
theorem n_strI {i : Int} (h : i.natAbs.log2 < 1920) : OpN rStrI Fr As [X (.int i)] (X (.str (toString i))) := fun vs B Ms Gs H Q g s a0 q1 q => by
  match vs, q1 with
  | [v], ⟨q1, _⟩ =>
    rw [dp_int q1]
    exact ⟨i, rfl, h, q _ B H (Ex.refl B) s rfl⟩
theorem e_repl {a y z : Str} (h : E to ρ Fr As (X (.str a))) (hl : a.length + (a.length + 1) * z.length ≤ 16777216) : E (tReplC to y z) ρ Fr As (X (.str (Txt.replace a y z))) := fun σ B Ms Gs H Q g e s a0 q =>
  h σ B Ms Gs H _ g e s a0 fun v B1 H1 x1 s1 q1 => ⟨a, q1, hl, q _ B1 H1 x1 s1 rfl⟩
/-- in a tuple of texts -/
theorem o_inT {x : Str} {ss : List Str} : Op2 (rInU K) Fr As (X (.str x)) (D K (.tuple (ss.map .str))) (X (.bl (decide (x ∈ ss)))) := fun v y B Ms Gs H Q g s a q1 q2 q => by
  have q2' : Dp K B y (.tuple (ss.map .str)) := q2
  cases q2' with
  | @tup l vs _ h1 h2 =>
    rw [dp_str q1]
    rw [dpa_strs h2] at h1
    refine .inr ⟨l, _, rfl, .inr (sqt_mono (s.sub B List.mem_cons_self) h1), rfl, flat_strs, ?_⟩
    show Q (V.bl (inV (.str x) (ss.map V.str))) H
    rw [inV_strs]
    exact q _ B H (Ex.refl B) s rfl
theorem inV_bools {x : Bool} : ∀ {ss : List Bool}, inV (.bl x) (ss.map V.bl) = decide (x ∈ ss)
  | [] => rfl
  | s :: ss => by
    have ih := inV_bools (x := x) (ss := ss)
    unfold inV at ih ⊢
    rw [List.map_cons, List.any_cons, ih]
    have e : ∀ (a b : Bool), (eqV (V.bl a) (V.bl b)) = decide (a = b) := by decide
    show (eqV (V.bl s) (V.bl x) || decide (x ∈ ss)) = decide (x ∈ s :: ss)
    rw [e]
    by_cases h : s = x
    · subst h; simp
    · have h' : ¬ x = s := fun z => h z.symm
      by_cases h2 : x ∈ ss <;> simp [h, h', h2]
theorem flat_bools : ∀ {ss : List Bool}, (ss.map V.bl).all flatV = true
  | [] => rfl
  | s :: ss => by
    rw [List.map_cons, List.all_cons, flat_bools]
    rfl
theorem o_inB {x : Bool} {ss : List Bool} (h : Rl K As r (ss.map .bool)) : Op2 (rInU K) Fr As (X (.bl x)) r (X (.bl (decide (x ∈ ss)))) := fun v y B Ms Gs H Q g s a q1 q2 q => by
  obtain ⟨l, vs, e, h1, h2⟩ := h.ok g s a q2
  rw [dp_bool q1]
  subst e
  rw [dpa_bools h2] at h1
  refine .inr ⟨l, _, rfl, .inl h1, rfl, flat_bools, ?_⟩
  show Q (V.bl (inV (.bl x) (ss.map V.bl))) H
  rw [inV_bools]
  exact q _ B H (Ex.refl B) s rfl
theorem scal_bb {i j : Bool} : scal (.bl i) (.bl j) = true := by rfl
theorem o_eqB {i j : Bool} : Op2 (rEqU K) Fr As (X (.bl i)) (X (.bl j)) (X (.bl (decide (i = j)))) := fun x y B Ms Gs H Q g s a h1 h2 q => by
  rw [dp_bool h1, dp_bool h2]
  refine .inl ⟨scal_bb, ?_⟩
  have e : decide (V.bl i = V.bl j) = decide (i = j) := by by_cases h : i = j <;> simp [h]
  rw [e]
  exact q _ B H (Ex.refl B) s rfl
theorem o_neB {i j : Bool} : Op2 (rNeU K) Fr As (X (.bl i)) (X (.bl j)) (X (.bl (!decide (i = j)))) := fun x y B Ms Gs H Q g s a h1 h2 q => by
  rw [dp_bool h1, dp_bool h2]
  refine .inl ⟨scal_bb, ?_⟩
  have e : decide (V.bl i = V.bl j) = decide (i = j) := by by_cases h : i = j <;> simp [h]
  rw [e]
  exact q _ B H (Ex.refl B) s rfl
end
end DL

set_option maxHeartbeats 2000000
namespace DL
open PySem L2 RZ CwR
section
variable {K : PySem.W.Frag} {Fr : List Hp} {As : List Asn} {r0 r r1 r2 : Rdb} {ρ : Rho} {te to tv : TE} {ta : TA} {B0 H : Hp} {σ : L2.St} {D0 : Ends} {tz : TS}
/-- l[i] = e -/
theorem x_setL {l : Addr} {ds : List PyData} {d : PyData} {i : Nat} (c : Cur B0 Fr (OwnL K l ds :: As) ρ σ H) (hv : E tv ρ Fr (OwnL K l ds :: As) r) (hd : Dt K r d) (ho : E to ρ Fr (OwnL K l ds :: As) (X (.ref l)))
    (hi : E te ρ Fr (OwnL K l ds :: As) (X (.int (i : Int)))) (hl : i < ds.length) (k : ∀ H1, Cur B0 Fr (OwnL K l (ds.set i d) :: As) ρ σ H1 → tz D0 σ H1) : tSeq (tAsg tv (gSub to te rSetL)) tz D0 σ H := by
  obtain ⟨B, Ms, x, e, s, a⟩ := c.ex
  refine hv σ B Ms Fr H _ (fun _ h => h) e s a fun v B1 H1 x1 s1 q1 => ?_
  refine ho σ B1 Ms Fr H1 _ (fun _ h => h) (e.mono x1) s1 (a.mono x1) fun o B2 H2 x2 s2 q2 => ?_
  refine hi σ B2 Ms Fr H2 _ (fun _ h => h) (e.mono (x1.trans x2)) s2 (a.mono (x1.trans x2)) fun w B3 H3 x3 s3 q3 => ?_
  have a3 := a.mono ((x1.trans x2).trans x3)
  match Ms, a3, s3 with
  | M :: Ms, a3, s3 =>
    obtain ⟨⟨us, eM, du⟩, a2⟩ := a3
    subst eM
    have s4 : Split H3 (one l (.lst us) :: B3 :: (Ms ++ Fr)) := s3.perm (List.Perm.swap _ _ _)
    have hlen := dpa_len du
    refine ⟨l, us, (i : Int), i, q2, q3, s4.head one_same, ?_, ?_⟩
    · unfold ixN
      rw [if_pos (by omega)]
      rw [Int.toNat_natCast, if_pos (by omega)]
    · refine k _ ⟨B3, one l (.lst (us.set i v)) :: Ms, ((x.trans x1).trans x2).trans x3, e.mono ((x1.trans x2).trans x3), ?_, ⟨_, rfl, dpa_set (hd.ok (r.mono (x2.trans x3) q1)) i du⟩, a2⟩
      exact (s4.write1 _).perm (List.Perm.swap _ _ _)
  | [], a3, _ => exact a3.elim
/-- te makes a list with the items ds -/
def EN (te : TE) (ρ : Rho) (Fr : List Hp) (As : List Asn) (K : PySem.W.Frag) (ds : List PyData) : Prop := ∀ σ B Ms Gs H Q, (∀ M ∈ Fr, M ∈ Gs) → EnvP B Fr σ ρ → Split H (B :: (Ms ++ Gs)) → AllP B As Ms →
  (∀ p vs B2 H2, Ex B B2 → Split H2 (B2 :: (Ms ++ Gs)) → H2 p = none → DpAll K B2 vs ds → Q (.ref p) (upd H2 p (.lst vs))) → te σ H Q
theorem x_ownN {i : Nat} {ds : List PyData} (c : Cur B0 Fr As ρ σ H) (h : EN te ρ Fr As K ds)
    (k : ∀ l σ1 H1, Cur B0 Fr (OwnL K l ds :: As) (ρ.set i (some (X (.ref l)))) σ1 H1 → tz D0 σ1 H1) : tSeq (tAsg te (gName i)) tz D0 σ H := x_own c h k
theorem en_split {a b : Str} (h : E to ρ Fr As (X (.str a))) (h2 : E te ρ Fr As (X (.str b))) (hb : (b.length == 0) = false) (ha : a.length ≤ 100000) : EN (tM1 rSplit to te) ρ Fr As K ((Txt.split a b).map .str) := fun σ B Ms Gs H Q g e s a0 q =>
  h σ B Ms Gs H _ g e s a0 fun v B1 H1 x1 s1 q1 => by
    have ev : v = .str a := q1
    subst ev
    refine ⟨⟨a, rfl⟩, h2 σ B1 Ms Gs H1 _ g (e.mono x1) s1 (a0.mono x1) fun y B2 H2 x2 s2 q2 => ?_⟩
    rw [dp_str q2]
    exact ⟨a, b, rfl, rfl, hb, Nat.le_trans (Nat.add_le_add_right ha 2) (by decide), fun p hp => q p _ B2 H2 (x1.trans x2) s2 hp dpa_of_strs⟩
theorem en_nil : EN (tLst tNil) ρ Fr As K [] := own_nil
theorem en_lst {rs : List Rdb} {ds : List PyData} (ha : EA ta ρ Fr As rs) (hc : Dts K rs ds) (hl : ds.length ≤ 100000) : EN (tLst ta) ρ Fr As K ds := fun σ B Ms Gs H Q g e s a q =>
  ha σ B Ms Gs H _ g e s a fun vs B1 H1 x1 s1 q1 => by
    have d := hc.ok q1
    exact ⟨by rw [dpa_len d]; exact Nat.le_trans hl (by decide), fun p hp => q p vs B1 H1 x1 s1 hp d⟩
def RetL (K : PySem.W.Frag) (B0 : Hp) (Fr : List Hp) (o : Option (List PyData)) (v : V) (H : Hp) : Prop := ∃ B, Ex B0 B ∧ match o with
  | none => v = .non ∧ Split H (B :: Fr)
  | some ds => ∃ l vs, v = .ref l ∧ Split H (B :: one l (.lst vs) :: Fr) ∧ DpAll K B vs ds
def PSo {α : Type} (K : PySem.W.Frag) (args : α → List Rdb) (pre : α → Prop) (out : α → Option (List PyData)) : Sp := fun vs H Q _ => ∃ (x : α) (B : Hp) (Ms : List Hp), Split H (B :: Ms) ∧ RepsP B Ms vs (args x) ∧ pre x ∧ ∀ v H2, RetL K B Ms (out x) v H2 → Q v H2
theorem pso_len {α : Type} {args : α → List Rdb} {pre : α → Prop} {out : α → Option (List PyData)} {n : Nat} (h : ∀ x, (args x).length = n) : ∀ vs H Q E, PSo K args pre out vs H Q E → vs.length = n := fun vs H Q E ⟨x, B, Ms, _, q, _⟩ => by rw [q.len, h]
/-- None or a list -/
def oL (o : Option (List PyData)) : PyData := match o with
  | none => .none
  | some ds => .list ds
theorem e_kcallO {α : Type} {args : α → List Rdb} {pre : α → Prop} {out : α → Option (List PyData)} {t : TA} {rs : List Rdb} {W : WX} (x : α) (ha : EA t ρ Fr As rs) (hc : Las K As rs (args x)) (hx : pre x) : E (kCall (PSo K args pre out) [] W t) ρ Fr As (D K (oL (out x))) := fun σ B Ms Gs H Q g e s a q =>
  ha σ B Ms Gs H _ g e s a fun vs B1 H1 x1 s1 q1 => by
    show PSo K args pre out (vs ++ []) H1 Q _
    rw [List.append_nil]
    refine ⟨x, B1, Ms ++ Gs, s1, (hc.ok vs B1 Ms (a.mono x1) q1).sub (sub_app g), hx, fun v H2 ⟨B2, x2, h⟩ => ?_⟩
    cases ho : out x with
    | none =>
      rw [ho] at h
      obtain ⟨rfl, s2⟩ := h
      refine q _ B2 H2 (x1.trans x2) s2 ?_
      rw [ho]
      rfl
    | some ds =>
      rw [ho] at h
      obtain ⟨l, us, rfl, s2, d⟩ := h
      have s3 : Split H2 (one l (.lst us) :: B2 :: (Ms ++ Gs)) := s2.swap
      obtain ⟨dd, _⟩ := List.pairwise_cons.mp s3.dis
      have xn : Ex B2 (un (one l (.lst us)) B2) := Ex.unr (dd B2 List.mem_cons_self)
      refine q _ _ H2 ((x1.trans x2).trans xn) s3.join ?_
      rw [ho]
      exact Dp.lst (SqL.of (un_l one_same)) (dpa_mono xn d)
/-- at the end, a list of one's own is handed over, all else of one's own given up -/
theorem Res.ownL {v : V} {l : Addr} {ds : List PyData} (h : Res B0 Fr (OwnL K l ds :: As) (X (.ref l)) v H) : RetL K B0 Fr (some ds) v H := by
  obtain ⟨B, Ms, x, s, a, q⟩ := h
  match Ms, a, s with
  | M :: Ms, a, s =>
    obtain ⟨⟨us, eM, du⟩, a2⟩ := a
    subst eM
    have s1 : Split H (one l (.lst us) :: (B :: (Ms ++ Fr))) := s.swap
    have s2 : Split H (B :: (Ms ++ (one l (.lst us) :: Fr))) := s.perm ((List.perm_middle (l₁ := Ms) (a := one l (.lst us)) (l₂ := Fr)).symm.cons B)
    obtain ⟨s3, x3, _⟩ := s2.melt
    exact ⟨_, x.trans x3, l, us, q, s3, dpa_mono x3 du⟩
  | [], a, _ => exact a.elim
theorem Res.newL {ds : List PyData} (h : EN te ρ Fr As K ds) (c : Cur B0 Fr As ρ σ H) (k : ∀ v H1, RetL K B0 Fr (some ds) v H1 → D0.rt v H1) : tRet te D0 σ H := by
  obtain ⟨B, Ms, x, e, s, a⟩ := c.ex
  refine h σ B Ms Fr H _ (fun _ h => h) e s a fun p vs B2 H2 x2 s2 hp d => k _ _ ?_
  have s3 : Split (upd H2 p (.lst vs)) (B2 :: (Ms ++ (one p (.lst vs) :: Fr))) := (s2.new1 hp (.lst vs)).perm ((List.Perm.swap _ _ _).trans ((List.perm_middle.symm).cons B2))
  obtain ⟨s4, x4, _⟩ := s3.melt
  exact ⟨_, (x.trans x2).trans x4, p, vs, rfl, s4, dpa_mono x4 d⟩
theorem Res.nonL {v : V} (h : Res B0 Fr As (X .non) v H) : RetL K B0 Fr none v H := by
  obtain ⟨B, Ms, x, s, a, q⟩ := h
  obtain ⟨s2, x2, _⟩ := s.melt
  exact ⟨_, x.trans x2, q, s2⟩
theorem e_knotin {P : Params} {a : Addr} {z : Str} {o : Option V} (h1 : E te ρ Fr As (X (.str z))) (h2 : E to ρ Fr As (X (.ref a))) (hd : KdV K P a z o) : E (tKNotIn K P te to) ρ Fr As (X (.bl (!o.isSome))) := fun σ B Ms Gs H Q g e s a0 q =>
  h1 σ B Ms Gs H _ g e s a0 fun y B1 H1 x1 s1 q1 => h2 σ B1 Ms Gs H1 _ g (e.mono x1) s1 (a0.mono x1) fun x B2 H2 x2 s2 q2 => ⟨a, z, o, q2, q1, hd, q _ B2 H2 (x1.trans x2) s2 rfl⟩
theorem e_kix {P : Params} {a : Addr} {z : Str} {v : V} (h2 : E to ρ Fr As (X (.ref a))) (h1 : E te ρ Fr As (X (.str z))) (hd : KdV K P a z (some v)) : E (tKIx K P to te) ρ Fr As (X v) := fun σ B Ms Gs H Q g e s a0 q =>
  h2 σ B Ms Gs H _ g e s a0 fun x B1 H1 x1 s1 q1 => h1 σ B1 Ms Gs H1 _ g (e.mono x1) s1 (a0.mono x1) fun y B2 H2 x2 s2 q2 => ⟨a, z, v, q1, q2, hd, q _ B2 H2 (x1.trans x2) s2 rfl⟩
theorem e_kget1 {P : Params} {a : Addr} {z : Str} {o : Option V} (h2 : E to ρ Fr As (X (.ref a))) (h1 : E te ρ Fr As (X (.str z))) (hd : KdV K P a z o) : E (tKGet1 K P to te) ρ Fr As (X (o.getD .non)) := fun σ B Ms Gs H Q g e s a0 q =>
  h2 σ B Ms Gs H _ g e s a0 fun x B1 H1 x1 s1 q1 => ⟨a, q1, ⟨z, o, hd⟩, h1 σ B1 Ms Gs H1 _ g (e.mono x1) s1 (a0.mono x1) fun y B2 H2 x2 s2 q2 => ⟨z, o, q2, hd, q _ B2 H2 (x1.trans x2) s2 rfl⟩⟩
theorem e_bpost {b b' : Bool} (h : E te ρ Fr As (X (.bl b))) (e : b = b') : E te ρ Fr As (X (.bl b')) := e ▸ h
theorem tp_consts : ∀ (kvs : List (Str × Int)) (σ : L2.St) (H : Hp) (Q : List (V × V) → Hp → Prop), Q (kvs.map fun kv => (V.str kv.1, V.int kv.2)) H → tPairs (kvs.map fun kv => (tC (.str kv.1), tC (.int kv.2))) σ H Q
  | [], _, _, _, h => h
  | kv :: r, σ, H, Q, h => tp_consts r σ H _ h
theorem e_dispGet {kvs : List (Str × Int)} {z : Str} (hl : kvs.length ≤ 15) (h1 : E te ρ Fr As (X (.str z))) :
    E (tDGet1 (tDisp (kvs.map fun kv => (tC (.str kv.1), tC (.int kv.2)))) te) ρ Fr As (X ((valV (mergeK [] (kvs.map fun kv => ((Sum.inr kv.1 : Key), V.int kv.2))) (Sum.inr z)).getD .non)) := fun σ B Ms Gs H Q g e s a0 q => by
  intro p hp
  refine tp_consts kvs σ _ _ ⟨upd_same, kvs.map fun kv => ((Sum.inr kv.1 : Key), V.int kv.2), ?_, by rw [List.length_map]; exact hl, ?_⟩
  · rw [List.map_map]
    rfl
  · have s1 := s.new hp (.dK [])
    have s2 := s1.write upd_same (.dK (mergeK [] (kvs.map fun kv => ((Sum.inr kv.1 : Key), V.int kv.2))))
    have x2 : Ex B (upd (upd B p (.dK [])) p (.dK (mergeK [] (kvs.map fun kv => ((Sum.inr kv.1 : Key), V.int kv.2))))) := fun a o h => by
      have hb : B p = none := s.free hp List.mem_cons_self
      have hne : a ≠ p := fun z => by rw [z, hb] at h; cases h
      rw [upd_ne hne, upd_ne hne]
      exact h
    refine ⟨p, rfl, .inl ⟨_, .inl upd_same⟩, h1 σ _ Ms Gs _ _ g (e.mono x2) s2 (a0.mono x2) fun y B3 H3 x3 s3 q3 => ?_⟩
    have e3 : y = .str z := q3
    subst e3
    exact ⟨_, DGet.k (k := Sum.inr z) (s3.head (x3 _ _ upd_same)), q _ B3 H3 (x2.trans x3) s3 rfl⟩
end
end DL

set_option maxHeartbeats 2000000
namespace DL
open PySem L2 RZ CwR
section
variable {K : PySem.W.Frag} {Fr : List Hp} {As : List Asn} {r0 r r1 r2 : Rdb} {ρ : Rho} {te to tv : TE} {ta : TA} {B0 H : Hp} {σ : L2.St} {D0 : Ends} {tz tu : TS} {g0 : TG}
theorem x_last (h : tSeq tu tNext D0 σ H) : tu D0 σ H := h
theorem x_asgT {js : List Nat} {f : Rho → Rho} (c : Cur B0 Fr As ρ σ H) (h : E te ρ Fr As r) (tg : TgR Fr g0 r js f) (k : ∀ σ1 H1, Cur B0 Fr As (f ρ) σ1 H1 → tz D0 σ1 H1) : tSeq (tAsg te g0) tz D0 σ H := by
  obtain ⟨B, Ms, x, e, s, a⟩ := c.ex
  refine h σ B Ms Fr H _ (fun _ h => h) e s a fun v B2 H2 x2 s2 rv => ?_
  exact tg v B2 H2 σ ρ _ (e.mono x2) (s2.sub B2 List.mem_cons_self) rv fun σ' e' _ => k _ H2 ⟨B2, Ms, x.trans x2, e', s2, a.mono x2⟩
theorem E.cA {d : PyData} (h : E te ρ Fr As (D K d)) : E te ρ Fr As (A K d) := h.conv fun v B Ms _ q => A.dt q
theorem n_tupleT {ds : List PyData} : OpN (rTupleU K) Fr As [D K (.tuple ds)] (D K (.tuple ds)) := fun vs B Ms Gs H Q g s a q1 q => by
  match vs, q1 with
  | [v], ⟨q1, _⟩ =>
    have q1' : Dp K B v (.tuple ds) := q1
    cases q1' with
    | @tup l us _ h1 h2 => exact ⟨l, us, rfl, .inr ⟨sqt_mono (s.sub B List.mem_cons_self) h1, q _ B H (Ex.refl B) s (Dp.tup h1 h2)⟩⟩
/-- a datum, whichever way it is known -/
theorem E.t (h : E te ρ Fr As (T K ds)) : E te ρ Fr As (D K (.list ds)) := h.le (.td ds)
theorem Ret.tt {B : Hp} {Ms : List Hp} {r' : Rdb} {v : V} {H : Hp} (h : Ret B Ms r v H) (e : ∀ v B Ms, r.p v B Ms → r'.p v B Ms) : Ret B Ms r' v H := by
  obtain ⟨B1, x, s, q⟩ := h
  exact ⟨B1, x, s, e _ _ _ q⟩
/-- the usual end: what is told is as promised -/
theorem x_retP (c : Cur B0 Fr As ρ σ H) (h : E te ρ Fr As r) (hr : ∀ v B, r.p v B Fr → r.p v B []) (k : ∀ v H1, Ret B0 Fr r v H1 → D0.rt v H1) : tRet te D0 σ H :=
  x_ret c h fun v H1 q => k v H1 (q.ret fun B z => hr v B z)
theorem hrX {w : V} : ∀ v B, (X w).p v B Fr → (X w).p v B [] := fun _ _ h => h
theorem hrD {d : PyData} : ∀ v B, (D K d).p v B Fr → (D K d).p v B [] := fun _ _ h => by cases d <;> exact h
theorem hrT {ds : List PyData} : ∀ v B, (T K ds).p v B Fr → (T K ds).p v B [] := fun _ _ h => h
end
end DL

set_option maxHeartbeats 2000000
namespace DL
open PySem L2 RZ CwR
section
variable {K : PySem.W.Frag} {Fr : List Hp} {As : List Asn} {r0 r r1 r2 : Rdb} {ρ : Rho} {te to tv tl : TE} {ta : TA} {B0 H : Hp} {σ : L2.St} {D0 : Ends} {tz tu : TS} {g0 : TG}
theorem range_map_cps {α : Type} (z : Str) (g : Nat → α) : ((List.range z.cps.size).filter fun _ => true).map (fun i => g (z.cps.getD i 0)) = z.cps.toList.map g := by
  rw [List.filter_eq_self.mpr (fun _ _ => rfl)]
  apply List.ext_getElem
  · simp
  · intro i h1 h2
    simp at h1
    simp [h1]
theorem all_cps {z : Str} {p : Nat → Bool} (h : ∀ i, i < z.cps.size → p (z.cps.getD i 0) = true) : z.cps.toList.all p = true := by
  rw [List.all_eq_true]
  intro x hx
  obtain ⟨i, hi, e⟩ := List.getElem_of_mem hx
  have hi' : i < z.cps.size := by simpa using hi
  have := h i hi'
  rw [← e]
  simpa [hi'] using this
theorem not_all_cps {z : Str} {p : Nat → Bool} {i : Nat} (hi : i < z.cps.size) (h : p (z.cps.getD i 0) = false) : z.cps.toList.all p = false := by
  rw [List.all_eq_false]
  refine ⟨z.cps.getD i 0, ?_, by rw [h]; exact Bool.false_ne_true⟩
  simp [hi]
/-- [e for sign in a text], truths -/
theorem e_lcSb {z : Str} {f : Nat → Bool} {j : Nat} {vs : List Nat} (h : E tl ρ Fr As (X (.str z))) (hz : z.length ≤ 100000) (hj : j ∈ vs)
    (he : ∀ c ∈ z.cps.toList, E te ((wipeR ρ vs).set j (some (X (.str ⟨#[c]⟩)))) Fr As (X (.bl (f c)))) : E (tLc (iStr tl) (gName j) tYes te vs) ρ Fr As (T K ((z.cps.toList.map f).map .bool)) := by
  have q := e_lcI (K := K) (te := te) (tt := tYes) (fun _ => true) (fun i => PyData.bool (f (z.cps.getD i 0))) (ei_str h) hz (fun i _ => tr_name (j := j) (Fr := Fr)) (vs := vs) (fun a ha => by
    have e : a = j := by simpa using ha
    rw [e]; exact hj) (fun i _ => et_yes) (fun i => X (.bl (f (z.cps.getD i 0)))) (fun i hi _ => he _ (by simp [hi])) (fun i _ => Dt.bl _)
  rw [range_map_cps z fun c => PyData.bool (f c)] at q
  rw [List.map_map]
  exact q
/-- [e for x in a list], truths -/
theorem e_lcLb {α : Type} {enc : α → PyData} {xs : List α} {f : α → Bool} {js vs : List Nat} {g : α → Rho → Rho} (hl : E tl ρ Fr As r) (hr : Rl K As r (xs.map enc)) (hz : xs.length ≤ 100000) (tg : ∀ x, TgOk K Fr g0 (enc x) js (g x)) (hj : ∀ j ∈ js, j ∈ vs)
    (he : ∀ x ∈ xs, E te (g x (wipeR ρ vs)) Fr As (X (.bl (f x)))) : E (tLc (iList K tl) g0 tYes te vs) ρ Fr As (T K ((xs.map f).map .bool)) := by
  have q := e_lc (K := K) enc xs (fun _ => true) (fun x => PyData.bool (f x)) hl hr hz tg hj (fun _ _ => et_yes) (fun x => X (.bl (f x))) (fun x hx _ => he x hx) (fun _ _ => Dt.bl _)
  rw [List.filter_eq_self.mpr (fun _ _ => rfl)] at q
  rw [List.map_map]
  exact q
/-- [e for x in a list] -/
theorem e_lcM {α : Type} {enc : α → PyData} {xs : List α} {g2 : α → PyData} {js vs : List Nat} {g : α → Rho → Rho} (rg : α → Rdb) (hl : E tl ρ Fr As r) (hr : Rl K As r (xs.map enc)) (hz : xs.length ≤ 100000) (tg : ∀ x, TgOk K Fr g0 (enc x) js (g x)) (hj : ∀ j ∈ js, j ∈ vs)
    (he : ∀ x ∈ xs, E te (g x (wipeR ρ vs)) Fr As (rg x)) (hg : ∀ x ∈ xs, Dt K (rg x) (g2 x)) : E (tLc (iList K tl) g0 tYes te vs) ρ Fr As (T K (xs.map g2)) := by
  have q := e_lc (K := K) enc xs (fun _ => true) g2 hl hr hz tg hj (fun _ _ => et_yes) rg (fun x hx _ => he x hx) hg
  rw [List.filter_eq_self.mpr (fun _ _ => rfl)] at q
  exact q
theorem e_lcRM {n : Int} {g2 : Nat → PyData} {j : Nat} {vs : List Nat} (rg : Nat → Rdb) (hl : EA ta ρ Fr As [X (.int n)]) (hn : n ≤ 100000) (hn0 : -100000 ≤ n) (hj : j ∈ vs)
    (he : ∀ i : Nat, (i : Int) < n → E te ((wipeR ρ vs).set j (some (X (.int (i : Int))))) Fr As (rg i)) (hg : ∀ i : Nat, (i : Int) < n → Dt K (rg i) (g2 i)) :
    E (tLc (iRng1 ta) (gName j) tYes te vs) ρ Fr As (T K ((List.range n.toNat).map g2)) := by
  have q := e_lcR (K := K) n (fun _ => true) g2 hl hn hn0 hj (fun _ _ => et_yes) rg (fun i hi _ => he i hi) hg
  rw [List.filter_eq_self.mpr (fun _ _ => rfl)] at q
  exact q
theorem x_ifN {tA : TT} {b : Bool} (c : Cur B0 Fr As ρ σ H) (h : ET tA ρ Fr As b) (h1 : b = true → ∀ H1, Cur B0 Fr As ρ σ H1 → tu { D0 with nx := tz D0 } σ H1) (h2 : b = false → ∀ H1, Cur B0 Fr As ρ σ H1 → tz D0 σ H1) : tSeq (tIfS tA tu tNext) tz D0 σ H :=
  x_if (D0 := { D0 with nx := tz D0 }) c h h1 h2
theorem x_ifA {tA : TT} {b : Bool} {i : Nat} (c : Cur B0 Fr As ρ σ H) (h : ET tA ρ Fr As b) (h1 : b = true → E te ρ Fr As r) (h2 : b = false → ρ[i]? = some (some r)) (k : ∀ σ1 H1, Cur B0 Fr As (ρ.set i (some r)) σ1 H1 → tz D0 σ1 H1) : tSeq (tIfS tA (tAsg te (gName i)) tNext) tz D0 σ H := by
  refine x_if (D0 := { D0 with nx := tz D0 }) c h (fun hb H1 c1 => x_asg1 c1 (h1 hb) fun σ2 H2 c2 => k σ2 H2 c2) (fun hb H1 c1 => ?_)
  have e : ρ.set i (some r) = ρ := by
    have q := h2 hb
    obtain ⟨hi, q⟩ := List.getElem?_eq_some_iff.mp q
    rw [← q]
    exact List.set_getElem_self hi
  have c2 : Cur B0 Fr As (ρ.set i (some r)) σ H1 := by rw [e]; exact c1
  exact k σ H1 c2
/-- a part of several ways, met again behind it -/
theorem x_join {As' : List Asn} {ρ' : Rho} (h : ∀ (N : L2.St → Hp → Prop), (∀ σ1 H1, Cur B0 Fr As' ρ' σ1 H1 → N σ1 H1) → tu { D0 with nx := N } σ H) (k : ∀ σ1 H1, Cur B0 Fr As' ρ' σ1 H1 → tz D0 σ1 H1) : tSeq tu tz D0 σ H := h _ k
theorem Cur.drop (c : Cur B0 Fr As ρ σ H) (i : Nat) : Cur B0 Fr As (ρ.set i none) σ H := c.weak fun _ e => e.drop i
theorem sz {n : Nat} (h : n ≤ 100000) : n ≤ sizeLine := Nat.le_trans h (by decide)
theorem o_isX {v : V} : Op2 rIsNU Fr As (X v) (X .non) (X (.bl (decide (v = .non)))) := fun x y B Ms Gs H Q g s a q1 q2 q => by
  have e : x = v := q1
  subst e
  exact ⟨dp_none q2, q _ B H (Ex.refl B) s rfl⟩
theorem o_notX {v : V} : Op2 rNotNU Fr As (X v) (X .non) (X (.bl (!decide (v = .non)))) := fun x y B Ms Gs H Q g s a q1 q2 q => by
  have e : x = v := q1
  subst e
  exact ⟨dp_none q2, q _ B H (Ex.refl B) s rfl⟩
theorem n_isStr {z : Str} : OpN (rIsi K) Fr As [X (.str z), X (.ty "str")] (X (.bl true)) := n_isiS (by decide +kernel)
theorem E.bl {b b' : Bool} (h : E te ρ Fr As (X (.bl b))) (e : b = b') : E te ρ Fr As (X (.bl b')) := e ▸ h
theorem E.st {b b' : Str} (h : E te ρ Fr As (X (.str b))) (e : b = b') : E te ρ Fr As (X (.str b')) := e ▸ h
theorem E.it {b b' : Int} (h : E te ρ Fr As (X (.int b))) (e : b = b') : E te ρ Fr As (X (.int b')) := e ▸ h
theorem E.dd {b b' : PyData} (h : E te ρ Fr As (D K b)) (e : b = b') : E te ρ Fr As (D K b') := e ▸ h
end
end DL

set_option maxHeartbeats 2000000
namespace DL
open PySem PySem.Spec PyProof.Rows L2
theorem dic_es {K : PySem.W.Frag} {P : Params} {a : Addr} {ks : List Str} (h : He.dicW K a = some (He.keysIn P ks)) : ∃ es n, K.lookup a = some ⟨.type "dict", none, .dict es n, #[]⟩ ∧ es.toList.map He.keyOf = He.keysIn P ks ∧ (a == sysModules) = false := by
  unfold He.dicW at h
  cases q : K.lookup a with
  | none => rw [q] at h; cases h
  | some o =>
    obtain ⟨oc, od, dt, osl⟩ := o
    rw [q] at h
    cases oc with
    | type c =>
      cases od with
      | none =>
        cases dt with
        | dict es n =>
          have h1 : (match decide (c = "dict") && (osl.isEmpty && !(a == sysModules)) with
            | true => some (es.toList.map He.keyOf)
            | false => none) = some (He.keysIn P ks) := h
          cases z : decide (c = "dict") && (osl.isEmpty && !(a == sysModules)) with
          | false => rw [z] at h1; cases h1
          | true =>
            rw [z] at h1
            obtain ⟨z1, z2⟩ := He.ba z
            obtain ⟨z3, z4⟩ := He.ba z2
            have e1 : c = "dict" := of_decide_eq_true z1
            have e2 : osl = #[] := Array.isEmpty_iff.mp z3
            have e3 : (a == sysModules) = false := by
              cases y : a == sysModules with
              | false => rfl
              | true => rw [y] at z4; cases z4
            subst e1 e2
            exact ⟨es, n, rfl, Option.some.inj h1, e3⟩
        | _ => cases h
      | some b => cases dt <;> cases h
    | _ => cases od <;> cases dt <;> cases h
theorem find_no {P : Params} {z : Str} : ∀ {l : List DictEntry} {ks : List Str}, l.map He.keyOf = He.keysIn P ks → z ∉ ks → l.find? (fun e => e.key.isStr z) = none ∧ l.any (·.refKey) = false
  | [], _, _, _ => ⟨rfl, rfl⟩
  | e :: r, [], h, _ => by cases h
  | e :: r, k :: ks, h, hz => by
    have h1 : He.keyOf e :: r.map He.keyOf = some (k, PyData.keyHash P k) :: He.keysIn P ks := h
    injection h1 with h2 h3
    obtain ⟨i1, i2⟩ := find_no h3 fun m => hz (List.mem_cons_of_mem _ m)
    unfold He.keyOf at h2
    split at h2
    · rename_i x t q
      have h4 := Option.some.inj h2
      obtain ⟨h5, h6⟩ := Prod.mk.inj h4
      subst h5
      have hne : ¬ x = z := fun e => hz (by rw [e]; exact List.mem_cons_self)
      refine ⟨?_, ?_⟩
      · rw [List.find?_cons, q]
        have e1 : (Value.str x t).isStr z = false := by
          show (x == z) = false
          exact beq_eq_false_iff_ne.mpr hne
        rw [e1]
        exact i1
      · rw [List.any_cons, i2, Bool.or_false]
        unfold DictEntry.refKey
        rw [q]
    · cases h2
/-- a key that isn't there -/
theorem kd_none {K : PySem.W.Frag} {P : Params} {a : Addr} {ks : List Str} {z : Str} (h : He.dicW K a = some (He.keysIn P ks)) (hz : z ∉ ks) : KdV K P a z none := by
  obtain ⟨es, n, h1, h2, h3⟩ := dic_es h
  refine ⟨es, n, none, h1, He.keysLit_of h2, h3, ?_, trivial⟩
  obtain ⟨i1, i2⟩ := find_no h2 hz
  unfold PySem.W.nsIn
  rw [h1]
  dsimp only
  rw [i1]
  dsimp only
  rw [i2]
  rfl
/-- a key that is there -/
theorem kd_some {K : PySem.W.Frag} {P : Params} {a : Addr} {ks : List Str} {kvs : List (Str × He.Dv)} {q : Str × He.Dv} (h : He.dicW K a = some (He.keysIn P ks)) (hv : He.valsB K a kvs = true) (hq : q ∈ kvs) : KdV K P a q.1 (some (q.2.v K)) := by
  obtain ⟨es, n, h1, h2, h3⟩ := dic_es h
  obtain ⟨u, h4, h5⟩ := He.valsB_ok hv hq
  exact ⟨es, n, some u, h1, He.keysLit_of h2, h3, h4, h5⟩
/-- the heap at a law's start, in one part -/
theorem split_one (H : Hp) : Split H [H] := ⟨fun P hP => by
  have e : P = H := by simpa using hP
  rw [e]; exact Ex.refl H, fun a o e => ⟨H, by simp, e⟩, List.pairwise_singleton _ _⟩
end DL

set_option maxHeartbeats 4000000
namespace TG
open PySem L2 DL
structure Ad where
  STRENGTHS : Addr
  pr : Params
abbrev sg (s : Str) : List Nat := s.cps.toList
abbrev letters : Str := "abcdefghijklmnopqrstuvwxyz"
abbrev figures : Str := "0123456789"
def strOf (z : Str) : Option Int := if z = "0" then some 0 else if z = "1" then some 1 else if z = "2" then some 2 else none
structure Cs (K : PySem.W.Frag) (A : Ad) : Prop where
  st : ∀ z, KdV K A.pr A.STRENGTHS z ((strOf z).map .int)
def isName (s : Str) : Bool := (decide (1 ≤ s.length) && decide (s.length ≤ 8)) && (sg s).all fun c => decide (c ∈ sg letters)
def readNames (w : Str) : Option (List Str) := if w = "-" then some [] else if (Txt.split w ",").all isName then some (Txt.split w ",") else none
def isWritten (w : Str) : Bool := (decide (1 ≤ w.length) && decide (w.length ≤ 60) && !(decide ((⟨#[(sg w).getD 0 0]⟩ : Str) = "0") && decide (1 < w.length))) && (sg w).all fun c => decide (c ∈ sg figures)
def figs (w : Str) : Str := if cutS w none (some 1) = "-" then cutS w (some 1) none else w
def readWhole (w : Str) : Option Int := if !isWritten (figs w) || decide (w = "-0") then none else PySem.intText? w
def readTurn (w : Str) : Option (Str × List Str) :=
  match readNames (Txt.partition w ":").2.2 with
  | none => none
  | some ns => if isName (Txt.partition w ":").1 then some ((Txt.partition w ":").1, ns) else none
def readFact (w : Str) : Option (Str × Str × Option Int) :=
  let p := Txt.partition w "="
  let q := Txt.partition p.1 "."
  if isName q.1 && isName q.2.2 && ((strOf p.2.2).isSome || decide (p.2.2 = "?")) then some (q.1, q.2.2, strOf p.2.2) else none
def readPaper (w : Str) : Option (List Str × Option Str × Int) :=
  let p := Txt.partition w ">"
  let q := Txt.partition p.2.2 "="
  match readNames p.1, strOf q.2.2 with
  | some ns, some z => if q.1 = "-" then some (ns, none, z) else if isName q.1 then some (ns, some q.1, z) else none
  | _, _ => none
def showNames (ns : List Str) : Str := if ns.length = 0 then "-" else Txt.join "," ns
def showPaper (p : List Str × Option Str × Int) : Str := showNames p.1 ++ ">" ++ p.2.1.getD "-" ++ "=" ++ (toString p.2.2 : String)
abbrev eS (s : Str) : PyData := .str s
abbrev eRow (r : List Str) : PyData := .list (r.map .str)
abbrev oI : Option Int → PyData
  | none => .none
  | some i => .int i
abbrev oS : Option Str → PyData
  | none => .none
  | some s => .str s
abbrev oRow : Option (List Str) → PyData
  | none => .none
  | some s => eRow s
abbrev oTurn : Option (Str × List Str) → PyData
  | none => .none
  | some t => .tuple [.str t.1, eRow t.2]
abbrev oFact : Option (Str × Str × Option Int) → PyData
  | none => .none
  | some t => .tuple [.str t.1, .str t.2.1, oI t.2.2]
abbrev ePaper (t : List Str × Option Str × Int) : PyData := .tuple [.tuple (t.1.map .str), oS t.2.1, .int t.2.2]
abbrev oPaper : Option (List Str × Option Str × Int) → PyData
  | none => .none
  | some t => ePaper t
def told (w : Str) : List PyData := [oRow (readNames w), oI (readWhole w), oTurn (readTurn w), oFact (readFact w), oPaper (readPaper w)]
mutual
inductive Kd : Nat → PyData → Prop
  | non {n : Nat} : Kd (n + 1) .none
  | int {n : Nat} (i : Int) : Kd (n + 1) (.int i)
  | str {n : Nat} (s : Str) : Kd (n + 1) (.str s)
  | lst {n : Nat} {ds : List PyData} (hl : ds.length ≤ 40000) (h : KdAll n ds) : Kd (n + 1) (.list ds)
  | tup {n : Nat} {ds : List PyData} (hl : ds.length ≤ 40000) (h : KdAll n ds) : Kd (n + 1) (.tuple ds)
inductive KdAll : Nat → List PyData → Prop
  | nil {n : Nat} : KdAll n []
  | cons {n : Nat} {d : PyData} {ds : List PyData} (h : Kd n d) (t : KdAll n ds) : KdAll n (d :: ds)
end
theorem KdAll.at : ∀ {n : Nat} {ds : List PyData} {i : Nat}, KdAll n ds → i < ds.length → Kd n (ds.getD i .none)
  | _, d :: ds, 0, .cons h _, _ => h
  | _, d :: ds, i + 1, .cons _ t, hi => by
    rw [List.getD_cons_succ]
    exact KdAll.at t (by simpa using hi)
def turnsL : List Int := [48271, 69621, 40692, 39373, 16807, 30323, 21403, 62089, 45742, 37907, 53611, 28411, 59393, 33391]
def rest840 (c : Int) : Nat → Int
  | 0 => c
  | n + 1 => rest840 c n / 840
def mix (c t m : Int) : Int :=
  if c % 2 = 1 ∧ 10 ^ 18 < c then rest840 (c / 2) t.toNat % 840 % m
  else
    let one := (c % 1000000007 + 11) * turnsL.getD (t % 14).toNat 0 % 2147483629
    let two := one * (one + t) % 1999999973
    two * 16807 % 998244353 / 1000 % m
theorem mix_nn {c t m : Int} (h : 0 < m) : 0 ≤ mix c t m := by
  unfold mix
  split
  · exact Int.emod_nonneg _ (by omega)
  · exact Int.emod_nonneg _ (by omega)
theorem mix_lt {c t m : Int} (h : 0 < m) : mix c t m < m := by
  unfold mix
  split
  · exact Int.emod_lt_of_pos _ h
  · exact Int.emod_lt_of_pos _ h
def letter (i : Int) : Str := ⟨#[(sg letters).getD i.toNat 0]⟩
def baseL (c : Int) : List Int := (List.range 8).map fun (k : Nat) => mix c (k : Int) 26
def size (c : Int) : Int := 1 + mix c 8 8
def atP (c : Int) : Int := mix c 9 (size c)
def nmTo (c : Int) (k : Nat) : Nat → Str
  | 0 => ""
  | j + 1 => nmTo c k j ++ letter (((baseL c).getD j 0 + (k : Int) * (if (j : Int) = atP c then 1 else 0)) % 26)
def nm (c many : Int) (k : Nat) : Str := if mix c 10 4 = 1 ∧ many < 9 then Txt.join "" (((baseL c).take (k + 1)).map letter) else nmTo c k (size c).toNat
def names (c many : Int) : List Str :=
  let l := (List.range many.toNat).map (nm c many)
  l.drop (mix c 11 many).toNat ++ l.take (mix c 11 many).toNat
def someW (c : Int) : Str :=
  let s := Txt.join "," ((names c 6).take (mix c 12 6).toNat)
  if s = "" then "-" else s
def far (c : Int) : Int := [10, 1000, 10 ^ 30, 10 ^ 60].getD (mix c 13 4).toNat 0
def num (c : Int) : Int := [c / 2 % far c, 0, far c - 1, c * 982451653 ^ 7 % far c].getD (mix c 14 4).toNat 0
def words (c : Int) : List Str :=
  let ns := names c 6
  let some := someW c
  let sign : Str := if mix c 15 2 = 1 ∧ 0 < num c then "-" else ""
  let size : Str := ⟨#[(sg "012?").getD (mix c 16 4).toNat 0]⟩
  let found : Str := [ns.getD 5 "", ns.getD 5 "", ns.getD 5 "", "-"].getD (mix c 17 4).toNat ""
  [some, sign ++ (toString (num c) : String), ns.getD 4 "" ++ ":" ++ some, ns.getD 3 "" ++ "." ++ ns.getD 2 "" ++ "=" ++ size,
   some ++ ">" ++ found ++ "=" ++ ⟨#[(sg "012").getD (mix c 18 3).toNat 0]⟩]
def spoilt (w : Str) (c t : Int) : List Str :=
  let signs : Str := "a0A9-,.:=>?+ 12_<;/\n\t~!`{"
  let sign : Str := ⟨#[(sg signs).getD (mix c t 25).toNat 0]⟩
  let at_ := mix c (t + 1) w.length
  [cutS w none (some at_) ++ sign ++ cutS w (some at_) none, cutS w none (some at_) ++ sign ++ cutS w (some (at_ + 1)) none, cutS w none (some at_) ++ cutS w (some (at_ + 1)) none, w ++ sign,
   sign ++ w, w ++ w, w ++ "," ++ w, "0" ++ w]
section
abbrev sp_is_name (K : PySem.W.Frag) (A : Ad) : Sp := PSp (fun s : Str => [X (.str s)]) (fun s => s.length ≤ 40000) (fun s => X (.bl (isName s)))
abbrev sp_read_row (K : PySem.W.Frag) (A : Ad) : Sp := PSp (fun s : Str => [X (.str s)]) (fun s => s.length ≤ 40000) (fun s => D K (.tuple ((Txt.split s " ").map .str)))
abbrev sp_read_names (K : PySem.W.Frag) (A : Ad) : Sp := PSo K (fun s : Str => [X (.str s)]) (fun s => s.length ≤ 40000) (fun s => (readNames s).map (·.map .str))
abbrev sp_is_written (K : PySem.W.Frag) (A : Ad) : Sp := PSp (fun s : Str => [X (.str s)]) (fun s => s.length ≤ 40000) (fun s => X (.bl (isWritten s)))
abbrev sp_read_whole (K : PySem.W.Frag) (A : Ad) : Sp := PSp (fun s : Str => [X (.str s)]) (fun s => s.length ≤ 40000) (fun s => D K (oI (readWhole s)))
abbrev sp_read_turn (K : PySem.W.Frag) (A : Ad) : Sp := PSp (fun s : Str => [X (.str s)]) (fun s => s.length ≤ 40000) (fun s => D K (oTurn (readTurn s)))
abbrev sp_read_fact (K : PySem.W.Frag) (A : Ad) : Sp := PSp (fun s : Str => [X (.str s)]) (fun s => s.length ≤ 40000) (fun s => D K (oFact (readFact s)))
abbrev sp_read_paper (K : PySem.W.Frag) (A : Ad) : Sp := PSp (fun s : Str => [X (.str s)]) (fun s => s.length ≤ 40000) (fun s => D K (oPaper (readPaper s)))
abbrev sp_show_names (K : PySem.W.Frag) (A : Ad) : Sp := PSp (fun x : Bool × List Str => [if x.1 then W K (x.2.map .str) else D K (.tuple (x.2.map .str))]) (fun x => (x.2.map (·.length)).sum + x.2.length ≤ 1000000) (fun x => X (.str (showNames x.2)))
abbrev sp_show_paper (K : PySem.W.Frag) (A : Ad) : Sp := PSp (fun x : List Str × Option Str × Int => [D K (ePaper x)]) (fun x => (x.1.map (·.length)).sum + x.1.length ≤ 1000000 ∧ (x.2.1.getD "-").length ≤ 1000000 ∧ 0 ≤ x.2.2 ∧ x.2.2 ≤ 2) (fun x => X (.str (showPaper x)))
abbrev sp_law_mix (K : PySem.W.Frag) (A : Ad) : Sp := PSp (fun x : Int × Int × Int => [X (.int x.1), X (.int x.2.1), X (.int x.2.2)]) (fun x => 0 ≤ x.2.1 ∧ x.2.1 ≤ 1000 ∧ 0 < x.2.2) (fun x => X (.int (mix x.1 x.2.1 x.2.2)))
abbrev sp_law_names (K : PySem.W.Frag) (A : Ad) : Sp := PSp (fun x : Int × Int => [X (.int x.1), X (.int x.2)]) (fun x => 1 ≤ x.2 ∧ x.2 ≤ 20) (fun x => T K ((names x.1 x.2).map .str))
abbrev sp_law_is_name (K : PySem.W.Frag) (A : Ad) : Sp := PSp (fun s : Str => [X (.str s)]) (fun s => s.length ≤ 40000) (fun s => X (.bl (isName s)))
abbrev sp_law_listed (K : PySem.W.Frag) (A : Ad) : Sp := PSp (fun s : Str => [X (.str s)]) (fun s => s.length ≤ 40000) (fun s => D K (oRow (readNames s)))
abbrev sp_law_number (K : PySem.W.Frag) (A : Ad) : Sp := PSp (fun s : Str => [X (.str s)]) (fun s => s.length ≤ 40000) (fun s => D K (oI (readWhole s)))
abbrev sp_law_read (K : PySem.W.Frag) (A : Ad) : Sp := PSp (fun s : Str => [X (.str s)]) (fun s => s.length ≤ 40000) (fun s => T K (told s))
def sp_law_alikeN : Nat → PySem.W.Frag → Ad → Sp
  | 0, _, _ => fun vs _ _ _ => False
  | n + 1, K, _ => PSp (fun d : PyData => [DL.A K d, DL.A K d]) (fun d => Kd (n + 1) d) (fun _ => X (.bl true))
abbrev sp_law_alike (K : PySem.W.Frag) (A : Ad) : Sp := sp_law_alikeN 4 K A
abbrev sp_law_right (K : PySem.W.Frag) (A : Ad) : Sp := PSp (fun s : Str => [X (.str s)]) (fun s => s.length ≤ 10000) (fun s => X (.bl true))
abbrev sp_law_words (K : PySem.W.Frag) (A : Ad) : Sp := PSp (fun c : Int => [X (.int c)]) (fun c => Builtin.Int.intBits c ≤ 1048576) (fun c => T K ((words c).map .str))
abbrev sp_law_spoilt (K : PySem.W.Frag) (A : Ad) : Sp := PSp (fun x : Str × Int × Int => [X (.str x.1), X (.int x.2.1), X (.int x.2.2)]) (fun x => 1 ≤ x.1.length ∧ x.1.length ≤ 1000 ∧ 0 ≤ x.2.2 ∧ x.2.2 ≤ 100) (fun x => T K ((spoilt x.1 x.2.1 x.2.2).map .str))
abbrev sp_law_rows (K : PySem.W.Frag) (A : Ad) : Sp := PSp (fun x : Int × List Str => [X (.int x.1), W K (x.2.map .str)]) (fun x => x.2.length ≤ 1000 ∧ ∀ s ∈ x.2, s.length ≤ 1000) (fun x => X (.bl true))
abbrev sp_law_main (K : PySem.W.Frag) (A : Ad) : Sp := PSp (fun ns : List Int => [W K (ns.map .int)]) (fun ns => ns.length ≤ 1000 ∧ ∀ i ∈ ns, Builtin.Int.intBits i ≤ 1048576) (fun _ => X (.bl true))
end
end TG
namespace TG
open PySem L2 DL
/-- a list of five, the first of them a list of one's own (or None) -/
def RetT (K : PySem.W.Frag) (B0 : Hp) (Fr : List Hp) (w : Str) (v : V) (H : Hp) : Prop := ∃ B l v0 vs, Ex B0 B ∧ v = .ref l ∧ B l = some (.lst (v0 :: vs)) ∧ DpAll K B vs [oI (readWhole w), oTurn (readTurn w), oFact (readFact w), oPaper (readPaper w)] ∧
  match readNames w with
  | none => v0 = .non ∧ Split H (B :: Fr)
  | some ns => ∃ q, v0 = .ref q ∧ Split H (B :: one q (.lst (ns.map .str)) :: Fr)
abbrev sp_law_told (K : PySem.W.Frag) (A : Ad) : Sp := fun vs H Q _ => ∃ (w : Str) (B : Hp) (Ms : List Hp), Split H (B :: Ms) ∧ RepsP B Ms vs [X (.str w)] ∧ w.length ≤ 40000 ∧ ∀ v H2, RetT K B Ms w v H2 → Q v H2
end TG

namespace TG
open PySem L2 DL CwR RZ
def n_is_name : List Str := ["thing", "sign"]
def t_is_name (K : PySem.W.Frag) (A : Ad) (E : XK) : TS :=
  (tSeq (tIfS (tOr (tNot (tB (tCB (rIsi K) (tCons (tVar 0) (tCons (tC (.ty "str")) tNil))))) (tNot (tTest (tChain rLeU rLeU (tC (.int 1)) (tCB (rLenU K) (tCons (tVar 0) tNil)) (tC (.int 8))))))
  (tRet (tC (.bl false)))
  tNext)
  (tSeq (tFor (iStr (tVar 0)) (gName 1)
  (tIfS (tTest (tOp (rNotInU K) (tVar 1) (tC (.str "abcdefghijklmnopqrstuvwxyz"))))
  (tRet (tC (.bl false)))
  tNext))
  (tRet (tC (.bl true)))))

def n_read_row : List Str := ["text"]
def t_read_row (K : PySem.W.Frag) (A : Ad) (E : XK) : TS :=
  (tRet (tCB (rTupleU K) (tCons (tM1 rSplit (tVar 0) (tC (.str " "))) tNil)))

def n_read_names : List Str := ["word", "names", "name"]
def t_read_names (K : PySem.W.Frag) (A : Ad) (E : XK) : TS :=
  (tSeq (tIfS (tTest (tOp (rEqU K) (tVar 0) (tC (.str "-"))))
  (tRet (tLst tNil))
  tNext)
  (tSeq (tAsg (tM1 rSplit (tVar 0) (tC (.str ","))) (gName 1))
  (tSeq (tIfS (tNot (tB (tCB (rAll K) (tCons (tLc (iList K (tVar 1)) (gName 2) tYes (kCall (sp_is_name K A) [] W0 (tCons (tVar 2) tNil)) [2]) tNil))))
  (tRet (tC .non))
  tNext)
  (tRet (tVar 1)))))

def n_is_written : List Str := ["word", "sign"]
def t_is_written (K : PySem.W.Frag) (A : Ad) (E : XK) : TS :=
  (tSeq (tIfS (tOr (tNot (tTest (tChain rLeU rLeU (tC (.int 1)) (tCB (rLenU K) (tCons (tVar 0) tNil)) (tC (.int 60))))) (tAnd (tTest (tOp (rEqU K) (tOp (rIx K) (tVar 0) (tC (.int 0))) (tC (.str "0")))) (tTest (tOp rGtU (tCB (rLenU K) (tCons (tVar 0) tNil)) (tC (.int 1))))))
  (tRet (tC (.bl false)))
  tNext)
  (tRet (tCB (rAll K) (tCons (tLc (iStr (tVar 0)) (gName 1) tYes (tOp (rInU K) (tVar 1) (tC (.str "0123456789"))) [1]) tNil))))

def n_read_whole : List Str := ["word", "figures"]
def t_read_whole (K : PySem.W.Frag) (A : Ad) (E : XK) : TS :=
  (tSeq (tAsg (tVar 0) (gName 1))
  (tSeq (tIfS (tTest (tOp (rEqU K) (tSl (rSlU K) (tVar 0) tNoPart (tPart (tC (.int 1)))) (tC (.str "-"))))
  (tAsg (tSl (rSlU K) (tVar 0) (tPart (tC (.int 1))) tNoPart) (gName 1))
  tNext)
  (tSeq (tIfS (tOr (tNot (tB (kCall (sp_is_written K A) [] W0 (tCons (tVar 1) tNil)))) (tTest (tOp (rEqU K) (tVar 0) (tC (.str "-0")))))
  (tRet (tC .non))
  tNext)
  (tRet (tCB rIntS (tCons (tVar 0) tNil))))))

def n_read_turn : List Str := ["word", "name", "mark", "rest", "names"]
def t_read_turn (K : PySem.W.Frag) (A : Ad) (E : XK) : TS :=
  (tSeq (tAsg (tM1 rPart (tVar 0) (tC (.str ":"))) (gTup K 3 (gCons (gName 1) (gCons (gName 2) (gCons (gName 3) gNil)))))
  (tSeq (tAsg (kCall (sp_read_names K A) [] W0 (tCons (tVar 3) tNil)) (gName 4))
  (tSeq (tIfS (tOr (tNot (tB (kCall (sp_is_name K A) [] W0 (tCons (tVar 1) tNil)))) (tTest (tOp rIsNU (tVar 4) (tC .non))))
  (tRet (tC .non))
  tNext)
  (tRet (tTup (tCons (tVar 1) (tCons (tVar 4) tNil)))))))

def n_read_fact : List Str := ["word", "both", "mark", "size", "kind", "point", "about"]
def t_read_fact (K : PySem.W.Frag) (A : Ad) (E : XK) : TS :=
  (tSeq (tAsg (tM1 rPart (tVar 0) (tC (.str "="))) (gTup K 3 (gCons (gName 1) (gCons (gName 2) (gCons (gName 3) gNil)))))
  (tSeq (tAsg (tM1 rPart (tVar 1) (tC (.str "."))) (gTup K 3 (gCons (gName 4) (gCons (gName 5) (gCons (gName 6) gNil)))))
  (tSeq (tIfS (tOr (tNot (tB (kCall (sp_is_name K A) [] W0 (tCons (tVar 4) tNil)))) (tOr (tNot (tB (kCall (sp_is_name K A) [] W0 (tCons (tVar 6) tNil)))) (tAnd (tB (tKNotIn K A.pr (tVar 3) (tC (.ref A.STRENGTHS)))) (tTest (tOp (rNeU K) (tVar 3) (tC (.str "?")))))))
  (tRet (tC .non))
  tNext)
  (tRet (tTup (tCons (tVar 4) (tCons (tVar 6) (tCons (tKGet1 K A.pr (tC (.ref A.STRENGTHS)) (tVar 3)) tNil))))))))

def n_read_paper : List Str := ["word", "ahead", "mark", "behind", "found", "sign", "size", "passed"]
def t_read_paper (K : PySem.W.Frag) (A : Ad) (E : XK) : TS :=
  (tSeq (tAsg (tM1 rPart (tVar 0) (tC (.str ">"))) (gTup K 3 (gCons (gName 1) (gCons (gName 2) (gCons (gName 3) gNil)))))
  (tSeq (tAsg (tM1 rPart (tVar 3) (tC (.str "="))) (gTup K 3 (gCons (gName 4) (gCons (gName 5) (gCons (gName 6) gNil)))))
  (tSeq (tAsg (kCall (sp_read_names K A) [] W0 (tCons (tVar 1) tNil)) (gName 7))
  (tSeq (tIfS (tOr (tTest (tOp rIsNU (tVar 7) (tC .non))) (tOr (tAnd (tTest (tOp (rNeU K) (tVar 4) (tC (.str "-")))) (tNot (tB (kCall (sp_is_name K A) [] W0 (tCons (tVar 4) tNil))))) (tB (tKNotIn K A.pr (tVar 6) (tC (.ref A.STRENGTHS))))))
  (tRet (tC .non))
  tNext)
  (tSeq (tIfS (tTest (tOp (rEqU K) (tVar 4) (tC (.str "-"))))
  (tRet (tTup (tCons (tCB (rTupleU K) (tCons (tVar 7) tNil)) (tCons (tC .non) (tCons (tKIx K A.pr (tC (.ref A.STRENGTHS)) (tVar 6)) tNil)))))
  tNext)
  (tRet (tTup (tCons (tCB (rTupleU K) (tCons (tVar 7) tNil)) (tCons (tVar 4) (tCons (tKIx K A.pr (tC (.ref A.STRENGTHS)) (tVar 6)) tNil))))))))))

def n_show_names : List Str := ["names"]
def t_show_names (K : PySem.W.Frag) (A : Ad) (E : XK) : TS :=
  (tSeq (tIfS (tTest (tOp (rEqU K) (tCB (rLenU K) (tCons (tVar 0) tNil)) (tC (.int 0))))
  (tRet (tC (.str "-")))
  tNext)
  (tRet (tM1 (rJoin K) (tC (.str ",")) (tVar 0))))

def n_show_paper : List Str := ["paper", "passed", "found", "size"]
def t_show_paper (K : PySem.W.Frag) (A : Ad) (E : XK) : TS :=
  (tSeq (tAsg (tVar 0) (gTup K 3 (gCons (gName 1) (gCons (gName 2) (gCons (gName 3) gNil)))))
  (tSeq (tIfS (tTest (tOp rIsNU (tVar 2) (tC .non)))
  (tAsg (tC (.str "-")) (gName 2))
  tNext)
  (tRet (tOp rAddU (tOp rAddU (tOp rAddU (tOp rAddU (kCall (sp_show_names K A) [] W0 (tCons (tVar 1) tNil)) (tC (.str ">"))) (tVar 2)) (tC (.str "="))) (tCB rStrI (tCons (tVar 3) tNil))))))

def n_law_mix : List Str := ["_law_cell_here", "_law_turn", "_law_many", "_law_rest", "_law_k", "_law_turns", "_law_one", "_law_two"]
def t_law_mix (K : PySem.W.Frag) (A : Ad) (E : XK) : TS :=
  (tSeq (tAsg (tOp rDivU (tVar 0) (tC (.int 2))) (gName 3))
  (tSeq (tIfS (tAnd (tTest (tOp (rEqU K) (tOp rModU (tVar 0) (tC (.int 2))) (tC (.int 1)))) (tTest (tOp rGtU (tVar 0) (tOp rPowU (tC (.int 10)) (tC (.int 18))))))
  (tSeq (tFor (iRng1 (tCons (tVar 1) tNil)) (gName 4)
  (tAsg (tOp rDivU (tVar 3) (tC (.int 840))) (gName 3)))
  (tRet (tOp rModU (tOp rModU (tVar 3) (tC (.int 840))) (tVar 2))))
  tNext)
  (tSeq (tAsg (tLst (tCons (tC (.int 48271)) (tCons (tC (.int 69621)) (tCons (tC (.int 40692)) (tCons (tC (.int 39373)) (tCons (tC (.int 16807)) (tCons (tC (.int 30323)) (tCons (tC (.int 21403)) (tCons (tC (.int 62089)) (tCons (tC (.int 45742)) (tCons (tC (.int 37907)) (tCons (tC (.int 53611)) (tCons (tC (.int 28411)) (tCons (tC (.int 59393)) (tCons (tC (.int 33391)) tNil))))))))))))))) (gName 5))
  (tSeq (tAsg (tOp rModU (tOp rMulU (tOp rAddU (tOp rModU (tVar 0) (tC (.int 1000000007))) (tC (.int 11))) (tOp (rIx K) (tVar 5) (tOp rModU (tVar 1) (tC (.int 14))))) (tC (.int 2147483629))) (gName 6))
  (tSeq (tAsg (tOp rModU (tOp rMulU (tVar 6) (tOp rAddU (tVar 6) (tVar 1))) (tC (.int 1999999973))) (gName 7))
  (tRet (tOp rModU (tOp rDivU (tOp rModU (tOp rMulU (tVar 7) (tC (.int 16807))) (tC (.int 998244353))) (tC (.int 1000))) (tVar 2))))))))

def n_law_names : List Str := ["_law_cell_here", "_law_many", "_law_letters", "_law_base", "_law_k", "_law_size", "_law_at", "_law_names_here", "_law_name", "_law_j", "_law_one", "_law_turn"]
def t_law_names (K : PySem.W.Frag) (A : Ad) (E : XK) : TS :=
  (tSeq (tAsg (tC (.str "abcdefghijklmnopqrstuvwxyz")) (gName 2))
  (tSeq (tAsg (tLc (iRng1 (tCons (tC (.int 8)) tNil)) (gName 4) tYes (kCall (sp_law_mix K A) [] W0 (tCons (tVar 0) (tCons (tVar 4) (tCons (tC (.int 26)) tNil)))) [4]) (gName 3))
  (tSeq (tAsg (tOp rAddU (tC (.int 1)) (kCall (sp_law_mix K A) [] W0 (tCons (tVar 0) (tCons (tC (.int 8)) (tCons (tC (.int 8)) tNil))))) (gName 5))
  (tSeq (tAsg (kCall (sp_law_mix K A) [] W0 (tCons (tVar 0) (tCons (tC (.int 9)) (tCons (tVar 5) tNil)))) (gName 6))
  (tSeq (tAsg (tLst tNil) (gName 7))
  (tSeq (tFor (iRng1 (tCons (tVar 1) tNil)) (gName 4)
  (tSeq (tAsg (tC (.str "")) (gName 8))
  (tSeq (tFor (iRng1 (tCons (tVar 5) tNil)) (gName 9)
  (tAsg (tOp rAddU (tVar 8) (tOp (rIx K) (tVar 2) (tOp rModU (tOp rAddU (tOp (rIx K) (tVar 3) (tVar 9)) (tOp rMulU (tVar 4) (tCB rIntU (tCons (tOp (rEqU K) (tVar 9) (tVar 6)) tNil)))) (tC (.int 26))))) (gName 8)))
  (tSeq (tIfS (tAnd (tTest (tOp (rEqU K) (kCall (sp_law_mix K A) [] W0 (tCons (tVar 0) (tCons (tC (.int 10)) (tCons (tC (.int 4)) tNil)))) (tC (.int 1)))) (tTest (tOp rLtU (tVar 1) (tC (.int 9)))))
  (tAsg (tM1 (rJoin K) (tC (.str "")) (tLc (iList K (tSl (rSlU K) (tVar 3) tNoPart (tPart (tOp rAddU (tVar 4) (tC (.int 1)))))) (gName 10) tYes (tOp (rIx K) (tVar 2) (tVar 10)) [10])) (gName 8))
  tNext)
  (tDrop (tBM K "list" rAppend (tVar 7) (tCons (tVar 8) tNil)))))))
  (tSeq (tAsg (kCall (sp_law_mix K A) [] W0 (tCons (tVar 0) (tCons (tC (.int 11)) (tCons (tVar 1) tNil)))) (gName 11))
  (tRet (tOp rAddU (tSl (rSlU K) (tVar 7) (tPart (tVar 11)) tNoPart) (tSl (rSlU K) (tVar 7) tNoPart (tPart (tVar 11))))))))))))

def n_law_is_name : List Str := ["_law_word", "_law_sign"]
def t_law_is_name (K : PySem.W.Frag) (A : Ad) (E : XK) : TS :=
  (tRet (tAndV (tChain rLtU rLtU (tC (.int 0)) (tCB (rLenU K) (tCons (tVar 0) tNil)) (tC (.int 9))) (tCB (rAll K) (tCons (tLc (iStr (tVar 0)) (gName 1) tYes (tOp (rInU K) (tVar 1) (tC (.str "abcdefghijklmnopqrstuvwxyz"))) [1]) tNil))))

def n_law_listed : List Str := ["_law_word", "_law_names_here", "_law_name"]
def t_law_listed (K : PySem.W.Frag) (A : Ad) (E : XK) : TS :=
  (tSeq (tIfS (tTest (tOp (rEqU K) (tVar 0) (tC (.str "-"))))
  (tRet (tLst tNil))
  tNext)
  (tSeq (tAsg (tM1 rSplit (tVar 0) (tC (.str ","))) (gName 1))
  (tRet (tOp (rIx K) (tLst (tCons (tVar 1) (tCons (tC .non) tNil))) (tCB rIntU (tCons (tOp (rInU K) (tC (.bl false)) (tLc (iList K (tVar 1)) (gName 2) tYes (kCall (sp_law_is_name K A) [] W0 (tCons (tVar 2) tNil)) [2])) tNil))))))

def n_law_number : List Str := ["_law_word", "_law_figures", "_law_sign"]
def t_law_number (K : PySem.W.Frag) (A : Ad) (E : XK) : TS :=
  (tSeq (tAsg (tSl (rSlU K) (tVar 0) (tPart (tCB rIntU (tCons (tOp (rEqU K) (tSl (rSlU K) (tVar 0) tNoPart (tPart (tC (.int 1)))) (tC (.str "-"))) tNil))) tNoPart) (gName 1))
  (tSeq (tIfS (tOr (tTest (tOp (rEqU K) (tCB (rLenU K) (tCons (tVar 1) tNil)) (tC (.int 0)))) (tOr (tTest (tOp rGtU (tCB (rLenU K) (tCons (tVar 1) tNil)) (tC (.int 60)))) (tTest (tOp (rInU K) (tC (.bl false)) (tLc (iStr (tVar 1)) (gName 2) tYes (tOp (rInU K) (tVar 2) (tC (.str "0123456789"))) [2])))))
  (tRet (tC .non))
  tNext)
  (tSeq (tIfS (tAnd (tTest (tOp (rEqU K) (tOp (rIx K) (tVar 1) (tC (.int 0))) (tC (.str "0")))) (tTest (tOp (rNeU K) (tVar 0) (tC (.str "0")))))
  (tRet (tC .non))
  tNext)
  (tRet (tCB rIntS (tCons (tVar 0) tNil))))))

def n_law_read : List Str := ["_law_word", "_law_found", "_law_parts", "_law_kind"]
def t_law_read (K : PySem.W.Frag) (A : Ad) (E : XK) : TS :=
  (tSeq (tAsg (tLst (tCons (kCall (sp_law_listed K A) [] W0 (tCons (tVar 0) tNil)) (tCons (kCall (sp_law_number K A) [] W0 (tCons (tVar 0) tNil)) (tCons (tC .non) (tCons (tC .non) (tCons (tC .non) tNil)))))) (gName 1))
  (tSeq (tAsg (tM1 rSplit (tVar 0) (tC (.str ":"))) (gName 2))
  (tSeq (tIfS (tAnd (tTest (tOp (rEqU K) (tCB (rLenU K) (tCons (tVar 2) tNil)) (tC (.int 2)))) (tAnd (tB (kCall (sp_law_is_name K A) [] W0 (tCons (tOp (rIx K) (tVar 2) (tC (.int 0))) tNil))) (tTest (tOp rNotNU (kCall (sp_law_listed K A) [] W0 (tCons (tOp (rIx K) (tVar 2) (tC (.int 1))) tNil)) (tC .non)))))
  (tAsg (tTup (tCons (tOp (rIx K) (tVar 2) (tC (.int 0))) (tCons (kCall (sp_law_listed K A) [] W0 (tCons (tOp (rIx K) (tVar 2) (tC (.int 1))) tNil)) tNil))) (gSub (tVar 1) (tC (.int 2)) rSetL))
  tNext)
  (tSeq (tAsg (tM1 rSplit (tReplC (tVar 0) "." "=") (tC (.str "="))) (gName 2))
  (tSeq (tIfS (tAnd (tTest (tOp (rEqU K) (tCB (rLenU K) (tCons (tVar 2) tNil)) (tC (.int 3)))) (tAnd (tTest (tOp (rEqU K) (tM1 rCount (tVar 0) (tC (.str "."))) (tC (.int 1)))) (tTest (tOp rLtU (tM1 rFind (tVar 0) (tC (.str "."))) (tM1 rFind (tVar 0) (tC (.str "=")))))))
  (tIfS (tAnd (tB (kCall (sp_law_is_name K A) [] W0 (tCons (tOp (rIx K) (tVar 2) (tC (.int 0))) tNil))) (tAnd (tB (kCall (sp_law_is_name K A) [] W0 (tCons (tOp (rIx K) (tVar 2) (tC (.int 1))) tNil))) (tTest (tOp (rInU K) (tOp (rIx K) (tVar 2) (tC (.int 2))) (tTup (tCons (tC (.str "0")) (tCons (tC (.str "1")) (tCons (tC (.str "2")) (tCons (tC (.str "?")) tNil)))))))))
  (tAsg (tTup (tCons (tOp (rIx K) (tVar 2) (tC (.int 0))) (tCons (tOp (rIx K) (tVar 2) (tC (.int 1))) (tCons (tDGet1 (tDisp [((tC (.str "0")), (tC (.int 0))), ((tC (.str "1")), (tC (.int 1))), ((tC (.str "2")), (tC (.int 2)))]) (tOp (rIx K) (tVar 2) (tC (.int 2)))) tNil)))) (gSub (tVar 1) (tC (.int 3)) rSetL))
  tNext)
  tNext)
  (tSeq (tAsg (tM1 rSplit (tReplC (tVar 0) ">" "=") (tC (.str "="))) (gName 2))
  (tSeq (tIfS (tAnd (tTest (tOp (rEqU K) (tCB (rLenU K) (tCons (tVar 2) tNil)) (tC (.int 3)))) (tAnd (tTest (tOp (rEqU K) (tM1 rCount (tVar 0) (tC (.str ">"))) (tC (.int 1)))) (tTest (tOp rLtU (tM1 rFind (tVar 0) (tC (.str ">"))) (tM1 rFind (tVar 0) (tC (.str "=")))))))
  (tIfS (tAnd (tTest (tOp rNotNU (kCall (sp_law_listed K A) [] W0 (tCons (tOp (rIx K) (tVar 2) (tC (.int 0))) tNil)) (tC .non))) (tTest (tOp (rInU K) (tOp (rIx K) (tVar 2) (tC (.int 2))) (tTup (tCons (tC (.str "0")) (tCons (tC (.str "1")) (tCons (tC (.str "2")) tNil)))))))
  (tIfS (tOr (tTest (tOp (rEqU K) (tOp (rIx K) (tVar 2) (tC (.int 1))) (tC (.str "-")))) (tB (kCall (sp_law_is_name K A) [] W0 (tCons (tOp (rIx K) (tVar 2) (tC (.int 1))) tNil))))
  (tSeq (tAsg (tOp (rIx K) (tLst (tCons (tOp (rIx K) (tVar 2) (tC (.int 1))) (tCons (tC .non) tNil))) (tCB rIntU (tCons (tOp (rEqU K) (tOp (rIx K) (tVar 2) (tC (.int 1))) (tC (.str "-"))) tNil))) (gName 3))
  (tAsg (tTup (tCons (tCB (rTupleU K) (tCons (kCall (sp_law_listed K A) [] W0 (tCons (tOp (rIx K) (tVar 2) (tC (.int 0))) tNil)) tNil)) (tCons (tVar 3) (tCons (tCB rIntS (tCons (tOp (rIx K) (tVar 2) (tC (.int 2))) tNil)) tNil)))) (gSub (tVar 1) (tC (.int 4)) rSetL)))
  tNext)
  tNext)
  tNext)
  (tRet (tVar 1)))))))))

def n_law_alike : List Str := ["_law_found", "_law_due", "_law_one", "_law_other"]
def t_law_alike (n : Nat) (K : PySem.W.Frag) (A : Ad) (E : XK) : TS :=
  (tSeq (tIfS (tOr (tTest (tOp rIsNU (tVar 1) (tC .non))) (tTest (tOp rIsNU (tVar 0) (tC .non))))
  (tRet (tAndV (tOp rIsNU (tVar 0) (tC .non)) (tOp rIsNU (tVar 1) (tC .non))))
  tNext)
  (tSeq (tIfS (tB (tCB (rIsiT K) (tCons (tVar 1) (tCons (tTup (tCons (tC (.ty "list")) (tCons (tC (.ty "tuple")) tNil))) tNil))))
  (tSeq (tIfS (tOr (tTest (tOp (rNeU K) (tCB (rIsi K) (tCons (tVar 0) (tCons (tC (.ty "list")) tNil))) (tCB (rIsi K) (tCons (tVar 1) (tCons (tC (.ty "list")) tNil))))) (tTest (tOp (rNeU K) (tCB (rIsi K) (tCons (tVar 0) (tCons (tC (.ty "tuple")) tNil))) (tCB (rIsi K) (tCons (tVar 1) (tCons (tC (.ty "tuple")) tNil))))))
  (tRet (tC (.bl false)))
  tNext)
  (tRet (tAndV (tOp (rEqU K) (tCB (rLenU K) (tCons (tVar 0) tNil)) (tCB (rLenU K) (tCons (tVar 1) tNil))) (tCB (rAll K) (tCons (tLc (iZipA K (tCons (tVar 0) (tCons (tVar 1) tNil))) (gTup K 2 (gCons (gName 2) (gCons (gName 3) gNil))) tYes (kCall (sp_law_alikeN n K A) [] W0 (tCons (tVar 2) (tCons (tVar 3) tNil))) [2, 3]) tNil)))))
  tNext)
  (tSeq (tIfS (tB (tCB (rIsi K) (tCons (tVar 1) (tCons (tC (.ty "str")) tNil))))
  (tRet (tAndV (tCB (rIsi K) (tCons (tVar 0) (tCons (tC (.ty "str")) tNil))) (tOp (rEqU K) (tVar 0) (tVar 1))))
  tNext)
  (tRet (tAndV (tCB (rIsi K) (tCons (tVar 0) (tCons (tC (.ty "int")) tNil))) (tAndV (tNotV (tCB (rIsi K) (tCons (tVar 0) (tCons (tC (.ty "bool")) tNil)))) (tOp (rEqU K) (tVar 0) (tVar 1))))))))

def n_law_told : List Str := ["_law_word"]
def t_law_told (K : PySem.W.Frag) (A : Ad) (E : XK) : TS :=
  (tRet (tLst (tCons (kCall (sp_read_names K A) [] W0 (tCons (tVar 0) tNil)) (tCons (kCall (sp_read_whole K A) [] W0 (tCons (tVar 0) tNil)) (tCons (kCall (sp_read_turn K A) [] W0 (tCons (tVar 0) tNil)) (tCons (kCall (sp_read_fact K A) [] W0 (tCons (tVar 0) tNil)) (tCons (kCall (sp_read_paper K A) [] W0 (tCons (tVar 0) tNil)) tNil)))))))

def n_law_right : List Str := ["_law_word", "_law_due", "_law_found"]
def t_law_right (K : PySem.W.Frag) (A : Ad) (E : XK) : TS :=
  (tSeq (tAsg (kCall (sp_law_read K A) [] W0 (tCons (tVar 0) tNil)) (gName 1))
  (tSeq (tAsg (kCall (sp_law_told K A) [] W0 (tCons (tVar 0) tNil)) (gName 2))
  (tSeq (tIfS (tNot (tB (kCall (sp_law_alike K A) [] W0 (tCons (tVar 2) (tCons (tVar 1) tNil)))))
  (tRet (tC (.bl false)))
  tNext)
  (tSeq (tIfS (tTest (tOp rNotNU (tOp (rIx K) (tVar 1) (tC (.int 0))) (tC .non)))
  (tSeq (tDrop (tBM K "list" rAppend (tOp (rIx K) (tVar 2) (tC (.int 0))) (tCons (tC (.str "x")) tNil)))
  (tIfS (tOr (tTest (tOp (rNeU K) (kCall (sp_show_names K A) [] W0 (tCons (tOp (rIx K) (tVar 1) (tC (.int 0))) tNil)) (tVar 0))) (tTest (tOp (rNeU K) (kCall (sp_show_names K A) [] W0 (tCons (tCB (rTupleU K) (tCons (tOp (rIx K) (tVar 1) (tC (.int 0))) tNil)) tNil)) (tVar 0))))
  (tRet (tC (.bl false)))
  tNext))
  tNext)
  (tSeq (tIfS (tAnd (tTest (tOp rNotNU (tOp (rIx K) (tVar 1) (tC (.int 4))) (tC .non))) (tTest (tOp (rNeU K) (kCall (sp_show_paper K A) [] W0 (tCons (tOp (rIx K) (tVar 2) (tC (.int 4))) tNil)) (tVar 0))))
  (tRet (tC (.bl false)))
  tNext)
  (tRet (kCall (sp_law_alike K A) [] W0 (tCons (kCall (sp_law_told K A) [] W0 (tCons (tVar 0) tNil)) (tCons (tVar 1) tNil)))))))))

def n_law_words : List Str := ["_law_cell_here", "_law_names_here", "_law_some", "_law_far", "_law_number_here", "_law_sign", "_law_size", "_law_found", "_law_words_here"]
def t_law_words (K : PySem.W.Frag) (A : Ad) (E : XK) : TS :=
  (tSeq (tAsg (kCall (sp_law_names K A) [] W0 (tCons (tVar 0) (tCons (tC (.int 6)) tNil))) (gName 1))
  (tSeq (tAsg (tM1 (rJoin K) (tC (.str ",")) (tSl (rSlU K) (tVar 1) tNoPart (tPart (kCall (sp_law_mix K A) [] W0 (tCons (tVar 0) (tCons (tC (.int 12)) (tCons (tC (.int 6)) tNil))))))) (gName 2))
  (tSeq (tIfS (tTest (tOp (rEqU K) (tVar 2) (tC (.str ""))))
  (tAsg (tC (.str "-")) (gName 2))
  tNext)
  (tSeq (tAsg (tOp (rIx K) (tLst (tCons (tC (.int 10)) (tCons (tC (.int 1000)) (tCons (tOp rPowU (tC (.int 10)) (tC (.int 30))) (tCons (tOp rPowU (tC (.int 10)) (tC (.int 60))) tNil))))) (kCall (sp_law_mix K A) [] W0 (tCons (tVar 0) (tCons (tC (.int 13)) (tCons (tC (.int 4)) tNil))))) (gName 3))
  (tSeq (tAsg (tOp (rIx K) (tLst (tCons (tOp rModU (tOp rDivU (tVar 0) (tC (.int 2))) (tVar 3)) (tCons (tC (.int 0)) (tCons (tOp rSubU (tVar 3) (tC (.int 1))) (tCons (tOp rModU (tOp rMulU (tVar 0) (tOp rPowU (tC (.int 982451653)) (tC (.int 7)))) (tVar 3)) tNil))))) (kCall (sp_law_mix K A) [] W0 (tCons (tVar 0) (tCons (tC (.int 14)) (tCons (tC (.int 4)) tNil))))) (gName 4))
  (tSeq (tAsg (tOp (rIx K) (tLst (tCons (tC (.str "")) (tCons (tC (.str "-")) tNil))) (tCB rIntU (tCons (tAndV (tOp (rEqU K) (kCall (sp_law_mix K A) [] W0 (tCons (tVar 0) (tCons (tC (.int 15)) (tCons (tC (.int 2)) tNil)))) (tC (.int 1))) (tOp rGtU (tVar 4) (tC (.int 0)))) tNil))) (gName 5))
  (tSeq (tAsg (tOp (rIx K) (tC (.str "012?")) (kCall (sp_law_mix K A) [] W0 (tCons (tVar 0) (tCons (tC (.int 16)) (tCons (tC (.int 4)) tNil))))) (gName 6))
  (tSeq (tAsg (tOp (rIx K) (tOp rAddU (tOp rMulU (tLst (tCons (tOp (rIx K) (tVar 1) (tC (.int 5))) tNil)) (tC (.int 3))) (tLst (tCons (tC (.str "-")) tNil))) (kCall (sp_law_mix K A) [] W0 (tCons (tVar 0) (tCons (tC (.int 17)) (tCons (tC (.int 4)) tNil))))) (gName 7))
  (tSeq (tAsg (tLst (tCons (tVar 2) (tCons (tOp rAddU (tVar 5) (tCB rStrI (tCons (tVar 4) tNil))) (tCons (tOp rAddU (tOp rAddU (tOp (rIx K) (tVar 1) (tC (.int 4))) (tC (.str ":"))) (tVar 2)) (tCons (tOp rAddU (tOp rAddU (tOp rAddU (tOp rAddU (tOp (rIx K) (tVar 1) (tC (.int 3))) (tC (.str "."))) (tOp (rIx K) (tVar 1) (tC (.int 2)))) (tC (.str "="))) (tVar 6)) tNil))))) (gName 8))
  (tRet (tOp rAddU (tVar 8) (tLst (tCons (tOp rAddU (tOp rAddU (tOp rAddU (tOp rAddU (tVar 2) (tC (.str ">"))) (tVar 7)) (tC (.str "="))) (tOp (rIx K) (tC (.str "012")) (kCall (sp_law_mix K A) [] W0 (tCons (tVar 0) (tCons (tC (.int 18)) (tCons (tC (.int 3)) tNil)))))) tNil)))))))))))))

def n_law_spoilt : List Str := ["_law_word", "_law_cell_here", "_law_turn", "_law_signs", "_law_sign", "_law_at", "_law_some"]
def t_law_spoilt (K : PySem.W.Frag) (A : Ad) (E : XK) : TS :=
  (tSeq (tAsg (tC (.str "a0A9-,.:=>?+ 12_<;/\n\t~!`{")) (gName 3))
  (tSeq (tAsg (tOp (rIx K) (tVar 3) (kCall (sp_law_mix K A) [] W0 (tCons (tVar 1) (tCons (tVar 2) (tCons (tCB (rLenU K) (tCons (tVar 3) tNil)) tNil))))) (gName 4))
  (tSeq (tAsg (kCall (sp_law_mix K A) [] W0 (tCons (tVar 1) (tCons (tOp rAddU (tVar 2) (tC (.int 1))) (tCons (tCB (rLenU K) (tCons (tVar 0) tNil)) tNil)))) (gName 5))
  (tSeq (tAsg (tLst (tCons (tOp rAddU (tOp rAddU (tSl (rSlU K) (tVar 0) tNoPart (tPart (tVar 5))) (tVar 4)) (tSl (rSlU K) (tVar 0) (tPart (tVar 5)) tNoPart)) (tCons (tOp rAddU (tOp rAddU (tSl (rSlU K) (tVar 0) tNoPart (tPart (tVar 5))) (tVar 4)) (tSl (rSlU K) (tVar 0) (tPart (tOp rAddU (tVar 5) (tC (.int 1)))) tNoPart)) (tCons (tOp rAddU (tSl (rSlU K) (tVar 0) tNoPart (tPart (tVar 5))) (tSl (rSlU K) (tVar 0) (tPart (tOp rAddU (tVar 5) (tC (.int 1)))) tNoPart)) (tCons (tOp rAddU (tVar 0) (tVar 4)) tNil))))) (gName 6))
  (tRet (tOp rAddU (tVar 6) (tLst (tCons (tOp rAddU (tVar 4) (tVar 0)) (tCons (tOp rAddU (tVar 0) (tVar 0)) (tCons (tOp rAddU (tOp rAddU (tVar 0) (tC (.str ","))) (tVar 0)) (tCons (tOp rAddU (tC (.str "0")) (tVar 0)) tNil)))))))))))

def n_law_rows : List Str := ["_law_cell_here", "_law_words_here", "_law_row", "_law_some", "_law_text", "_law_found"]
def t_law_rows (K : PySem.W.Frag) (A : Ad) (E : XK) : TS :=
  (tSeq (tAsg (tM1 (rJoin K) (tC (.str " ")) (tSl (rSlU K) (tVar 1) tNoPart (tPart (kCall (sp_law_mix K A) [] W0 (tCons (tVar 0) (tCons (tC (.int 19)) (tCons (tC (.int 6)) tNil))))))) (gName 2))
  (tSeq (tAsg (tLst (tCons (tVar 2) (tCons (tOp rAddU (tVar 2) (tC (.str " "))) (tCons (tOp rAddU (tC (.str " ")) (tVar 2)) (tCons (tReplC (tVar 2) " " "  ") tNil))))) (gName 3))
  (tSeq (tFor (iList K (tVar 3)) (gName 4)
  (tSeq (tAsg (kCall (sp_read_row K A) [] W0 (tCons (tVar 4) tNil)) (gName 5))
  (tIfS (tNot (tB (kCall (sp_law_alike K A) [] W0 (tCons (tVar 5) (tCons (tCB (rTupleU K) (tCons (tM1 rSplit (tVar 4) (tC (.str " "))) tNil)) tNil)))))
  (tRet (tC (.bl false)))
  tNext)))
  (tRet (tC (.bl true))))))

def n_law_main : List Str := ["_law_script", "_law_cell_here", "_law_words_here", "_law_k", "_law_one"]
def t_law_main (K : PySem.W.Frag) (A : Ad) (E : XK) : TS :=
  (tSeq (tFor (iList K (tOp rAddU (tSl (rSlU K) (tVar 0) tNoPart (tPart (tC (.int 20)))) (tLst (tCons (tC (.int 0)) (tCons (tC (.int 2)) (tCons (tC (.int 4)) tNil)))))) (gName 1)
  (tSeq (tAsg (kCall (sp_law_words K A) [] W0 (tCons (tVar 1) tNil)) (gName 2))
  (tSeq (tIfS (tNot (tB (kCall (sp_law_rows K A) [] W0 (tCons (tVar 1) (tCons (tVar 2) tNil)))))
  (tRet (tC (.bl false)))
  tNext)
  (tFor (iRng1 (tCons (tCB (rLenU K) (tCons (tVar 2) tNil)) tNil)) (gName 3)
  (tSeq (tIfS (tNot (tB (kCall (sp_law_right K A) [] W0 (tCons (tOp (rIx K) (tVar 2) (tVar 3)) tNil))))
  (tRet (tC (.bl false)))
  tNext)
  (tFor (iList K (kCall (sp_law_spoilt K A) [] W0 (tCons (tOp (rIx K) (tVar 2) (tVar 3)) (tCons (tVar 1) (tCons (tOp rAddU (tC (.int 20)) (tOp rMulU (tC (.int 2)) (tVar 3))) tNil))))) (gName 4)
  (tIfS (tNot (tB (kCall (sp_law_right K A) [] W0 (tCons (tVar 4) tNil))))
  (tRet (tC (.bl false)))
  tNext)))))))
  (tRet (tAndV (kCall (sp_law_right K A) [] W0 (tCons (tC (.str "")) tNil)) (tAndV (kCall (sp_law_right K A) [] W0 (tCons (tC (.str "->-=0")) tNil)) (tAndV (kCall (sp_law_right K A) [] W0 (tCons (tC (.str "-")) tNil)) (tAndV (kCall (sp_law_right K A) [] W0 (tCons (tC (.str "-0")) tNil)) (kCall (sp_law_right K A) [] W0 (tCons (tC (.str "a:-")) tNil))))))))

end TG

set_option maxHeartbeats 2000000
namespace TG
open PySem PySem.Builtin PySem.Builtin.Str PySem.StrLaws PyProof.Rows L2 SX
abbrev ch (c : Nat) : Str := ⟨#[c]⟩
theorem join_len_ge {y : Str} {l : List Str} {s : Str} (h : s ∈ l) : s.length ≤ (Txt.join y l).length := by
  refine Nat.le_trans ?_ (len_join_ge_sum y l)
  induction l with
  | nil => exact absurd h List.not_mem_nil
  | cons a r ih =>
    rw [List.map_cons, List.sum_cons]
    rcases List.mem_cons.mp h with e | h
    · rw [e]; omega
    · have := ih h; omega
theorem join_split' (x y : Str) : Txt.join y (Txt.split x y) = x := by
  have e := join_split x y
  cases h : Txt.split x y with
  | nil => rw [h] at e; exact e
  | cons a r => rw [h] at e; show glued y (a :: r) = x; rw [glued_eq_join]; exact e
theorem split_part_le {w s y : Str} (h : s ∈ Txt.split w y) : s.length ≤ w.length := by
  have := join_len_ge (y := y) h
  rw [join_split'] at this
  exact this
theorem part_none {w : Str} {c : Nat} (h : c ∉ sg w) : Txt.partition w (ch c) = (w, S [], S []) := by
  have e := partition_none (a := sg w) (b := [c]) (by simp) (par_head_none h)
  rw [S_tl] at e
  exact e
theorem part_some {w : Str} {c : Nat} {a b : List Nat} (e : sg w = a ++ c :: b) (h : c ∉ a) : Txt.partition w (ch c) = (S a, S [c], S b) := by
  have e1 := partition_some (a := sg w) (b := [c]) (p := a) (q := b) (by simp) (by rw [e]; exact par_head (sep := []) b h)
  rw [S_tl] at e1
  exact e1
theorem sg_S (a : List Nat) : sg (S a) = a := rfl
/-- parts that are free of the sign -/
theorem split_of {w : Str} {c : Nat} {parts : List (List Nat)} (hc : c < 256) (hne : parts ≠ []) (h : ∀ p ∈ parts, c ∉ p) (e : sg w = TL.joinL [c] parts) : Txt.split w (ch c) = parts.map S := by
  have e1 := split_S (a := sg w) (b := [c]) (by simp) (by simp [hc])
  rw [S_tl] at e1
  rw [e, spl_join (c := c) (sep := []) hne h] at e1
  exact e1
theorem join_parts {c : Nat} : ∀ (l : List Str), sg (Txt.join (ch c) l) = TL.joinL [c] (l.map sg) := fun l => by
  have e := join_S [c] (l.map sg)
  have e2 : (l.map sg).map S = l := by
    rw [List.map_map]
    have : (S ∘ sg) = (id : Str → Str) := funext fun x => S_tl x
    rw [this, List.map_id]
  rw [e2] at e
  rw [show Txt.join (ch c) l = Txt.join (S [c]) l from rfl, e]
theorem split_parts (w : Str) (c : Nat) : ∃ parts : List (List Nat), (∀ p ∈ parts, c ∉ p) ∧ Txt.split w (ch c) = parts.map S ∧ sg w = TL.joinL [c] parts := by
  refine ⟨(Txt.split w (ch c)).map sg, ?_, ?_, ?_⟩
  · intro p hp
    obtain ⟨s, hs, rfl⟩ := List.mem_map.mp hp
    exact split_free w c s hs
  · rw [List.map_map]
    have : (S ∘ sg) = (id : Str → Str) := funext fun x => S_tl x
    rw [this, List.map_id]
  · rw [← join_parts, join_split']
theorem joinL_two (c : Nat) (a b : List Nat) : TL.joinL [c] [a, b] = a ++ c :: b := by
  simp [TL.joinL]
theorem joinL_three (c : Nat) (a b d : List Nat) : TL.joinL [c] [a, b, d] = a ++ c :: (b ++ c :: d) := by
  simp [TL.joinL]
theorem joinL_one (c : Nat) (a : List Nat) : TL.joinL [c] [a] = a := by
  simp [TL.joinL]
theorem at_one {w : Str} {c i : Nat} : At w (ch c) w.length i ↔ (sg w)[i]? = some c := by
  rw [TL.at_iff (by simp)]
  show TL.pre [c] ((sg w).drop i) = true ↔ _
  unfold TL.pre
  rw [List.length_singleton]
  rw [beq_iff_eq]
  constructor
  · intro h
    have h2 : ((sg w).drop i)[0]? = some c := by
      cases hd : (sg w).drop i with
      | nil => rw [hd] at h; simp at h
      | cons x r => rw [hd] at h; simp at h; simp [h]
    simpa using h2
  · intro h
    have h2 : ((sg w).drop i)[0]? = some c := by simpa using h
    cases hd : (sg w).drop i with
    | nil => rw [hd] at h2; simp at h2
    | cons x r => rw [hd] at h2; simp at h2; simp [h2]
theorem find_at {w : Str} {c : Nat} {a b : List Nat} (e : sg w = a ++ c :: b) (h : c ∉ a) : Txt.find w (ch c) = a.length := by
  have ha : (sg w)[a.length]? = some c := by rw [e]; simp
  unfold Txt.find
  rcases occ_head w (ch c) 1 (Nat.le_refl 1) with ⟨_, h0⟩ | ⟨i, r, h1, h2, h3⟩
  · exact absurd (at_one.mpr ha) (h0 _)
  · rw [h1]
    show (i : Int) = (a.length : Int)
    have hi := at_one.mp h2
    have h4 : ¬ i < a.length := fun hlt => by
      rw [e, List.getElem?_append_left hlt] at hi
      exact h (List.mem_of_getElem? hi)
    have h5 : ¬ a.length < i := fun hlt => h3 _ hlt (at_one.mpr ha)
    omega
theorem find_no {w : Str} {c : Nat} (h : c ∉ sg w) : Txt.find w (ch c) = -1 := by
  unfold Txt.find
  rcases occ_head w (ch c) 1 (Nat.le_refl 1) with ⟨h1, _⟩ | ⟨i, r, h1, h2, h3⟩
  · rw [h1]
  · exact absurd (List.mem_of_getElem? (at_one.mp h2)) h
theorem cnt_list (c : Nat) : ∀ l : List Nat, cnt c l = ((l.count c : Nat) : Int)
  | [] => rfl
  | n :: r => by
    rw [cnt_cons, cnt_list c r, List.count_cons]
    by_cases h : n = c
    · subst h; simp; omega
    · simp [h]
theorem cnt_count (c : Nat) (w : Str) : Txt.count w (ch c) = (((sg w).count c : Nat) : Int) := by
  rw [show Txt.count w (ch c) = cnt c (sg w) from count_is w c, cnt_list]
theorem replace_sg (w : Str) (c d : Nat) : Txt.replace w (ch c) (ch d) = Txt.join (ch d) (Txt.split w (ch c)) := by
  rw [replace_one]
  cases h : Txt.split w (ch c) with
  | nil => rfl
  | cons a r => show _ = glued (ch d) (a :: r); rw [glued_eq_join]
/-- w is a c b d v, the three free of both signs -/
structure Sh (w : Str) (c d : Nat) (a b v : List Nat) : Prop where
  eq : sg w = a ++ c :: (b ++ d :: v)
  ca : c ∉ a
  cb : c ∉ b
  cv : c ∉ v
  da : d ∉ a
  db : d ∉ b
  dv : d ∉ v
theorem mem_cut {c : Nat} {l : List Nat} (h : c ∈ l) : ∃ a b, l = a ++ c :: b ∧ c ∉ a := by
  induction l with
  | nil => exact absurd h List.not_mem_nil
  | cons x r ih =>
    by_cases e : x = c
    · exact ⟨[], r, by rw [e]; rfl, List.not_mem_nil⟩
    · have h2 : c ∈ r := by
        rcases List.mem_cons.mp h with h | h
        · exact absurd h.symm e
        · exact h
      obtain ⟨a, b, e1, e2⟩ := ih h2
      exact ⟨x :: a, b, by rw [e1]; rfl, fun hm => by
        rcases List.mem_cons.mp hm with h | h
        · exact e h.symm
        · exact e2 h⟩
theorem sh_split {w : Str} {c d : Nat} {a b v : List Nat} (hc : c < 256) (hd : d < 256) (hcd : c ≠ d) (h : Sh w c d a b v) : Txt.split (Txt.replace w (ch c) (ch d)) (ch d) = [S a, S b, S v] := by
  have e1 : Txt.split w (ch c) = [S a, S (b ++ d :: v)] := split_of (parts := [a, b ++ d :: v]) hc (by simp) (by
    intro p hp
    rcases List.mem_cons.mp hp with rfl | hp
    · exact h.ca
    · have e : p = b ++ d :: v := by simpa using hp
      subst e
      simp [h.cb, h.cv, hcd]) (by rw [joinL_two]; exact h.eq)
  rw [replace_sg, e1]
  refine split_of (parts := [a, b, v]) hd (by simp) (by
    intro p hp
    simp at hp
    rcases hp with rfl | rfl | rfl
    · exact h.da
    · exact h.db
    · exact h.dv) ?_
  rw [join_parts, joinL_three]
  show TL.joinL [d] [sg (S a), sg (S (b ++ d :: v))] = _
  rw [joinL_two]
theorem sh_cond {w : Str} {c d : Nat} {a b v : List Nat} (hcd : c ≠ d) (h : Sh w c d a b v) : Txt.count w (ch c) = 1 ∧ Txt.find w (ch c) < Txt.find w (ch d) := by
  constructor
  · rw [cnt_count, h.eq]
    have e1 := List.count_eq_zero.mpr h.ca
    have e2 := List.count_eq_zero.mpr h.cb
    have e3 := List.count_eq_zero.mpr h.cv
    have e4 : ¬ d = c := fun e => hcd e.symm
    simp [e1, e2, e3, e4]
  · rw [find_at h.eq h.ca]
    have e : sg w = (a ++ c :: b) ++ d :: v := by rw [h.eq]; simp
    have hn : d ∉ a ++ c :: b := by
      have e4 : ¬ d = c := fun e => hcd e.symm
      simp [h.da, h.db, e4]
    rw [find_at e hn]
    simp
    omega
theorem cond_sh {w : Str} {c d : Nat} (hc : c < 256) (hd : d < 256) (hcd : c ≠ d) (h1 : (Txt.split (Txt.replace w (ch c) (ch d)) (ch d)).length = 3) (h2 : Txt.count w (ch c) = 1) (h3 : Txt.find w (ch c) < Txt.find w (ch d)) :
    ∃ a b v, Sh w c d a b v := by
  rw [cnt_count] at h2
  have hm : c ∈ sg w := List.count_pos_iff.mp (by omega)
  obtain ⟨p, q, e, hp⟩ := mem_cut hm
  have hq : c ∉ q := by
    rw [e] at h2
    have e1 := List.count_eq_zero.mpr hp
    have h2' : (p ++ c :: q).count c = 1 := by omega
    rw [List.count_append, e1, List.count_cons_self] at h2'
    exact List.count_eq_zero.mp (by omega)
  have e1 : Txt.split w (ch c) = [S p, S q] := split_of (parts := [p, q]) hc (by simp) (by
    intro x hx
    simp at hx
    rcases hx with rfl | rfl
    · exact hp
    · exact hq) (by rw [joinL_two]; exact e)
  rw [replace_sg, e1] at h1
  have e2 : sg (Txt.join (ch d) [S p, S q]) = p ++ d :: q := by rw [join_parts]; exact joinL_two d p q
  obtain ⟨parts, f1, f2, f3⟩ := split_parts (Txt.join (ch d) [S p, S q]) d
  rw [f2, List.length_map] at h1
  match parts, h1 with
  | [x, y, z], _ =>
    rw [e2, joinL_three] at f3
    have dx := f1 x (by simp)
    have dy := f1 y (by simp)
    have dz := f1 z (by simp)
    have hdp : d ∉ p := fun hd' => by
      obtain ⟨p1, p2, ep, hp1⟩ := mem_cut hd'
      have e5 : sg w = p1 ++ d :: (p2 ++ c :: q) := by rw [e, ep]; simp
      rw [find_at e hp, find_at e5 hp1, ep] at h3
      simp at h3
      omega
    have e6 : p = x ∧ q = y ++ d :: z := by
      have g1 : (p ++ d :: q).takeWhile (· != d) = p := by
        rw [List.takeWhile_append_of_pos (fun i hi => by simp; intro e; exact hdp (e ▸ hi))]
        simp
      have g2 : (x ++ d :: (y ++ d :: z)).takeWhile (· != d) = x := by
        rw [List.takeWhile_append_of_pos (fun i hi => by simp; intro e; exact dx (e ▸ hi))]
        simp
      have g3 : p = x := by rw [← g1, f3, g2]
      subst g3
      have g4 := List.append_cancel_left f3
      exact ⟨rfl, by simpa using g4⟩
    obtain ⟨rfl, rfl⟩ := e6
    refine ⟨p, y, z, ⟨e, hp, fun hm => hq (by simp [hm]), fun hm => hq (by simp [hm]), hdp, dy, dz⟩⟩
end TG
namespace TG
open PySem PySem.Builtin PySem.Builtin.Str PySem.StrLaws PyProof.Rows L2 SX
theorem letters_sg : sg letters = [97, 98, 99, 100, 101, 102, 103, 104, 105, 106, 107, 108, 109, 110, 111, 112, 113, 114, 115, 116, 117, 118, 119, 120, 121, 122] := by decide +kernel
theorem name_sg {s : Str} (h : isName s = true) {c : Nat} (hc : c ∈ sg s) : 97 ≤ c ∧ c ≤ 122 := by
  unfold isName at h
  rw [Bool.and_eq_true] at h
  have h2 := of_decide_eq_true (List.all_eq_true.mp h.2 c hc)
  rw [letters_sg] at h2
  simp at h2
  omega
theorem name_len {s : Str} (h : isName s = true) : 1 ≤ s.length ∧ s.length ≤ 8 := by
  unfold isName at h
  rw [Bool.and_eq_true, Bool.and_eq_true] at h
  exact ⟨of_decide_eq_true h.1.1, of_decide_eq_true h.1.2⟩
theorem name_empty : isName (S []) = false := by decide +kernel
theorem dash_sg {s : Str} (h : s = "-") : sg s = [45] := by subst h; decide +kernel
theorem lit_sg (s : Str) (l : List Nat) (h : sg s = l) {t : Str} (e : t = s) : sg t = l := e ▸ h
theorem mem_joinL {c d : Nat} : ∀ {l : List (List Nat)}, c ∈ TL.joinL [d] l → c = d ∨ ∃ p ∈ l, c ∈ p
  | [], h => by simp [TL.joinL] at h
  | [a], h => by
    rw [joinL_one] at h
    exact .inr ⟨a, by simp, h⟩
  | a :: b :: r, h => by
    have e : TL.joinL [d] (a :: b :: r) = a ++ d :: TL.joinL [d] (b :: r) := by simp [TL.joinL]
    rw [e] at h
    rcases List.mem_append.mp h with h | h
    · exact .inr ⟨a, by simp, h⟩
    · rcases List.mem_cons.mp h with h | h
      · exact .inl h
      · rcases mem_joinL h with h | ⟨p, hp, hm⟩
        · exact .inl h
        · exact .inr ⟨p, List.mem_cons_of_mem _ hp, hm⟩
theorem comma_ch : ("," : Str) = ch 44 := by decide +kernel
theorem names_sg {w : Str} {ns : List Str} (h : readNames w = some ns) {c : Nat} (hc : c ∈ sg w) : c = 44 ∨ c = 45 ∨ (97 ≤ c ∧ c ≤ 122) := by
  unfold readNames at h
  by_cases e : w = "-"
  · rw [dash_sg e] at hc
    simp at hc
    omega
  · rw [if_neg e, comma_ch] at h
    by_cases h2 : (Txt.split w (ch 44)).all isName = true
    · obtain ⟨parts, f1, f2, f3⟩ := split_parts w 44
      rw [f3] at hc
      rcases mem_joinL hc with hc | ⟨p, hp, hm⟩
      · exact .inl hc
      · have h3 : isName (S p) = true := List.all_eq_true.mp h2 (S p) (by rw [f2]; exact List.mem_map_of_mem hp)
        exact .inr (.inr (name_sg h3 hm))
    · rw [if_neg h2] at h
      cases h
theorem names_empty : readNames (S []) = none := by decide +kernel
theorem colon_ch : (":" : Str) = ch 58 := by decide +kernel
theorem dot_ch : ("." : Str) = ch 46 := by decide +kernel
theorem eq_ch : ("=" : Str) = ch 61 := by decide +kernel
theorem gt_ch : (">" : Str) = ch 62 := by decide +kernel
theorem strOf_sg {z : Str} (h : (strOf z).isSome = true) : z = "0" ∨ z = "1" ∨ z = "2" := by
  unfold strOf at h
  by_cases h0 : z = "0"
  · exact .inl h0
  · by_cases h1 : z = "1"
    · exact .inr (.inl h1)
    · by_cases h2 : z = "2"
      · exact .inr (.inr h2)
      · rw [if_neg h0, if_neg h1, if_neg h2] at h; cases h
theorem lit012 {z : Str} (h : z = "0" ∨ z = "1" ∨ z = "2" ∨ z = "?") {c : Nat} (hc : c ∈ sg z) : c ∈ [48, 49, 50, 63] := by
  rcases h with rfl | rfl | rfl | rfl
  · have e : sg "0" = [48] := by decide +kernel
    rw [e] at hc; simp at hc ⊢; omega
  · have e : sg "1" = [49] := by decide +kernel
    rw [e] at hc; simp at hc ⊢; omega
  · have e : sg "2" = [50] := by decide +kernel
    rw [e] at hc; simp at hc ⊢; omega
  · have e : sg "?" = [63] := by decide +kernel
    rw [e] at hc; simp at hc ⊢; omega
theorem two_split {w : Str} {c : Nat} (hc : c < 256) (h : (Txt.split w (ch c)).length = 2) : ∃ a b, Txt.split w (ch c) = [S a, S b] ∧ sg w = a ++ c :: b ∧ c ∉ a ∧ c ∉ b := by
  obtain ⟨parts, f1, f2, f3⟩ := split_parts w c
  rw [f2, List.length_map] at h
  match parts, h with
  | [x, y], _ => exact ⟨x, y, f2, by rw [f3, joinL_two], f1 x (by simp), f1 y (by simp)⟩
theorem turn_pos {w : Str} (h : (Txt.split w ":").length = 2) : ∃ x y, Txt.split w ":" = [x, y] ∧ x.length ≤ w.length ∧ y.length ≤ w.length ∧ readTurn w = if isName x then (readNames y).map (fun ns => (x, ns)) else none := by
  have hp := fun s (hs : s ∈ Txt.split w ":") => split_part_le hs
  rw [colon_ch] at h hp ⊢
  obtain ⟨a, b, e, e2, ha, hb⟩ := two_split (by decide) h
  refine ⟨_, _, e, hp _ (by rw [e]; simp), hp _ (by rw [e]; simp), ?_⟩
  unfold readTurn
  rw [colon_ch, part_some e2 ha]
  dsimp only
  cases readNames (S b) with
  | none => cases isName (S a) <;> rfl
  | some ns => cases isName (S a) <;> rfl
theorem turn_neg {w : Str} (h : ¬ (Txt.split w ":").length = 2) : readTurn w = none := by
  rw [colon_ch] at h
  unfold readTurn
  rw [colon_ch]
  by_cases hm : 58 ∈ sg w
  · obtain ⟨a, b, e, ha⟩ := mem_cut hm
    rw [part_some e ha]
    dsimp only
    by_cases hb : 58 ∈ b
    · have hn : readNames (S b) = none := by
        cases h : readNames (S b) with
        | none => rfl
        | some ns => have := names_sg h (c := 58) hb; omega
      rw [hn]
    · have e1 : Txt.split w (ch 58) = [S a, S b] := split_of (parts := [a, b]) (by decide) (by simp) (by
        intro x hx
        simp at hx
        rcases hx with rfl | rfl
        · exact ha
        · exact hb) (by rw [joinL_two]; exact e)
      rw [e1] at h
      exact absurd rfl h
  · rw [part_none hm]
    dsimp only
    rw [names_empty]
def lawCond (w : Str) (c d : Str) : Prop := (Txt.split (Txt.replace w c d) d).length = 3 ∧ Txt.count w c = 1 ∧ Txt.find w c < Txt.find w d
theorem fact_pos {w : Str} (hc : lawCond w "." "=") : ∃ x y z, Txt.split (Txt.replace w "." "=") "=" = [x, y, z] ∧ x.length ≤ w.length ∧ y.length ≤ w.length ∧ z.length ≤ w.length ∧
    readFact w = if (isName x && isName y && decide (z ∈ (["0", "1", "2", "?"] : List Str))) = true then some (x, y, strOf z) else none := by
  rw [dot_ch, eq_ch] at hc ⊢
  obtain ⟨h1, h2, h3⟩ := hc
  obtain ⟨a, b, v, sh⟩ := cond_sh (by decide) (by decide) (by decide) h1 h2 h3
  have e1 := sh_split (by decide) (by decide) (by decide) sh
  have hl : w.length = a.length + (b.length + (v.length + 1) + 1) := by
    rw [TL.len_tl]
    show (sg w).length = _
    rw [sh.eq]; simp
  refine ⟨_, _, _, e1, by rw [S_len]; omega, by rw [S_len]; omega, by rw [S_len]; omega, ?_⟩
  unfold readFact
  rw [dot_ch, eq_ch]
  have e2 : Txt.partition w (ch 61) = (S (a ++ 46 :: b), S [61], S v) := part_some (by rw [sh.eq]; simp) (by simp [sh.da, sh.db])
  rw [e2]
  have e3 : Txt.partition (S (a ++ 46 :: b)) (ch 46) = (S a, S [46], S b) := part_some rfl sh.ca
  dsimp only
  rw [e3]
  dsimp only
  have hz : ((strOf (S v)).isSome || decide (S v = "?")) = decide (S v ∈ (["0", "1", "2", "?"] : List Str)) := by
    rw [Bool.eq_iff_iff, Bool.or_eq_true, decide_eq_true_eq, decide_eq_true_eq]
    constructor
    · rintro (h | h)
      · rcases strOf_sg h with h | h | h <;> simp [h]
      · simp [h]
    · intro h
      simp at h
      rcases h with h | h | h | h
      · left; rw [h]; rfl
      · left; rw [h]; rfl
      · left; rw [h]; rfl
      · right; exact h
  rw [hz]
theorem fact_neg {w : Str} (hc : ¬ lawCond w "." "=") : readFact w = none := by
  rw [dot_ch, eq_ch] at hc
  unfold readFact
  rw [dot_ch, eq_ch]
  dsimp only
  rw [ite_eq_right_iff]
  intro h
  exfalso
  rw [Bool.and_eq_true, Bool.and_eq_true] at h
  obtain ⟨⟨n1, n2⟩, n3⟩ := h
  by_cases hm : 61 ∈ sg w
  · obtain ⟨u, v, e, hu⟩ := mem_cut hm
    rw [part_some e hu] at n1 n2 n3
    dsimp only at n1 n2 n3
    by_cases hm2 : 46 ∈ u
    · obtain ⟨a, b, e2, ha⟩ := mem_cut hm2
      rw [part_some (w := S u) (c := 46) (a := a) (b := b) e2 ha] at n1 n2
      dsimp only at n1 n2
      have hv : ∀ c ∈ v, c ∈ [48, 49, 50, 63] := fun c hc => lit012 (z := S v) (by
        rw [Bool.or_eq_true, decide_eq_true_eq] at n3
        rcases n3 with h | h
        · rcases strOf_sg h with h | h | h
          · exact .inl h
          · exact .inr (.inl h)
          · exact .inr (.inr (.inl h))
        · exact .inr (.inr (.inr h))) hc
      have na : ∀ c ∈ a, 97 ≤ c ∧ c ≤ 122 := fun c hc => name_sg n1 hc
      have nb : ∀ c ∈ b, 97 ≤ c ∧ c ≤ 122 := fun c hc => name_sg n2 hc
      have sh : Sh w 46 61 a b v := ⟨by rw [e, e2]; simp, fun h => by have := na _ h; omega, fun h => by have := nb _ h; omega, fun h => by have := hv _ h; simp at this, fun h => by have := na _ h; omega, fun h => by have := nb _ h; omega, fun h => by have := hv _ h; simp at this⟩
      have hcd := sh_cond (by decide) sh
      exact hc ⟨by rw [sh_split (by decide) (by decide) (by decide) sh]; rfl, hcd.1, hcd.2⟩
    · rw [part_none (w := S u) (c := 46) hm2] at n2
      exact absurd n2 (by rw [name_empty]; exact Bool.false_ne_true)
  · rw [part_none hm] at n3
    exact absurd (show ((strOf (S [])).isSome || decide (S [] = "?")) = true from n3) (by decide +kernel)
theorem paper_pos {w : Str} (hc : lawCond w ">" "=") : ∃ x y z, Txt.split (Txt.replace w ">" "=") "=" = [x, y, z] ∧ x.length ≤ w.length ∧ y.length ≤ w.length ∧ z.length ≤ w.length ∧
    readPaper w = match readNames x, strOf z with
      | some ns, some z => if y = "-" then some (ns, none, z) else if isName y then some (ns, some y, z) else none
      | _, _ => none := by
  rw [gt_ch, eq_ch] at hc ⊢
  obtain ⟨h1, h2, h3⟩ := hc
  obtain ⟨a, b, v, sh⟩ := cond_sh (by decide) (by decide) (by decide) h1 h2 h3
  have e1 := sh_split (by decide) (by decide) (by decide) sh
  have hl : w.length = a.length + (b.length + (v.length + 1) + 1) := by
    rw [TL.len_tl]
    show (sg w).length = _
    rw [sh.eq]; simp
  refine ⟨_, _, _, e1, by rw [S_len]; omega, by rw [S_len]; omega, by rw [S_len]; omega, ?_⟩
  unfold readPaper
  rw [gt_ch, eq_ch]
  have e2 : Txt.partition w (ch 62) = (S a, S [62], S (b ++ 61 :: v)) := part_some sh.eq sh.ca
  rw [e2]
  have e3 : Txt.partition (S (b ++ 61 :: v)) (ch 61) = (S b, S [61], S v) := part_some rfl sh.db
  dsimp only
  rw [e3]
  all_goals (cases readNames (S a) <;> cases strOf (S v) <;> rfl)
theorem paper_neg {w : Str} (hc : ¬ lawCond w ">" "=") : readPaper w = none := by
  rw [gt_ch, eq_ch] at hc
  unfold readPaper
  rw [gt_ch, eq_ch]
  by_cases hm : 62 ∈ sg w
  · obtain ⟨a, u, e, ha⟩ := mem_cut hm
    rw [part_some e ha]
    dsimp only
    by_cases hm2 : 61 ∈ u
    · obtain ⟨b, v, e2, hb⟩ := mem_cut hm2
      rw [part_some (w := S u) (c := 61) (a := b) (b := v) e2 hb]
      dsimp only
      cases i1 : readNames (S a) with
      | none => rfl
      | some ns =>
        cases i2 : strOf (S v) with
        | none => rfl
        | some z =>
          have na : ∀ c ∈ a, c = 44 ∨ c = 45 ∨ (97 ≤ c ∧ c ≤ 122) := fun c hc => names_sg i1 hc
          have hv : ∀ c ∈ v, c ∈ [48, 49, 50, 63] := fun c hc => lit012 (z := S v) (by
            rcases strOf_sg (z := S v) (by rw [i2]; rfl) with h | h | h
            · exact .inl h
            · exact .inr (.inl h)
            · exact .inr (.inr (.inl h))) hc
          have fin : (∀ c ∈ b, c = 45 ∨ (97 ≤ c ∧ c ≤ 122)) → False := fun nb => by
            have sh : Sh w 62 61 a b v := ⟨by rw [e, e2], ha, fun h => by have := nb _ h; omega, fun h => by have := hv _ h; simp at this, fun h => by have := na _ h; omega, hb, fun h => by have := hv _ h; simp at this⟩
            have hcd := sh_cond (by decide) sh
            exact hc ⟨by rw [sh_split (by decide) (by decide) (by decide) sh]; rfl, hcd.1, hcd.2⟩
          dsimp only
          by_cases i3 : S b = "-"
          · exact (fin fun c hc => by
              have e5 : b = [45] := dash_sg i3
              rw [e5] at hc
              simp at hc
              omega).elim
          · by_cases i4 : isName (S b) = true
            · exact (fin fun c hc => .inr (name_sg i4 hc)).elim
            · rw [if_neg i3, if_neg i4]
    · rw [part_none (w := S u) (c := 61) hm2]
      dsimp only
      cases readNames (S a) <;> rfl
  · rw [part_none hm]
    dsimp only
    rw [part_none (w := S []) (c := 61) (by simp)]
    dsimp only
    cases readNames w <;> rfl
end TG

set_option maxHeartbeats 2000000
namespace TG
open PySem PySem.Builtin PySem.Builtin.Str PySem.StrLaws PyProof.Rows L2 SX NumText
theorem cutS_D (z : Str) (lo hi : Option Int) : cutS z lo hi = S (DL.cutD (sg z) lo hi) := by
  unfold cutS DL.cutD
  rw [TL.len_tl]
theorem cutS_to (z : Str) (n : Nat) : cutS z none (some (n : Int)) = S ((sg z).take n) := by rw [cutS_D, DL.cutD_to]
theorem cutS_from (z : Str) (n : Nat) : cutS z (some (n : Int)) none = S ((sg z).drop n) := by rw [cutS_D, DL.cutD_from]
theorem dash_S : ("-" : Str) = S [45] := by decide +kernel
theorem zero_S : ("0" : Str) = S [48] := by decide +kernel
theorem dash0_S : ("-0" : Str) = S [45, 48] := by decide +kernel
theorem figs_dash {w : Str} {l : List Nat} (e : sg w = 45 :: l) : figs w = S l := by
  unfold figs
  have e1 : cutS w none (some 1) = S ((sg w).take 1) := cutS_to w 1
  have e2 : cutS w (some 1) none = S ((sg w).drop 1) := cutS_from w 1
  rw [e1, e2, e, dash_S]
  simp
theorem figs_else {w : Str} (h : ∀ l, sg w ≠ 45 :: l) : figs w = w ∧ ¬ cutS w none (some 1) = "-" := by
  have e1 : cutS w none (some 1) = S ((sg w).take 1) := cutS_to w 1
  have hn : ¬ cutS w none (some 1) = "-" := by
    rw [e1, dash_S]
    intro q
    have q2 := S_inj q
    cases hs : sg w with
    | nil => rw [hs] at q2; simp at q2
    | cons x r => rw [hs] at q2; simp at q2; exact h r (by rw [hs, q2])
  unfold figs
  rw [if_neg hn]
  exact ⟨rfl, hn⟩
theorem figures_sg : sg figures = [48, 49, 50, 51, 52, 53, 54, 55, 56, 57] := by decide +kernel
theorem digits_of {s : Str} (h : ((sg s).all fun c => decide (c ∈ sg figures)) = true) : AllDigits (sg s) := by
  intro c hc
  have h2 := of_decide_eq_true (List.all_eq_true.mp h c hc)
  rw [figures_sg] at h2
  simp at h2
  omega
theorem digits_int {w : Str} (hl : w.length ≤ 640) (h1 : 1 ≤ (figs w).length) (h : ((sg (figs w)).all fun c => decide (c ∈ sg figures)) = true) : ∃ n, PySem.intText? w = some n := by
  have hd := digits_of h
  by_cases hx : ∃ l, sg w = 45 :: l
  · obtain ⟨l, e⟩ := hx
    rw [figs_dash e] at hd h1
    rw [S_len] at h1
    exact ⟨_, intText_neg e hd (by intro z; rw [z] at h1; simp at h1) (by omega)⟩
  · have e := (figs_else (w := w) (fun l q => hx ⟨l, q⟩)).1
    rw [e] at hd h1
    exact ⟨_, intText_digits hd (by intro z; rw [TL.len_tl] at h1; rw [show TL.tl w = [] from z] at h1; simp at h1) (by omega)⟩
theorem figs_len (w : Str) : (figs w).length ≤ w.length ∧ w.length ≤ (figs w).length + 1 := by
  by_cases hx : ∃ l, sg w = 45 :: l
  · obtain ⟨l, e⟩ := hx
    have : w.length = (sg w).length := TL.len_tl w
    rw [figs_dash e, S_len, this, e, List.length_cons]
    omega
  · rw [(figs_else (w := w) (fun l q => hx ⟨l, q⟩)).1]
    omega
theorem written_int {w : Str} (h : isWritten (figs w) = true) : ∃ n, PySem.intText? w = some n ∧ w.length ≤ 640 := by
  have hf := figs_len w
  unfold isWritten at h
  rw [Bool.and_eq_true, Bool.and_eq_true, Bool.and_eq_true, decide_eq_true_eq, decide_eq_true_eq] at h
  obtain ⟨n, hn⟩ := digits_int (w := w) (by omega) h.1.1.1 h.2
  exact ⟨n, hn, by omega⟩
/-- the law's reading of a number -/
theorem number_key {w : Str} (h1 : 1 ≤ (figs w).length) : ((⟨#[(sg (figs w)).getD 0 0]⟩ : Str) = "0" ∧ w ≠ "0") ↔ (((⟨#[(sg (figs w)).getD 0 0]⟩ : Str) = "0" ∧ 1 < (figs w).length) ∨ w = "-0") := by
  constructor
  · rintro ⟨k1, k2⟩
    by_cases hl : 1 < (figs w).length
    · exact .inl ⟨k1, hl⟩
    · right
      have hlen : (sg (figs w)).length = 1 := by
        have : (figs w).length = (sg (figs w)).length := TL.len_tl _
        omega
      have hf : sg (figs w) = [48] := by
        match hs : sg (figs w), hlen with
        | [x], _ =>
          rw [hs] at k1
          rw [zero_S] at k1
          have : [x] = [48] := congrArg (fun s : Str => s.cps.toList) k1
          rw [this]
      by_cases hx : ∃ l, sg w = 45 :: l
      · obtain ⟨l, e⟩ := hx
        rw [figs_dash e] at hf
        have hl : l = [48] := hf
        rw [dash0_S, ← S_tl w]
        show S (sg w) = _
        rw [e, hl]
      · rw [(figs_else (w := w) (fun l q => hx ⟨l, q⟩)).1] at hf
        exact absurd (by rw [zero_S, ← S_tl w]; show S (sg w) = _; rw [hf]) k2
  · rintro (⟨k1, k2⟩ | k)
    · refine ⟨k1, fun e => ?_⟩
      subst e
      exact absurd k2 (by decide +kernel)
    · subst k
      exact ⟨by decide +kernel, by decide +kernel⟩
theorem number_bad {w : Str} (h : ((decide ((figs w).length = 0) || decide (60 < (figs w).length)) || !((sg (figs w)).all fun c => decide (c ∈ sg figures))) = true) : readWhole w = none := by
  have e : isWritten (figs w) = false := by
    unfold isWritten
    rw [Bool.or_eq_true, Bool.or_eq_true, decide_eq_true_eq, decide_eq_true_eq, Bool.not_eq_true'] at h
    rcases h with (h | h) | h
    · rw [h]; rfl
    · have e : decide ((figs w).length ≤ 60) = false := by simp; omega
      rw [e]; simp
    · rw [h]; simp
  unfold readWhole
  rw [e]; rfl
theorem number_more {w : Str} (h : ((decide ((figs w).length = 0) || decide (60 < (figs w).length)) || !((sg (figs w)).all fun c => decide (c ∈ sg figures))) = false) :
    1 ≤ (figs w).length ∧ (((⟨#[(sg (figs w)).getD 0 0]⟩ : Str) = "0" ∧ w ≠ "0") → readWhole w = none) ∧ (¬ ((⟨#[(sg (figs w)).getD 0 0]⟩ : Str) = "0" ∧ w ≠ "0") → ∃ n, readWhole w = some n ∧ PySem.intText? w = some n ∧ w.length ≤ 640) := by
  rw [Bool.or_eq_false_iff, Bool.or_eq_false_iff, decide_eq_false_iff_not, decide_eq_false_iff_not, Bool.not_eq_false'] at h
  obtain ⟨⟨h1, h2⟩, h3⟩ := h
  have e1 : decide (1 ≤ (figs w).length) = true := by simp; omega
  have e2 : decide ((figs w).length ≤ 60) = true := by simp; omega
  refine ⟨by omega, fun hk => ?_, fun hk => ?_⟩
  · unfold readWhole isWritten
    rw [e1, e2, h3]
    rcases (number_key (by omega)).mp hk with ⟨k1, k2⟩ | k
    · rw [decide_eq_true k1, decide_eq_true k2]; rfl
    · rw [decide_eq_true k, Bool.or_true]; rfl
  · have nk := fun z => hk ((number_key (by omega)).mpr z)
    have n1 : decide (w = "-0") = false := by simp; exact fun z => nk (.inr z)
    have n2 : (decide ((⟨#[(sg (figs w)).getD 0 0]⟩ : Str) = "0") && decide (1 < (figs w).length)) = false := by
      rw [Bool.and_eq_false_iff, decide_eq_false_iff_not, decide_eq_false_iff_not]
      by_cases k1 : (⟨#[(sg (figs w)).getD 0 0]⟩ : Str) = "0"
      · exact .inr fun k2 => nk (.inl ⟨k1, k2⟩)
      · exact .inl k1
    have hwr : isWritten (figs w) = true := by
      unfold isWritten
      rw [e1, e2, h3, n2]; rfl
    obtain ⟨n, hn, hl⟩ := written_int hwr
    refine ⟨n, ?_, hn, hl⟩
    unfold readWhole
    rw [hwr, n1]
    exact hn
theorem whole_bad {w : Str} (h : (!isWritten (figs w) || decide (w = "-0")) = true) : readWhole w = none := by
  unfold readWhole
  rw [h]; rfl
theorem whole_ok {w : Str} (h : (!isWritten (figs w) || decide (w = "-0")) = false) : ∃ n, readWhole w = some n ∧ PySem.intText? w = some n ∧ w.length ≤ 640 := by
  have hw : isWritten (figs w) = true := by
    rw [Bool.or_eq_false_iff, Bool.not_eq_false'] at h
    exact h.1
  obtain ⟨n, hn, hl⟩ := written_int hw
  refine ⟨n, ?_, hn, hl⟩
  unfold readWhole
  rw [h]
  exact hn
theorem show_names_eq {w : Str} {ns : List Str} (h : readNames w = some ns) : showNames ns = w := by
  unfold readNames at h
  by_cases e : w = "-"
  · rw [if_pos e] at h
    cases h
    rw [e]; rfl
  · rw [if_neg e] at h
    by_cases h2 : (Txt.split w ",").all isName = true
    · rw [if_pos h2] at h
      cases h
      unfold showNames
      have := split_pos w ","
      rw [if_neg (by omega), join_split']
    · rw [if_neg h2] at h; cases h
theorem names_len {w : Str} {ns : List Str} (h : readNames w = some ns) : (ns.map (·.length)).sum + ns.length ≤ 2 * w.length + 2 := by
  unfold readNames at h
  by_cases e : w = "-"
  · rw [if_pos e] at h
    cases h
    simp
  · rw [if_neg e] at h
    by_cases h2 : (Txt.split w ",").all isName = true
    · rw [if_pos h2] at h
      cases h
      have h3 := len_join_ge_sum "," (Txt.split w ",")
      rw [join_split'] at h3
      have h4 := split_le w ","
      omega
    · rw [if_neg h2] at h; cases h
theorem str_show {v : Str} {z : Int} (h : strOf v = some z) : Str.ofString (toString z) = v ∧ 0 ≤ z ∧ z ≤ 2 := by
  unfold strOf at h
  by_cases h0 : v = "0"
  · rw [if_pos h0] at h; cases h; subst h0; decide +kernel
  · by_cases h1 : v = "1"
    · rw [if_neg h0, if_pos h1] at h; cases h; subst h1; decide +kernel
    · by_cases h2 : v = "2"
      · rw [if_neg h0, if_neg h1, if_pos h2] at h; cases h; subst h2; decide +kernel
      · rw [if_neg h0, if_neg h1, if_neg h2] at h; cases h
theorem show_paper_eq {w : Str} {p : List Str × Option Str × Int} (h : readPaper w = some p) : showPaper p = w ∧ (p.1.map (·.length)).sum + p.1.length ≤ 2 * w.length + 2 ∧ (p.2.1.getD "-").length ≤ w.length + 1 ∧ 0 ≤ p.2.2 ∧ p.2.2 ≤ 2 := by
  unfold readPaper at h
  rw [gt_ch, eq_ch] at h
  by_cases hm : 62 ∈ sg w
  · obtain ⟨a, u, e, ha⟩ := mem_cut hm
    have hlw : w.length = (sg w).length := TL.len_tl w
    rw [part_some e ha] at h
    dsimp only at h
    by_cases hm2 : 61 ∈ u
    · obtain ⟨b, v, e2, hb⟩ := mem_cut hm2
      rw [part_some (w := S u) (c := 61) (a := b) (b := v) e2 hb] at h
      dsimp only at h
      cases i1 : readNames (S a) with
      | none => rw [i1] at h; cases h
      | some ns =>
        cases i2 : strOf (S v) with
        | none => rw [i1, i2] at h; cases h
        | some z =>
          rw [i1, i2] at h
          dsimp only at h
          have s1 := show_names_eq i1
          have s2 := str_show i2
          have s3 := names_len i1
          have hsw : w = S a ++ ">" ++ S b ++ "=" ++ S v := by
            rw [gt_ch, eq_ch]
            show w = S a ++ S [62] ++ S b ++ S [61] ++ S v
            rw [S_cat, S_cat, S_cat, S_cat, ← S_tl w]
            show S (sg w) = _
            rw [e, e2]
            congr 1
            simp
          rw [S_len] at s3
          have hla : a.length ≤ w.length := by rw [hlw, e]; simp
          have hlb : b.length ≤ w.length := by rw [hlw, e, e2]; simp; omega
          by_cases i3 : S b = "-"
          · rw [if_pos i3] at h
            cases h
            refine ⟨?_, by dsimp only; omega, by dsimp only [Option.getD_none]; rw [dash_S, S_len]; simp, s2.2.1, s2.2.2⟩
            unfold showPaper
            dsimp only [Option.getD_none]
            rw [s1, ← i3]
            rw [show ((toString z : String) : Str) = S v from s2.1]
            exact hsw.symm
          · rw [if_neg i3] at h
            by_cases i4 : isName (S b) = true
            · rw [if_pos i4] at h
              cases h
              refine ⟨?_, by dsimp only; omega, by dsimp only [Option.getD_some]; rw [S_len]; omega, s2.2.1, s2.2.2⟩
              unfold showPaper
              dsimp only [Option.getD_some]
              rw [s1]
              rw [show ((toString z : String) : Str) = S v from s2.1]
              exact hsw.symm
            · rw [if_neg i4] at h; cases h
    · rw [part_none (w := S u) (c := 61) hm2] at h
      dsimp only at h
      have : strOf (S []) = none := by decide +kernel
      rw [this] at h
      cases h1 : readNames (S a) <;> (rw [h1] at h; cases h)
  · rw [part_none hm] at h
    dsimp only at h
    rw [part_none (w := S []) (c := 61) (by simp)] at h
    dsimp only at h
    have : strOf (S []) = none := by decide +kernel
    rw [this] at h
    cases h1 : readNames w <;> (rw [h1] at h; cases h)
end TG
namespace TG
open PySem PySem.Builtin PySem.Builtin.Str PySem.StrLaws PyProof.Rows L2 SX NumText
theorem part_len (w y : Str) : (Txt.partition w y).1.length ≤ w.length ∧ (Txt.partition w y).2.1.length ≤ y.length ∧ (Txt.partition w y).2.2.length ≤ w.length := by
  unfold Txt.partition
  cases h : occurrences w y 0 w.length 1 with
  | nil => exact ⟨Nat.le_refl _, Nat.zero_le _, Nat.zero_le _⟩
  | cons i r =>
    refine ⟨?_, Nat.le_refl _, ?_⟩
    · rw [TL.len_tl, TL.len_tl w]
      show (TL.tl (strSub w 0 i)).length ≤ _
      rw [TL.tl_strSub]
      simp
      exact Nat.min_le_right _ _
    · rw [TL.len_tl, TL.len_tl w]
      show (TL.tl (strSub w (i + y.length) w.length)).length ≤ _
      rw [TL.tl_strSub_end]
      simp
end TG

section
open DL
local macro_rules | `(tactic| walk_at "fi") => `(tactic| (first | exact trivial | assumption | (apply sz; omega) | omega | decide))
local macro_rules | `(tactic| walk_at "mem") => `(tactic| (first | exact List.mem_cons_self | exact List.mem_cons_of_mem _ List.mem_cons_self | exact List.mem_cons_of_mem _ (List.mem_cons_of_mem _ List.mem_cons_self) | exact List.mem_cons_of_mem _ (List.mem_cons_of_mem _ (List.mem_cons_of_mem _ List.mem_cons_self)) | exact List.mem_cons_of_mem _ (List.mem_cons_of_mem _ (List.mem_cons_of_mem _ (List.mem_cons_of_mem _ List.mem_cons_self))) | exact List.mem_cons_of_mem _ (List.mem_cons_of_mem _ (List.mem_cons_of_mem _ (List.mem_cons_of_mem _ (List.mem_cons_of_mem _ List.mem_cons_self))))))
local macro_rules | `(tactic| walk_at "rl") => `(tactic| (first | exact Rl.t _ | exact Rl.d _ | exact Rl.w _ | (apply Rl.own; walk_at "mem")))
local macro_rules | `(tactic| walk_at "rt") => `(tactic| (first | exact Rt.t _ | (apply Rt.own; walk_at "mem")))
local macro_rules | `(tactic| walk_at "le") => `(tactic| (first | apply Le.refl | exact Le.td _ | exact Le.tw _ | exact Le.dw _))
local macro_rules | `(tactic| walk_at "dt") => `(tactic| (first | exact Dt.int _ | exact Dt.str _ | exact Dt.bl _ | exact Dt.non | exact Dt.t _ | exact Dt.d _))
local macro_rules | `(tactic| walk_at "dts") => `(tactic| (repeat' (first | exact Dts.nil | (apply Dts.cons) | walk_at "dt")))
local macro_rules | `(tactic| walk_at "las") => `(tactic| (repeat' (first | exact Las.nil | (apply Las.cons) | (apply La.own; walk_at "mem") | (apply La.le; walk_at "le"))))
local macro_rules | `(tactic| walk_at "op2") => `(tactic| (first
  | exact o_addI | exact o_subI | exact o_lt | exact o_le | exact o_gt | exact o_ge | exact o_eqI | exact o_eqS | exact o_neI | exact o_neS | exact o_isN | exact o_notN | exact o_isX | exact o_notX | exact o_isNA | exact o_eqB | exact o_neB | exact o_inT | exact o_inS | exact o_notinS
  | (apply o_inL; walk_at "rl") | (apply o_inB; walk_at "rl") | (apply o_notinL; walk_at "rl") | (apply o_addS) | (apply o_cat; walk_at "rt"; walk_at "rt") | (apply o_ixT) | (apply o_ixM; walk_at "rl") | (apply o_ixL; walk_at "rl") | (apply o_ixS)
  | (apply o_eqD; (first | exact Rd1.d _ | (apply Rd1.l; walk_at "rl")); (first | exact Rd1.d _ | (apply Rd1.l; walk_at "rl")))
  | (apply o_neD; (first | exact Rd1.d _ | (apply Rd1.l; walk_at "rl")); (first | exact Rd1.d _ | (apply Rd1.l; walk_at "rl")))
  | (apply o_rep; walk_at "rt") | (apply o_mulI) | (apply o_modI) | (apply o_divI) | (apply o_powI)))
local macro_rules | `(tactic| walk_at "opn") => `(tactic| (first | exact n_isStr | exact n_tupleT | (apply n_intS) | (apply n_strI) | exact n_intB | exact n_min | (apply n_lenL; walk_at "rl") | exact n_lenT | (apply n_lenS) | (apply n_list; walk_at "rl") | exact n_listT | (apply n_tuple; walk_at "rl") | (apply n_any; walk_at "rl") | (apply n_all; walk_at "rl")))
local macro_rules | `(tactic| walk_at "ev") => `(tactic| (repeat' (first
  | exact e_var rfl | exact e_cint | exact e_cstr | exact e_cbl | exact e_cnon | with_reducible exact e_c
  | (with_reducible apply e_op) | (with_reducible apply e_cb) | (with_reducible apply e_tup) | (with_reducible apply e_lst) | (with_reducible apply e_slS; · (walk_at "ev")) | (with_reducible apply e_slM) | (with_reducible apply e_split) | (with_reducible apply e_part) | (with_reducible apply e_find) | (with_reducible apply e_count) | (with_reducible apply e_repl) | (with_reducible apply e_sl) 
  | (with_reducible apply e_andV) | (with_reducible apply e_orV) | (with_reducible apply e_notV) | (with_reducible apply e_chain)
  | exact ea_nil | (with_reducible apply ea_cons) | exact eo_none | (with_reducible apply eo_some)
  | exact et_yes | (with_reducible apply et_test) | (with_reducible apply et_B) | (with_reducible apply et_not) | (with_reducible apply et_and) | (with_reducible apply et_or)
  | exact Dts.nil | (apply Dts.cons) | (walk_at "dt") | (walk_at "op2") | (walk_at "opn") | (walk_at "rl")
  | (with_reducible apply e_kcallP) | (with_reducible apply e_kcallO) | (apply Las.nil) | (apply Las.cons) | (apply La.own; walk_at "mem") | (apply La.le; walk_at "le") | (walk_at "fi") | (intro _))))

namespace TG
open PySem L2 DL
section
variable {K : PySem.W.Frag} {A : Ad}
theorem len_is_name : ∀ vs H Q E, sp_is_name K A vs H Q E → vs.length = 1 := psp_len fun _ => rfl
theorem pure_is_name (cs : Cs K A) (vs : List V) (H : Hp) (Q : VK) (E : XK) (h : sp_is_name K A vs H Q E) : t_is_name K A E { nx := fun _ H' => Q .non H', rt := Q } (L2.start n_is_name vs) H := by
  obtain ⟨w, B, Ms, s0, q0, hp, k⟩ := h
  dsimp only at q0 hp k
  have c := begin_ (N := n_is_name) s0 q0
  refine x_ifN c (by walk_at "ev") (fun hb H1 c1 => ?_) (fun hb H1 c1 => ?_)
  · refine x_retP c1 e_cbl hrX fun v H2 q => k v H2 (q.to ?_)
    have e : isName w = false := by
      unfold isName
      by_cases h : 1 ≤ w.length ∧ w.length ≤ 8
      · exfalso
        simp at hb
        omega
      · have e : (decide (1 ≤ w.length) && decide (w.length ≤ 8)) = false := by simp; omega
        rw [e, Bool.false_and]
    rw [e]
  · refine x_forI (fun i As' ρ' => As' = [] ∧ (∃ o, ρ' = [some (X (.str w)), o]) ∧ ∀ j, j < i → decide (w.cps.getD j 0 ∈ sg letters) = true) c1 (ei_str (by walk_at "ev")) (fun i _ => tr_name) ⟨rfl, ⟨_, rfl⟩, fun j hj => absurd hj (Nat.not_lt_zero j)⟩ ?_ ?_
    · rintro B1 i As' ρ' σ' H' x1 hi ⟨rfl, ⟨o, rfl⟩, hI⟩ c
      refine x_if c (by walk_at "ev") (fun hb H1 c1 => ?_) (fun hb H1 c1 => ?_)
      · refine x_ret c1 e_cbl fun v H2 hr => k v H2 ?_
        have e : isName w = false := by
          unfold isName
          have e2 : ((sg w).all fun c => decide (c ∈ sg letters)) = false := not_all_cps hi (by simpa using hb)
          rw [e2, Bool.and_false]
        rw [e]
        exact (hr.base x1).ret fun _ q => q
      · refine ⟨[], _, ⟨rfl, ⟨_, rfl⟩, fun j hj => ?_⟩, c1⟩
        rcases Nat.lt_succ_iff_lt_or_eq.mp hj with h | h
        · exact hI j h
        · rw [h]; simpa using hb
    · rintro As' ρ' σ' H' ⟨rfl, ⟨o, rfl⟩, hI⟩ c
      refine x_retP c e_cbl hrX fun v H2 q => k v H2 (q.to ?_)
      have e : isName w = true := by
        unfold isName
        have e2 : ((sg w).all fun c => decide (c ∈ sg letters)) = true := all_cps hI
        rw [e2, Bool.and_true]
        simp at hb
        simp
        omega
      rw [e]
theorem len_read_row : ∀ vs H Q E, sp_read_row K A vs H Q E → vs.length = 1 := psp_len fun _ => rfl
theorem pure_read_row (cs : Cs K A) (vs : List V) (H : Hp) (Q : VK) (E : XK) (h : sp_read_row K A vs H Q E) : t_read_row K A E { nx := fun _ H' => Q .non H', rt := Q } (L2.start n_read_row vs) H := by
  obtain ⟨w, B, Ms, s0, q0, hp, k⟩ := h
  dsimp only at q0 hp k
  have c := begin_ (N := n_read_row) s0 q0
  exact x_retP c (by walk_at "ev") hrD fun v H2 q => k v H2 q
theorem len_read_names : ∀ vs H Q E, sp_read_names K A vs H Q E → vs.length = 1 := pso_len fun _ => rfl
theorem pure_read_names (cs : Cs K A) (vs : List V) (H : Hp) (Q : VK) (E : XK) (h : sp_read_names K A vs H Q E) : t_read_names K A E { nx := fun _ H' => Q .non H', rt := Q } (L2.start n_read_names vs) H := by
  obtain ⟨w, B, Ms, s0, q0, hp, k⟩ := h
  dsimp only at q0 hp k
  have c := begin_ (N := n_read_names) s0 q0
  refine x_ifN c (by walk_at "ev") (fun hb H1 c1 => ?_) (fun hb H1 c1 => ?_)
  · refine Res.newL (K := K) en_nil c1 fun v H2 q => k v H2 ?_
    have e : readNames w = some [] := by unfold readNames; rw [if_pos (of_decide_eq_true hb)]
    rw [e]
    exact q
  · have hlen : (Txt.split w ",").length ≤ w.length + 2 := PyProof.Rows.split_le w ","
    have hsub : ∀ s ∈ Txt.split w ",", s.length ≤ 40000 := fun s hs => Nat.le_trans (split_part_le hs) hp
    refine x_ownN c1 (en_split (K := K) (e_var rfl) e_c (by decide) (by omega)) fun l σ1 H2 c2 => ?_
    refine x_ifN (b := !(((Txt.split w ",").map isName).all id)) c2 (et_not (et_B (e_cb (ea_cons (e_lcLb (enc := .str) (xs := Txt.split w ",") (f := isName) (e_var rfl) (Rl.own List.mem_cons_self) (by omega) (fun _ => tg_name) (fun j hj => hj) (fun s hs => by
      have := hsub s hs
      walk_at "ev")) ea_nil) (n_all (Rl.t _))))) (fun hb2 H3 c3 => ?_) (fun hb2 H3 c3 => ?_)
    · refine x_ret c3 e_cnon fun v H4 q => k v H4 ?_
      have e : readNames w = none := by
        unfold readNames
        rw [if_neg (of_decide_eq_false hb), if_neg (by simpa using hb2)]
      rw [e]
      exact q.nonL
    · refine x_ret c3 (e_var rfl) fun v H4 q => k v H4 ?_
      have e : readNames w = some (Txt.split w ",") := by
        unfold readNames
        rw [if_neg (of_decide_eq_false hb), if_pos (by simpa using hb2)]
      rw [e]
      exact q.ownL
theorem len_is_written : ∀ vs H Q E, sp_is_written K A vs H Q E → vs.length = 1 := psp_len fun _ => rfl
theorem pure_is_written (cs : Cs K A) (vs : List V) (H : Hp) (Q : VK) (E : XK) (h : sp_is_written K A vs H Q E) : t_is_written K A E { nx := fun _ H' => Q .non H', rt := Q } (L2.start n_is_written vs) H := by
  obtain ⟨w, B, Ms, s0, q0, hp, k⟩ := h
  dsimp only at q0 hp k
  have c := begin_ (N := n_is_written) s0 q0
  have hlen : w.length = (sg w).length := TL.len_tl w
  refine x_ifN (b := !(decide ((1 : Int) ≤ w.length) && decide ((w.length : Int) ≤ 60)) || (decide ((⟨#[(sg w).getD 0 0]⟩ : Str) = "0") && decide ((1 : Int) < w.length))) c (et_or (by walk_at "ev") fun hq => et_and (et_test (e_op (e_op (e_var rfl) e_c (o_ixS (c := (sg w).getD 0 0) (by walk_at "fi") ?_)) e_c o_eqS)) fun _ => (by walk_at "ev")) (fun hb H1 c1 => ?_) (fun hb H1 c1 => ?_)
  · have h1 : 0 < (sg w).length := by
      simp at hq
      omega
    show atI (sg w) 0 = _
    unfold atI ixN
    rw [if_pos (by omega), if_pos (by omega)]
    have h2 : 0 < w.cps.size := by simpa using h1
    simp [h2]
  · refine x_retP c1 e_cbl hrX fun v H2 q => k v H2 (q.to ?_)
    have e : isWritten w = false := by
      unfold isWritten
      have e2 : (decide (1 ≤ w.length) && decide (w.length ≤ 60) && !(decide ((⟨#[(sg w).getD 0 0]⟩ : Str) = "0") && decide (1 < w.length))) = false := by
        generalize decide ((⟨#[(sg w).getD 0 0]⟩ : Str) = "0") = z at hb
        by_cases h1 : 1 ≤ w.length <;> by_cases h2 : w.length ≤ 60 <;> by_cases h3 : 1 < w.length <;> cases z <;> simp [h1, h2, h3] at hb ⊢ <;> omega
      rw [e2, Bool.false_and]
    rw [e]
  · refine x_retP c1 (e_cb (ea_cons (e_lcSb (f := fun c => decide (c ∈ sg figures)) (e_var rfl) (by omega) (by simp) (fun ch _ => by walk_at "ev")) ea_nil) (n_all (Rl.t _))) hrX fun v H2 q => k v H2 (q.to ?_)
    have e : isWritten w = ((sg w).map fun c => decide (c ∈ sg figures)).all id := by
      unfold isWritten
      have e2 : (decide (1 ≤ w.length) && decide (w.length ≤ 60) && !(decide ((⟨#[(sg w).getD 0 0]⟩ : Str) = "0") && decide (1 < w.length))) = true := by
        generalize decide ((⟨#[(sg w).getD 0 0]⟩ : Str) = "0") = z at hb
        by_cases h1 : 1 ≤ w.length <;> by_cases h2 : w.length ≤ 60 <;> by_cases h3 : 1 < w.length <;> cases z <;> simp [h1, h2, h3] at hb ⊢ <;> omega
      rw [e2, Bool.true_and, List.all_map]
      rfl
    rw [e]
end
end TG

namespace TG
open PySem L2 DL
theorem oL_row (o : Option (List Str)) : oL (o.map (·.map .str)) = oRow o := by cases o <;> rfl
section
variable {K : PySem.W.Frag} {A : Ad}
theorem len_read_whole : ∀ vs H Q E, sp_read_whole K A vs H Q E → vs.length = 1 := psp_len fun _ => rfl
theorem pure_read_whole (cs : Cs K A) (vs : List V) (H : Hp) (Q : VK) (E : XK) (h : sp_read_whole K A vs H Q E) : t_read_whole K A E { nx := fun _ H' => Q .non H', rt := Q } (L2.start n_read_whole vs) H := by
  obtain ⟨w, B, Ms, s0, q0, hp, k⟩ := h
  dsimp only at q0 hp k
  have c := begin_ (N := n_read_whole) s0 q0
  have hf := (figs_len w).1
  refine x_asg c (e_var rfl) fun σ1 H1 c1 => ?_
  refine x_ifA (r := X (.str (figs w))) c1 (by walk_at "ev") (fun hb => ?_) (fun hb => ?_) fun σ2 H2 c2 => ?_
  · have e : figs w = cutS w (some 1) none := by unfold figs; rw [if_pos (of_decide_eq_true hb)]
    rw [e]
    walk_at "ev"
  · have e : figs w = w := by unfold figs; rw [if_neg (of_decide_eq_false hb)]
    rw [e]
    rfl
  · refine x_ifN c2 (by walk_at "ev") (fun hb H3 c3 => ?_) (fun hb H3 c3 => ?_)
    · refine x_retP c3 e_cnon hrX fun v H3 q => k v H3 (q.to ?_)
      rw [whole_bad hb]
      rfl
    · obtain ⟨n, e1, e2, e3⟩ := whole_ok hb
      refine x_retP c3 (e_cb (ea_cons (e_var rfl) ea_nil) (n_intS e2 e3)) hrX fun v H3 q => k v H3 (q.to ?_)
      rw [e1]
      rfl
theorem len_read_turn : ∀ vs H Q E, sp_read_turn K A vs H Q E → vs.length = 1 := psp_len fun _ => rfl
theorem pure_read_turn (cs : Cs K A) (vs : List V) (H : Hp) (Q : VK) (E : XK) (h : sp_read_turn K A vs H Q E) : t_read_turn K A E { nx := fun _ H' => Q .non H', rt := Q } (L2.start n_read_turn vs) H := by
  obtain ⟨w, B, Ms, s0, q0, hp, k⟩ := h
  dsimp only at q0 hp k
  have c := begin_ (N := n_read_turn) s0 q0
  obtain ⟨l1, l2, l3⟩ := part_len w ":"
  refine x_asgT c (e_part (e_var rfl) e_c (by decide) (by omega)) tg_tup3.tr fun σ1 H1 c1 => ?_
  cases hn : readNames (Txt.partition w ":").2.2 with
  | none =>
    refine x_asg c1 ((e_kcallO (x := (Txt.partition w ":").2.2) (by walk_at "ev") (by walk_at "ev") (by walk_at "ev")).dd (b' := .none) (by rw [oL_row, hn])) fun σ2 H2 c2 => ?_
    refine x_ifN c2 (et_or (et_not (et_B (e_kcallP (K := K) (x := (Txt.partition w ":").1) (by walk_at "ev") (by walk_at "ev") (by walk_at "ev")))) fun _ => et_test (e_op (e_var rfl) e_c (o_isN (d := .none)))) (fun hb H3 c3 => ?_) (fun hb H3 c3 => ?_)
    · refine x_retP c3 e_cnon hrX fun v H4 q => k v H4 (q.to ?_)
      unfold readTurn
      rw [hn]
      rfl
    · simp [nonD] at hb
  | some ns =>
    refine x_asg c1 ((e_kcallO (x := (Txt.partition w ":").2.2) (by walk_at "ev") (by walk_at "ev") (by walk_at "ev")).dd (b' := eRow ns) (by rw [oL_row, hn])) fun σ2 H2 c2 => ?_
    refine x_ifN c2 (et_or (et_not (et_B (e_kcallP (K := K) (x := (Txt.partition w ":").1) (by walk_at "ev") (by walk_at "ev") (by walk_at "ev")))) fun _ => et_test (e_op (e_var rfl) e_c (o_isN (d := eRow ns)))) (fun hb H3 c3 => ?_) (fun hb H3 c3 => ?_)
    · refine x_retP c3 e_cnon hrX fun v H4 q => k v H4 (q.to ?_)
      have e : isName (Txt.partition w ":").1 = false := by simpa [nonD] using hb
      unfold readTurn
      rw [hn, e]
      rfl
    · refine x_retP c3 (e_tup (ds := [.str (Txt.partition w ":").1, eRow ns]) (by walk_at "ev") (Dts.cons (Dt.str _) (Dts.cons (Dt.d _) Dts.nil)) (by simp)) hrD fun v H4 q => k v H4 (q.to ?_)
      have e : isName (Txt.partition w ":").1 = true := by simpa [nonD] using hb
      unfold readTurn
      rw [hn, e]
      rfl
end
end TG

namespace TG
open PySem L2 DL
theorem dt_oI {K : PySem.W.Frag} {o : Option Int} : Dt K (X ((o.map V.int).getD .non)) (oI o) := by
  cases o with
  | none => exact Dt.non
  | some i => exact Dt.int i
theorem some_map {o : Option Int} : (o.map V.int).isSome = o.isSome := by cases o <;> rfl
section
variable {K : PySem.W.Frag} {A : Ad}
theorem len_read_fact : ∀ vs H Q E, sp_read_fact K A vs H Q E → vs.length = 1 := psp_len fun _ => rfl
theorem pure_read_fact (cs : Cs K A) (vs : List V) (H : Hp) (Q : VK) (E : XK) (h : sp_read_fact K A vs H Q E) : t_read_fact K A E { nx := fun _ H' => Q .non H', rt := Q } (L2.start n_read_fact vs) H := by
  obtain ⟨w, B, Ms, s0, q0, hp, k⟩ := h
  dsimp only at q0 hp k
  have c := begin_ (N := n_read_fact) s0 q0
  obtain ⟨l1, l2, l3⟩ := part_len w "="
  obtain ⟨m1, m2, m3⟩ := part_len (Txt.partition w "=").1 "."
  refine x_asgT c (e_part (e_var rfl) e_c (by decide) (by omega)) tg_tup3.tr fun σ1 H1 c1 => ?_
  refine x_asgT c1 (e_part (a := (Txt.partition w "=").1) (e_var rfl) e_c (by decide) (by omega)) tg_tup3.tr fun σ2 H2 c2 => ?_
  refine x_ifN c2 (et_or (et_not (et_B (e_kcallP (K := K) (x := (Txt.partition (Txt.partition w "=").1 ".").1) (by walk_at "ev") (by walk_at "ev") (by walk_at "ev"))))
    fun _ => et_or (et_not (et_B (e_kcallP (K := K) (x := (Txt.partition (Txt.partition w "=").1 ".").2.2) (by walk_at "ev") (by walk_at "ev") (by walk_at "ev"))))
    fun _ => et_and (et_B (e_knotin (z := (Txt.partition w "=").2.2) (e_var rfl) e_c (cs.st _))) fun _ => et_test (e_op (e_var rfl) e_c (o_neS (i := (Txt.partition w "=").2.2)))) (fun hb H3 c3 => ?_) (fun hb H3 c3 => ?_)
  · refine x_retP c3 e_cnon hrX fun v H4 q => k v H4 (q.to ?_)
    have e : (isName (Txt.partition (Txt.partition w "=").1 ".").1 && isName (Txt.partition (Txt.partition w "=").1 ".").2.2 && ((strOf (Txt.partition w "=").2.2).isSome || decide ((Txt.partition w "=").2.2 = "?"))) = false := by
      rw [some_map] at hb
      revert hb
      cases isName (Txt.partition (Txt.partition w "=").1 ".").1 <;> cases isName (Txt.partition (Txt.partition w "=").1 ".").2.2 <;> cases (strOf (Txt.partition w "=").2.2).isSome <;> cases decide ((Txt.partition w "=").2.2 = "?") <;> intro hb <;> first | rfl | cases hb
    unfold readFact
    dsimp only
    rw [e]
    rfl
  · refine x_retP c3 (e_tup (ds := [.str (Txt.partition (Txt.partition w "=").1 ".").1, .str (Txt.partition (Txt.partition w "=").1 ".").2.2, oI (strOf (Txt.partition w "=").2.2)])
      (ea_cons (e_var rfl) (ea_cons (e_var rfl) (ea_cons (e_kget1 (z := (Txt.partition w "=").2.2) e_c (e_var rfl) (cs.st _)) ea_nil))) (Dts.cons (Dt.d _) (Dts.cons (Dt.d _) (Dts.cons dt_oI Dts.nil))) (by simp)) hrD fun v H4 q => k v H4 (q.to ?_)
    have e : (isName (Txt.partition (Txt.partition w "=").1 ".").1 && isName (Txt.partition (Txt.partition w "=").1 ".").2.2 && ((strOf (Txt.partition w "=").2.2).isSome || decide ((Txt.partition w "=").2.2 = "?"))) = true := by
      rw [some_map] at hb
      revert hb
      cases isName (Txt.partition (Txt.partition w "=").1 ".").1 <;> cases isName (Txt.partition (Txt.partition w "=").1 ".").2.2 <;> cases (strOf (Txt.partition w "=").2.2).isSome <;> cases decide ((Txt.partition w "=").2.2 = "?") <;> intro hb <;> first | rfl | cases hb
    unfold readFact
    dsimp only
    rw [e]
    rfl
theorem len_read_paper : ∀ vs H Q E, sp_read_paper K A vs H Q E → vs.length = 1 := psp_len fun _ => rfl
theorem pure_read_paper (cs : Cs K A) (vs : List V) (H : Hp) (Q : VK) (E : XK) (h : sp_read_paper K A vs H Q E) : t_read_paper K A E { nx := fun _ H' => Q .non H', rt := Q } (L2.start n_read_paper vs) H := by
  obtain ⟨w, B, Ms, s0, q0, hp, k⟩ := h
  dsimp only at q0 hp k
  have c := begin_ (N := n_read_paper) s0 q0
  obtain ⟨l1, l2, l3⟩ := part_len w ">"
  obtain ⟨m1, m2, m3⟩ := part_len (Txt.partition w ">").2.2 "="
  refine x_asgT c (e_part (e_var rfl) e_c (by decide) (by omega)) tg_tup3.tr fun σ1 H1 c1 => ?_
  refine x_asgT c1 (e_part (a := (Txt.partition w ">").2.2) (e_var rfl) e_c (by decide) (by omega)) tg_tup3.tr fun σ2 H2 c2 => ?_
  generalize hf : (Txt.partition (Txt.partition w ">").2.2 "=").1 = f at m1 c2
  generalize hz : (Txt.partition (Txt.partition w ">").2.2 "=").2.2 = z at m3 c2
  generalize hy : (Txt.partition (Txt.partition w ">").2.2 "=").2.1 = y at m2 c2
  have hr : readPaper w = match readNames (Txt.partition w ">").1, strOf z with
      | some ns, some z => if f = "-" then some (ns, none, z) else if isName f then some (ns, some f, z) else none
      | _, _ => none := by
    unfold readPaper
    dsimp only
    rw [hf, hz]
    all_goals (cases readNames (Txt.partition w ">").1 <;> cases strOf z <;> rfl)
  rw [hr] at k
  cases hn : readNames (Txt.partition w ">").1 with
  | none =>
    rw [hn] at k
    refine x_asg c2 ((e_kcallO (x := (Txt.partition w ">").1) (by walk_at "ev") (by walk_at "ev") (by walk_at "ev")).dd (b' := .none) (by rw [oL_row, hn])) fun σ3 H3 c3 => ?_
    refine x_ifN (b := true || true) c3 (et_or (et_test (e_op (e_var rfl) e_c (o_isN (d := .none)))) fun q => absurd q (by simp [nonD])) (fun hb H4 c4 => ?_) (fun hb H4 c4 => ?_)
    · refine x_retP c4 e_cnon hrX fun v H4 q => k v H4 (q.to (by cases strOf z <;> rfl))
    · simp at hb
  | some ns =>
    rw [hn] at k
    refine x_asg c2 ((e_kcallO (x := (Txt.partition w ">").1) (by walk_at "ev") (by walk_at "ev") (by walk_at "ev")).dd (b' := eRow ns) (by rw [oL_row, hn])) fun σ3 H3 c3 => ?_
    refine x_ifN c3 (et_or (et_test (e_op (e_var rfl) e_c (o_isN (d := eRow ns)))) fun _ => et_or (et_and (et_test (e_op (e_var rfl) e_c (o_neS (i := f)))) fun _ => et_not (et_B (e_kcallP (K := K) (x := f) (by walk_at "ev") (by walk_at "ev") (by walk_at "ev"))))
      fun _ => et_B (e_knotin (z := z) (e_var rfl) e_c (cs.st _))) (fun hb H4 c4 => ?_) (fun hb H4 c4 => ?_)
    · refine x_retP c4 e_cnon hrX fun v H5 q => k v H5 (q.to ?_)
      rw [some_map] at hb
      cases hs : strOf z with
      | none => rfl
      | some i =>
        rw [hs] at hb
        have h1 : ¬ f = "-" := fun e => by simp [nonD, e] at hb
        have h2 : isName f = false := by simpa [nonD, h1] using hb
        dsimp only
        rw [if_neg h1, h2]
        rfl
    · rw [some_map] at hb
      cases hs : strOf z with
      | none => rw [hs] at hb; simp at hb
      | some i =>
        rw [hs] at hb k
        have kd : KdV K A.pr A.STRENGTHS z (some (.int i)) := by have := cs.st z; rw [hs] at this; exact this
        refine x_ifN c4 (et_test (e_op (e_var rfl) e_c (o_eqS (i := f)))) (fun hb2 H5 c5 => ?_) (fun hb2 H5 c5 => ?_)
        · have h1 := of_decide_eq_true hb2
          refine x_retP c5 (e_tup (ds := [.tuple (ns.map .str), .none, .int i]) (ea_cons (e_cb (ea_cons (e_var rfl) ea_nil) (n_tuple (ds := ns.map .str) (Rl.d _))) (ea_cons e_cnon (ea_cons (e_kix (z := z) e_c (e_var rfl) kd) ea_nil)))
            (Dts.cons (Dt.d _) (Dts.cons Dt.non (Dts.cons (Dt.int _) Dts.nil))) (by simp)) hrD fun v H6 q => k v H6 (q.to ?_)
          dsimp only
          rw [if_pos h1]
        · have h1 := of_decide_eq_false hb2
          have h2 : isName f = true := by
            simp [nonD, h1] at hb
            exact hb
          refine x_retP c5 (e_tup (ds := [.tuple (ns.map .str), .str f, .int i]) (ea_cons (e_cb (ea_cons (e_var rfl) ea_nil) (n_tuple (ds := ns.map .str) (Rl.d _))) (ea_cons (e_var rfl) (ea_cons (e_kix (z := z) e_c (e_var rfl) kd) ea_nil)))
            (Dts.cons (Dt.d _) (Dts.cons (Dt.d _) (Dts.cons (Dt.int _) Dts.nil))) (by simp)) hrD fun v H6 q => k v H6 (q.to ?_)
          dsimp only
          rw [if_neg h1, h2]
          rfl
end
end TG

namespace TG
open PySem L2 DL
theorem show_len (ns : List Str) : (showNames ns).length ≤ (ns.map (·.length)).sum + ns.length + 1 := by
  unfold showNames
  by_cases h : ns.length = 0
  · rw [if_pos h]
    have : ("-" : Str).length = 1 := by decide +kernel
    omega
  · rw [if_neg h]
    cases ns with
    | nil => simp at h
    | cons a r =>
      show (Builtin.Str.glued "," (a :: r)).length ≤ _
      rw [StrLaws.glued_eq_join, PyProof.Rows.len_join_cons]
      have : ("," : Str).length = 1 := by decide +kernel
      rw [this, List.length_cons]
      omega
theorem num_len {z : Int} (h0 : 0 ≤ z) (h2 : z ≤ 2) : z.natAbs.log2 < 1920 ∧ (Str.ofString (toString z)).length ≤ 10 := by
  have : z = 0 ∨ z = 1 ∨ z = 2 := by omega
  rcases this with rfl | rfl | rfl <;> decide +kernel
section
variable {K : PySem.W.Frag} {A : Ad}
theorem len_show_names : ∀ vs H Q E, sp_show_names K A vs H Q E → vs.length = 1 := psp_len fun _ => rfl
theorem pure_show_names (cs : Cs K A) (vs : List V) (H : Hp) (Q : VK) (E : XK) (h : sp_show_names K A vs H Q E) : t_show_names K A E { nx := fun _ H' => Q .non H', rt := Q } (L2.start n_show_names vs) H := by
  obtain ⟨⟨b, ns⟩, B, Ms, s0, q0, hp, k⟩ := h
  dsimp only at q0 hp k
  have hc : ("," : Str).length = 1 := by decide +kernel
  have hj : (ns.map (·.length)).sum + ns.length * ("," : Str).length ≤ 16777216 := by rw [hc]; omega
  cases b with
  | true =>
    have c := begin_ (N := n_show_names) s0 (show RepsP B Ms vs [W K (ns.map .str)] from q0)
    refine x_ifN (b := decide (((ns.map PyData.str).length : Int) = 0)) c (et_test (e_op (e_cb (ea_cons (e_var rfl) ea_nil) (n_lenL (Rl.w _))) e_cint o_eqI)) (fun hb H1 c1 => ?_) (fun hb H1 c1 => ?_)
    · refine x_retP c1 e_cstr hrX fun v H2 q => k v H2 (q.to ?_)
      have : ns.length = 0 := by simpa using hb
      unfold showNames
      rw [if_pos this]
    · refine x_retP c1 (e_join (ys := ns) e_cstr (e_var rfl) (.l (Rl.w _)) hj) hrX fun v H2 q => k v H2 (q.to ?_)
      have : ¬ ns.length = 0 := by simpa using hb
      unfold showNames
      rw [if_neg this]
  | false =>
    have c := begin_ (N := n_show_names) s0 (show RepsP B Ms vs [D K (.tuple (ns.map .str))] from q0)
    refine x_ifN (b := decide (((ns.map PyData.str).length : Int) = 0)) c (et_test (e_op (e_cb (ea_cons (e_var rfl) ea_nil) n_lenT) e_cint o_eqI)) (fun hb H1 c1 => ?_) (fun hb H1 c1 => ?_)
    · refine x_retP c1 e_cstr hrX fun v H2 q => k v H2 (q.to ?_)
      have : ns.length = 0 := by simpa using hb
      unfold showNames
      rw [if_pos this]
    · refine x_retP c1 (e_join (ys := ns) e_cstr (e_var rfl) .t hj) hrX fun v H2 q => k v H2 (q.to ?_)
      have : ¬ ns.length = 0 := by simpa using hb
      unfold showNames
      rw [if_neg this]
theorem len_show_paper : ∀ vs H Q E, sp_show_paper K A vs H Q E → vs.length = 1 := psp_len fun _ => rfl
theorem str_app_len (a b : Str) : (a ++ b).length = a.length + b.length := by
  rw [TL.len_tl, TL.tl_append, List.length_append, ← TL.len_tl, ← TL.len_tl]
theorem sz5 {n : Nat} (h : n ≤ 4000000) : n ≤ sizeLine := Nat.le_trans h (by decide)
theorem pure_show_paper (cs : Cs K A) (vs : List V) (H : Hp) (Q : VK) (E : XK) (h : sp_show_paper K A vs H Q E) : t_show_paper K A E { nx := fun _ H' => Q .non H', rt := Q } (L2.start n_show_paper vs) H := by
  obtain ⟨⟨ns, f, z⟩, B, Ms, s0, q0, ⟨h1, h2, h3, h4⟩, k⟩ := h
  dsimp only at q0 h1 h2 h3 h4 k
  have c := begin_ (N := n_show_paper) s0 q0
  obtain ⟨n1, n2⟩ := num_len h3 h4
  have l1 := show_len ns
  have g1 : (">" : Str).length = 1 := by decide +kernel
  have g2 : ("=" : Str).length = 1 := by decide +kernel
  refine x_asgT c (e_var rfl) tg_tup3.tr fun σ1 H1 c1 => ?_
  refine x_ifA (r := X (.str (f.getD "-"))) c1 (et_test (e_op (e_var rfl) e_c (o_isN (d := oS f)))) (fun hb => ?_) (fun hb => ?_) fun σ2 H2 c2 => ?_
  · cases f with
    | none => exact e_cstr
    | some s => simp [nonD] at hb
  · cases f with
    | none => simp [nonD] at hb
    | some s => rfl
  · refine x_retP c2 (e_op (e_op (e_op (e_op (e_kcallP (K := K) (x := (false, ns)) (ea_cons (e_var rfl) ea_nil) (Las.cons (La.le (Le.refl _)) Las.nil) (by dsimp only; omega)) e_cstr (o_addS (sz5 (by dsimp only; omega)))) (e_var rfl) (o_addS (sz5 (by simp only [str_app_len]; omega)))) e_cstr (o_addS (sz5 (by simp only [str_app_len]; omega))))
      (e_cb (ea_cons (e_var rfl) ea_nil) (n_strI n1)) (o_addS (sz5 (by simp only [str_app_len]; dsimp only at *; omega)))) hrX fun v H3 q => k v H3 q
theorem len_law_is_name : ∀ vs H Q E, sp_law_is_name K A vs H Q E → vs.length = 1 := psp_len fun _ => rfl
theorem pure_law_is_name (cs : Cs K A) (vs : List V) (H : Hp) (Q : VK) (E : XK) (h : sp_law_is_name K A vs H Q E) : t_law_is_name K A E { nx := fun _ H' => Q .non H', rt := Q } (L2.start n_law_is_name vs) H := by
  obtain ⟨w, B, Ms, s0, q0, hp, k⟩ := h
  dsimp only at q0 hp k
  have c := begin_ (N := n_law_is_name) s0 q0
  refine x_retP c (e_andV (b := decide ((0 : Int) < w.length) && decide ((w.length : Int) < 9)) (c := ((sg w).map fun c => decide (c ∈ sg letters)).all id) (by walk_at "ev") fun _ => e_cb (ea_cons (e_lcSb (f := fun c => decide (c ∈ sg letters)) (e_var rfl) (by omega) (by simp) (fun ch _ => by walk_at "ev")) ea_nil) (n_all (Rl.t _))) hrX fun v H2 q => k v H2 (q.to ?_)
  congr 2
  unfold isName
  rw [List.all_map]
  have e : (decide ((0 : Int) < w.length) && decide ((w.length : Int) < 9)) = (decide (1 ≤ w.length) && decide (w.length ≤ 8)) := by
    congr 1
    · apply decide_eq_decide.mpr; omega
    · apply decide_eq_decide.mpr; omega
  rw [e]
  rfl
theorem len_law_listed : ∀ vs H Q E, sp_law_listed K A vs H Q E → vs.length = 1 := psp_len fun _ => rfl
theorem pure_law_listed (cs : Cs K A) (vs : List V) (H : Hp) (Q : VK) (E : XK) (h : sp_law_listed K A vs H Q E) : t_law_listed K A E { nx := fun _ H' => Q .non H', rt := Q } (L2.start n_law_listed vs) H := by
  obtain ⟨w, B, Ms, s0, q0, hp, k⟩ := h
  dsimp only at q0 hp k
  have c := begin_ (N := n_law_listed) s0 q0
  refine x_ifN c (by walk_at "ev") (fun hb H1 c1 => ?_) (fun hb H1 c1 => ?_)
  · refine x_ret c1 (e_lst (K := K) ea_nil Dts.nil (by simp)) fun v H2 q => k v H2 ?_
    have e : readNames w = some [] := by unfold readNames; rw [if_pos (of_decide_eq_true hb)]
    rw [e]
    exact q.ret fun B z => Le.ok (K := K) (.td []) _ _ _ z
  · have hlen : (Txt.split w ",").length ≤ w.length + 2 := PyProof.Rows.split_le w ","
    have hsub : ∀ s ∈ Txt.split w ",", s.length ≤ 40000 := fun s hs => Nat.le_trans (split_part_le hs) hp
    refine x_asg c1 (by walk_at "ev") fun σ1 H2 c2 => ?_
    refine x_retP c2 (e_op (r1 := T K [eRow (Txt.split w ","), .none]) (r2 := X (.int (if decide (false ∈ (Txt.split w ",").map isName) then 1 else 0))) (e_lst (ds := [eRow (Txt.split w ","), .none]) (ea_cons (e_var rfl) (ea_cons e_cnon ea_nil)) (Dts.cons (Dt.t _) (Dts.cons Dt.non Dts.nil)) (by simp))
      (e_cb (ea_cons (e_op e_cbl (e_lcLb (enc := .str) (xs := Txt.split w ",") (f := isName) (e_var rfl) (Rl.t _) (by omega) (fun _ => tg_name) (fun j hj => hj) (fun s hs => by
        have := hsub s hs
        exact e_kcallP (K := K) (x := s) (by walk_at "ev") (by walk_at "ev") (by walk_at "ev"))) (o_inB (Rl.t _))) ea_nil) n_intB)
      (o_ixL (d := oRow (readNames w)) (Rl.t _) ?_)) hrD fun v H3 q => k v H3 q
    unfold readNames
    rw [if_neg (of_decide_eq_false hb)]
    by_cases h2 : (Txt.split w ",").all isName = true
    · rw [if_pos h2]
      have e : decide (false ∈ (Txt.split w ",").map isName) = false := by
        rw [decide_eq_false_iff_not]
        intro hm
        obtain ⟨s, hs, e⟩ := List.mem_map.mp hm
        rw [List.all_eq_true.mp h2 s hs] at e
        cases e
      rw [e]
      rfl
    · rw [if_neg h2]
      have e : decide (false ∈ (Txt.split w ",").map isName) = true := by
        rw [decide_eq_true_eq]
        rw [List.all_eq_true] at h2
        apply Classical.byContradiction
        intro hn
        apply h2
        intro s hs
        cases hx : isName s with
        | true => rfl
        | false => exact absurd (hx ▸ List.mem_map_of_mem hs) hn
      rw [e]
      rfl
end
end TG

namespace TG
open PySem L2 DL SX
theorem figs_cut (w : Str) : cutS w (some (if decide (cutS w none (some 1) = "-") = true then 1 else 0)) none = figs w := by
  unfold figs
  by_cases h : cutS w none (some 1) = "-"
  · rw [decide_eq_true h, if_pos rfl, if_pos h]
  · rw [decide_eq_false h, if_neg (by simp), if_neg h]
    have e : cutS w (some 0) none = S ((sg w).drop 0) := cutS_from w 0
    rw [e, List.drop_zero]
theorem false_all (l : List Nat) (p : Nat → Bool) : decide (false ∈ l.map p) = !l.all p := by
  rw [Bool.eq_iff_iff, decide_eq_true_eq, Bool.not_eq_true', List.all_eq_false]
  constructor
  · intro h
    obtain ⟨x, hx, e⟩ := List.mem_map.mp h
    exact ⟨x, hx, by rw [e]; exact Bool.false_ne_true⟩
  · rintro ⟨x, hx, e⟩
    exact List.mem_map.mpr ⟨x, hx, by simpa using e⟩
theorem at0 {s : Str} (h : 1 ≤ s.length) : atI s.cps.toList 0 = some ((sg s).getD 0 0) := by
  have hlen : s.length = s.cps.toList.length := TL.len_tl s
  unfold atI ixN
  rw [if_pos (by omega), if_pos (by omega)]
  have h2 : 0 < s.cps.size := by
    have : s.length = s.cps.size := rfl
    omega
  simp [h2]
section
variable {K : PySem.W.Frag} {A : Ad}
theorem len_law_number : ∀ vs H Q E, sp_law_number K A vs H Q E → vs.length = 1 := psp_len fun _ => rfl
theorem pure_law_number (cs : Cs K A) (vs : List V) (H : Hp) (Q : VK) (E : XK) (h : sp_law_number K A vs H Q E) : t_law_number K A E { nx := fun _ H' => Q .non H', rt := Q } (L2.start n_law_number vs) H := by
  obtain ⟨w, B, Ms, s0, q0, hp, k⟩ := h
  dsimp only at q0 hp k
  have c := begin_ (N := n_law_number) s0 q0
  have hf := (figs_len w).1
  refine x_asg c ((e_slS (e_var rfl) (by walk_at "fi") (eo_some (e_cb (ea_cons (e_op (e_slS (K := K) (e_var rfl) (by walk_at "fi") eo_none (eo_some e_cint)) e_cstr o_eqS) ea_nil) n_intB)) eo_none).st (figs_cut w)) fun σ1 H1 c1 => ?_
  have hff : (figs w).length ≤ sizeLine := sz (by omega)
  have e60 : decide ((60 : Int) < (figs w).length) = decide (60 < (figs w).length) := by apply decide_eq_decide.mpr; omega
  have e0 : decide (((figs w).length : Int) = 0) = decide ((figs w).length = 0) := by apply decide_eq_decide.mpr; omega
  refine x_ifN (b := decide (((figs w).length : Int) = 0) || (decide ((60 : Int) < (figs w).length) || decide (false ∈ (sg (figs w)).map fun c => decide (c ∈ sg figures)))) c1
    (et_or (et_test (e_op (e_cb (ea_cons (e_var rfl) ea_nil) (n_lenS hff)) e_cint o_eqI)) fun _ => et_or (et_test (e_op (e_cb (ea_cons (e_var rfl) ea_nil) (n_lenS hff)) e_cint o_gt))
      fun _ => et_test (e_op e_cbl (e_lcSb (f := fun c => decide (c ∈ sg figures)) (e_var rfl) (by omega) (by simp) (fun ch _ => by walk_at "ev")) (o_inB (Rl.t _)))) (fun hb H2 c2 => ?_) (fun hb H2 c2 => ?_)
  · refine x_retP c2 e_cnon hrX fun v H3 q => k v H3 (q.to ?_)
    rw [number_bad (by rw [false_all, e60, e0, ← Bool.or_assoc] at hb; exact hb)]
    rfl
  · obtain ⟨h1, h2, h3⟩ := number_more (w := w) (by rw [false_all, e60, e0, ← Bool.or_assoc] at hb; exact hb)
    refine x_ifN (b := decide ((⟨#[(sg (figs w)).getD 0 0]⟩ : Str) = "0") && !decide (w = "0")) c2 (et_and (et_test (e_op (e_op (e_var rfl) e_cint (o_ixS (c := (sg (figs w)).getD 0 0) hff (at0 h1))) e_cstr o_eqS)) fun _ => et_test (e_op (e_var rfl) e_cstr o_neS)) (fun hb2 H3 c3 => ?_) (fun hb2 H3 c3 => ?_)
    · refine x_retP c3 e_cnon hrX fun v H4 q => k v H4 (q.to ?_)
      rw [Bool.and_eq_true, decide_eq_true_eq, Bool.not_eq_true', decide_eq_false_iff_not] at hb2
      rw [h2 hb2]
      rfl
    · have h4 : ¬ ((⟨#[(sg (figs w)).getD 0 0]⟩ : Str) = "0" ∧ w ≠ "0") := fun hh => by
        rw [decide_eq_true hh.1, decide_eq_false hh.2] at hb2
        cases hb2
      obtain ⟨n, e1, e2, e3⟩ := h3 h4
      refine x_retP c3 (e_cb (ea_cons (e_var rfl) ea_nil) (n_intS e2 e3)) hrX fun v H4 q => k v H4 (q.to ?_)
      rw [e1]
      rfl
theorem k_int_list : kitB "int" "list" = some false := by decide +kernel
theorem k_int_tuple : kitB "int" "tuple" = some false := by decide +kernel
theorem k_int_str : kitB "int" "str" = some false := by decide +kernel
theorem k_int_int : kitB "int" "int" = some true := by decide +kernel
theorem k_int_bool : kitB "int" "bool" = some false := by decide +kernel
theorem k_str_list : kitB "str" "list" = some false := by decide +kernel
theorem k_str_tuple : kitB "str" "tuple" = some false := by decide +kernel
theorem k_str_str : kitB "str" "str" = some true := by decide +kernel
theorem k_str_int : kitB "str" "int" = some false := by decide +kernel
theorem k_str_bool : kitB "str" "bool" = some false := by decide +kernel
theorem k_list_list : kitB "list" "list" = some true := by decide +kernel
theorem k_list_tuple : kitB "list" "tuple" = some false := by decide +kernel
theorem k_list_str : kitB "list" "str" = some false := by decide +kernel
theorem k_list_int : kitB "list" "int" = some false := by decide +kernel
theorem k_list_bool : kitB "list" "bool" = some false := by decide +kernel
theorem k_tuple_list : kitB "tuple" "list" = some false := by decide +kernel
theorem k_tuple_tuple : kitB "tuple" "tuple" = some true := by decide +kernel
theorem k_tuple_str : kitB "tuple" "str" = some false := by decide +kernel
theorem k_tuple_int : kitB "tuple" "int" = some false := by decide +kernel
theorem k_tuple_bool : kitB "tuple" "bool" = some false := by decide +kernel
theorem alike_lc {n : Nat} {d : PyData} {ds : List PyData} {Fr : List Hp} {As : List Asn} (hl : ds.length ≤ 100000) (h : KdAll n ds) (hd : d = .list ds ∨ d = .tuple ds) :
    DL.E (tLc (RZ.iZipA K (tCons (tVar 0) (tCons (tVar 1) tNil))) (gTup K 2 (gCons (gName 2) (gCons (gName 3) gNil))) tYes (kCall (sp_law_alikeN n K A) [] W0 (tCons (tVar 2) (tCons (tVar 3) tNil))) [2, 3]) [some (DL.A K d), some (DL.A K d), none, none] Fr As (T K ((List.replicate ds.length true).map .bool)) := by
  have q := e_lcI (K := K) (Fr := Fr) (As := As) (ρ := [some (DL.A K d), some (DL.A K d), none, none]) (te := kCall (sp_law_alikeN n K A) [] W0 (tCons (tVar 2) (tCons (tVar 3) tNil))) (tt := tYes) (fun _ => true) (fun _ => PyData.bool true) (ei_zip (K := K) (ds := ds) (es := ds) (hd.imp (fun e => ⟨e, e⟩) (fun e => ⟨e, e⟩)) rfl (ea_cons (e_var (i := 0) rfl) (ea_cons (e_var (i := 1) rfl) ea_nil))) hl (fun i _ => tr_pair (K := K) (i := 2) (j := 3)) (vs := [2, 3]) (fun _ h => h) (fun _ _ => et_yes) (fun _ => X (.bl true)) (fun i hi _ => ?_) (fun _ _ => Dt.bl true)
  · rw [List.filter_eq_self.mpr (fun _ _ => rfl)] at q
    have e : (List.range ds.length).map (fun _ => PyData.bool true) = (List.replicate ds.length true).map PyData.bool := by
      rw [List.map_const', List.map_replicate, List.length_range]
    rw [e] at q
    exact q
  · cases n with
    | zero => have := h.at hi; cases this
    | succ n => exact e_kcallP (K := K) (x := ds.getD i .none) (ea_cons (e_var rfl) (ea_cons (e_var rfl) ea_nil)) (Las.cons (La.le (Le.refl _)) (Las.cons (La.le (Le.refl _)) Las.nil)) (h.at hi)
theorem len_law_alike {n : Nat} : ∀ vs H Q E, sp_law_alikeN (n + 1) K A vs H Q E → vs.length = 2 := psp_len fun _ => rfl
theorem pure_law_alike {n : Nat} (cs : Cs K A) (vs : List V) (H : Hp) (Q : VK) (E : XK) (h : sp_law_alikeN (n + 1) K A vs H Q E) : t_law_alike n K A E { nx := fun _ H' => Q .non H', rt := Q } (L2.start n_law_alike vs) H := by
  obtain ⟨d, B, Ms, s0, q0, hp, k⟩ := h
  dsimp only at q0 hp k
  have c := begin_ (N := n_law_alike) s0 q0
  have kB : ∀ {a b : String} {r : Bool}, kitB a b = some r → kitB a b = some r := id
  cases hp with
  | non =>
    refine x_ifN (b := true || true) c (et_or (et_test (e_op (e_var rfl) e_cnon (o_isNA (d := .none)))) fun q => absurd q (by simp [nonD])) (fun hb H1 c1 => ?_) (fun hb H1 c1 => ?_)
    · exact x_retP c1 (e_andV (b := true) (c := true) (e_op (e_var rfl) e_cnon (o_isNA (d := .none))) fun _ => e_op (e_var rfl) e_cnon (o_isNA (d := .none))) hrX fun v H2 q => k v H2 q
    · simp at hb
  | int i =>
    refine x_ifN (b := false || false) c (et_or (et_test (e_op (e_var rfl) e_cnon (o_isNA (d := .int i)))) fun _ => et_test (e_op (e_var rfl) e_cnon (o_isNA (d := .int i)))) (fun hb H1 c1 => ?_) (fun hb H1 c1 => ?_)
    · simp at hb
    · refine x_ifN (b := false || false) c1 (et_B (e_isi2 (d := .int i) (e_var rfl) k_int_list k_int_tuple)) (fun hb H1 c1 => ?_) (fun hb H1 c1 => ?_)
      · simp at hb
      · refine x_ifN (b := false) c1 (et_B (e_cb (ea_cons (e_var rfl) (ea_cons e_c ea_nil)) (n_isiA (d := .int i) k_int_str))) (fun hb H1 c1 => ?_) (fun hb H1 c1 => ?_)
        · simp at hb
        · refine x_retP c1 (e_andV (b := true) (c := (!false) && decide (i = i)) (e_cb (ea_cons (e_var rfl) (ea_cons e_c ea_nil)) (n_isiA (d := .int i) k_int_int)) fun _ => e_andV (e_notV (e_cb (ea_cons (e_var rfl) (ea_cons e_c ea_nil)) (n_isiA (d := .int i) k_int_bool))) fun _ => e_op (e_var rfl) (e_var rfl) o_eqI) hrX fun v H2 q => k v H2 (q.to ?_)
          simp
  | str i =>
    refine x_ifN (b := false || false) c (et_or (et_test (e_op (e_var rfl) e_cnon (o_isNA (d := .str i)))) fun _ => et_test (e_op (e_var rfl) e_cnon (o_isNA (d := .str i)))) (fun hb H1 c1 => ?_) (fun hb H1 c1 => ?_)
    · simp at hb
    · refine x_ifN (b := false || false) c1 (et_B (e_isi2 (d := .str i) (e_var rfl) k_str_list k_str_tuple)) (fun hb H1 c1 => ?_) (fun hb H1 c1 => ?_)
      · simp at hb
      · refine x_ifN (b := true) c1 (et_B (e_cb (ea_cons (e_var rfl) (ea_cons e_c ea_nil)) (n_isiA (d := .str i) k_str_str))) (fun hb H1 c1 => ?_) (fun hb H1 c1 => ?_)
        · refine x_retP c1 (e_andV (b := true) (c := decide (i = i)) (e_cb (ea_cons (e_var rfl) (ea_cons e_c ea_nil)) (n_isiA (d := .str i) k_str_str)) fun _ => e_op (e_var rfl) (e_var rfl) o_eqS) hrX fun v H2 q => k v H2 (q.to ?_)
          simp
        · simp at hb
  | lst hl h =>
    rename_i ds
    refine x_ifN (b := false || false) c (et_or (et_test (e_op (e_var rfl) e_cnon (o_isNA (d := .list ds)))) fun _ => et_test (e_op (e_var rfl) e_cnon (o_isNA (d := .list ds)))) (fun hb H1 c1 => ?_) (fun hb H1 c1 => ?_)
    · simp at hb
    · have i1 : ∀ {T : String} {j : Nat} {b : Bool}, ((List.map some [DL.A K (.list ds), DL.A K (.list ds)] ++ List.replicate (n_law_alike.length - [DL.A K (.list ds), DL.A K (.list ds)].length) none)[j]? = some (some (DL.A K (.list ds)))) → kitB "list" T = some b → DL.E (tCB (rIsi K) (tCons (tVar j) (tCons (tC (.ty T)) tNil))) (List.map some [DL.A K (.list ds), DL.A K (.list ds)] ++ List.replicate (n_law_alike.length - [DL.A K (.list ds), DL.A K (.list ds)].length) none) Ms [] (X (.bl b)) :=
        fun hj hk => e_cb (ea_cons (e_var hj) (ea_cons e_c ea_nil)) (n_isiA (d := .list ds) hk)
      refine x_ifN (b := true || false) c1 (et_B (e_isi2 (d := .list ds) (e_var rfl) k_list_list k_list_tuple)) (fun hb H1 c1 => ?_) (fun hb H1 c1 => ?_)
      · refine x_ifN (b := (!decide (true = true)) || !decide (false = false)) c1 (et_or (et_test (e_op (i1 rfl k_list_list) (i1 rfl k_list_list) o_neB)) fun _ => et_test (e_op (i1 rfl k_list_tuple) (i1 rfl k_list_tuple) o_neB)) (fun hb H1 c1 => ?_) (fun hb H1 c1 => ?_)
        · simp at hb
        · refine x_retP c1 (e_andV (b := decide ((ds.length : Int) = ds.length)) (c := ((List.replicate ds.length true)).all id) (e_op (e_cb (ea_cons (e_var rfl) ea_nil) (n_lenA (.inl rfl))) (e_cb (ea_cons (e_var rfl) ea_nil) (n_lenA (.inl rfl))) o_eqI) fun _ => e_cb (ea_cons (alike_lc (K := K) (A := A) (by omega) h (.inl rfl)) ea_nil) (n_all (Rl.t _))) hrX fun v H2 q => k v H2 (q.to ?_)
          simp
      · simp at hb
  | tup hl h =>
    rename_i ds
    refine x_ifN (b := false || false) c (et_or (et_test (e_op (e_var rfl) e_cnon (o_isNA (d := .tuple ds)))) fun _ => et_test (e_op (e_var rfl) e_cnon (o_isNA (d := .tuple ds)))) (fun hb H1 c1 => ?_) (fun hb H1 c1 => ?_)
    · simp at hb
    · have i1 : ∀ {T : String} {j : Nat} {b : Bool}, ((List.map some [DL.A K (.tuple ds), DL.A K (.tuple ds)] ++ List.replicate (n_law_alike.length - [DL.A K (.tuple ds), DL.A K (.tuple ds)].length) none)[j]? = some (some (DL.A K (.tuple ds)))) → kitB "tuple" T = some b → DL.E (tCB (rIsi K) (tCons (tVar j) (tCons (tC (.ty T)) tNil))) (List.map some [DL.A K (.tuple ds), DL.A K (.tuple ds)] ++ List.replicate (n_law_alike.length - [DL.A K (.tuple ds), DL.A K (.tuple ds)].length) none) Ms [] (X (.bl b)) :=
        fun hj hk => e_cb (ea_cons (e_var hj) (ea_cons e_c ea_nil)) (n_isiA (d := .tuple ds) hk)
      refine x_ifN (b := false || true) c1 (et_B (e_isi2 (d := .tuple ds) (e_var rfl) k_tuple_list k_tuple_tuple)) (fun hb H1 c1 => ?_) (fun hb H1 c1 => ?_)
      · refine x_ifN (b := (!decide (false = false)) || !decide (true = true)) c1 (et_or (et_test (e_op (i1 rfl k_tuple_list) (i1 rfl k_tuple_list) o_neB)) fun _ => et_test (e_op (i1 rfl k_tuple_tuple) (i1 rfl k_tuple_tuple) o_neB)) (fun hb H1 c1 => ?_) (fun hb H1 c1 => ?_)
        · simp at hb
        · refine x_retP c1 (e_andV (b := decide ((ds.length : Int) = ds.length)) (c := ((List.replicate ds.length true)).all id) (e_op (e_cb (ea_cons (e_var rfl) ea_nil) (n_lenA (.inr rfl))) (e_cb (ea_cons (e_var rfl) ea_nil) (n_lenA (.inr rfl))) o_eqI) fun _ => e_cb (ea_cons (alike_lc (K := K) (A := A) (by omega) h (.inr rfl)) ea_nil) (n_all (Rl.t _))) hrX fun v H2 q => k v H2 (q.to ?_)
          simp
      · simp at hb
end
end TG

namespace TG
open PySem L2 DL SX
theorem disp_eq (z : Str) : valV (mergeK [] (([("0", 0), ("1", 1), ("2", 2)] : List (Str × Int)).map fun kv => ((Sum.inr kv.1 : Key), V.int kv.2))) (Sum.inr z) = (strOf z).map V.int := by
  have e : mergeK [] (([("0", 0), ("1", 1), ("2", 2)] : List (Str × Int)).map fun kv => ((Sum.inr kv.1 : Key), V.int kv.2)) = ([(Sum.inr ("0" : Str), V.int 0), (Sum.inr ("1" : Str), V.int 1), (Sum.inr ("2" : Str), V.int 2)] : List (Key × V)) := by decide +kernel
  rw [e]
  unfold strOf valV
  have c : ∀ a b : Str, ((Sum.inr a : Key) = Sum.inr b) = (b = a) := fun a b => propext ⟨fun h => by cases h; rfl, fun h => by rw [h]⟩
  by_cases h0 : z = "0"
  · subst h0; decide +kernel
  · by_cases h1 : z = "1"
    · subst h1; decide +kernel
    · by_cases h2 : z = "2"
      · subst h2; decide +kernel
      · rw [if_neg h0, if_neg h1, if_neg h2]
        simp [List.find?, c, h0, h1, h2]
theorem int_of_str {z : Str} {i : Int} (h : strOf z = some i) : PySem.intText? z = some i ∧ z.length ≤ 640 := by
  unfold strOf at h
  by_cases h0 : z = "0"
  · rw [if_pos h0] at h; cases h; subst h0; decide +kernel
  · by_cases h1 : z = "1"
    · rw [if_neg h0, if_pos h1] at h; cases h; subst h1; decide +kernel
    · by_cases h2 : z = "2"
      · rw [if_neg h0, if_neg h1, if_pos h2] at h; cases h; subst h2; decide +kernel
      · rw [if_neg h0, if_neg h1, if_neg h2] at h; cases h
theorem mem012 {z : Str} : decide (z ∈ (["0", "1", "2"] : List Str)) = (strOf z).isSome := by
  rw [Bool.eq_iff_iff, decide_eq_true_eq]
  constructor
  · intro h
    simp at h
    rcases h with h | h | h <;> (rw [h]; rfl)
  · intro h
    rcases strOf_sg h with h | h | h <;> simp [h]
theorem repl_len (w y z : Str) : (Txt.replace w y z).length ≤ w.length + (w.length + 1) * z.length := TK.replace_len w y z
section
variable {K : PySem.W.Frag} {A : Ad}
theorem len_law_read : ∀ vs H Q E, sp_law_read K A vs H Q E → vs.length = 1 := psp_len fun _ => rfl
theorem pure_law_read (cs : Cs K A) (vs : List V) (H : Hp) (Q : VK) (E : XK) (h : sp_law_read K A vs H Q E) : t_law_read K A E { nx := fun _ H' => Q .non H', rt := Q } (L2.start n_law_read vs) H := by
  obtain ⟨w, B, Ms, s0, q0, hp, k⟩ := h
  dsimp only at q0 hp k
  have c := begin_ (N := n_law_read) s0 q0
  have g1 : ("=" : Str).length = 1 := by decide +kernel
  refine x_ownN (K := K) (ds := [oRow (readNames w), oI (readWhole w), .none, .none, .none]) c (en_lst (ea_cons (e_kcallP (K := K) (x := w) (by walk_at "ev") (by walk_at "ev") (by walk_at "ev")) (ea_cons (e_kcallP (K := K) (x := w) (by walk_at "ev") (by walk_at "ev") (by walk_at "ev")) (ea_cons e_cnon (ea_cons e_cnon (ea_cons e_cnon ea_nil)))))
    (Dts.cons (Dt.d _) (Dts.cons (Dt.d _) (Dts.cons Dt.non (Dts.cons Dt.non (Dts.cons Dt.non Dts.nil))))) (by simp)) fun l σ1 H1 c1 => ?_
  refine x_asg c1 (e_split (K := K) (e_var rfl) e_cstr (by decide) (by omega)) fun σ2 H2 c2 => ?_
  refine x_join (B0 := B) (Fr := Ms) (As' := [OwnL K l [oRow (readNames w), oI (readWhole w), oTurn (readTurn w), .none, .none]]) (ρ' := [some (X (.str w)), some (X (.ref l)), none, none]) (fun N hN => ?_) fun σ3 H3 c3 => ?_
  · by_cases h2 : (Txt.split w ":").length = 2
    · obtain ⟨x, y, e, lx, ly, hr⟩ := turn_pos h2
      rw [e] at c2
      refine x_if (b := decide ((([x, y].map PyData.str).length : Int) = 2) && (isName x && !nonD (oRow (readNames y)))) c2 (et_and (et_test (e_op (e_cb (ea_cons (e_var rfl) ea_nil) (n_lenL (Rl.t _))) e_cint o_eqI)) fun _ =>
        et_and (et_B (e_kcallP (K := K) (x := x) (ea_cons (e_op (e_var rfl) e_cint (o_ixL (d := .str x) (Rl.t _) rfl)) ea_nil) (by walk_at "ev") (by walk_at "ev")))
        fun _ => et_test (e_op (e_kcallP (K := K) (x := y) (ea_cons (e_op (e_var rfl) e_cint (o_ixL (d := .str y) (Rl.t _) rfl)) ea_nil) (by walk_at "ev") (by walk_at "ev")) e_cnon o_notN)) (fun hb H3 c3 => ?_) (fun hb H3 c3 => ?_)
      · cases hn : readNames y with
        | none => rw [hn] at hb; simp [nonD] at hb
        | some ns =>
          have hx : isName x = true := by rw [hn] at hb; simpa [nonD] using hb
          rw [hx, hn] at hr
          refine x_last (x_setL (i := 2) (d := oTurn (readTurn w)) c3 ?_ (Dt.d _) (e_var rfl) e_cint (by simp) fun H4 c4 => hN _ _ (c4.drop 2))
          rw [hr]
          exact e_tup (K := K) (ea_cons (e_op (e_var rfl) e_cint (o_ixL (d := .str x) (Rl.t _) rfl)) (ea_cons ((e_kcallP (K := K) (x := y) (ea_cons (e_op (e_var rfl) e_cint (o_ixL (d := .str y) (Rl.t _) rfl)) ea_nil) (by walk_at "ev") (by walk_at "ev")).dd (b' := eRow ns) (by rw [hn])) ea_nil)) (Dts.cons (Dt.d _) (Dts.cons (Dt.d _) Dts.nil)) (by simp)
      · have e2 : readTurn w = none := by
          rw [hr]
          cases hn : readNames y with
          | none => cases isName x <;> rfl
          | some ns => rw [hn] at hb; have : isName x = false := by simpa [nonD] using hb
                       rw [this]; rfl
        rw [e2] at hN
        exact hN _ _ (c3.drop 2)
    · have e2 := turn_neg h2
      rw [e2] at hN
      refine x_if (b := false && false) c2 (et_and ((et_test (e_op (e_cb (ea_cons (e_var rfl) ea_nil) (n_lenL (Rl.t _))) e_cint o_eqI)).to (by rw [decide_eq_false_iff_not, List.length_map]; omega)) fun q => by cases q) (fun hb H3 c3 => ?_) (fun hb H3 c3 => ?_)
      · cases hb
      · exact hN _ _ (c3.drop 2)
  · refine x_asg c3 (e_split (K := K) (a := Txt.replace w "." "=") (e_repl (e_var rfl) (by rw [g1]; omega)) e_cstr (by decide) (by have := repl_len w "." "="; rw [g1] at this; omega)) fun σ4 H4 c4 => ?_
    refine x_join (B0 := B) (Fr := Ms) (As' := [OwnL K l [oRow (readNames w), oI (readWhole w), oTurn (readTurn w), oFact (readFact w), .none]]) (ρ' := [some (X (.str w)), some (X (.ref l)), none, none]) (fun N hN => ?_) fun σ5 H5 c5 => ?_
    · by_cases hc : lawCond w "." "="
      · obtain ⟨x, y, z, e, lx, ly, lz, hr⟩ := fact_pos hc
        rw [e] at c4
        refine x_if (b := decide ((([x, y, z].map PyData.str).length : Int) = 3) && (decide (Txt.count w "." = 1) && decide (Txt.find w "." < Txt.find w "="))) c4 (et_and (et_test (e_op (e_cb (ea_cons (e_var rfl) ea_nil) (n_lenL (Rl.t _))) e_cint o_eqI)) fun _ =>
          et_and (et_test (e_op (e_count (e_var rfl) e_cstr) e_cint o_eqI)) fun _ => et_test (e_op (e_find (e_var rfl) e_cstr) (e_find (e_var rfl) e_cstr) o_lt)) (fun hb H3 c3 => ?_) (fun hb H3 c3 => ?_)
        · refine x_if (b := isName x && (isName y && decide (z ∈ (["0", "1", "2", "?"] : List Str)))) c3 (et_and (et_B (e_kcallP (K := K) (x := x) (ea_cons (e_op (e_var rfl) e_cint (o_ixL (d := .str x) (Rl.t _) rfl)) ea_nil) (by walk_at "ev") (by walk_at "ev"))) fun _ =>
            et_and (et_B (e_kcallP (K := K) (x := y) (ea_cons (e_op (e_var rfl) e_cint (o_ixL (d := .str y) (Rl.t _) rfl)) ea_nil) (by walk_at "ev") (by walk_at "ev"))) fun _ =>
            et_test (e_op (e_op (e_var rfl) e_cint (o_ixL (d := .str z) (Rl.t _) rfl)) (e_tup (ds := (["0", "1", "2", "?"] : List Str).map PyData.str) (ea_cons e_cstr (ea_cons e_cstr (ea_cons e_cstr (ea_cons e_cstr ea_nil)))) (Dts.cons (Dt.str _) (Dts.cons (Dt.str _) (Dts.cons (Dt.str _) (Dts.cons (Dt.str _) Dts.nil)))) (by simp)) (o_inT (K := K) (ss := ["0", "1", "2", "?"])))) (fun hb2 H6 c6 => ?_) (fun hb2 H6 c6 => ?_)
          · rw [← Bool.and_assoc] at hb2
            rw [if_pos hb2] at hr
            refine x_last (x_setL (i := 3) (d := oFact (readFact w)) c6 ?_ (Dt.d _) (e_var rfl) e_cint (by simp) fun H7 c7 => hN _ _ (c7.drop 2))
            rw [hr]
            refine e_tup (K := K) (ea_cons (e_op (e_var rfl) e_cint (o_ixL (d := .str x) (Rl.t _) rfl)) (ea_cons (e_op (e_var rfl) e_cint (o_ixL (d := .str y) (Rl.t _) rfl)) (ea_cons (e_dispGet (kvs := [("0", 0), ("1", 1), ("2", 2)]) (z := z) (by simp) (e_op (e_var rfl) e_cint (o_ixL (d := .str z) (Rl.t _) rfl))) ea_nil))) (Dts.cons (Dt.d _) (Dts.cons (Dt.d _) (Dts.cons ?_ Dts.nil))) (by simp)
            rw [disp_eq]
            exact dt_oI
          · rw [← Bool.and_assoc] at hb2
            have e2 : readFact w = none := by rw [hr, hb2]; rfl
            rw [e2] at hN
            exact hN _ _ (c6.drop 2)
        · rw [decide_eq_true hc.2.1, decide_eq_true hc.2.2] at hb
          simp at hb
      · have e2 := fact_neg hc
        rw [e2] at hN
        refine x_if (b := decide ((((Txt.split (Txt.replace w "." "=") "=").map PyData.str).length : Int) = 3) && (decide (Txt.count w "." = 1) && decide (Txt.find w "." < Txt.find w "="))) c4 (et_and (et_test (e_op (e_cb (ea_cons (e_var rfl) ea_nil) (n_lenL (Rl.t _))) e_cint o_eqI)) fun _ =>
          et_and (et_test (e_op (e_count (e_var rfl) e_cstr) e_cint o_eqI)) fun _ => et_test (e_op (e_find (e_var rfl) e_cstr) (e_find (e_var rfl) e_cstr) o_lt)) (fun hb H3 c3 => ?_) (fun hb H3 c3 => ?_)
        · rw [Bool.and_eq_true, Bool.and_eq_true, decide_eq_true_eq, decide_eq_true_eq, decide_eq_true_eq, List.length_map] at hb
          exact absurd ⟨by omega, hb.2.1, hb.2.2⟩ hc
        · exact hN _ _ (c3.drop 2)
    · refine x_asg c5 (e_split (K := K) (a := Txt.replace w ">" "=") (e_repl (e_var rfl) (by rw [g1]; omega)) e_cstr (by decide) (by have := repl_len w ">" "="; rw [g1] at this; omega)) fun σ6 H6 c6 => ?_
      refine x_join (B0 := B) (Fr := Ms) (As' := [OwnL K l (told w)]) (ρ' := [some (X (.str w)), some (X (.ref l)), none, none]) (fun N hN => ?_) fun σ7 H7 c7 => ?_
      · unfold told at hN
        by_cases hc : lawCond w ">" "="
        · obtain ⟨x, y, z, e, lx, ly, lz, hr⟩ := paper_pos hc
          rw [e] at c6
          refine x_if (b := decide ((([x, y, z].map PyData.str).length : Int) = 3) && (decide (Txt.count w ">" = 1) && decide (Txt.find w ">" < Txt.find w "="))) c6 (et_and (et_test (e_op (e_cb (ea_cons (e_var rfl) ea_nil) (n_lenL (Rl.t _))) e_cint o_eqI)) fun _ =>
            et_and (et_test (e_op (e_count (e_var rfl) e_cstr) e_cint o_eqI)) fun _ => et_test (e_op (e_find (e_var rfl) e_cstr) (e_find (e_var rfl) e_cstr) o_lt)) (fun hb H3 c3 => ?_) (fun hb H3 c3 => ?_)
          · refine x_if (b := !nonD (oRow (readNames x)) && decide (z ∈ (["0", "1", "2"] : List Str))) c3 (et_and (et_test (e_op (e_kcallP (K := K) (x := x) (ea_cons (e_op (e_var rfl) e_cint (o_ixL (d := .str x) (Rl.t _) rfl)) ea_nil) (by walk_at "ev") (by walk_at "ev")) e_cnon o_notN)) fun _ =>
              et_test (e_op (e_op (e_var rfl) e_cint (o_ixL (d := .str z) (Rl.t _) rfl)) (e_tup (ds := (["0", "1", "2"] : List Str).map PyData.str) (ea_cons e_cstr (ea_cons e_cstr (ea_cons e_cstr ea_nil))) (Dts.cons (Dt.str _) (Dts.cons (Dt.str _) (Dts.cons (Dt.str _) Dts.nil))) (by simp)) (o_inT (K := K) (ss := ["0", "1", "2"])))) (fun hb2 H6 c6 => ?_) (fun hb2 H6 c6 => ?_)
            · rw [mem012] at hb2
              cases hn : readNames x with
              | none => rw [hn] at hb2; simp [nonD] at hb2
              | some ns =>
                cases hz : strOf z with
                | none => rw [hz] at hb2; simp at hb2
                | some i =>
                  rw [hn, hz] at hr
                  dsimp only at hr
                  refine x_if (b := decide (y = "-") || isName y) c6 (et_or (et_test (e_op (e_op (e_var rfl) e_cint (o_ixL (d := .str y) (Rl.t _) rfl)) e_cstr (o_eqS (i := y)))) fun _ => et_B (e_kcallP (K := K) (x := y) (ea_cons (e_op (e_var rfl) e_cint (o_ixL (d := .str y) (Rl.t _) rfl)) ea_nil) (by walk_at "ev") (by walk_at "ev"))) (fun hb3 H8 c8 => ?_) (fun hb3 H8 c8 => ?_)
                  · have hr2 : readPaper w = some (ns, if y = "-" then none else some y, i) := by
                      rw [hr]
                      by_cases h : y = "-"
                      · rw [if_pos h, if_pos h]
                      · have : isName y = true := by simpa [h] using hb3
                        rw [if_neg h, if_neg h, this]; rfl
                    obtain ⟨k1, k2⟩ := int_of_str hz
                    refine x_asg c8 (e_op (r1 := T K [.str y, .none]) (r2 := X (.int (if decide (y = "-") then 1 else 0))) (e_lst (ds := [.str y, .none]) (ea_cons (e_op (e_var rfl) e_cint (o_ixL (d := .str y) (Rl.t _) rfl)) (ea_cons e_cnon ea_nil)) (Dts.cons (Dt.d _) (Dts.cons Dt.non Dts.nil)) (by simp))
                      (e_cb (ea_cons (e_op (e_op (e_var rfl) e_cint (o_ixL (d := .str y) (Rl.t _) rfl)) e_cstr (o_eqS (i := y))) ea_nil) n_intB) (o_ixL (d := oS (if y = "-" then none else some y)) (Rl.t _) ?_)) fun σ9 H9 c9 => ?_
                    · by_cases h : y = "-"
                      · rw [decide_eq_true h, if_pos h]; rfl
                      · rw [decide_eq_false h, if_neg h]; rfl
                    · refine x_last (x_setL (i := 4) (d := oPaper (readPaper w)) c9 ?_ (Dt.d _) (e_var rfl) e_cint (by simp) fun H7 c7 => hN _ _ ((c7.drop 2).drop 3))
                      rw [hr2]
                      exact e_tup (K := K) (ea_cons (e_cb (ea_cons ((e_kcallP (K := K) (x := x) (ea_cons (e_op (e_var rfl) e_cint (o_ixL (d := .str x) (Rl.t _) rfl)) ea_nil) (by walk_at "ev") (by walk_at "ev")).dd (b' := eRow ns) (by rw [hn])) ea_nil) (n_tuple (ds := ns.map .str) (Rl.d _))) (ea_cons (e_var rfl) (ea_cons (e_cb (ea_cons (e_op (e_var rfl) e_cint (o_ixL (d := .str z) (Rl.t _) rfl)) ea_nil) (n_intS k1 k2)) ea_nil)))
                        (Dts.cons (Dt.d _) (Dts.cons (Dt.d _) (Dts.cons (Dt.int _) Dts.nil))) (by simp)
                  · have hr2 : readPaper w = none := by
                      rw [hr]
                      rw [Bool.or_eq_false_iff, decide_eq_false_iff_not] at hb3
                      rw [if_neg hb3.1, hb3.2]; rfl
                    rw [hr2] at hN
                    exact hN _ _ (c8.drop 2)
            · rw [mem012] at hb2
              have hr2 : readPaper w = none := by
                rw [hr]
                cases hn : readNames x with
                | none => cases strOf z <;> rfl
                | some ns =>
                  cases hz : strOf z with
                  | none => rfl
                  | some i => rw [hn, hz] at hb2; simp [nonD] at hb2
              rw [hr2] at hN
              exact hN _ _ (c6.drop 2)
          · rw [decide_eq_true hc.2.1, decide_eq_true hc.2.2] at hb
            simp at hb
        · have e2 := paper_neg hc
          rw [e2] at hN
          refine x_if (b := decide ((((Txt.split (Txt.replace w ">" "=") "=").map PyData.str).length : Int) = 3) && (decide (Txt.count w ">" = 1) && decide (Txt.find w ">" < Txt.find w "="))) c6 (et_and (et_test (e_op (e_cb (ea_cons (e_var rfl) ea_nil) (n_lenL (Rl.t _))) e_cint o_eqI)) fun _ =>
            et_and (et_test (e_op (e_count (e_var rfl) e_cstr) e_cint o_eqI)) fun _ => et_test (e_op (e_find (e_var rfl) e_cstr) (e_find (e_var rfl) e_cstr) o_lt)) (fun hb H3 c3 => ?_) (fun hb H3 c3 => ?_)
          · rw [Bool.and_eq_true, Bool.and_eq_true, decide_eq_true_eq, decide_eq_true_eq, decide_eq_true_eq, List.length_map] at hb
            exact absurd ⟨by omega, hb.2.1, hb.2.2⟩ hc
          · exact hN _ _ (c3.drop 2)
      · exact x_ret c7 (e_var rfl) fun v H8 q => k v H8 (q.own List.mem_cons_self)
end
end TG

namespace TG
open PySem L2 DL SX
theorem kd_up : ∀ {n : Nat} {d : PyData}, Kd n d → ∃ m, n = m + 1
  | _, _, .non => ⟨_, rfl⟩
  | _, _, .int _ => ⟨_, rfl⟩
  | _, _, .str _ => ⟨_, rfl⟩
  | _, _, .lst _ _ => ⟨_, rfl⟩
  | _, _, .tup _ _ => ⟨_, rfl⟩
theorem kd_strs {n : Nat} : ∀ ns : List Str, KdAll (n + 1) (ns.map .str)
  | [] => .nil
  | s :: r => .cons (.str s) (kd_strs r)
theorem names_many {w : Str} {ns : List Str} (h : readNames w = some ns) : ns.length ≤ w.length + 2 := by
  have := names_len h
  unfold readNames at h
  by_cases e : w = "-"
  · rw [if_pos e] at h; cases h; simp
  · rw [if_neg e] at h
    by_cases h2 : (Txt.split w ",").all isName = true
    · rw [if_pos h2] at h; cases h; exact PyProof.Rows.split_le w ","
    · rw [if_neg h2] at h; cases h
theorem kd_told {w : Str} (hw : w.length ≤ 10000) : Kd 4 (.list (told w)) := by
  have hrow : ∀ {n : Nat} {u : Str} {ns : List Str}, u.length ≤ 10000 → readNames u = some ns → Kd (n + 2) (eRow ns) := fun hu h => .lst (by have := names_many h; rw [List.length_map]; omega) (kd_strs _)
  obtain ⟨l1, _, l3⟩ := part_len w ":"
  obtain ⟨l4, _, _⟩ := part_len w ">"
  refine .lst (by show 5 ≤ _; decide) (.cons ?_ (.cons ?_ (.cons ?_ (.cons ?_ (.cons ?_ .nil)))))
  · cases h : readNames w with
    | none => exact .non
    | some ns => exact hrow hw h
  · cases readWhole w with
    | none => exact .non
    | some i => exact .int i
  · cases h : readTurn w with
    | none => exact .non
    | some t =>
      unfold readTurn at h
      cases hn : readNames (Txt.partition w ":").2.2 with
      | none => rw [hn] at h; cases h
      | some ns =>
        rw [hn] at h
        dsimp only at h
        by_cases hi : isName (Txt.partition w ":").1 = true
        · rw [if_pos hi] at h
          cases h
          exact .tup (by show 2 ≤ _; decide) (.cons (.str _) (.cons (hrow (by omega) hn) .nil))
        · rw [if_neg hi] at h; cases h
  · cases h : readFact w with
    | none => exact .non
    | some t =>
      refine .tup (by show 3 ≤ _; decide) (.cons (.str _) (.cons (.str _) (.cons ?_ .nil)))
      cases t.2.2 with
      | none => exact .non
      | some i => exact .int i
  · cases h : readPaper w with
    | none => exact .non
    | some t =>
      have hl : t.1.length ≤ 40000 := by
        have := (show_paper_eq h).2.1
        omega
      refine .tup (by show 3 ≤ _; decide) (.cons (.tup (by rw [List.length_map]; exact hl) (kd_strs _)) (.cons ?_ (.cons (.int _) .nil)))
      cases t.2.1 with
      | none => exact .non
      | some i => exact .str i
/-- a list of five whose first is one's own -/
def Fd (K : PySem.W.Frag) (q : Addr) (w : Str) : Rdb := ⟨fun v B _ => ∃ l vs, v = .ref l ∧ B l = some (.lst (.ref q :: vs)) ∧ DpAll K B vs [oI (readWhole w), oTurn (readTurn w), oFact (readFact w), oPaper (readPaper w)],
  fun e ⟨l, vs, h1, h2, h3⟩ => ⟨l, vs, h1, e _ _ h2, dpa_mono e h3⟩, fun _ h => h⟩
section
variable {K : PySem.W.Frag} {A : Ad}
theorem len_law_told : ∀ vs H Q E, sp_law_told K A vs H Q E → vs.length = 1 := fun vs H Q E ⟨w, B, Ms, _, q, _⟩ => q.len
theorem pure_law_told (cs : Cs K A) (vs : List V) (H : Hp) (Q : VK) (E : XK) (h : sp_law_told K A vs H Q E) : t_law_told K A E { nx := fun _ H' => Q .non H', rt := Q } (L2.start n_law_told vs) H := by
  obtain ⟨w, B, Ms, s0, q0, hp, k⟩ := h
  match vs, q0 with
  | [v], ⟨q1, _⟩ =>
    have ev : v = .str w := q1
    subst ev
    have hr : EA (tCons (kCall (sp_read_whole K A) [] W0 (tCons (tVar 0) tNil)) (tCons (kCall (sp_read_turn K A) [] W0 (tCons (tVar 0) tNil)) (tCons (kCall (sp_read_fact K A) [] W0 (tCons (tVar 0) tNil)) (tCons (kCall (sp_read_paper K A) [] W0 (tCons (tVar 0) tNil)) tNil))))
        [some (X (.str w))] Ms [] [D K (oI (readWhole w)), D K (oTurn (readTurn w)), D K (oFact (readFact w)), D K (oPaper (readPaper w))] :=
      ea_cons (e_kcallP (K := K) (x := w) (by walk_at "ev") (by walk_at "ev") hp) (ea_cons (e_kcallP (K := K) (x := w) (by walk_at "ev") (by walk_at "ev") hp) (ea_cons (e_kcallP (K := K) (x := w) (by walk_at "ev") (by walk_at "ev") hp) (ea_cons (e_kcallP (K := K) (x := w) (by walk_at "ev") (by walk_at "ev") hp) ea_nil)))
    have hd : Dts K [D K (oI (readWhole w)), D K (oTurn (readTurn w)), D K (oFact (readFact w)), D K (oPaper (readPaper w))] [oI (readWhole w), oTurn (readTurn w), oFact (readFact w), oPaper (readPaper w)] := .cons (.d _) (.cons (.d _) (.cons (.d _) (.cons (.d _) .nil)))
    refine ⟨.str w, rfl, ?_⟩
    refine ⟨w, B, Ms, s0, ⟨rfl, trivial⟩, hp, fun v H2 ⟨B2, x2, hm⟩ => ?_⟩
    dsimp only at hm
    cases hn : readNames w with
    | none =>
      rw [hn] at hm
      obtain ⟨rfl, s2⟩ := hm
      refine hr _ B2 [] Ms H2 _ (fun _ h => h) ⟨⟨_, rfl, rfl⟩, trivial⟩ s2 trivial fun us B3 H3 x3 s3 q3 => ?_
      have dd := hd.ok q3
      refine ⟨by rw [List.length_cons, dpa_len dd]; exact sz (show 4 + 1 ≤ 100000 by decide), fun p hp => k _ _ ⟨upd B3 p (.lst (.non :: us)), p, .non, us, (x2.trans x3).trans (s3.newEx hp _), rfl, upd_same, dpa_mono (s3.newEx hp _) dd, ?_⟩⟩
      rw [hn]
      exact ⟨rfl, s3.new hp _⟩
    | some ns =>
      rw [hn] at hm
      obtain ⟨l, us0, rfl, s2, d0⟩ := hm
      have e0 := dpa_strs (ss := ns) d0
      subst e0
      refine hr _ B2 [] (one l (.lst (ns.map .str)) :: Ms) H2 _ (fun M h => List.mem_cons_of_mem _ h) ⟨⟨_, rfl, rfl⟩, trivial⟩ s2 trivial fun us B3 H3 x3 s3 q3 => ?_
      have dd := hd.ok q3
      refine ⟨by rw [List.length_cons, dpa_len dd]; exact sz (show 4 + 1 ≤ 100000 by decide), fun p hp => k _ _ ⟨upd B3 p (.lst (.ref l :: us)), p, .ref l, us, (x2.trans x3).trans (s3.newEx hp _), rfl, upd_same, dpa_mono (s3.newEx hp _) dd, ?_⟩⟩
      rw [hn]
      exact ⟨l, rfl, s3.new hp _⟩
section
variable {Fr : List Hp} {As : List Asn} {ρ : Rho} {te : TE} {W : WX} {B0 H : Hp} {σ : L2.St} {D0 : Ends} {tz : TS}
theorem e_told {w : Str} (h : DL.E te ρ Fr As (X (.str w))) (hw : w.length ≤ 40000) : DL.E (kCall (sp_law_told K A) [] W (tCons te tNil)) ρ Fr As (D K (.list (told w))) := fun σ B Ms Gs H Q g e s a q =>
  h σ B Ms Gs H _ g e s a fun v B1 H1 x1 s1 q1 => by
    have ev : v = .str w := q1
    subst ev
    refine ⟨w, B1, Ms ++ Gs, s1, ⟨rfl, trivial⟩, hw, fun v H2 ⟨B2, l, v0, vs, x2, e1, e2, dd, hm⟩ => ?_⟩
    subst e1
    cases hn : readNames w with
    | none =>
      rw [hn] at hm
      obtain ⟨rfl, s2⟩ := hm
      refine q _ B2 H2 (x1.trans x2) s2 (Dp.lst (SqL.of e2) ?_)
      unfold told
      rw [hn]
      exact .cons .non dd
    | some ns =>
      rw [hn] at hm
      obtain ⟨p, rfl, s2⟩ := hm
      have s3 : Split H2 (one p (.lst (ns.map .str)) :: B2 :: (Ms ++ Gs)) := s2.swap
      obtain ⟨d1, _⟩ := List.pairwise_cons.mp s3.dis
      have xn : Ex B2 (un (one p (.lst (ns.map .str))) B2) := Ex.unr (d1 B2 List.mem_cons_self)
      refine q _ _ H2 ((x1.trans x2).trans xn) s3.join (Dp.lst (SqL.of (xn _ _ e2)) ?_)
      unfold told
      rw [hn]
      exact .cons (.lst (SqL.of (un_l one_same)) dpa_of_strs) (dpa_mono xn dd)
theorem x_told {w : Str} {i : Nat} (c : Cur B0 Fr As ρ σ H) (h : DL.E te ρ Fr As (X (.str w))) (hw : w.length ≤ 40000) (k1 : readNames w = none → ∀ σ1 H1, Cur B0 Fr As (ρ.set i (some (T K (told w)))) σ1 H1 → tz D0 σ1 H1)
    (k2 : ∀ ns q σ1 H1, readNames w = some ns → Cur B0 Fr (OwnL K q (ns.map .str) :: As) (ρ.set i (some (Fd K q w))) σ1 H1 → tz D0 σ1 H1) : tSeq (tAsg (kCall (sp_law_told K A) [] W (tCons te tNil)) (gName i)) tz D0 σ H := by
  obtain ⟨B, Ms, x, e, s, a⟩ := c.ex
  refine h σ B Ms Fr H _ (fun _ h => h) e s a fun v B1 H1 x1 s1 q1 => ?_
  have ev : v = .str w := q1
  subst ev
  refine ⟨w, B1, Ms ++ Fr, s1, ⟨rfl, trivial⟩, hw, fun v H2 ⟨B2, l, v0, vs, x2, e1, e2, dd, hm⟩ => ?_⟩
  subst e1
  cases hn : readNames w with
  | none =>
    rw [hn] at hm
    obtain ⟨rfl, s2⟩ := hm
    refine k1 hn _ H2 ⟨B2, Ms, (x.trans x1).trans x2, (e.mono (x1.trans x2)).set (r := T K (told w)) ⟨l, _, rfl, e2, ?_⟩ i, s2, a.mono (x1.trans x2)⟩
    unfold told
    rw [hn]
    exact .cons .non dd
  | some ns =>
    rw [hn] at hm
    obtain ⟨p, rfl, s2⟩ := hm
    exact k2 ns p _ H2 hn ⟨B2, one p (.lst (ns.map .str)) :: Ms, (x.trans x1).trans x2, (e.mono (x1.trans x2)).set (r := Fd K p w) ⟨l, vs, rfl, e2, dd⟩ i, s2, ⟨_, rfl, dpa_of_strs⟩, a.mono (x1.trans x2)⟩
theorem e_kcallG {α : Type} {args : α → List Rdb} {pre : α → Prop} {out : α → Rdb} {t : TA} {rs : List Rdb} (x : α) (ha : EA t ρ Fr As rs) (hc : ∀ vs B Ms, AllP B As Ms → RepsP B Fr vs rs → RepsP B (Ms ++ Fr) vs (args x)) (hx : pre x) : DL.E (kCall (PSp args pre out) [] W t) ρ Fr As (out x) := fun σ B Ms Gs H Q g e s a q =>
  ha σ B Ms Gs H _ g e s a fun vs B1 H1 x1 s1 q1 => by
    show PSp args pre out (vs ++ []) H1 Q _
    rw [List.append_nil]
    exact PSp.sp1 x hx vs B1 Ms Gs H1 Q g s1 (a.mono x1) ((hc vs B1 Ms (a.mono x1) q1).sub (sub_app g)) fun v B3 H3 x3 s3 q3 => q v B3 H3 (x1.trans x3) s3 q3
theorem fd_A {w : Str} {ns : List Str} {q : Addr} {v : V} {B : Hp} {Ms : List Hp} (hn : readNames w = some ns) (hm : OwnL K q (ns.map .str) ∈ As) (a : AllP B As Ms) (h : (Fd K q w).p v B Fr) : (DL.A K (.list (told w))).p v B (Ms ++ Fr) := by
  obtain ⟨l, vs, rfl, h2, h3⟩ := h
  obtain ⟨M, hM, us, eM, d⟩ := a.get hm
  show Ap K B (Ms ++ Fr) (.ref l) (.list (told w))
  refine .lst (.inl (SqL.of h2)) ?_
  unfold told
  rw [hn]
  refine .cons (.lst (.inr ⟨M, List.mem_append_left _ hM, by rw [eM]; exact one_same⟩) (apa_dpa d)) (apa_dpa h3)
theorem d_A {d : PyData} {v : V} {B : Hp} {Ms : List Hp} (h : (D K d).p v B Fr) : (DL.A K d).p v B (Ms ++ Fr) := (DL.A K d).sub (fun M hM => List.mem_append_right _ hM) (A.dt h)
theorem o_fd0 {w : Str} {q : Addr} : Op2 (rIx K) Fr As (Fd K q w) (X (.int 0)) (X (.ref q)) := fun x y B Ms Gs H Q g s a q1 q2 k => by
  obtain ⟨l, vs, rfl, h2, h3⟩ := q1
  rw [dp_int q2]
  refine .inl ⟨l, _, 0, .ref q, rfl, rfl, SqL.of (s.head h2), ?_, k _ B H (Ex.refl B) s rfl⟩
  unfold atI ixN
  rw [if_pos (by omega), if_pos (by rw [List.length_cons]; omega)]
  rfl
theorem o_fd4 {w : Str} {q : Addr} : Op2 (rIx K) Fr As (Fd K q w) (X (.int 4)) (D K (oPaper (readPaper w))) := fun x y B Ms Gs H Q g s a q1 q2 k => by
  obtain ⟨l, vs, rfl, h2, h3⟩ := q1
  rw [dp_int q2]
  match vs, h3 with
  | [a1, a2, a3, a4], .cons _ (.cons _ (.cons _ (.cons h _))) =>
    exact .inl ⟨l, _, 4, a4, rfl, rfl, SqL.of (s.head h2), rfl, k _ B H (Ex.refl B) s (D.of h)⟩
end
end
end TG

namespace TG
open PySem L2 DL SX
section
variable {K : PySem.W.Frag} {A : Ad}
theorem right_end {w : Str} {r2 : Rdb} {B H : Hp} {Ms : List Hp} {As : List Asn} {σ : L2.St} {Q : VK} (hw : w.length ≤ 10000) (c : Cur B Ms As [some (X (.str w)), some (T K (told w)), some r2] σ H)
    (h4 : DL.E (tOp (rIx K) (tVar 2) (tC (.int 4))) [some (X (.str w)), some (T K (told w)), some r2] Ms As (D K (oPaper (readPaper w)))) (k : ∀ v H2, Ret B Ms (X (.bl true)) v H2 → Q v H2) :
    (tSeq (tIfS (tAnd (tTest (tOp rNotNU (tOp (rIx K) (tVar 1) (tC (.int 4))) (tC .non))) (tTest (tOp (rNeU K) (kCall (sp_show_paper K A) [] W0 (tCons (tOp (rIx K) (tVar 2) (tC (.int 4))) tNil)) (tVar 0))))
  (tRet (tC (.bl false)))
  tNext)
  (tRet (kCall (sp_law_alike K A) [] W0 (tCons (kCall (sp_law_told K A) [] W0 (tCons (tVar 0) tNil)) (tCons (tVar 1) tNil))))) { nx := fun _ H' => Q .non H', rt := Q } σ H := by
  have hfin : DL.E (kCall (sp_law_alike K A) [] W0 (tCons (kCall (sp_law_told K A) [] W0 (tCons (tVar 0) tNil)) (tCons (tVar 1) tNil))) [some (X (.str w)), some (T K (told w)), some r2] Ms As (X (.bl true)) :=
    e_kcallG (x := PyData.list (told w)) (rs := [D K (.list (told w)), T K (told w)]) (ea_cons (e_told (e_var rfl) (by omega)) (ea_cons (e_var rfl) ea_nil)) (fun vs B Ms a q => by
      match vs, q with
      | [v, u], ⟨q1, q2, _⟩ => exact ⟨d_A q1, d_A (Le.ok (.td _) _ _ _ q2), trivial⟩) (kd_told hw)
  have hdue : DL.E (tOp (rIx K) (tVar 1) (tC (.int 4))) [some (X (.str w)), some (T K (told w)), some r2] Ms As (D K (oPaper (readPaper w))) := e_op (e_var rfl) e_cint (o_ixL (d := oPaper (readPaper w)) (Rl.t _) rfl)
  cases hp : readPaper w with
  | none =>
    rw [hp] at hdue
    refine x_ifN (b := false && false) c (et_and (et_test (e_op hdue e_cnon (o_notN (d := .none)))) fun q => absurd q (by simp [nonD])) (fun hb H1 c1 => ?_) (fun hb H1 c1 => ?_)
    · cases hb
    · exact x_retP c1 hfin hrX fun v H2 q => k v H2 q
  | some p =>
    rw [hp] at hdue h4
    obtain ⟨s1, s2, s3, s4, s5⟩ := show_paper_eq hp
    refine x_ifN (b := true && !decide (showPaper p = w)) c (et_and (et_test (e_op hdue e_cnon (o_notN (d := ePaper p)))) fun _ => et_test (e_op (e_kcallP (K := K) (x := p) (ea_cons h4 ea_nil) (Las.cons (La.le (Le.refl _)) Las.nil) ⟨by omega, by omega, s4, s5⟩) (e_var rfl) o_neS)) (fun hb H1 c1 => ?_) (fun hb H1 c1 => ?_)
    · rw [s1] at hb; simp at hb
    · exact x_retP c1 hfin hrX fun v H2 q => k v H2 q
theorem len_law_right : ∀ vs H Q E, sp_law_right K A vs H Q E → vs.length = 1 := psp_len fun _ => rfl
theorem pure_law_right (cs : Cs K A) (vs : List V) (H : Hp) (Q : VK) (E : XK) (h : sp_law_right K A vs H Q E) : t_law_right K A E { nx := fun _ H' => Q .non H', rt := Q } (L2.start n_law_right vs) H := by
  obtain ⟨w, B, Ms, s0, q0, hp, k⟩ := h
  dsimp only at q0 hp k
  have c := begin_ (N := n_law_right) s0 q0
  refine x_asg c (e_kcallP (K := K) (x := w) (by walk_at "ev") (by walk_at "ev") (Nat.le_trans hp (by decide))) fun σ1 H1 c1 => ?_
  refine x_told (w := w) c1 (e_var rfl) (by omega) (fun hn σ2 H2 c2 => ?_) (fun ns q σ2 H2 hn c2 => ?_)
  · refine x_ifN (b := !true) c2 (et_not (et_B (e_kcallG (x := PyData.list (told w)) (rs := [T K (told w), T K (told w)]) (ea_cons (e_var rfl) (ea_cons (e_var rfl) ea_nil)) (fun vs B Ms a q => by
      match vs, q with
      | [v, u], ⟨q1, q2, _⟩ => exact ⟨d_A (Le.ok (.td _) _ _ _ q1), d_A (Le.ok (.td _) _ _ _ q2), trivial⟩) (kd_told hp)))) (fun hb H3 c3 => ?_) (fun hb H3 c3 => ?_)
    · cases hb
    · refine x_ifN (b := false) c3 ((et_test (e_op (e_op (e_var rfl) e_cint (o_ixL (d := oRow (readNames w)) (Rl.t _) rfl)) e_cnon o_notN)).to (by rw [hn]; rfl)) (fun hb H4 c4 => ?_) (fun hb H4 c4 => ?_)
      · cases hb
      · exact right_end (K := K) (A := A) hp c4 (e_op (e_var rfl) e_cint (o_ixL (d := oPaper (readPaper w)) (Rl.t _) rfl)) k
  · refine x_ifN (b := !true) c2 (et_not (et_B (e_kcallG (x := PyData.list (told w)) (rs := [Fd K q w, T K (told w)]) (ea_cons (e_var rfl) (ea_cons (e_var rfl) ea_nil)) (fun vs B Ms a q => by
      match vs, q with
      | [v, u], ⟨q1, q2, _⟩ => exact ⟨fd_A hn List.mem_cons_self a q1, d_A (Le.ok (.td _) _ _ _ q2), trivial⟩) (kd_told hp)))) (fun hb H3 c3 => ?_) (fun hb H3 c3 => ?_)
    · cases hb
    · have hd : DL.E (tOp (rIx K) (tVar 1) (tC (.int 0))) [some (X (.str w)), some (T K (told w)), some (Fd K q w)] Ms [OwnL K q (ns.map .str)] (D K (eRow ns)) := e_op (e_var rfl) e_cint (o_ixL (d := eRow ns) (Rl.t _) (by unfold told; rw [hn]; rfl))
      refine x_if (b := true) c3 (et_test (e_op hd e_cnon (o_notN (d := eRow ns)))) (fun hb H4 c4 => ?_) (fun hb H4 c4 => ?_)
      · refine x_append (K := K) c4 (e_op (e_var rfl) e_cint o_fd0) e_cstr (Dt.str _) (by have := names_many hn; rw [List.length_map]; omega) fun H5 c5 => ?_
        have hd5 : DL.E (tOp (rIx K) (tVar 1) (tC (.int 0))) [some (X (.str w)), some (T K (told w)), some (Fd K q w)] Ms [OwnL K q (ns.map .str ++ [.str "x"])] (D K (eRow ns)) := e_op (e_var rfl) e_cint (o_ixL (d := eRow ns) (Rl.t _) (by unfold told; rw [hn]; rfl))
        have hs := show_names_eq hn
        have hl := names_len hn
        refine x_if (b := (!decide (showNames ns = w)) || !decide (showNames ns = w)) c5 (et_or (et_test (e_op (e_kcallP (K := K) (x := (true, ns)) (ea_cons hd5 ea_nil) (Las.cons (La.le (Le.dw _)) Las.nil) (by dsimp only; omega)) (e_var rfl) o_neS)) fun _ =>
          et_test (e_op (e_kcallP (K := K) (x := (false, ns)) (ea_cons (e_cb (ea_cons hd5 ea_nil) (n_tuple (ds := ns.map .str) (Rl.d _))) ea_nil) (Las.cons (La.le (Le.refl _)) Las.nil) (by dsimp only; omega)) (e_var rfl) o_neS)) (fun hb H6 c6 => ?_) (fun hb H6 c6 => ?_)
        · rw [hs] at hb; simp at hb
        · exact right_end (K := K) (A := A) hp c6 (e_op (e_var rfl) e_cint o_fd4) k
      · cases hb
end
end TG

namespace TG
open PySem L2 DL SX
theorem turns_at {t : Int} (h : 0 ≤ t) : atI turnsL (t % 14) = some (turnsL.getD (t % 14).toNat 0) ∧ 0 ≤ turnsL.getD (t % 14).toNat 0 ∧ turnsL.getD (t % 14).toNat 0 ≤ 100000 := by
  have h1 : 0 ≤ t % 14 := by omega
  have h2 : t % 14 < 14 := by omega
  obtain ⟨n, hn⟩ := Int.eq_ofNat_of_zero_le h1
  rw [hn] at h2 ⊢
  have h3 : n < 14 := by omega
  have key : ∀ n : Fin 14, atI turnsL ((n.val : Nat) : Int) = some (turnsL.getD n.val 0) ∧ 0 ≤ turnsL.getD n.val 0 ∧ turnsL.getD n.val 0 ≤ 100000 := by decide +kernel
  exact key ⟨n, h3⟩
theorem at_str {z : Str} {i : Int} (h0 : 0 ≤ i) (h1 : i < z.length) : atI z.cps.toList i = some ((sg z).getD i.toNat 0) := by
  have hlen : z.length = z.cps.size := rfl
  unfold atI ixN
  rw [if_pos h0, if_pos (by simp; omega)]
  have h2 : i.toNat < z.cps.size := by omega
  simp [h2]
theorem at_list {α : Type} {xs : List α} {d : α} {i : Int} (h0 : 0 ≤ i) (h1 : i < xs.length) : atI xs i = some (xs.getD i.toNat d) := by
  unfold atI ixN
  rw [if_pos h0, if_pos h1]
  have h2 : i.toNat < xs.length := by omega
  simp [h2]
section
variable {K : PySem.W.Frag} {A : Ad}
theorem len_law_mix : ∀ vs H Q E, sp_law_mix K A vs H Q E → vs.length = 3 := psp_len fun _ => rfl
theorem pure_law_mix (cs : Cs K A) (vs : List V) (H : Hp) (Q : VK) (E : XK) (h : sp_law_mix K A vs H Q E) : t_law_mix K A E { nx := fun _ H' => Q .non H', rt := Q } (L2.start n_law_mix vs) H := by
  obtain ⟨⟨cl, t, m⟩, B, Ms, s0, q0, ⟨h1, h2, h3⟩, k⟩ := h
  dsimp only at q0 h1 h2 h3 k
  have c := begin_ (N := n_law_mix) s0 q0
  refine x_asg c (e_op (e_var rfl) e_cint (o_divI (by omega))) fun σ1 H1 c1 => ?_
  have hpow : ((10 : Int) ^ (18 : Int).toNat) = 10 ^ 18 := rfl
  refine x_ifN (b := decide (cl % 2 = 1) && decide ((10 : Int) ^ 18 < cl)) c1 (et_and (et_test (e_op (e_op (e_var rfl) e_cint (o_modI (by omega))) e_cint o_eqI)) fun _ => et_test (e_op (e_var rfl) (e_op e_cint e_cint (o_powI ⟨by omega, by omega, by decide⟩)) o_gt)) (fun hb H2 c2 => ?_) (fun hb H2 c2 => ?_)
  · rw [Bool.and_eq_true, decide_eq_true_eq, decide_eq_true_eq] at hb
    refine x_forI (fun i As' ρ' => As' = [] ∧ ∃ o, ρ' = [some (X (.int cl)), some (X (.int t)), some (X (.int m)), some (X (.int (rest840 (cl / 2) i))), o, none, none, none]) c2 (ei_rng (n := t) (ea_cons (e_var rfl) ea_nil) (by omega) (by omega)) (fun i _ => tr_name) ⟨rfl, _, rfl⟩ ?_ ?_
    · rintro B1 i As' ρ' σ' H' x1 hi ⟨rfl, o, rfl⟩ c
      exact x_asg1 c (e_op (e_var rfl) e_cint (o_divI (by omega))) fun σ2 H3 c3 => ⟨[], _, ⟨rfl, _, rfl⟩, c3⟩
    · rintro As' ρ' σ' H' ⟨rfl, o, rfl⟩ c
      refine x_retP c (e_op (e_op (e_var rfl) e_cint (o_modI (by omega))) (e_var rfl) (o_modI h3)) hrX fun v H3 q => k v H3 (q.to ?_)
      unfold mix
      rw [if_pos hb]
  · have hn : ¬ (cl % 2 = 1 ∧ 10 ^ 18 < cl) := fun hh => by
      rw [decide_eq_true hh.1, decide_eq_true hh.2] at hb
      cases hb
    obtain ⟨t1, t2, t3⟩ := turns_at h1
    refine x_asg c2 (e_lst (K := K) (ds := turnsL.map .int) (ea_cons e_cint (ea_cons e_cint (ea_cons e_cint (ea_cons e_cint (ea_cons e_cint (ea_cons e_cint (ea_cons e_cint (ea_cons e_cint (ea_cons e_cint (ea_cons e_cint (ea_cons e_cint (ea_cons e_cint (ea_cons e_cint (ea_cons e_cint ea_nil))))))))))))))
      (.cons (.int _) (.cons (.int _) (.cons (.int _) (.cons (.int _) (.cons (.int _) (.cons (.int _) (.cons (.int _) (.cons (.int _) (.cons (.int _) (.cons (.int _) (.cons (.int _) (.cons (.int _) (.cons (.int _) (.cons (.int _) .nil)))))))))))))) (by show 14 ≤ _; decide)) fun σ2 H3 c3 => ?_
    refine x_asg c3 (e_op (e_op (e_op (e_op (e_var rfl) e_cint (o_modI (by omega))) e_cint o_addI) (e_op (e_var rfl) (e_op (e_var rfl) e_cint (o_modI (by omega))) (o_ixM (K := K) (f := .int) (Rl.t _) t1)) (o_mulI (.inl ⟨by omega, by omega⟩))) e_cint (o_modI (by omega))) fun σ3 H4 c4 => ?_
    generalize hone : (cl % 1000000007 + 11) * turnsL.getD (t % 14).toNat 0 % 2147483629 = one at c4
    have o1 : 0 ≤ one := by rw [← hone]; exact Int.emod_nonneg _ (by omega)
    have o2 : one < 2147483629 := by rw [← hone]; exact Int.emod_lt_of_pos _ (by omega)
    refine x_asg c4 (e_op (e_op (e_var rfl) (e_op (e_var rfl) (e_var rfl) o_addI) (o_mulI (.inl ⟨by omega, by omega⟩))) e_cint (o_modI (by omega))) fun σ4 H5 c5 => ?_
    generalize htwo : one * (one + t) % 1999999973 = two at c5
    have w1 : 0 ≤ two := by rw [← htwo]; exact Int.emod_nonneg _ (by omega)
    have w2 : two < 1999999973 := by rw [← htwo]; exact Int.emod_lt_of_pos _ (by omega)
    refine x_retP c5 (e_op (e_op (e_op (e_op (e_var rfl) e_cint (o_mulI (.inl ⟨by omega, by omega⟩))) e_cint (o_modI (by omega))) e_cint (o_divI (by omega))) (e_var rfl) (o_modI h3)) hrX fun v H6 q => k v H6 (q.to ?_)
    unfold mix
    rw [if_neg hn]
    dsimp only
    rw [hone, htwo]
theorem nmTo_len (c : Int) (k : Nat) : ∀ j, (nmTo c k j).length = j
  | 0 => rfl
  | j + 1 => by
    show (nmTo c k j ++ letter _).length = _
    rw [str_app_len, nmTo_len c k j]
    rfl
theorem letters_len : letters.length = 26 := by decide +kernel
theorem base_len (c : Int) : (baseL c).length = 8 := by unfold baseL; simp
theorem base_at (c : Int) {j : Nat} (h : j < 8) : (baseL c).getD j 0 = mix c j 26 := by
  unfold baseL
  rw [List.getD_eq_getElem?_getD, List.getElem?_map]
  simp [h]
theorem base_mem {c b : Int} (h : b ∈ baseL c) : 0 ≤ b ∧ b < 26 := by
  unfold baseL at h
  obtain ⟨i, _, rfl⟩ := List.mem_map.mp h
  exact ⟨mix_nn (by decide), mix_lt (by decide)⟩
theorem size_b (c : Int) : 1 ≤ size c ∧ size c ≤ 8 := by
  unfold size
  have h1 := mix_nn (c := c) (t := 8) (m := 8) (by decide)
  have h2 := mix_lt (c := c) (t := 8) (m := 8) (by decide)
  omega
theorem len_law_names : ∀ vs H Q E, sp_law_names K A vs H Q E → vs.length = 2 := psp_len fun _ => rfl
theorem pure_law_names (cs : Cs K A) (vs : List V) (H : Hp) (Q : VK) (E : XK) (h : sp_law_names K A vs H Q E) : t_law_names K A E { nx := fun _ H' => Q .non H', rt := Q } (L2.start n_law_names vs) H := by
  obtain ⟨⟨cl, many⟩, B, Ms, s0, q0, ⟨h1, h2⟩, k⟩ := h
  dsimp only at q0 h1 h2 k
  have c := begin_ (N := n_law_names) s0 q0
  obtain ⟨z1, z2⟩ := size_b cl
  have eb : (List.range (8 : Int).toNat).map (fun (i : Nat) => PyData.int (mix cl (i : Int) 26)) = (baseL cl).map .int := by unfold baseL; rw [List.map_map]; rfl
  refine x_asg c e_cstr fun σ1 H1 c1 => ?_
  refine x_asg c1 ((e_lcRM (K := K) (n := 8) (g2 := fun i => .int (mix cl (i : Int) 26)) (fun i => X (.int (mix cl (i : Int) 26))) (ea_cons e_cint ea_nil) (by omega) (by omega) (by simp) (fun i hi => e_kcallP (K := K) (x := (cl, (i : Int), (26 : Int))) (ea_cons (e_var rfl) (ea_cons (e_var rfl) (ea_cons e_cint ea_nil))) (Las.cons (La.le (Le.refl _)) (Las.cons (La.le (Le.refl _)) (Las.cons (La.le (Le.refl _)) Las.nil))) ⟨by dsimp only; omega, by dsimp only; omega, (show (0 : Int) < 26 by decide)⟩) (fun i _ => Dt.int _)).to (r' := T K ((baseL cl).map .int)) (by rw [eb])) fun σ2 H2 c2 => ?_
  have emix : ∀ {ρ : Rho} {As : List Asn} {Fr : List Hp} (t m : Int), 0 ≤ t → t ≤ 1000 → 0 < m → ρ[0]? = some (some (X (.int cl))) → DL.E (kCall (sp_law_mix K A) [] W0 (tCons (tVar 0) (tCons (tC (.int t)) (tCons (tC (.int m)) tNil)))) ρ Fr As (X (.int (mix cl t m))) :=
    fun t m a b c hr => e_kcallP (K := K) (x := (cl, t, m)) (ea_cons (e_var hr) (ea_cons e_cint (ea_cons e_cint ea_nil))) (Las.cons (La.le (Le.refl _)) (Las.cons (La.le (Le.refl _)) (Las.cons (La.le (Le.refl _)) Las.nil))) ⟨a, b, c⟩
  refine x_asg c2 (e_op e_cint (emix 8 8 (by omega) (by omega) (by omega) rfl) o_addI) fun σ3 H3 c3 => ?_
  refine x_asg c3 (e_kcallP (K := K) (x := (cl, (9 : Int), size cl)) (ea_cons (e_var rfl) (ea_cons e_cint (ea_cons (e_var rfl) ea_nil))) (Las.cons (La.le (Le.refl _)) (Las.cons (La.le (Le.refl _)) (Las.cons (La.le (Le.refl _)) Las.nil))) ⟨by dsimp only; omega, by dsimp only; omega, by dsimp only; omega⟩) fun σ4 H4 c4 => ?_
  refine x_ownN (K := K) c4 en_nil fun l σ5 H5 c5 => ?_
  refine x_forI (fun i As' ρ' => As' = [OwnL K l (((List.range i).map (nm cl many)).map .str)] ∧ ∃ o4 o8 o9, ρ' = [some (X (.int cl)), some (X (.int many)), some (X (.str letters)), some (T K ((baseL cl).map .int)), o4, some (X (.int (size cl))), some (X (.int (atP cl))), some (X (.ref l)), o8, o9, none, none]) c5
    (ei_rng (n := many) (ea_cons (e_var rfl) ea_nil) (by omega) (by omega)) (fun i _ => tr_name) ⟨rfl, _, _, _, rfl⟩ ?_ ?_
  · rintro B1 i As' ρ' σ' H' x1 hi ⟨rfl, o4, o8, o9, rfl⟩ c
    have hi20 : i < 20 := by omega
    refine x_asg c e_cstr fun σ6 H6 c6 => ?_
    refine x_forI (fun j As' ρ' => As' = [OwnL K l (((List.range i).map (nm cl many)).map .str)] ∧ ∃ o9, ρ' = [some (X (.int cl)), some (X (.int many)), some (X (.str letters)), some (T K ((baseL cl).map .int)), some (X (.int (i : Int))), some (X (.int (size cl))), some (X (.int (atP cl))), some (X (.ref l)), some (X (.str (nmTo cl i j))), o9, none, none]) c6
      (ei_rng (n := size cl) (ea_cons (e_var rfl) ea_nil) (by omega) (by omega)) (fun i _ => tr_name) ⟨rfl, _, rfl⟩ ?_ ?_
    · rintro B2 j As' ρ' σ' H' x2 hj ⟨rfl, o9, rfl⟩ c
      have hj8 : j < 8 := by omega
      have hb : atI (baseL cl) (j : Int) = some ((baseL cl).getD j 0) := by have := at_list (d := (0 : Int)) (xs := baseL cl) (i := (j : Int)) (by omega) (by rw [base_len]; omega); rw [Int.toNat_natCast] at this; exact this
      have hm1 : 0 ≤ ((baseL cl).getD j 0 + (i : Int) * (if decide ((j : Int) = atP cl) = true then 1 else 0)) % 26 := Int.emod_nonneg _ (by omega)
      have hm2 : ((baseL cl).getD j 0 + (i : Int) * (if decide ((j : Int) = atP cl) = true then 1 else 0)) % 26 < 26 := Int.emod_lt_of_pos _ (by omega)
      have hs : nmTo cl i j ++ letter (((baseL cl).getD j 0 + (i : Int) * (if decide ((j : Int) = atP cl) = true then 1 else 0)) % 26) = nmTo cl i (j + 1) := by
        show _ = nmTo cl i j ++ letter _
        congr 5
        simp
      refine x_asg1 c ((e_op (e_var rfl) (e_op (e_var rfl) (e_op (e_op (e_op (e_var rfl) (e_var rfl) (o_ixM (K := K) (f := .int) (Rl.t _) hb)) (e_op (e_var rfl) (e_cb (ea_cons (e_op (e_var rfl) (e_var rfl) (o_eqI (K := K))) ea_nil) n_intB) (o_mulI (.inl ⟨by omega, by omega⟩))) o_addI) e_cint (o_modI (by omega)))
        (o_ixS (sz (by rw [letters_len]; decide)) (at_str hm1 (by rw [letters_len]; omega)))) (o_addS (sz (by rw [nmTo_len]; show j + 1 ≤ _; omega)))).st hs) fun σ7 H7 c7 => ⟨_, _, ⟨rfl, _, rfl⟩, c7⟩
    · rintro As' ρ' σ' H' ⟨rfl, o9, rfl⟩ c
      refine x_ifA (r := X (.str (nm cl many i))) c (et_and (et_test (e_op (emix 10 4 (by omega) (by omega) (by omega) rfl) e_cint o_eqI)) fun _ => et_test (e_op (e_var rfl) e_cint o_lt)) (fun hb => ?_) (fun hb => ?_) fun σ8 H8 c8 => ?_
      · rw [Bool.and_eq_true, decide_eq_true_eq, decide_eq_true_eq] at hb
        have e2 : (((baseL cl).take (i + 1)).map letter).map PyData.str = ((baseL cl).take (i + 1)).map (fun b => PyData.str (letter b)) := by rw [List.map_map]; rfl
        have e3 : nm cl many i = Txt.join "" (((baseL cl).take (i + 1)).map letter) := by unfold nm; rw [if_pos hb]
        rw [e3]
        refine e_join (ys := ((baseL cl).take (i + 1)).map letter) e_cstr ((e_lcM (K := K) (enc := .int) (xs := (baseL cl).take (i + 1)) (g2 := fun b => .str (letter b)) (fun b => X (.str (letter b))) (r := T K (((baseL cl).take (i + 1)).map .int))
          ((e_slM (f := .int) (xs := baseL cl) (e_var rfl) (Rl.t _) eo_none (eo_some (e_op (e_var rfl) e_cint o_addI))).to (by
            have e4 : ((i : Int) + 1) = ((i + 1 : Nat) : Int) := by omega
            rw [e4, cutD_to])) (Rl.t _) (Nat.le_trans (List.length_take_le' _ _) (by rw [base_len]; decide)) (fun _ => tg_name) (fun j hj => hj) (fun b hb2 => ?_) (fun _ _ => Dt.str _)).to (r' := T K ((((baseL cl).take (i + 1)).map letter).map .str)) (by rw [e2])) (.l (Rl.t _)) ?_
        · obtain ⟨b1, b2⟩ := base_mem (List.mem_of_mem_take hb2)
          exact e_op (e_var rfl) (e_var rfl) (o_ixS (sz (by rw [letters_len]; decide)) (at_str b1 (by rw [letters_len]; omega)))
        · have e5 : ((((baseL cl).take (i + 1)).map letter).map (·.length)).sum ≤ 8 := by
            have : ∀ (xs : List Int), ((xs.map letter).map (·.length)).sum = xs.length := fun xs => by
              induction xs with
              | nil => rfl
              | cons x r ih =>
                rw [List.map_cons, List.map_cons, List.sum_cons, ih, List.length_cons]
                show 1 + r.length = _
                omega
            rw [this, List.length_take, base_len]
            exact Nat.min_le_right _ _
          have e6 : ("" : Str).length = 0 := rfl
          rw [e6, Nat.mul_zero]
          omega
      · have hn : ¬ (mix cl 10 4 = 1 ∧ many < 9) := fun hh => by rw [decide_eq_true hh.1, decide_eq_true hh.2] at hb; cases hb
        have e3 : nm cl many i = nmTo cl i (size cl).toNat := by unfold nm; rw [if_neg hn]
        rw [e3]
        rfl
      · refine x_last (x_append (K := K) c8 (e_var rfl) (e_var rfl) (Dt.str _) (by simp; omega) fun H9 c9 => ?_)
        have e7 : ((List.range i).map (nm cl many)).map PyData.str ++ [.str (nm cl many i)] = ((List.range (i + 1)).map (nm cl many)).map .str := by
          rw [List.range_succ, List.map_append, List.map_append]
          rfl
        rw [e7] at c9
        exact ⟨_, _, ⟨rfl, _, _, _, rfl⟩, c9⟩
  · rintro As' ρ' σ' H' ⟨rfl, o4, o8, o9, rfl⟩ c
    have m1 := mix_nn (c := cl) (t := 11) (m := many) (by omega)
    have m2 := mix_lt (c := cl) (t := 11) (m := many) (by omega)
    refine x_asg c (e_kcallP (K := K) (x := (cl, (11 : Int), many)) (ea_cons (e_var rfl) (ea_cons e_cint (ea_cons (e_var rfl) ea_nil))) (Las.cons (La.le (Le.refl _)) (Las.cons (La.le (Le.refl _)) (Las.cons (La.le (Le.refl _)) Las.nil))) ⟨by dsimp only; omega, by dsimp only; omega, by dsimp only; omega⟩) fun σ6 H6 c6 => ?_
    obtain ⟨tn, htn⟩ := Int.eq_ofNat_of_zero_le m1
    refine x_retP c6 (e_op (e_slM (f := .str) (xs := (List.range many.toNat).map (nm cl many)) (e_var rfl) (Rl.own List.mem_cons_self) (eo_some (e_var rfl)) eo_none) (e_slM (f := .str) (xs := (List.range many.toNat).map (nm cl many)) (e_var rfl) (Rl.own List.mem_cons_self) eo_none (eo_some (e_var rfl))) (o_cat (K := K) (Rt.t _) (Rt.t _) ?_)) hrT fun v H7 q => k v H7 (q.to ?_)
    · dsimp only
      rw [htn]
      rw [cutD_from, cutD_to]
      refine sz ?_
      simp
      omega
    · dsimp only
      unfold names
      rw [htn, cutD_from, cutD_to, Int.toNat_natCast, List.map_append]
end
end TG

namespace TG
open PySem L2 DL SX
theorem mul_ok {c : Int} (h : Builtin.Int.intBits c ≤ 1048576) : IntMulOk c ((982451653 : Int) ^ 7) := by
  unfold IntMulOk
  have h2 : Builtin.Int.intBits ((982451653 : Int) ^ 7) ≤ 300 := PyProof.Rows.intBits_le (by decide +kernel)
  have h3 : Builtin.Int.intTooBig (Builtin.Int.intBits c + Builtin.Int.intBits ((982451653 : Int) ^ 7)) = false := by
    unfold Builtin.Int.intTooBig
    rw [decide_eq_false_iff_not]
    have h4 : (bitsLine : Int) = 134217728 := by decide +kernel
    omega
  rw [h3, Bool.and_false]
  exact Bool.false_ne_true
theorem join_empty_len : ∀ l : List Str, (Txt.join "" l).length = (l.map (·.length)).sum
  | [] => rfl
  | a :: r => by
    show (Builtin.Str.glued "" (a :: r)).length = _
    rw [StrLaws.glued_eq_join, PyProof.Rows.len_join_cons]
    have : ("" : Str).length = 0 := rfl
    rw [this, Nat.mul_zero, Nat.add_zero]
theorem sum_letters : ∀ xs : List Int, ((xs.map letter).map (·.length)).sum = xs.length
  | [] => rfl
  | x :: r => by
    rw [List.map_cons, List.map_cons, List.sum_cons, sum_letters r, List.length_cons]
    show 1 + r.length = _
    omega
theorem nm_len (c many : Int) (k : Nat) : 1 ≤ (nm c many k).length ∧ (nm c many k).length ≤ 8 := by
  obtain ⟨z1, z2⟩ := size_b c
  unfold nm
  split
  · rw [join_empty_len, sum_letters, List.length_take, base_len]
    omega
  · rw [nmTo_len]
    omega
theorem names_all {c many : Int} {s : Str} (h : s ∈ names c many) : 1 ≤ s.length ∧ s.length ≤ 8 := by
  unfold names at h
  dsimp only at h
  have : s ∈ (List.range many.toNat).map (nm c many) := by
    rcases List.mem_append.mp h with h | h
    · exact List.mem_of_mem_drop h
    · exact List.mem_of_mem_take h
  obtain ⟨i, _, rfl⟩ := List.mem_map.mp this
  exact nm_len _ _ _
theorem names_cnt (c : Int) : (names c 6).length = 6 := by
  unfold names
  dsimp only
  have m1 := mix_nn (c := c) (t := 11) (m := 6) (by decide)
  have m2 := mix_lt (c := c) (t := 11) (m := 6) (by decide)
  have e : (6 : Int).toNat = 6 := rfl
  simp [e]
  omega
theorem names_at (c : Int) {i : Nat} (h : i < 6) : atI (names c 6) (i : Int) = some ((names c 6).getD i "") ∧ 1 ≤ ((names c 6).getD i "").length ∧ ((names c 6).getD i "").length ≤ 8 := by
  have h1 := names_cnt c
  have := at_list (d := ("" : Str)) (xs := names c 6) (i := (i : Int)) (by omega) (by omega)
  rw [Int.toNat_natCast] at this
  refine ⟨this, ?_⟩
  refine names_all (c := c) (many := 6) ?_
  rw [List.getD_eq_getElem?_getD, List.getElem?_eq_getElem (by omega)]
  simp
theorem joined_len {l : List Str} (h : ∀ s ∈ l, s.length ≤ 8) : (l.map (·.length)).sum ≤ 8 * l.length := by
  induction l with
  | nil => simp
  | cons a r ih =>
    rw [List.map_cons, List.sum_cons, List.length_cons]
    have h1 := h a List.mem_cons_self
    have h2 := ih fun s hs => h s (List.mem_cons_of_mem _ hs)
    omega
theorem some_len (c : Int) : 1 ≤ (someW c).length ∧ (someW c).length ≤ 100 := by
  unfold someW
  dsimp only
  split
  · decide +kernel
  · rename_i hne
    have hl : ((names c 6).take (mix c 12 6).toNat).length ≤ 6 := by
      rw [List.length_take, names_cnt]
      exact Nat.min_le_right _ _
    have hs : ∀ s ∈ (names c 6).take (mix c 12 6).toNat, s.length ≤ 8 := fun s hs => (names_all (List.mem_of_mem_take hs)).2
    generalize (names c 6).take (mix c 12 6).toNat = l at hl hs hne
    have hj := joined_len hs
    constructor
    · apply Classical.byContradiction
      intro h0
      apply hne
      have h1 : (Txt.join "," l).length = 0 := by omega
      rw [TL.len_tl] at h1
      rw [← S_tl (Txt.join "," l)]
      show S (TL.tl _) = _
      rw [List.eq_nil_of_length_eq_zero h1]
      rfl
    · cases l with
      | nil => exact Nat.zero_le _
      | cons a r =>
        show (Builtin.Str.glued "," (a :: r)).length ≤ _
        rw [StrLaws.glued_eq_join, PyProof.Rows.len_join_cons]
        have : ("," : Str).length = 1 := by decide +kernel
        rw [this]
        rw [List.length_cons] at hl hj
        omega
theorem far_b (c : Int) : 0 < far c ∧ far c ≤ 10 ^ 60 := by
  have m1 := mix_nn (c := c) (t := 13) (m := 4) (by decide)
  have m2 := mix_lt (c := c) (t := 13) (m := 4) (by decide)
  unfold far
  have : (mix c 13 4).toNat = 0 ∨ (mix c 13 4).toNat = 1 ∨ (mix c 13 4).toNat = 2 ∨ (mix c 13 4).toNat = 3 := by omega
  rcases this with h | h | h | h <;> (rw [h]; decide +kernel)
theorem num_b (c : Int) : 0 ≤ num c ∧ num c < 10 ^ 60 := by
  obtain ⟨f1, f2⟩ := far_b c
  have m1 := mix_nn (c := c) (t := 14) (m := 4) (by decide)
  have m2 := mix_lt (c := c) (t := 14) (m := 4) (by decide)
  unfold num
  have : (mix c 14 4).toNat = 0 ∨ (mix c 14 4).toNat = 1 ∨ (mix c 14 4).toNat = 2 ∨ (mix c 14 4).toNat = 3 := by omega
  rcases this with h | h | h | h
  · rw [h]
    show 0 ≤ c / 2 % far c ∧ c / 2 % far c < _
    have a := Int.emod_nonneg (c / 2) (show far c ≠ 0 by omega)
    have b := Int.emod_lt_of_pos (c / 2) f1
    omega
  · rw [h]
    show (0 : Int) ≤ 0 ∧ (0 : Int) < _
    omega
  · rw [h]
    show 0 ≤ far c - 1 ∧ far c - 1 < _
    omega
  · rw [h]
    show 0 ≤ c * 982451653 ^ 7 % far c ∧ c * 982451653 ^ 7 % far c < _
    have a := Int.emod_nonneg (c * 982451653 ^ 7) (show far c ≠ 0 by omega)
    have b := Int.emod_lt_of_pos (c * 982451653 ^ 7) f1
    omega
theorem num_str (c : Int) : (num c).natAbs.log2 < 1920 ∧ (Str.ofString (toString (num c))).length ≤ 60 := by
  obtain ⟨h1, h2⟩ := num_b c
  refine ⟨?_, PyProof.Rows.toString_length_le h1 (by decide) h2⟩
  by_cases h0 : (num c).natAbs = 0
  · rw [h0]; decide
  · rw [Nat.log2_lt h0]
    have h3 : (num c).natAbs < 10 ^ 60 := by omega
    exact Nat.lt_trans h3 (by decide +kernel)
end TG

namespace TG
open PySem L2 DL SX
section
variable {K : PySem.W.Frag} {A : Ad}
theorem e_mix {cl : Int} {ρ : Rho} {As : List Asn} {Fr : List Hp} {te : TE} (t m : Int) (a : 0 ≤ t) (b : t ≤ 1000) (c : 0 < m) (h : DL.E te ρ Fr As (X (.int cl))) : DL.E (kCall (sp_law_mix K A) [] W0 (tCons te (tCons (tC (.int t)) (tCons (tC (.int m)) tNil)))) ρ Fr As (X (.int (mix cl t m))) :=
  e_kcallP (K := K) (x := (cl, t, m)) (ea_cons h (ea_cons e_cint (ea_cons e_cint ea_nil))) (Las.cons (La.le (Le.refl _)) (Las.cons (La.le (Le.refl _)) (Las.cons (La.le (Le.refl _)) Las.nil))) ⟨a, b, c⟩
theorem mix_at {α : Type} {xs : List α} {d : α} {c t m : Int} (hm : 0 < m) (h : m ≤ xs.length) : atI xs (mix c t m) = some (xs.getD (mix c t m).toNat d) := by
  have m1 := mix_nn (c := c) (t := t) hm
  have m2 := mix_lt (c := c) (t := t) hm
  exact at_list m1 (by omega)
theorem mix_str {z : Str} {c t m : Int} (hm : 0 < m) (h : m ≤ z.length) : atI z.cps.toList (mix c t m) = some ((sg z).getD (mix c t m).toNat 0) := by
  have m1 := mix_nn (c := c) (t := t) hm
  have m2 := mix_lt (c := c) (t := t) hm
  exact at_str m1 (by omega)
theorem len_law_words : ∀ vs H Q E, sp_law_words K A vs H Q E → vs.length = 1 := psp_len fun _ => rfl
theorem pure_law_words (cs : Cs K A) (vs : List V) (H : Hp) (Q : VK) (E : XK) (h : sp_law_words K A vs H Q E) : t_law_words K A E { nx := fun _ H' => Q .non H', rt := Q } (L2.start n_law_words vs) H := by
  obtain ⟨cl, B, Ms, s0, q0, hp, k⟩ := h
  dsimp only at q0 hp k
  have c := begin_ (N := n_law_words) s0 q0
  have g1 : (":" : Str).length = 1 := by decide +kernel
  have g2 : ("." : Str).length = 1 := by decide +kernel
  have g3 : ("=" : Str).length = 1 := by decide +kernel
  have g4 : (">" : Str).length = 1 := by decide +kernel
  have g5 : ("-" : Str).length = 1 := by decide +kernel
  have g6 : ("," : Str).length = 1 := by decide +kernel
  obtain ⟨sl1, sl2⟩ := some_len cl
  obtain ⟨f1, f2⟩ := far_b cl
  obtain ⟨n1, n2⟩ := num_str cl
  obtain ⟨a2, a2l, a2u⟩ := names_at cl (i := 2) (by omega)
  obtain ⟨a3, a3l, a3u⟩ := names_at cl (i := 3) (by omega)
  obtain ⟨a4, a4l, a4u⟩ := names_at cl (i := 4) (by omega)
  obtain ⟨a5, a5l, a5u⟩ := names_at cl (i := 5) (by omega)
  obtain ⟨tn, htn⟩ := Int.eq_ofNat_of_zero_le (mix_nn (c := cl) (t := 12) (m := 6) (by decide))
  refine x_asg c (e_kcallP (K := K) (x := (cl, (6 : Int))) (ea_cons (e_var rfl) (ea_cons e_cint ea_nil)) (Las.cons (La.le (Le.refl _)) (Las.cons (La.le (Le.refl _)) Las.nil)) ⟨by dsimp only; omega, by dsimp only; omega⟩) fun σ1 H1 c1 => ?_
  refine x_asg c1 (e_join (ys := (names cl 6).take (mix cl 12 6).toNat) e_cstr ((e_slM (f := .str) (xs := names cl 6) (e_var rfl) (Rl.t _) eo_none (eo_some (e_mix 12 6 (by omega) (by omega) (by omega) (e_var rfl)))).to (r' := T K (((names cl 6).take (mix cl 12 6).toNat).map .str)) (by rw [htn, cutD_to, Int.toNat_natCast])) (.l (Rl.t _)) (by
    rw [g6]
    have h1 := joined_len (l := (names cl 6).take (mix cl 12 6).toNat) (fun s hs => (names_all (List.mem_of_mem_take hs)).2)
    have h2 : ((names cl 6).take (mix cl 12 6).toNat).length ≤ 6 := by rw [List.length_take, names_cnt]; exact Nat.min_le_right _ _
    omega)) fun σ2 H2 c2 => ?_
  refine x_ifA (r := X (.str (someW cl))) c2 (et_test (e_op (e_var rfl) e_cstr o_eqS)) (fun hb => ?_) (fun hb => ?_) fun σ3 H3 c3 => ?_
  · have e : someW cl = "-" := by unfold someW; dsimp only; rw [if_pos (of_decide_eq_true hb)]
    rw [e]
    exact e_cstr
  · have e : someW cl = Txt.join "," ((names cl 6).take (mix cl 12 6).toNat) := by unfold someW; dsimp only; rw [if_neg (of_decide_eq_false hb)]
    rw [e]
    rfl
  refine x_asg c3 (e_op (r1 := T K (([10, 1000, 10 ^ 30, 10 ^ 60] : List Int).map .int)) (e_lst (ds := ([10, 1000, 10 ^ 30, 10 ^ 60] : List Int).map .int) (ea_cons e_cint (ea_cons e_cint (ea_cons (e_op e_cint e_cint (o_powI (i := 10) (j := 30) ⟨by omega, by omega, by decide⟩)) (ea_cons (e_op e_cint e_cint (o_powI (i := 10) (j := 60) ⟨by omega, by omega, by decide⟩)) ea_nil))))
      (.cons (.int _) (.cons (.int _) (.cons (.int _) (.cons (.int _) .nil)))) (by simp)) (e_mix 13 4 (by omega) (by omega) (by omega) (e_var rfl)) (o_ixM (f := .int) (x := far cl) (Rl.t _) (mix_at (by omega) (by simp)))) fun σ4 H4 c4 => ?_
  refine x_asg c4 (e_op (r1 := T K (([cl / 2 % far cl, 0, far cl - 1, cl * 982451653 ^ 7 % far cl] : List Int).map .int)) (e_lst (ds := ([cl / 2 % far cl, 0, far cl - 1, cl * 982451653 ^ 7 % far cl] : List Int).map .int) (ea_cons (e_op (e_op (e_var rfl) e_cint (o_divI (by omega))) (e_var rfl) (o_modI f1)) (ea_cons e_cint (ea_cons (e_op (e_var rfl) e_cint o_subI)
      (ea_cons (e_op (e_op (e_var rfl) (e_op e_cint e_cint (o_powI (i := 982451653) (j := 7) ⟨by omega, by omega, by decide⟩)) (o_mulB (mul_ok hp))) (e_var rfl) (o_modI f1)) ea_nil)))) (.cons (.int _) (.cons (.int _) (.cons (.int _) (.cons (.int _) .nil)))) (by simp)) (e_mix 14 4 (by omega) (by omega) (by omega) (e_var rfl)) (o_ixM (f := .int) (x := num cl) (Rl.t _) (mix_at (by omega) (by simp)))) fun σ5 H5 c5 => ?_
  have hsign : atI (["", "-"] : List Str) (if (decide (mix cl 15 2 = 1) && decide ((0 : Int) < num cl)) = true then 1 else 0) = some (if mix cl 15 2 = 1 ∧ 0 < num cl then ("-" : Str) else ("" : Str)) := by
    by_cases h : mix cl 15 2 = 1 ∧ 0 < num cl
    · rw [if_pos h, decide_eq_true h.1, decide_eq_true h.2]; rfl
    · rw [if_neg h]
      have : (decide (mix cl 15 2 = 1) && decide ((0 : Int) < num cl)) = false := by
        rw [Bool.and_eq_false_iff, decide_eq_false_iff_not, decide_eq_false_iff_not]
        by_cases h1 : mix cl 15 2 = 1
        · exact .inr fun h2 => h ⟨h1, h2⟩
        · exact .inl h1
      rw [this]; rfl
  refine x_asg c5 (e_op (r1 := T K ((["", "-"] : List Str).map .str)) (r2 := X (.int (if (decide (mix cl 15 2 = 1) && decide ((0 : Int) < num cl)) = true then 1 else 0))) (e_lst (ds := (["", "-"] : List Str).map .str) (ea_cons e_cstr (ea_cons e_cstr ea_nil)) (.cons (.str _) (.cons (.str _) .nil)) (by simp))
    (e_cb (ea_cons (e_andV (e_op (e_mix 15 2 (by omega) (by omega) (by omega) (e_var rfl)) e_cint (o_eqI (K := K))) fun _ => e_op (e_var rfl) e_cint o_gt) ea_nil) n_intB) (o_ixM (f := .str) (Rl.t _) hsign)) fun σ6 H6 c6 => ?_
  generalize hsg : (if mix cl 15 2 = 1 ∧ 0 < num cl then ("-" : Str) else ("" : Str)) = sign at c6
  have hsl : sign.length ≤ 1 := by
    rw [← hsg]; split
    · rw [g5]; exact Nat.le_refl _
    · decide +kernel
  refine x_asg c6 (e_op e_cstr (e_mix 16 4 (by omega) (by omega) (by omega) (e_var rfl)) (o_ixS (K := K) (sz (by decide +kernel)) (mix_str (z := "012?") (by omega) (by decide +kernel)))) fun σ7 H7 c7 => ?_
  have hfnd := mix_at (xs := ([(names cl 6).getD 5 "", (names cl 6).getD 5 "", (names cl 6).getD 5 "", "-"] : List Str)) (d := "") (c := cl) (t := 17) (m := 4) (by omega) (by simp)
  have hfl : (([(names cl 6).getD 5 "", (names cl 6).getD 5 "", (names cl 6).getD 5 "", "-"] : List Str).getD (mix cl 17 4).toNat "").length ≤ 8 := by
    have m1 := mix_nn (c := cl) (t := 17) (m := 4) (by decide)
    have m2 := mix_lt (c := cl) (t := 17) (m := 4) (by decide)
    have : (mix cl 17 4).toNat = 0 ∨ (mix cl 17 4).toNat = 1 ∨ (mix cl 17 4).toNat = 2 ∨ (mix cl 17 4).toNat = 3 := by omega
    rcases this with h | h | h | h
    · rw [h]; exact a5u
    · rw [h]; exact a5u
    · rw [h]; exact a5u
    · rw [h]; show ("-" : Str).length ≤ 8; rw [g5]; omega
  generalize hfd : ([(names cl 6).getD 5 "", (names cl 6).getD 5 "", (names cl 6).getD 5 "", "-"] : List Str).getD (mix cl 17 4).toNat "" = found at hfnd hfl
  refine x_asg c7 (e_op (r1 := T K (([(names cl 6).getD 5 "", (names cl 6).getD 5 "", (names cl 6).getD 5 "", "-"] : List Str).map .str)) (e_op (e_op (e_lst (K := K) (ds := [.str ((names cl 6).getD 5 "")]) (ea_cons (e_op (e_var rfl) e_cint (o_ixM (f := .str) (Rl.t _) a5)) ea_nil) (.cons (.d _) .nil) (by simp)) e_cint (o_rep (K := K) (Rt.t _) (by omega) (by omega) (by simp)))
    (e_lst (K := K) (ds := [.str "-"]) (ea_cons e_cstr ea_nil) (.cons (.str _) .nil) (by simp)) (o_cat (K := K) (Rt.t _) (Rt.t _) (sz (by show 3 + 1 ≤ _; decide)))) (e_mix 17 4 (by omega) (by omega) (by omega) (e_var rfl)) (o_ixM (f := .str) (Rl.t _) hfnd)) fun σ8 H8 c8 => ?_
  have hz1 : ∀ n : Nat, (⟨#[n]⟩ : Str).length = 1 := fun _ => rfl
  refine x_asg c8 (e_lst (K := K) (ds := [.str (someW cl), .str (sign ++ (toString (num cl) : String)), .str ((names cl 6).getD 4 "" ++ ":" ++ someW cl), .str ((names cl 6).getD 3 "" ++ "." ++ (names cl 6).getD 2 "" ++ "=" ++ ⟨#[(sg "012?").getD (mix cl 16 4).toNat 0]⟩)])
    (ea_cons (e_var rfl) (ea_cons (e_op (e_var rfl) (e_cb (ea_cons (e_var rfl) ea_nil) (n_strI n1)) (o_addS (sz (by omega)))) (ea_cons (e_op (e_op (e_op (e_var rfl) e_cint (o_ixM (f := .str) (Rl.t _) a4)) e_cstr (o_addS (sz (by omega)))) (e_var rfl) (o_addS (sz (by simp only [str_app_len]; omega))))
      (ea_cons (e_op (e_op (e_op (e_op (e_op (e_var rfl) e_cint (o_ixM (f := .str) (Rl.t _) a3)) e_cstr (o_addS (sz (by omega)))) (e_op (e_var rfl) e_cint (o_ixM (f := .str) (Rl.t _) a2)) (o_addS (sz (by simp only [str_app_len]; omega)))) e_cstr (o_addS (sz (by simp only [str_app_len]; omega)))) (e_var rfl) (o_addS (sz (by simp only [str_app_len, hz1]; omega)))) ea_nil))))
    (.cons (.str _) (.cons (.str _) (.cons (.str _) (.cons (.str _) .nil)))) (by simp)) fun σ9 H9 c9 => ?_
  refine x_retP c9 (e_op (e_var rfl) (e_lst (K := K) (ds := [.str (someW cl ++ ">" ++ found ++ "=" ++ ⟨#[(sg "012").getD (mix cl 18 3).toNat 0]⟩)]) (ea_cons (e_op (e_op (e_op (e_op (e_var rfl) e_cstr (o_addS (sz (by omega)))) (e_var rfl) (o_addS (sz (by simp only [str_app_len]; omega)))) e_cstr (o_addS (sz (by simp only [str_app_len]; omega))))
    (e_op e_cstr (e_mix 18 3 (by omega) (by omega) (by omega) (e_var rfl)) (o_ixS (K := K) (sz (by decide +kernel)) (mix_str (z := "012") (by omega) (by decide +kernel)))) (o_addS (sz (by simp only [str_app_len, hz1]; omega)))) ea_nil) (.cons (.str _) .nil) (by simp)) (o_cat (K := K) (Rt.t _) (Rt.t _) (sz (by show 4 + 1 ≤ _; decide)))) hrT fun v H10 q => k v H10 (q.to ?_)
  unfold words
  dsimp only
  rw [hsg, hfd]
  rfl
end
end TG

namespace TG
open PySem L2 DL SX
theorem num_one_le (n : Nat) : 1 ≤ (Str.ofString (toString ((n : Nat) : Int))).length := by
  rw [num_S, S_len]
  exact Nat.pos_of_ne_zero fun h => TL.numL_ne n (List.eq_nil_of_length_eq_zero h)
theorem words_all {c : Int} {s : Str} (h : s ∈ words c) : 1 ≤ s.length ∧ s.length ≤ 1000 := by
  obtain ⟨sl1, sl2⟩ := some_len c
  obtain ⟨n1, n2⟩ := num_str c
  obtain ⟨_, a2l, a2u⟩ := names_at c (i := 2) (by omega)
  obtain ⟨_, a3l, a3u⟩ := names_at c (i := 3) (by omega)
  obtain ⟨_, a4l, a4u⟩ := names_at c (i := 4) (by omega)
  obtain ⟨_, a5l, a5u⟩ := names_at c (i := 5) (by omega)
  have g1 : (":" : Str).length = 1 := by decide +kernel
  have g2 : ("." : Str).length = 1 := by decide +kernel
  have g3 : ("=" : Str).length = 1 := by decide +kernel
  have g4 : (">" : Str).length = 1 := by decide +kernel
  have g5 : ("-" : Str).length = 1 := by decide +kernel
  have hz1 : ∀ n : Nat, (⟨#[n]⟩ : Str).length = 1 := fun _ => rfl
  have hns : 1 ≤ (Str.ofString (toString (num c))).length := by
    obtain ⟨b1, b2⟩ := num_b c
    obtain ⟨n, hn⟩ := Int.eq_ofNat_of_zero_le b1
    rw [hn]
    exact num_one_le n
  have hfl : (([(names c 6).getD 5 "", (names c 6).getD 5 "", (names c 6).getD 5 "", "-"] : List Str).getD (mix c 17 4).toNat "").length ≤ 8 := by
    have m1 := mix_nn (c := c) (t := 17) (m := 4) (by decide)
    have m2 := mix_lt (c := c) (t := 17) (m := 4) (by decide)
    have : (mix c 17 4).toNat = 0 ∨ (mix c 17 4).toNat = 1 ∨ (mix c 17 4).toNat = 2 ∨ (mix c 17 4).toNat = 3 := by omega
    rcases this with h | h | h | h
    · rw [h]; exact a5u
    · rw [h]; exact a5u
    · rw [h]; exact a5u
    · rw [h]; show ("-" : Str).length ≤ 8; rw [g5]; omega
  unfold words at h
  dsimp only at h
  generalize ([(names c 6).getD 5 "", (names c 6).getD 5 "", (names c 6).getD 5 "", "-"] : List Str).getD (mix c 17 4).toNat "" = found at h hfl
  have hsl : (if mix c 15 2 = 1 ∧ 0 < num c then ("-" : Str) else ("" : Str)).length ≤ 1 := by
    split
    · rw [g5]; exact Nat.le_refl _
    · decide +kernel
  simp only [List.mem_cons, List.not_mem_nil, or_false] at h
  rcases h with rfl | rfl | rfl | rfl | rfl
  · omega
  · simp only [str_app_len]
    omega
  · simp only [str_app_len]; omega
  · simp only [str_app_len, hz1]; omega
  · simp only [str_app_len, hz1]; omega
theorem cutS_len (z : Str) (lo hi : Option Int) : (cutS z lo hi).length ≤ z.length := by
  rw [cutS_D, S_len, TL.len_tl]
  unfold cutD
  rw [List.length_take, List.length_drop]
  exact Nat.le_trans (Nat.min_le_right _ _) (Nat.sub_le _ _)
theorem spoilt_all {w s : Str} {c t : Int} (hw : w.length ≤ 1000) (h : s ∈ spoilt w c t) : s.length ≤ 10000 := by
  have hz1 : ∀ n : Nat, (⟨#[n]⟩ : Str).length = 1 := fun _ => rfl
  have g1 : ("," : Str).length = 1 := by decide +kernel
  have g2 : ("0" : Str).length = 1 := by decide +kernel
  unfold spoilt at h
  dsimp only at h
  have k1 := cutS_len w none (some (mix c (t + 1) w.length))
  have k2 := cutS_len w (some (mix c (t + 1) w.length)) none
  have k3 := cutS_len w (some (mix c (t + 1) w.length + 1)) none
  simp only [List.mem_cons, List.not_mem_nil, or_false] at h
  rcases h with rfl | rfl | rfl | rfl | rfl | rfl | rfl | rfl <;> (simp only [str_app_len, hz1]; omega)
section
variable {K : PySem.W.Frag} {A : Ad}
theorem len_law_spoilt : ∀ vs H Q E, sp_law_spoilt K A vs H Q E → vs.length = 3 := psp_len fun _ => rfl
theorem pure_law_spoilt (cs : Cs K A) (vs : List V) (H : Hp) (Q : VK) (E : XK) (h : sp_law_spoilt K A vs H Q E) : t_law_spoilt K A E { nx := fun _ H' => Q .non H', rt := Q } (L2.start n_law_spoilt vs) H := by
  obtain ⟨⟨w, cl, t⟩, B, Ms, s0, q0, ⟨h1, h2, h3, h4⟩, k⟩ := h
  dsimp only at q0 h1 h2 h3 h4 k
  have c := begin_ (N := n_law_spoilt) s0 q0
  have hz1 : ∀ n : Nat, (⟨#[n]⟩ : Str).length = 1 := fun _ => rfl
  have g1 : ("," : Str).length = 1 := by decide +kernel
  have g2 : ("0" : Str).length = 1 := by decide +kernel
  have gs : ("a0A9-,.:=>?+ 12_<;/\n\t~!`{" : Str).length = 25 := by decide +kernel
  have k1 := cutS_len w none (some (mix cl (t + 1) w.length))
  have k2 := cutS_len w (some (mix cl (t + 1) w.length)) none
  have k3 := cutS_len w (some (mix cl (t + 1) w.length + 1)) none
  refine x_asg c e_cstr fun σ1 H1 c1 => ?_
  refine x_asg c1 (e_op (e_var rfl) ((e_kcallP (K := K) (x := (cl, t, (25 : Int))) (ea_cons (e_var rfl) (ea_cons (e_var rfl) (ea_cons ((e_cb (ea_cons (e_var rfl) ea_nil) (n_lenS (z := "a0A9-,.:=>?+ 12_<;/\n\t~!`{") (sz (by rw [gs]; decide)))).it (b' := 25) (by rw [gs]; rfl)) ea_nil))) (Las.cons (La.le (Le.refl _)) (Las.cons (La.le (Le.refl _)) (Las.cons (La.le (Le.refl _)) Las.nil))) ⟨by dsimp only; omega, by dsimp only; omega, (show (0 : Int) < 25 by decide)⟩).it (b' := mix cl t 25) rfl)
    (o_ixS (K := K) (sz (by rw [gs]; decide)) (mix_str (z := "a0A9-,.:=>?+ 12_<;/\n\t~!`{") (by omega) (by rw [gs]; decide)))) fun σ2 H2 c2 => ?_
  refine x_asg c2 ((e_kcallP (K := K) (x := (cl, t + 1, (w.length : Int))) (ea_cons (e_var rfl) (ea_cons (e_op (e_var rfl) e_cint o_addI) (ea_cons (e_cb (ea_cons (e_var rfl) ea_nil) (n_lenS (sz (by omega)))) ea_nil))) (Las.cons (La.le (Le.refl _)) (Las.cons (La.le (Le.refl _)) (Las.cons (La.le (Le.refl _)) Las.nil))) ⟨by dsimp only; omega, by dsimp only; omega, by dsimp only; omega⟩).it (b' := mix cl (t + 1) w.length) rfl) fun σ3 H3 c3 => ?_
  generalize hsg : (⟨#[(sg "a0A9-,.:=>?+ 12_<;/\n\t~!`{").getD (mix cl t 25).toNat 0]⟩ : Str) = sign at c3
  have hsl : sign.length = 1 := by rw [← hsg]; rfl
  have hws : w.length ≤ sizeLine := sz (by omega)
  refine x_asg c3 (e_lst (K := K) (ds := [.str (cutS w none (some (mix cl (t + 1) w.length)) ++ sign ++ cutS w (some (mix cl (t + 1) w.length)) none), .str (cutS w none (some (mix cl (t + 1) w.length)) ++ sign ++ cutS w (some (mix cl (t + 1) w.length + 1)) none), .str (cutS w none (some (mix cl (t + 1) w.length)) ++ cutS w (some (mix cl (t + 1) w.length + 1)) none), .str (w ++ sign)])
    (ea_cons (e_op (e_op (e_slS (e_var rfl) hws eo_none (eo_some (e_var rfl))) (e_var rfl) (o_addS (sz (by omega)))) (e_slS (e_var rfl) hws (eo_some (e_var rfl)) eo_none) (o_addS (sz (by simp only [str_app_len]; omega))))
    (ea_cons (e_op (e_op (e_slS (e_var rfl) hws eo_none (eo_some (e_var rfl))) (e_var rfl) (o_addS (sz (by omega)))) (e_slS (e_var rfl) hws (eo_some (e_op (e_var rfl) e_cint o_addI)) eo_none) (o_addS (sz (by simp only [str_app_len]; omega))))
    (ea_cons (e_op (e_slS (e_var rfl) hws eo_none (eo_some (e_var rfl))) (e_slS (e_var rfl) hws (eo_some (e_op (e_var rfl) e_cint o_addI)) eo_none) (o_addS (sz (by omega))))
    (ea_cons (e_op (e_var rfl) (e_var rfl) (o_addS (sz (by omega)))) ea_nil)))) (.cons (.str _) (.cons (.str _) (.cons (.str _) (.cons (.str _) .nil)))) (by simp)) fun σ4 H4 c4 => ?_
  refine x_retP c4 (e_op (e_var rfl) (e_lst (K := K) (ds := [.str (sign ++ w), .str (w ++ w), .str (w ++ "," ++ w), .str ("0" ++ w)])
    (ea_cons (e_op (e_var rfl) (e_var rfl) (o_addS (sz (by omega)))) (ea_cons (e_op (e_var rfl) (e_var rfl) (o_addS (sz (by omega)))) (ea_cons (e_op (e_op (e_var rfl) e_cstr (o_addS (sz (by omega)))) (e_var rfl) (o_addS (sz (by simp only [str_app_len]; omega)))) (ea_cons (e_op e_cstr (e_var rfl) (o_addS (sz (by omega)))) ea_nil))))
    (.cons (.str _) (.cons (.str _) (.cons (.str _) (.cons (.str _) .nil)))) (by simp)) (o_cat (K := K) (Rt.t _) (Rt.t _) (sz (by show 4 + 4 ≤ _; decide)))) hrT fun v H10 q => k v H10 (q.to ?_)
  unfold spoilt
  dsimp only
  rw [hsg]
  rfl
theorem len_law_rows : ∀ vs H Q E, sp_law_rows K A vs H Q E → vs.length = 2 := psp_len fun _ => rfl
theorem pure_law_rows (cs : Cs K A) (vs : List V) (H : Hp) (Q : VK) (E : XK) (h : sp_law_rows K A vs H Q E) : t_law_rows K A E { nx := fun _ H' => Q .non H', rt := Q } (L2.start n_law_rows vs) H := by
  obtain ⟨⟨cl, ws⟩, B, Ms, s0, q0, ⟨h1, h2⟩, k⟩ := h
  dsimp only at q0 h1 h2 k
  have c := begin_ (N := n_law_rows) s0 q0
  have g1 : (" " : Str).length = 1 := by decide +kernel
  have g2 : ("  " : Str).length = 2 := by decide +kernel
  obtain ⟨tn, htn⟩ := Int.eq_ofNat_of_zero_le (mix_nn (c := cl) (t := 19) (m := 6) (by decide))
  have hlt := mix_lt (c := cl) (t := 19) (m := 6) (by decide)
  have htl : (ws.take tn).length ≤ 5 := by rw [List.length_take]; omega
  have hjl : ((ws.take tn).map (·.length)).sum ≤ 1000 * (ws.take tn).length := by
    have : ∀ (l : List Str), (∀ s ∈ l, s.length ≤ 1000) → (l.map (·.length)).sum ≤ 1000 * l.length := fun l => by
      induction l with
      | nil => intro _; simp
      | cons a r ih =>
        intro h
        rw [List.map_cons, List.sum_cons, List.length_cons]
        have h1 := h a List.mem_cons_self
        have h2 := ih fun s hs => h s (List.mem_cons_of_mem _ hs)
        omega
    exact this _ fun s hs => h2 s (List.mem_of_mem_take hs)
  refine x_asg c (e_join (ys := ws.take tn) e_cstr ((e_slM (f := .str) (xs := ws) (e_var rfl) (Rl.w _) eo_none (eo_some (e_mix 19 6 (by omega) (by omega) (by omega) (e_var rfl)))).to (r' := T K ((ws.take tn).map .str)) (by rw [htn, cutD_to])) (.l (Rl.t _)) (by rw [g1]; omega)) fun σ1 H1 c1 => ?_
  have hrl : (Txt.join " " (ws.take tn)).length ≤ 6000 := by
    generalize ws.take tn = l at htl hjl
    cases l with
    | nil => exact Nat.zero_le _
    | cons a r =>
      show (Builtin.Str.glued " " (a :: r)).length ≤ _
      rw [StrLaws.glued_eq_join, PyProof.Rows.len_join_cons, g1]
      rw [List.length_cons] at htl hjl
      omega
  generalize Txt.join " " (ws.take tn) = row at c1 hrl
  have hrep := repl_len row " " "  "
  rw [g2] at hrep
  refine x_asg c1 (e_lst (K := K) (ds := ([row, row ++ " ", " " ++ row, Txt.replace row " " "  "] : List Str).map .str) (ea_cons (e_var rfl) (ea_cons (e_op (e_var rfl) e_cstr (o_addS (sz (by omega)))) (ea_cons (e_op e_cstr (e_var rfl) (o_addS (sz (by omega)))) (ea_cons (e_repl (e_var rfl) (by rw [g2]; omega)) ea_nil)))) (.cons (.str _) (.cons (.str _) (.cons (.str _) (.cons (.str _) .nil)))) (by simp)) fun σ2 H2 c2 => ?_
  refine x_for PyData.str ([row, row ++ " ", " " ++ row, Txt.replace row " " "  "] : List Str) (fun _ As' ρ' => As' = [] ∧ ∃ o1 o2 o3 o4 o5 o6, ρ' = [o1, o2, o3, o4, o5, o6]) c2 (e_var rfl) (.t _) (fun _ => tg_name) ⟨rfl, _, _, _, _, _, _, rfl⟩ ?_ ?_
  · rintro B1 s rest As' ρ' σ' H' x1 hm ⟨rfl, o1, o2, o3, o4, o5, o6, rfl⟩ c
    have hsl : s.length ≤ 30000 := by
      simp only [List.mem_cons, List.not_mem_nil, or_false] at hm
      rcases hm with rfl | rfl | rfl | rfl
      · omega
      · simp only [str_app_len]; omega
      · simp only [str_app_len]; omega
      · omega
    refine x_asg c (e_kcallP (K := K) (x := s) (by walk_at "ev") (by walk_at "ev") (by walk_at "ev")) fun σ3 H3 c3 => ?_
    refine x_if (b := !true) c3 (et_not (et_B (e_kcallG (x := PyData.tuple ((Txt.split s " ").map .str)) (rs := [D K (.tuple ((Txt.split s " ").map .str)), D K (.tuple ((Txt.split s " ").map .str))]) (ea_cons (e_var rfl) (ea_cons (e_cb (ea_cons (e_split (K := K) (a := s) (e_var rfl) e_cstr (by decide) (by omega)) ea_nil) (n_tuple (Rl.t _))) ea_nil)) (fun vs B Ms a q => by
      match vs, q with
      | [v, u], ⟨q1, q2, _⟩ => exact ⟨d_A q1, d_A q2, trivial⟩) (.tup (by have := PyProof.Rows.split_le s " "; rw [List.length_map]; omega) (kd_strs _))))) (fun hb H3 c3 => ?_) (fun hb H3 c3 => ?_)
    · cases hb
    · exact ⟨_, _, ⟨rfl, _, _, _, _, _, _, rfl⟩, c3⟩
  · rintro As' ρ' σ' H' ⟨rfl, o1, o2, o3, o4, o5, o6, rfl⟩ c
    exact x_retP c e_cbl hrX fun v H2 q => k v H2 q
theorem len_law_main : ∀ vs H Q E, sp_law_main K A vs H Q E → vs.length = 1 := psp_len fun _ => rfl
theorem e_right {w : Str} {te : TE} {ρ : Rho} {Fr : List Hp} {As : List Asn} (h : DL.E te ρ Fr As (X (.str w))) (hw : w.length ≤ 10000) : DL.E (kCall (sp_law_right K A) [] W0 (tCons te tNil)) ρ Fr As (X (.bl true)) :=
  e_kcallP (K := K) (x := w) (ea_cons h ea_nil) (Las.cons (La.le (Le.refl _)) Las.nil) hw
theorem pure_law_main (cs : Cs K A) (vs : List V) (H : Hp) (Q : VK) (E : XK) (h : sp_law_main K A vs H Q E) : t_law_main K A E { nx := fun _ H' => Q .non H', rt := Q } (L2.start n_law_main vs) H := by
  obtain ⟨ns, B, Ms, s0, q0, ⟨h1, h2⟩, k⟩ := h
  dsimp only at q0 h1 h2 k
  have c := begin_ (N := n_law_main) s0 q0
  refine x_for PyData.int (ns.take 20 ++ [0, 2, 4]) (fun _ As' ρ' => As' = [] ∧ ∃ o1 o2 o3 o4 o5, ρ' = [o1, o2, o3, o4, o5]) c (r := T K ((ns.take 20 ++ [0, 2, 4]).map .int)) ((e_op (r1 := T K ((ns.take 20).map .int)) ((e_slM (f := .int) (xs := ns) (e_var rfl) (Rl.w _) eo_none (eo_some e_cint)).to (by rw [show (20 : Int) = ((20 : Nat) : Int) from rfl, cutD_to])) (e_lst (K := K) (ds := [.int 0, .int 2, .int 4]) (ea_cons e_cint (ea_cons e_cint (ea_cons e_cint ea_nil))) (.cons (.int _) (.cons (.int _) (.cons (.int _) .nil))) (by simp)) (o_cat (K := K) (Rt.t _) (Rt.t _) (sz (by simp; omega)))).to (by rw [List.map_append]; rfl)) (.t _) (fun _ => tg_name) ⟨rfl, _, _, _, _, _, rfl⟩ ?_ ?_
  · rintro B1 cl rest As' ρ' σ' H' x1 hm ⟨rfl, o1, o2, o3, o4, o5, rfl⟩ c
    have hbit : Builtin.Int.intBits cl ≤ 1048576 := by
      rcases List.mem_append.mp hm with h | h
      · exact h2 cl (List.mem_of_mem_take h)
      · simp at h
        rcases h with rfl | rfl | rfl <;> decide +kernel
    refine x_asg c (e_kcallP (K := K) (x := cl) (ea_cons (e_var rfl) ea_nil) (Las.cons (La.le (Le.refl _)) Las.nil) hbit) fun σ1 H1 c1 => ?_
    have hwl : (words cl).length = 5 := rfl
    refine x_ifN (b := !true) c1 (et_not (et_B (e_kcallP (K := K) (x := (cl, words cl)) (ea_cons (e_var rfl) (ea_cons (e_var rfl) ea_nil)) (Las.cons (La.le (Le.refl _)) (Las.cons (La.le (Le.tw _)) Las.nil)) ⟨by rw [hwl]; decide, fun s hs => (words_all hs).2⟩))) (fun hb H2 c2 => ?_) (fun hb H2 c2 => ?_)
    · cases hb
    · refine x_last (x_forI (fun i As' ρ' => As' = [] ∧ ∃ o1 o3 o4, ρ' = [o1, some (X (.int cl)), some (T K ((words cl).map .str)), o3, o4]) c2 (ei_rng (n := (((words cl).map PyData.str).length : Int)) (ea_cons (e_cb (ea_cons (e_var rfl) ea_nil) (n_lenL (Rl.t _))) ea_nil) (by rw [List.length_map, hwl]; decide) (by rw [List.length_map, hwl]; decide)) (fun i _ => tr_name) ⟨rfl, _, _, _, rfl⟩ ?_ ?_)
      · rintro B2 i As' ρ' σ' H' x2 hi ⟨rfl, o1, o3, o4, rfl⟩ c
        have hi5 : i < 5 := by rw [List.length_map, hwl] at hi; exact hi
        have hat : atI (words cl) (i : Int) = some ((words cl).getD i "") := by
          have := at_list (d := ("" : Str)) (xs := words cl) (i := (i : Int)) (by omega) (by rw [hwl]; omega)
          rw [Int.toNat_natCast] at this
          exact this
        have hmem : (words cl).getD i "" ∈ words cl := by
          rw [List.getD_eq_getElem?_getD, List.getElem?_eq_getElem (by rw [hwl]; exact hi5)]
          simp
        obtain ⟨w1, w2⟩ := words_all hmem
        generalize (words cl).getD i "" = w at hat w1 w2
        refine x_ifN (b := !true) c (et_not (et_B (e_right (w := w) (e_op (e_var rfl) (e_var rfl) (o_ixM (K := K) (f := .str) (Rl.t _) hat)) (by omega)))) (fun hb H3 c3 => ?_) (fun hb H3 c3 => ?_)
        · cases hb
        · refine x_last (x_for PyData.str (spoilt w cl (20 + 2 * (i : Int))) (fun _ As' ρ' => As' = [] ∧ ∃ o1 o3 o4, ρ' = [o1, some (X (.int cl)), some (T K ((words cl).map .str)), o3, o4]) c3 (e_kcallP (K := K) (x := (w, cl, 20 + 2 * (i : Int))) (ea_cons (e_op (e_var rfl) (e_var rfl) (o_ixM (K := K) (f := .str) (Rl.t _) hat)) (ea_cons (e_var rfl) (ea_cons (e_op e_cint (e_op e_cint (e_var rfl) (o_mulI (.inl ⟨by omega, by omega⟩))) o_addI) ea_nil))) (Las.cons (La.le (Le.refl _)) (Las.cons (La.le (Le.refl _)) (Las.cons (La.le (Le.refl _)) Las.nil))) ⟨w1, w2, by dsimp only; omega, by dsimp only; omega⟩) (.t _) (fun _ => tg_name) ⟨rfl, _, _, _, rfl⟩ ?_ ?_)
          · rintro B3 s rest As' ρ' σ' H' x3 hs ⟨rfl, o1, o3, o4, rfl⟩ c
            refine x_if (b := !true) c (et_not (et_B (e_right (w := s) (e_var rfl) (spoilt_all w2 hs)))) (fun hb H3 c3 => ?_) (fun hb H3 c3 => ?_)
            · cases hb
            · exact ⟨_, _, ⟨rfl, _, _, _, rfl⟩, c3⟩
          · rintro As' ρ' σ' H' ⟨rfl, o1, o3, o4, rfl⟩ c
            exact ⟨_, _, ⟨rfl, _, _, _, rfl⟩, c⟩
      · rintro As' ρ' σ' H' ⟨rfl, o1, o3, o4, rfl⟩ c
        exact ⟨_, _, ⟨rfl, _, _, _, _, _, rfl⟩, c⟩
  · rintro As' ρ' σ' H' ⟨rfl, o1, o2, o3, o4, o5, rfl⟩ c
    exact x_retP c (e_andV (e_right e_cstr (by decide +kernel)) fun _ => e_andV (e_right e_cstr (by decide +kernel)) fun _ => e_andV (e_right e_cstr (by decide +kernel)) fun _ => e_andV (e_right e_cstr (by decide +kernel)) fun _ => e_right e_cstr (by decide +kernel)) hrX fun v H2 q => k v H2 q
end
end TG

end

set_option maxHeartbeats 4000000
namespace TG
open PySem L2 DL CwR RZ
def top (i : Nat) : Stmt := PySem.Challenge.pw_taglook_k91_words_read_and_written.main.body.getD i (.Pass ⟨0, 0, 0, 0⟩)
structure Tx (w : World) (K : PySem.W.Frag) (mg : Str → Option Value) (A : Ad) : Prop where
  cs : Cs K A
  pr : w.params = A.pr
  n_all : mg "all" = none
  n_bool : mg "bool" = none
  n_int : mg "int" = none
  n_isinstance : mg "isinstance" = none
  n_len : mg "len" = none
  n_list : mg "list" = none
  n_range : mg "range" = none
  n_str : mg "str" = none
  n_tuple : mg "tuple" = none
  n_zip : mg "zip" = none
  c_FIGURES : ∃ t, mg "FIGURES" = some (.str "0123456789" t)
  c_LETTERS : ∃ t, mg "LETTERS" = some (.str "abcdefghijklmnopqrstuvwxyz" t)
  c_LONGEST : ∃ t, mg "LONGEST" = some (.int 8 t)
  c_MOST_FIGURES : ∃ t, mg "MOST_FIGURES" = some (.int 60 t)
  c_STRENGTHS : mg "STRENGTHS" = some (.ref A.STRENGTHS)
section
variable {P : Program} {w : World} {K : PySem.W.Frag} {mg : Str → Option Value} {base : Heap} {A : Ad}
theorem sc_is_name : FnScope n_is_name ["thing"] (defScope (top 3)) := ⟨rfl, rfl, rfl, by decide +kernel, rfl, by decide +kernel, by decide +kernel⟩
theorem ok_is_name (T : Tx w K mg A)  {f : Addr} {fd : FuncData} (F : FunD K "is_name" "is_name" (defArgs (top 3)) (defBody (top 3)) (defScope (top 3)) [] [] f fd) :
    FnOk P w K mg base (L2.CX P w) 1 f fd ["thing"] (sp_is_name K A) := by
  refine F.ok sc_is_name (len_is_name) (fun cdv A0 outer s H vs Q E hr h => ⟨t_is_name K A E, ?_, pure_is_name T.cs vs H Q E h⟩)
  exact (pss_cons (ps_if (PW.pt (pw_or (pt_not (pt_val (pe_callB call_isi (by rfl) T.n_isinstance (by decide +kernel) (pa_cons (pv 0) (pa_cons (pe_bltn (v := .ty "str") (by rfl) T.n_str (by decide +kernel) rfl) pa_nil))))) (pw_or1 (pt_not (pt_chain u_le u_le pe_int (pe_callB u_len (by rfl) T.n_len PySem.boot_len (pa_cons (pv 0) pa_nil)) (g_int T.c_LONGEST))))))
  (pss_one (ps_ret pe_bl))
  pss_nil)
  (pss_cons (ps_for (passes_of rfl) rfl (pi_str (pv 0)) (pg_name (i := 1) sc_is_name.nd rfl (Or.inl rfl))
  (pss_one (ps_if (pt_cmpR u_notin (pv 1) (g_str T.c_LETTERS) rfl)
  (pss_one (ps_ret pe_bl))
  pss_nil)))
  (pss_one (ps_ret pe_bl))))

theorem sc_read_row : FnScope n_read_row ["text"] (defScope (top 8)) := ⟨rfl, rfl, rfl, by decide +kernel, rfl, by decide +kernel, by decide +kernel⟩
theorem ok_read_row (T : Tx w K mg A)  {f : Addr} {fd : FuncData} (F : FunD K "read_row" "read_row" (defArgs (top 8)) (defBody (top 8)) (defScope (top 8)) [] [] f fd) :
    FnOk P w K mg base (L2.CX P w) 1 f fd ["text"] (sp_read_row K A) := by
  refine F.ok sc_read_row (len_read_row) (fun cdv A0 outer s H vs Q E hr h => ⟨t_read_row K A E, ?_, pure_read_row T.cs vs H Q E h⟩)
  exact (pss_one (ps_ret (pe_callTy u_tuple (by rfl) T.n_tuple (by decide +kernel) (pa_cons (pe_splitU (pv 0) pe_str) pa_nil))))

theorem sc_read_names : FnScope n_read_names ["word"] (defScope (top 9)) := ⟨rfl, rfl, rfl, by decide +kernel, rfl, by decide +kernel, by decide +kernel⟩
theorem ok_read_names (T : Tx w K mg A) (G_is_name : GFn P w K mg base 1 "is_name" [] (sp_is_name K A)) {f : Addr} {fd : FuncData} (F : FunD K "read_names" "read_names" (defArgs (top 9)) (defBody (top 9)) (defScope (top 9)) [] [] f fd) :
    FnOk P w K mg base (L2.CX P w) 2 f fd ["word"] (sp_read_names K A) := by
  refine F.ok sc_read_names (len_read_names) (fun cdv A0 outer s H vs Q E hr h => ⟨t_read_names K A E, ?_, pure_read_names T.cs vs H Q E h⟩)
  exact (pss_cons (ps_if (pt_cmpR (u_eq hr.units) (pv 0) pe_str (nomark _))
  (pss_one (ps_ret (pe_lst pa_nil)))
  pss_nil)
  (pss_cons (ps_set (i := 1) sc_read_names.nd rfl (Or.inl rfl) (pe_splitU (pv 0) pe_str))
  (pss_cons (ps_if (pt_not (pt_val (pe_callB (cr_all rfl) (by rfl) T.n_all (by decide +kernel) (pa_cons (pe_lc (own := [("name", 2)]) rfl sc_read_names.nd (pi_list (pv 1)) (blkOk_by (own := [("name", 2)]) (N := ["word", "names", "name"]) (sc := defScope (top 9)) (by decide +kernel)) (fun _ _ _ _ _ => (pg_name (i := 2) sc_read_names.nd rfl (Or.inl rfl))) (fun _ _ _ _ _ => pts_nil) (fun _ _ _ _ _ => (g_call G_is_name hr (by decide) takes0 (pa_cons (pv 2) pa_nil)))) pa_nil))))
  (pss_one (ps_ret pe_non))
  pss_nil)
  (pss_one (ps_ret (pv 1))))))

theorem sc_is_written : FnScope n_is_written ["word"] (defScope (top 10)) := ⟨rfl, rfl, rfl, by decide +kernel, rfl, by decide +kernel, by decide +kernel⟩
theorem ok_is_written (T : Tx w K mg A)  {f : Addr} {fd : FuncData} (F : FunD K "is_written" "is_written" (defArgs (top 10)) (defBody (top 10)) (defScope (top 10)) [] [] f fd) :
    FnOk P w K mg base (L2.CX P w) 1 f fd ["word"] (sp_is_written K A) := by
  refine F.ok sc_is_written (len_is_written) (fun cdv A0 outer s H vs Q E hr h => ⟨t_is_written K A E, ?_, pure_is_written T.cs vs H Q E h⟩)
  exact (pss_cons (ps_if (PW.pt (pw_or (pt_not (pt_chain u_le u_le pe_int (pe_callB u_len (by rfl) T.n_len PySem.boot_len (pa_cons (pv 0) pa_nil)) (g_int T.c_MOST_FIGURES))) (pw_or1 (PW.pt (pw_and (pt_cmpR (u_eq hr.units) (pe_ix ix_seq (pv 0) pe_int (fun _ _ => rfl)) pe_str (nomark _)) (pw_and1 (pt_cmpR u_gt (pe_callB u_len (by rfl) T.n_len PySem.boot_len (pa_cons (pv 0) pa_nil)) pe_int (nomark _))))))))
  (pss_one (ps_ret pe_bl))
  pss_nil)
  (pss_one (ps_ret (pe_callB (cr_all rfl) (by rfl) T.n_all (by decide +kernel) (pa_cons (pe_lc (own := [("sign", 1)]) rfl sc_is_written.nd (pi_str (pv 0)) (blkOk_by (own := [("sign", 1)]) (N := ["word", "sign"]) (sc := defScope (top 10)) (by decide +kernel)) (fun _ _ _ _ _ => (pg_name (i := 1) sc_is_written.nd rfl (Or.inl rfl))) (fun _ _ _ _ _ => pts_nil) (fun _ _ _ _ _ => (pe_cmpR u_in (pv 1) (g_str T.c_FIGURES) rfl))) pa_nil)))))

theorem sc_read_whole : FnScope n_read_whole ["word"] (defScope (top 11)) := ⟨rfl, rfl, rfl, by decide +kernel, rfl, by decide +kernel, by decide +kernel⟩
theorem ok_read_whole (T : Tx w K mg A) (G_is_written : GFn P w K mg base 1 "is_written" [] (sp_is_written K A)) {f : Addr} {fd : FuncData} (F : FunD K "read_whole" "read_whole" (defArgs (top 11)) (defBody (top 11)) (defScope (top 11)) [] [] f fd) :
    FnOk P w K mg base (L2.CX P w) 2 f fd ["word"] (sp_read_whole K A) := by
  refine F.ok sc_read_whole (len_read_whole) (fun cdv A0 outer s H vs Q E hr h => ⟨t_read_whole K A E, ?_, pure_read_whole T.cs vs H Q E h⟩)
  exact (pss_cons (ps_set (i := 1) sc_read_whole.nd rfl (Or.inl rfl) (pv 0))
  (pss_cons (ps_if (pt_cmpR (u_eq hr.units) (pe_slice u_sl (pv 0) po_none (po_some pe_int)) pe_str (nomark _))
  (pss_one (ps_set (i := 1) sc_read_whole.nd rfl (Or.inl rfl) (pe_slice u_sl (pv 0) (po_some pe_int) po_none)))
  pss_nil)
  (pss_cons (ps_if (PW.pt (pw_or (pt_not (pt_val (g_call G_is_written hr (by decide) takes0 (pa_cons (pv 1) pa_nil)))) (pw_or1 (pt_cmpR (u_eq hr.units) (pv 0) pe_str (nomark _)))))
  (pss_one (ps_ret pe_non))
  pss_nil)
  (pss_one (ps_ret (pe_callTy u_intS (by rfl) T.n_int (by decide +kernel) (pa_cons (pv 0) pa_nil)))))))

theorem sc_read_turn : FnScope n_read_turn ["word"] (defScope (top 12)) := ⟨rfl, rfl, rfl, by decide +kernel, rfl, by decide +kernel, by decide +kernel⟩
theorem ok_read_turn (T : Tx w K mg A) (G_read_names : GFn P w K mg base 2 "read_names" [] (sp_read_names K A)) (G_is_name : GFn P w K mg base 1 "is_name" [] (sp_is_name K A)) {f : Addr} {fd : FuncData} (F : FunD K "read_turn" "read_turn" (defArgs (top 12)) (defBody (top 12)) (defScope (top 12)) [] [] f fd) :
    FnOk P w K mg base (L2.CX P w) 3 f fd ["word"] (sp_read_turn K A) := by
  refine F.ok sc_read_turn (len_read_turn) (fun cdv A0 outer s H vs Q E hr h => ⟨t_read_turn K A E, ?_, pure_read_turn T.cs vs H Q E h⟩)
  exact (pss_cons (ps_asg (pe_partU (pv 0) pe_str) (pg_tup rfl (pgs_cons (pg_name (i := 1) sc_read_turn.nd rfl (Or.inl rfl)) (pgs_cons (pg_name (i := 2) sc_read_turn.nd rfl (Or.inl rfl)) (pgs_cons (pg_name (i := 3) sc_read_turn.nd rfl (Or.inl rfl)) pgs_nil)))))
  (pss_cons (ps_set (i := 4) sc_read_turn.nd rfl (Or.inl rfl) (g_call G_read_names hr (by decide) takes0 (pa_cons (pv 3) pa_nil)))
  (pss_cons (ps_if (PW.pt (pw_or (pt_not (pt_val (g_call G_is_name hr (by decide) takes0 (pa_cons (pv 1) pa_nil)))) (pw_or1 (pt_cmpR u_is (pv 4) pe_non (nomark _)))))
  (pss_one (ps_ret pe_non))
  pss_nil)
  (pss_one (ps_ret (pe_tup (pa_cons (pv 1) (pa_cons (pv 4) pa_nil))))))))

theorem sc_read_fact : FnScope n_read_fact ["word"] (defScope (top 13)) := ⟨rfl, rfl, rfl, by decide +kernel, rfl, by decide +kernel, by decide +kernel⟩
theorem ok_read_fact (T : Tx w K mg A) (G_is_name : GFn P w K mg base 1 "is_name" [] (sp_is_name K A)) {f : Addr} {fd : FuncData} (F : FunD K "read_fact" "read_fact" (defArgs (top 13)) (defBody (top 13)) (defScope (top 13)) [] [] f fd) :
    FnOk P w K mg base (L2.CX P w) 2 f fd ["word"] (sp_read_fact K A) := by
  refine F.ok sc_read_fact (len_read_fact) (fun cdv A0 outer s H vs Q E hr h => ⟨t_read_fact K A E, ?_, pure_read_fact T.cs vs H Q E h⟩)
  exact (pss_cons (ps_asg (pe_partU (pv 0) pe_str) (pg_tup rfl (pgs_cons (pg_name (i := 1) sc_read_fact.nd rfl (Or.inl rfl)) (pgs_cons (pg_name (i := 2) sc_read_fact.nd rfl (Or.inl rfl)) (pgs_cons (pg_name (i := 3) sc_read_fact.nd rfl (Or.inl rfl)) pgs_nil)))))
  (pss_cons (ps_asg (pe_partU (pv 1) pe_str) (pg_tup rfl (pgs_cons (pg_name (i := 4) sc_read_fact.nd rfl (Or.inl rfl)) (pgs_cons (pg_name (i := 5) sc_read_fact.nd rfl (Or.inl rfl)) (pgs_cons (pg_name (i := 6) sc_read_fact.nd rfl (Or.inl rfl)) pgs_nil)))))
  (pss_cons (ps_if (PW.pt (pw_or (pt_not (pt_val (g_call G_is_name hr (by decide) takes0 (pa_cons (pv 4) pa_nil)))) (pw_or (pt_not (pt_val (g_call G_is_name hr (by decide) takes0 (pa_cons (pv 6) pa_nil)))) (pw_or1 (PW.pt (pw_and (pt_cmp (pc_knotin T.pr (pv 3) (g_ref T.c_STRENGTHS)) rfl) (pw_and1 (pt_cmpR (u_ne hr.units) (pv 3) pe_str (nomark _)))))))))
  (pss_one (ps_ret pe_non))
  pss_nil)
  (pss_one (ps_ret (pe_tup (pa_cons (pv 4) (pa_cons (pv 6) (pa_cons (pe_kget1 T.pr (g_ref T.c_STRENGTHS) (pv 3) ⟨rfl, rfl, rfl, rfl⟩) pa_nil)))))))))

theorem sc_read_paper : FnScope n_read_paper ["word"] (defScope (top 14)) := ⟨rfl, rfl, rfl, by decide +kernel, rfl, by decide +kernel, by decide +kernel⟩
theorem ok_read_paper (T : Tx w K mg A) (G_read_names : GFn P w K mg base 2 "read_names" [] (sp_read_names K A)) (G_is_name : GFn P w K mg base 1 "is_name" [] (sp_is_name K A)) {f : Addr} {fd : FuncData} (F : FunD K "read_paper" "read_paper" (defArgs (top 14)) (defBody (top 14)) (defScope (top 14)) [] [] f fd) :
    FnOk P w K mg base (L2.CX P w) 3 f fd ["word"] (sp_read_paper K A) := by
  refine F.ok sc_read_paper (len_read_paper) (fun cdv A0 outer s H vs Q E hr h => ⟨t_read_paper K A E, ?_, pure_read_paper T.cs vs H Q E h⟩)
  exact (pss_cons (ps_asg (pe_partU (pv 0) pe_str) (pg_tup rfl (pgs_cons (pg_name (i := 1) sc_read_paper.nd rfl (Or.inl rfl)) (pgs_cons (pg_name (i := 2) sc_read_paper.nd rfl (Or.inl rfl)) (pgs_cons (pg_name (i := 3) sc_read_paper.nd rfl (Or.inl rfl)) pgs_nil)))))
  (pss_cons (ps_asg (pe_partU (pv 3) pe_str) (pg_tup rfl (pgs_cons (pg_name (i := 4) sc_read_paper.nd rfl (Or.inl rfl)) (pgs_cons (pg_name (i := 5) sc_read_paper.nd rfl (Or.inl rfl)) (pgs_cons (pg_name (i := 6) sc_read_paper.nd rfl (Or.inl rfl)) pgs_nil)))))
  (pss_cons (ps_set (i := 7) sc_read_paper.nd rfl (Or.inl rfl) (g_call G_read_names hr (by decide) takes0 (pa_cons (pv 1) pa_nil)))
  (pss_cons (ps_if (PW.pt (pw_or (pt_cmpR u_is (pv 7) pe_non (nomark _)) (pw_or (PW.pt (pw_and (pt_cmpR (u_ne hr.units) (pv 4) pe_str (nomark _)) (pw_and1 (pt_not (pt_val (g_call G_is_name hr (by decide) takes0 (pa_cons (pv 4) pa_nil))))))) (pw_or1 (pt_cmp (pc_knotin T.pr (pv 6) (g_ref T.c_STRENGTHS)) rfl)))))
  (pss_one (ps_ret pe_non))
  pss_nil)
  (pss_cons (ps_if (pt_cmpR (u_eq hr.units) (pv 4) pe_str (nomark _))
  (pss_one (ps_ret (pe_tup (pa_cons (pe_callTy u_tuple (by rfl) T.n_tuple (by decide +kernel) (pa_cons (pv 7) pa_nil)) (pa_cons pe_non (pa_cons (pe_kix T.pr (g_ref T.c_STRENGTHS) (pv 6) (fun _ _ => rfl)) pa_nil))))))
  pss_nil)
  (pss_one (ps_ret (pe_tup (pa_cons (pe_callTy u_tuple (by rfl) T.n_tuple (by decide +kernel) (pa_cons (pv 7) pa_nil)) (pa_cons (pv 4) (pa_cons (pe_kix T.pr (g_ref T.c_STRENGTHS) (pv 6) (fun _ _ => rfl)) pa_nil)))))))))))

theorem sc_show_names : FnScope n_show_names ["names"] (defScope (top 15)) := ⟨rfl, rfl, rfl, by decide +kernel, rfl, by decide +kernel, by decide +kernel⟩
theorem ok_show_names (T : Tx w K mg A)  {f : Addr} {fd : FuncData} (F : FunD K "show_names" "show_names" (defArgs (top 15)) (defBody (top 15)) (defScope (top 15)) [] [] f fd) :
    FnOk P w K mg base (L2.CX P w) 1 f fd ["names"] (sp_show_names K A) := by
  refine F.ok sc_show_names (len_show_names) (fun cdv A0 outer s H vs Q E hr h => ⟨t_show_names K A E, ?_, pure_show_names T.cs vs H Q E h⟩)
  exact (pss_cons (ps_if (pt_cmpR (u_eq hr.units) (pe_callB u_len (by rfl) T.n_len PySem.boot_len (pa_cons (pv 0) pa_nil)) pe_int (nomark _))
  (pss_one (ps_ret pe_str))
  pss_nil)
  (pss_one (ps_ret (pe_joinU pe_str (pv 0)))))

theorem sc_show_paper : FnScope n_show_paper ["paper"] (defScope (top 16)) := ⟨rfl, rfl, rfl, by decide +kernel, rfl, by decide +kernel, by decide +kernel⟩
theorem ok_show_paper (T : Tx w K mg A) (G_show_names : GFn P w K mg base 1 "show_names" [] (sp_show_names K A)) {f : Addr} {fd : FuncData} (F : FunD K "show_paper" "show_paper" (defArgs (top 16)) (defBody (top 16)) (defScope (top 16)) [] [] f fd) :
    FnOk P w K mg base (L2.CX P w) 2 f fd ["paper"] (sp_show_paper K A) := by
  refine F.ok sc_show_paper (len_show_paper) (fun cdv A0 outer s H vs Q E hr h => ⟨t_show_paper K A E, ?_, pure_show_paper T.cs vs H Q E h⟩)
  exact (pss_cons (ps_asg (pv 0) (pg_tup rfl (pgs_cons (pg_name (i := 1) sc_show_paper.nd rfl (Or.inl rfl)) (pgs_cons (pg_name (i := 2) sc_show_paper.nd rfl (Or.inl rfl)) (pgs_cons (pg_name (i := 3) sc_show_paper.nd rfl (Or.inl rfl)) pgs_nil)))))
  (pss_cons (ps_if (pt_cmpR u_is (pv 2) pe_non (nomark _))
  (pss_one (ps_set (i := 2) sc_show_paper.nd rfl (Or.inl rfl) pe_str))
  pss_nil)
  (pss_one (ps_ret (pe_op u_add (pe_op u_add (pe_op u_add (pe_op u_add (g_call G_show_names hr (by decide) takes0 (pa_cons (pv 1) pa_nil)) pe_str) (pv 2)) pe_str) (pe_callTy u_strI (by rfl) T.n_str (by decide +kernel) (pa_cons (pv 3) pa_nil)))))))

theorem sc_law_mix : FnScope n_law_mix ["_law_cell_here", "_law_turn", "_law_many"] (defScope (top 19)) := ⟨rfl, rfl, rfl, by decide +kernel, rfl, by decide +kernel, by decide +kernel⟩
theorem ok_law_mix (T : Tx w K mg A)  {f : Addr} {fd : FuncData} (F : FunD K "_law_mix" "_law_mix" (defArgs (top 19)) (defBody (top 19)) (defScope (top 19)) [] [] f fd) :
    FnOk P w K mg base (L2.CX P w) 1 f fd ["_law_cell_here", "_law_turn", "_law_many"] (sp_law_mix K A) := by
  refine F.ok sc_law_mix (len_law_mix) (fun cdv A0 outer s H vs Q E hr h => ⟨t_law_mix K A E, ?_, pure_law_mix T.cs vs H Q E h⟩)
  exact (pss_cons (ps_set (i := 3) sc_law_mix.nd rfl (Or.inl rfl) (pe_op u_div (pv 0) pe_int))
  (pss_cons (ps_if (PW.pt (pw_and (pt_cmpR (u_eq hr.units) (pe_op u_mod (pv 0) pe_int) pe_int (nomark _)) (pw_and1 (pt_cmpR u_gt (pv 0) (pe_op u_pow pe_int pe_int) (nomark _)))))
  (pss_cons (ps_for (passes_of rfl) rfl (pi_range1 (by rfl) T.n_range (pa_cons (pv 1) pa_nil)) (pg_name (i := 4) sc_law_mix.nd rfl (Or.inl rfl))
  (pss_one (ps_set (i := 3) sc_law_mix.nd rfl (Or.inl rfl) (pe_op u_div (pv 3) pe_int))))
  (pss_one (ps_ret (pe_op u_mod (pe_op u_mod (pv 3) pe_int) (pv 2)))))
  pss_nil)
  (pss_cons (ps_set (i := 5) sc_law_mix.nd rfl (Or.inl rfl) (pe_lst (pa_cons pe_int (pa_cons pe_int (pa_cons pe_int (pa_cons pe_int (pa_cons pe_int (pa_cons pe_int (pa_cons pe_int (pa_cons pe_int (pa_cons pe_int (pa_cons pe_int (pa_cons pe_int (pa_cons pe_int (pa_cons pe_int (pa_cons pe_int pa_nil))))))))))))))))
  (pss_cons (ps_set (i := 6) sc_law_mix.nd rfl (Or.inl rfl) (pe_op u_mod (pe_op u_mul (pe_op u_add (pe_op u_mod (pv 0) pe_int) pe_int) (pe_ix ix_seq (pv 5) (pe_op u_mod (pv 1) pe_int) (fun _ _ => rfl))) pe_int))
  (pss_cons (ps_set (i := 7) sc_law_mix.nd rfl (Or.inl rfl) (pe_op u_mod (pe_op u_mul (pv 6) (pe_op u_add (pv 6) (pv 1))) pe_int))
  (pss_one (ps_ret (pe_op u_mod (pe_op u_div (pe_op u_mod (pe_op u_mul (pv 7) pe_int) pe_int) pe_int) (pv 2)))))))))

theorem sc_law_names : FnScope n_law_names ["_law_cell_here", "_law_many"] (defScope (top 20)) := ⟨rfl, rfl, rfl, by decide +kernel, rfl, by decide +kernel, by decide +kernel⟩
theorem ok_law_names (T : Tx w K mg A) (G_law_mix : GFn P w K mg base 1 "_law_mix" [] (sp_law_mix K A)) {f : Addr} {fd : FuncData} (F : FunD K "_law_names" "_law_names" (defArgs (top 20)) (defBody (top 20)) (defScope (top 20)) [] [] f fd) :
    FnOk P w K mg base (L2.CX P w) 2 f fd ["_law_cell_here", "_law_many"] (sp_law_names K A) := by
  refine F.ok sc_law_names (len_law_names) (fun cdv A0 outer s H vs Q E hr h => ⟨t_law_names K A E, ?_, pure_law_names T.cs vs H Q E h⟩)
  exact (pss_cons (ps_set (i := 2) sc_law_names.nd rfl (Or.inr rfl) pe_str)
  (pss_cons (ps_setLc (i := 3) (own := [("_law_k", 4)]) rfl sc_law_names.nd rfl rfl (sw_true rfl rfl rfl (by decide +kernel)) (pi_range1 (by rfl) T.n_range (pa_cons pe_int pa_nil)) (blkOk_by (own := [("_law_k", 4)]) (N := ["_law_cell_here", "_law_many", "_law_letters", "_law_base", "_law_k", "_law_size", "_law_at", "_law_names_here", "_law_name", "_law_j", "_law_one", "_law_turn"]) (sc := defScope (top 20)) (by decide +kernel)) (fun _ _ _ _ _ => (pg_name (i := 4) sc_law_names.nd rfl (Or.inl rfl))) (fun _ _ _ _ _ => pts_nil) (fun _ _ _ _ _ => (g_call G_law_mix hr (by decide) takes0 (pa_cons (pv 0) (pa_cons (pv 4) (pa_cons pe_int pa_nil))))))
  (pss_cons (ps_set (i := 5) sc_law_names.nd rfl (Or.inl rfl) (pe_op u_add pe_int (g_call G_law_mix hr (by decide) takes0 (pa_cons (pv 0) (pa_cons pe_int (pa_cons pe_int pa_nil))))))
  (pss_cons (ps_set (i := 6) sc_law_names.nd rfl (Or.inl rfl) (g_call G_law_mix hr (by decide) takes0 (pa_cons (pv 0) (pa_cons pe_int (pa_cons (pv 5) pa_nil)))))
  (pss_cons (ps_set (i := 7) sc_law_names.nd rfl (Or.inl rfl) (pe_lst pa_nil))
  (pss_cons (ps_for (passes_of rfl) rfl (pi_range1 (by rfl) T.n_range (pa_cons (pv 1) pa_nil)) (pg_name (i := 4) sc_law_names.nd rfl (Or.inl rfl))
  (pss_cons (ps_set (i := 8) sc_law_names.nd rfl (Or.inl rfl) pe_str)
  (pss_cons (ps_for (passes_of rfl) rfl (pi_range1 (by rfl) T.n_range (pa_cons (pv 5) pa_nil)) (pg_name (i := 9) sc_law_names.nd rfl (Or.inl rfl))
  (pss_one (ps_set (i := 8) sc_law_names.nd rfl (Or.inl rfl) (pe_op u_add (pv 8) (pe_ix ix_seq (pv 2) (pe_op u_mod (pe_op u_add (pe_ix ix_seq (pv 3) (pv 9) (fun _ _ => rfl)) (pe_op u_mul (pv 4) (pe_callTy u_int (by rfl) T.n_int (by decide +kernel) (pa_cons (pe_cmpR (u_eq hr.units) (pv 9) (pv 6) (nomark _)) pa_nil)))) pe_int) (fun _ _ => rfl))))))
  (pss_cons (ps_if (PW.pt (pw_and (pt_cmpR (u_eq hr.units) (g_call G_law_mix hr (by decide) takes0 (pa_cons (pv 0) (pa_cons pe_int (pa_cons pe_int pa_nil)))) pe_int (nomark _)) (pw_and1 (pt_cmpR u_lt (pv 1) pe_int (nomark _)))))
  (pss_one (ps_set (i := 8) sc_law_names.nd rfl (Or.inl rfl) (pe_joinU pe_str (pe_lc (own := [("_law_one", 10)]) rfl sc_law_names.nd (pi_list (pe_slice u_sl (pv 3) po_none (po_some (pe_op u_add (pv 4) pe_int)))) (blkOk_by (own := [("_law_one", 10)]) (N := ["_law_cell_here", "_law_many", "_law_letters", "_law_base", "_law_k", "_law_size", "_law_at", "_law_names_here", "_law_name", "_law_j", "_law_one", "_law_turn"]) (sc := defScope (top 20)) (by decide +kernel)) (fun _ _ _ _ _ => (pg_name (i := 10) sc_law_names.nd rfl (Or.inl rfl))) (fun _ _ _ _ _ => pts_nil) (fun _ _ _ _ _ => (pe_ix ix_seq (pv 2) (pv 10) (fun _ _ => rfl)))))))
  pss_nil)
  (pss_one (ps_expr (pe_bm PySem.F.plainAttrs_list PySem.F.slot_list_append PySem.F.type_list_append mt_append (pv 7) (pa_cons (pv 8) pa_nil))))))))
  (pss_cons (ps_set (i := 11) sc_law_names.nd rfl (Or.inl rfl) (g_call G_law_mix hr (by decide) takes0 (pa_cons (pv 0) (pa_cons pe_int (pa_cons (pv 1) pa_nil)))))
  (pss_one (ps_ret (pe_op u_add (pe_slice u_sl (pv 7) (po_some (pv 11)) po_none) (pe_slice u_sl (pv 7) po_none (po_some (pv 11)))))))))))))

theorem sc_law_is_name : FnScope n_law_is_name ["_law_word"] (defScope (top 21)) := ⟨rfl, rfl, rfl, by decide +kernel, rfl, by decide +kernel, by decide +kernel⟩
theorem ok_law_is_name (T : Tx w K mg A)  {f : Addr} {fd : FuncData} (F : FunD K "_law_is_name" "_law_is_name" (defArgs (top 21)) (defBody (top 21)) (defScope (top 21)) [] [] f fd) :
    FnOk P w K mg base (L2.CX P w) 1 f fd ["_law_word"] (sp_law_is_name K A) := by
  refine F.ok sc_law_is_name (len_law_is_name) (fun cdv A0 outer s H vs Q E hr h => ⟨t_law_is_name K A E, ?_, pure_law_is_name T.cs vs H Q E h⟩)
  exact (pss_one (ps_ret (pe_and (pe_chain u_lt u_lt pe_int (pe_callB u_len (by rfl) T.n_len PySem.boot_len (pa_cons (pv 0) pa_nil)) pe_int) (pe_one (pe_callB (cr_all rfl) (by rfl) T.n_all (by decide +kernel) (pa_cons (pe_lc (own := [("_law_sign", 1)]) rfl sc_law_is_name.nd (pi_str (pv 0)) (blkOk_by (own := [("_law_sign", 1)]) (N := ["_law_word", "_law_sign"]) (sc := defScope (top 21)) (by decide +kernel)) (fun _ _ _ _ _ => (pg_name (i := 1) sc_law_is_name.nd rfl (Or.inl rfl))) (fun _ _ _ _ _ => pts_nil) (fun _ _ _ _ _ => (pe_cmpR u_in (pv 1) pe_str rfl))) pa_nil))))))

theorem sc_law_listed : FnScope n_law_listed ["_law_word"] (defScope (top 22)) := ⟨rfl, rfl, rfl, by decide +kernel, rfl, by decide +kernel, by decide +kernel⟩
theorem ok_law_listed (T : Tx w K mg A) (G_law_is_name : GFn P w K mg base 1 "_law_is_name" [] (sp_law_is_name K A)) {f : Addr} {fd : FuncData} (F : FunD K "_law_listed" "_law_listed" (defArgs (top 22)) (defBody (top 22)) (defScope (top 22)) [] [] f fd) :
    FnOk P w K mg base (L2.CX P w) 2 f fd ["_law_word"] (sp_law_listed K A) := by
  refine F.ok sc_law_listed (len_law_listed) (fun cdv A0 outer s H vs Q E hr h => ⟨t_law_listed K A E, ?_, pure_law_listed T.cs vs H Q E h⟩)
  exact (pss_cons (ps_if (pt_cmpR (u_eq hr.units) (pv 0) pe_str (nomark _))
  (pss_one (ps_ret (pe_lst pa_nil)))
  pss_nil)
  (pss_cons (ps_set (i := 1) sc_law_listed.nd rfl (Or.inl rfl) (pe_splitU (pv 0) pe_str))
  (pss_one (ps_ret (pe_ix ix_seq (pe_lst (pa_cons (pv 1) (pa_cons pe_non pa_nil))) (pe_callTy u_int (by rfl) T.n_int (by decide +kernel) (pa_cons (pe_cmpR u_in pe_bl (pe_lc (own := [("_law_name", 2)]) rfl sc_law_listed.nd (pi_list (pv 1)) (blkOk_by (own := [("_law_name", 2)]) (N := ["_law_word", "_law_names_here", "_law_name"]) (sc := defScope (top 22)) (by decide +kernel)) (fun _ _ _ _ _ => (pg_name (i := 2) sc_law_listed.nd rfl (Or.inl rfl))) (fun _ _ _ _ _ => pts_nil) (fun _ _ _ _ _ => (g_call G_law_is_name hr (by decide) takes0 (pa_cons (pv 2) pa_nil)))) rfl) pa_nil)) (fun _ _ => rfl))))))

theorem sc_law_number : FnScope n_law_number ["_law_word"] (defScope (top 23)) := ⟨rfl, rfl, rfl, by decide +kernel, rfl, by decide +kernel, by decide +kernel⟩
theorem ok_law_number (T : Tx w K mg A)  {f : Addr} {fd : FuncData} (F : FunD K "_law_number" "_law_number" (defArgs (top 23)) (defBody (top 23)) (defScope (top 23)) [] [] f fd) :
    FnOk P w K mg base (L2.CX P w) 1 f fd ["_law_word"] (sp_law_number K A) := by
  refine F.ok sc_law_number (len_law_number) (fun cdv A0 outer s H vs Q E hr h => ⟨t_law_number K A E, ?_, pure_law_number T.cs vs H Q E h⟩)
  exact (pss_cons (ps_set (i := 1) sc_law_number.nd rfl (Or.inl rfl) (pe_slice u_sl (pv 0) (po_some (pe_callTy u_int (by rfl) T.n_int (by decide +kernel) (pa_cons (pe_cmpR (u_eq hr.units) (pe_slice u_sl (pv 0) po_none (po_some pe_int)) pe_str (nomark _)) pa_nil))) po_none))
  (pss_cons (ps_if (PW.pt (pw_or (pt_cmpR (u_eq hr.units) (pe_callB u_len (by rfl) T.n_len PySem.boot_len (pa_cons (pv 1) pa_nil)) pe_int (nomark _)) (pw_or (pt_cmpR u_gt (pe_callB u_len (by rfl) T.n_len PySem.boot_len (pa_cons (pv 1) pa_nil)) pe_int (nomark _)) (pw_or1 (pt_cmpR u_in pe_bl (pe_lc (own := [("_law_sign", 2)]) rfl sc_law_number.nd (pi_str (pv 1)) (blkOk_by (own := [("_law_sign", 2)]) (N := ["_law_word", "_law_figures", "_law_sign"]) (sc := defScope (top 23)) (by decide +kernel)) (fun _ _ _ _ _ => (pg_name (i := 2) sc_law_number.nd rfl (Or.inl rfl))) (fun _ _ _ _ _ => pts_nil) (fun _ _ _ _ _ => (pe_cmpR u_in (pv 2) pe_str rfl))) rfl)))))
  (pss_one (ps_ret pe_non))
  pss_nil)
  (pss_cons (ps_if (PW.pt (pw_and (pt_cmpR (u_eq hr.units) (pe_ix ix_seq (pv 1) pe_int (fun _ _ => rfl)) pe_str (nomark _)) (pw_and1 (pt_cmpR (u_ne hr.units) (pv 0) pe_str (nomark _)))))
  (pss_one (ps_ret pe_non))
  pss_nil)
  (pss_one (ps_ret (pe_callTy u_intS (by rfl) T.n_int (by decide +kernel) (pa_cons (pv 0) pa_nil)))))))

theorem sc_law_read : FnScope n_law_read ["_law_word"] (defScope (top 24)) := ⟨rfl, rfl, rfl, by decide +kernel, rfl, by decide +kernel, by decide +kernel⟩
theorem ok_law_read (T : Tx w K mg A) (G_law_number : GFn P w K mg base 1 "_law_number" [] (sp_law_number K A)) (G_law_listed : GFn P w K mg base 2 "_law_listed" [] (sp_law_listed K A)) (G_law_is_name : GFn P w K mg base 1 "_law_is_name" [] (sp_law_is_name K A)) {f : Addr} {fd : FuncData} (F : FunD K "_law_read" "_law_read" (defArgs (top 24)) (defBody (top 24)) (defScope (top 24)) [] [] f fd) :
    FnOk P w K mg base (L2.CX P w) 3 f fd ["_law_word"] (sp_law_read K A) := by
  refine okT F sc_law_read (by decide +kernel) (by decide) (len_law_read) (fun cdv A0 outer s H vs Q E hr h => ⟨t_law_read K A E, ?_, pure_law_read T.cs vs H Q E h⟩)
  exact (psst_cons (PST.of (ps_set (i := 1) sc_law_read.nd rfl (Or.inl rfl) (pe_lst (pa_cons (g_call G_law_listed hr (by decide) takes0 (pa_cons (pv 0) pa_nil)) (pa_cons (g_call G_law_number hr (by decide) takes0 (pa_cons (pv 0) pa_nil)) (pa_cons pe_non (pa_cons pe_non (pa_cons pe_non pa_nil))))))))
  (psst_cons (PST.of (ps_set (i := 2) sc_law_read.nd rfl (Or.inl rfl) (pe_splitU (pv 0) pe_str)))
  (psst_cons (PST.of (ps_if (PW.pt (pw_and (pt_cmpR (u_eq hr.units) (pe_callB u_len (by rfl) T.n_len PySem.boot_len (pa_cons (pv 2) pa_nil)) pe_int (nomark _)) (pw_and (pt_val (g_call G_law_is_name hr (by decide) takes0 (pa_cons (pe_ix ix_seq (pv 2) pe_int (fun _ _ => rfl)) pa_nil))) (pw_and1 (pt_cmpR u_isnot (g_call G_law_listed hr (by decide) takes0 (pa_cons (pe_ix ix_seq (pv 2) pe_int (fun _ _ => rfl)) pa_nil)) pe_non (nomark _))))))
  (pss_one (ps_asg (pe_tup (pa_cons (pe_ix ix_seq (pv 2) pe_int (fun _ _ => rfl)) (pa_cons (g_call G_law_listed hr (by decide) takes0 (pa_cons (pe_ix ix_seq (pv 2) pe_int (fun _ _ => rfl)) pa_nil)) pa_nil))) (pg_sub (pv 1) pe_int set_list)))
  pss_nil))
  (psst_cons (pst_set (i := 2) sc_law_read.nd rfl (Or.inl rfl) (pet_splitU (CwR.pet_replC (pv 0)) pe_str))
  (psst_cons (PST.of (ps_if (PW.pt (pw_and (pt_cmpR (u_eq hr.units) (pe_callB u_len (by rfl) T.n_len PySem.boot_len (pa_cons (pv 2) pa_nil)) pe_int (nomark _)) (pw_and (pt_cmpR (u_eq hr.units) (pe_countU (pv 0) pe_str) pe_int (nomark _)) (pw_and1 (pt_cmpR u_lt (pe_findU (pv 0) pe_str) (pe_findU (pv 0) pe_str) (nomark _))))))
  (pss_one (ps_if (PW.pt (pw_and (pt_val (g_call G_law_is_name hr (by decide) takes0 (pa_cons (pe_ix ix_seq (pv 2) pe_int (fun _ _ => rfl)) pa_nil))) (pw_and (pt_val (g_call G_law_is_name hr (by decide) takes0 (pa_cons (pe_ix ix_seq (pv 2) pe_int (fun _ _ => rfl)) pa_nil))) (pw_and1 (pt_cmpR u_in (pe_ix ix_seq (pv 2) pe_int (fun _ _ => rfl)) (pe_tup (pa_cons pe_str (pa_cons pe_str (pa_cons pe_str (pa_cons pe_str pa_nil))))) rfl)))))
  (pss_one (ps_asg (pe_tup (pa_cons (pe_ix ix_seq (pv 2) pe_int (fun _ _ => rfl)) (pa_cons (pe_ix ix_seq (pv 2) pe_int (fun _ _ => rfl)) (pa_cons (pe_dget1 (hu_of hr) (pe_disp (pps_cons pe_str pe_int (pps_cons pe_str pe_int (pps_cons pe_str pe_int pps_nil))) (by rfl) (by rfl) (fun z => by cases z) (by decide)) (pe_ix ix_seq (pv 2) pe_int (fun _ _ => rfl)) ⟨rfl, rfl, rfl, rfl⟩) pa_nil)))) (pg_sub (pv 1) pe_int set_list)))
  pss_nil))
  pss_nil))
  (psst_cons (pst_set (i := 2) sc_law_read.nd rfl (Or.inl rfl) (pet_splitU (CwR.pet_replC (pv 0)) pe_str))
  (psst_cons (PST.of (ps_if (PW.pt (pw_and (pt_cmpR (u_eq hr.units) (pe_callB u_len (by rfl) T.n_len PySem.boot_len (pa_cons (pv 2) pa_nil)) pe_int (nomark _)) (pw_and (pt_cmpR (u_eq hr.units) (pe_countU (pv 0) pe_str) pe_int (nomark _)) (pw_and1 (pt_cmpR u_lt (pe_findU (pv 0) pe_str) (pe_findU (pv 0) pe_str) (nomark _))))))
  (pss_one (ps_if (PW.pt (pw_and (pt_cmpR u_isnot (g_call G_law_listed hr (by decide) takes0 (pa_cons (pe_ix ix_seq (pv 2) pe_int (fun _ _ => rfl)) pa_nil)) pe_non (nomark _)) (pw_and1 (pt_cmpR u_in (pe_ix ix_seq (pv 2) pe_int (fun _ _ => rfl)) (pe_tup (pa_cons pe_str (pa_cons pe_str (pa_cons pe_str pa_nil)))) rfl))))
  (pss_one (ps_if (PW.pt (pw_or (pt_cmpR (u_eq hr.units) (pe_ix ix_seq (pv 2) pe_int (fun _ _ => rfl)) pe_str (nomark _)) (pw_or1 (pt_val (g_call G_law_is_name hr (by decide) takes0 (pa_cons (pe_ix ix_seq (pv 2) pe_int (fun _ _ => rfl)) pa_nil))))))
  (pss_cons (ps_set (i := 3) sc_law_read.nd rfl (Or.inl rfl) (pe_ix ix_seq (pe_lst (pa_cons (pe_ix ix_seq (pv 2) pe_int (fun _ _ => rfl)) (pa_cons pe_non pa_nil))) (pe_callTy u_int (by rfl) T.n_int (by decide +kernel) (pa_cons (pe_cmpR (u_eq hr.units) (pe_ix ix_seq (pv 2) pe_int (fun _ _ => rfl)) pe_str (nomark _)) pa_nil)) (fun _ _ => rfl)))
  (pss_one (ps_asg (pe_tup (pa_cons (pe_callTy u_tuple (by rfl) T.n_tuple (by decide +kernel) (pa_cons (g_call G_law_listed hr (by decide) takes0 (pa_cons (pe_ix ix_seq (pv 2) pe_int (fun _ _ => rfl)) pa_nil)) pa_nil)) (pa_cons (pv 3) (pa_cons (pe_callTy u_intS (by rfl) T.n_int (by decide +kernel) (pa_cons (pe_ix ix_seq (pv 2) pe_int (fun _ _ => rfl)) pa_nil)) pa_nil)))) (pg_sub (pv 1) pe_int set_list))))
  pss_nil))
  pss_nil))
  pss_nil))
  (psst_last (PST.of (ps_ret (pv 1)))))))))))

theorem sc_law_alike : FnScope n_law_alike ["_law_found", "_law_due"] (defScope (top 25)) := ⟨rfl, rfl, rfl, by decide +kernel, rfl, by decide +kernel, by decide +kernel⟩
theorem ok_law_alike (T : Tx w K mg A) {n : Nat} (G_law_alike : GFn P w K mg base (4 + n) "_law_alike" [] (sp_law_alikeN n K A))  {f : Addr} {fd : FuncData} (F : FunD K "_law_alike" "_law_alike" (defArgs (top 25)) (defBody (top 25)) (defScope (top 25)) [] [] f fd) :
    FnOk P w K mg base (L2.CX P w) (4 + n + 1) f fd ["_law_found", "_law_due"] (sp_law_alikeN (n + 1) K A) := by
  refine F.ok sc_law_alike (len_law_alike) (fun cdv A0 outer s H vs Q E hr h => ⟨t_law_alike n K A E, ?_, pure_law_alike T.cs vs H Q E h⟩)
  exact (pss_cons (ps_if (PW.pt (pw_or (pt_cmpR u_is (pv 1) pe_non (nomark _)) (pw_or1 (pt_cmpR u_is (pv 0) pe_non (nomark _)))))
  (pss_one (ps_ret (pe_and (pe_cmpR u_is (pv 0) pe_non (nomark _)) (pe_one (pe_cmpR u_is (pv 1) pe_non (nomark _))))))
  pss_nil)
  (pss_cons (ps_if (pt_val (pe_callB call_isiT (by rfl) T.n_isinstance (by decide +kernel) (pa_cons (pv 1) (pa_cons (pe_tup (pa_cons (pe_bltn (v := .ty "list") (by rfl) T.n_list (by decide +kernel) rfl) (pa_cons (pe_bltn (v := .ty "tuple") (by rfl) T.n_tuple (by decide +kernel) rfl) pa_nil))) pa_nil))))
  (pss_cons (ps_if (PW.pt (pw_or (pt_cmpR (u_ne hr.units) (pe_callB call_isi (by rfl) T.n_isinstance (by decide +kernel) (pa_cons (pv 0) (pa_cons (pe_bltn (v := .ty "list") (by rfl) T.n_list (by decide +kernel) rfl) pa_nil))) (pe_callB call_isi (by rfl) T.n_isinstance (by decide +kernel) (pa_cons (pv 1) (pa_cons (pe_bltn (v := .ty "list") (by rfl) T.n_list (by decide +kernel) rfl) pa_nil))) (nomark _)) (pw_or1 (pt_cmpR (u_ne hr.units) (pe_callB call_isi (by rfl) T.n_isinstance (by decide +kernel) (pa_cons (pv 0) (pa_cons (pe_bltn (v := .ty "tuple") (by rfl) T.n_tuple (by decide +kernel) rfl) pa_nil))) (pe_callB call_isi (by rfl) T.n_isinstance (by decide +kernel) (pa_cons (pv 1) (pa_cons (pe_bltn (v := .ty "tuple") (by rfl) T.n_tuple (by decide +kernel) rfl) pa_nil))) (nomark _)))))
  (pss_one (ps_ret pe_bl))
  pss_nil)
  (pss_one (ps_ret (pe_and (pe_cmpR (u_eq hr.units) (pe_callB u_len (by rfl) T.n_len PySem.boot_len (pa_cons (pv 0) pa_nil)) (pe_callB u_len (by rfl) T.n_len PySem.boot_len (pa_cons (pv 1) pa_nil)) (nomark _)) (pe_one (pe_callB (cr_all rfl) (by rfl) T.n_all (by decide +kernel) (pa_cons (pe_lc (own := [("_law_one", 2), ("_law_other", 3)]) rfl sc_law_alike.nd (pi_zipA (by rfl) T.n_zip (pa_cons (pv 0) (pa_cons (pv 1) pa_nil))) (blkOk_by (own := [("_law_one", 2), ("_law_other", 3)]) (N := ["_law_found", "_law_due", "_law_one", "_law_other"]) (sc := defScope (top 25)) (by decide +kernel)) (fun _ _ _ _ _ => (pg_tup rfl (pgs_cons (pg_name (i := 2) sc_law_alike.nd rfl (Or.inl rfl)) (pgs_cons (pg_name (i := 3) sc_law_alike.nd rfl (Or.inl rfl)) pgs_nil)))) (fun _ _ _ _ _ => pts_nil) (fun _ _ _ _ _ => (g_call G_law_alike hr (Nat.le_refl _) takes0 (pa_cons (pv 2) (pa_cons (pv 3) pa_nil))))) pa_nil)))))))
  pss_nil)
  (pss_cons (ps_if (pt_val (pe_callB call_isi (by rfl) T.n_isinstance (by decide +kernel) (pa_cons (pv 1) (pa_cons (pe_bltn (v := .ty "str") (by rfl) T.n_str (by decide +kernel) rfl) pa_nil))))
  (pss_one (ps_ret (pe_and (pe_callB call_isi (by rfl) T.n_isinstance (by decide +kernel) (pa_cons (pv 0) (pa_cons (pe_bltn (v := .ty "str") (by rfl) T.n_str (by decide +kernel) rfl) pa_nil))) (pe_one (pe_cmpR (u_eq hr.units) (pv 0) (pv 1) (nomark _))))))
  pss_nil)
  (pss_one (ps_ret (pe_and (pe_callB call_isi (by rfl) T.n_isinstance (by decide +kernel) (pa_cons (pv 0) (pa_cons (pe_bltn (v := .ty "int") (by rfl) T.n_int (by decide +kernel) rfl) pa_nil))) (pe_and (pe_not (pe_callB call_isi (by rfl) T.n_isinstance (by decide +kernel) (pa_cons (pv 0) (pa_cons (pe_bltn (v := .ty "bool") (by rfl) T.n_bool (by decide +kernel) rfl) pa_nil)))) (pe_one (pe_cmpR (u_eq hr.units) (pv 0) (pv 1) (nomark _))))))))))

theorem sc_law_told : FnScope n_law_told ["_law_word"] (defScope (top 26)) := ⟨rfl, rfl, rfl, by decide +kernel, rfl, by decide +kernel, by decide +kernel⟩
theorem ok_law_told (T : Tx w K mg A) (G_read_paper : GFn P w K mg base 3 "read_paper" [] (sp_read_paper K A)) (G_read_fact : GFn P w K mg base 2 "read_fact" [] (sp_read_fact K A)) (G_read_turn : GFn P w K mg base 3 "read_turn" [] (sp_read_turn K A)) (G_read_whole : GFn P w K mg base 2 "read_whole" [] (sp_read_whole K A)) (G_read_names : GFn P w K mg base 2 "read_names" [] (sp_read_names K A)) {f : Addr} {fd : FuncData} (F : FunD K "_law_told" "_law_told" (defArgs (top 26)) (defBody (top 26)) (defScope (top 26)) [] [] f fd) :
    FnOk P w K mg base (L2.CX P w) 4 f fd ["_law_word"] (sp_law_told K A) := by
  refine F.ok sc_law_told (len_law_told) (fun cdv A0 outer s H vs Q E hr h => ⟨t_law_told K A E, ?_, pure_law_told T.cs vs H Q E h⟩)
  exact (pss_one (ps_ret (pe_lst (pa_cons (g_call G_read_names hr (by decide) takes0 (pa_cons (pv 0) pa_nil)) (pa_cons (g_call G_read_whole hr (by decide) takes0 (pa_cons (pv 0) pa_nil)) (pa_cons (g_call G_read_turn hr (by decide) takes0 (pa_cons (pv 0) pa_nil)) (pa_cons (g_call G_read_fact hr (by decide) takes0 (pa_cons (pv 0) pa_nil)) (pa_cons (g_call G_read_paper hr (by decide) takes0 (pa_cons (pv 0) pa_nil)) pa_nil))))))))

theorem sc_law_right : FnScope n_law_right ["_law_word"] (defScope (top 27)) := ⟨rfl, rfl, rfl, by decide +kernel, rfl, by decide +kernel, by decide +kernel⟩
theorem ok_law_right (T : Tx w K mg A) (G_law_alike : GFn P w K mg base 8 "_law_alike" [] (sp_law_alike K A)) (G_law_told : GFn P w K mg base 4 "_law_told" [] (sp_law_told K A)) (G_law_read : GFn P w K mg base 3 "_law_read" [] (sp_law_read K A)) (G_show_names : GFn P w K mg base 1 "show_names" [] (sp_show_names K A)) (G_show_paper : GFn P w K mg base 2 "show_paper" [] (sp_show_paper K A)) {f : Addr} {fd : FuncData} (F : FunD K "_law_right" "_law_right" (defArgs (top 27)) (defBody (top 27)) (defScope (top 27)) [] [] f fd) :
    FnOk P w K mg base (L2.CX P w) 9 f fd ["_law_word"] (sp_law_right K A) := by
  refine F.ok sc_law_right (len_law_right) (fun cdv A0 outer s H vs Q E hr h => ⟨t_law_right K A E, ?_, pure_law_right T.cs vs H Q E h⟩)
  exact (pss_cons (ps_set (i := 1) sc_law_right.nd rfl (Or.inl rfl) (g_call G_law_read hr (by decide) takes0 (pa_cons (pv 0) pa_nil)))
  (pss_cons (ps_set (i := 2) sc_law_right.nd rfl (Or.inl rfl) (g_call G_law_told hr (by decide) takes0 (pa_cons (pv 0) pa_nil)))
  (pss_cons (ps_if (pt_not (pt_val (g_call G_law_alike hr (by decide) takes0 (pa_cons (pv 2) (pa_cons (pv 1) pa_nil)))))
  (pss_one (ps_ret pe_bl))
  pss_nil)
  (pss_cons (ps_if (pt_cmpR u_isnot (pe_ix ix_seq (pv 1) pe_int (fun _ _ => rfl)) pe_non (nomark _))
  (pss_cons (ps_expr (pe_bm PySem.F.plainAttrs_list PySem.F.slot_list_append PySem.F.type_list_append mt_append (pe_ix ix_seq (pv 2) pe_int (fun _ _ => rfl)) (pa_cons pe_str pa_nil)))
  (pss_one (ps_if (PW.pt (pw_or (pt_cmpR (u_ne hr.units) (g_call G_show_names hr (by decide) takes0 (pa_cons (pe_ix ix_seq (pv 1) pe_int (fun _ _ => rfl)) pa_nil)) (pv 0) (nomark _)) (pw_or1 (pt_cmpR (u_ne hr.units) (g_call G_show_names hr (by decide) takes0 (pa_cons (pe_callTy u_tuple (by rfl) T.n_tuple (by decide +kernel) (pa_cons (pe_ix ix_seq (pv 1) pe_int (fun _ _ => rfl)) pa_nil)) pa_nil)) (pv 0) (nomark _)))))
  (pss_one (ps_ret pe_bl))
  pss_nil)))
  pss_nil)
  (pss_cons (ps_if (PW.pt (pw_and (pt_cmpR u_isnot (pe_ix ix_seq (pv 1) pe_int (fun _ _ => rfl)) pe_non (nomark _)) (pw_and1 (pt_cmpR (u_ne hr.units) (g_call G_show_paper hr (by decide) takes0 (pa_cons (pe_ix ix_seq (pv 2) pe_int (fun _ _ => rfl)) pa_nil)) (pv 0) (nomark _)))))
  (pss_one (ps_ret pe_bl))
  pss_nil)
  (pss_one (ps_ret (g_call G_law_alike hr (by decide) takes0 (pa_cons (g_call G_law_told hr (by decide) takes0 (pa_cons (pv 0) pa_nil)) (pa_cons (pv 1) pa_nil))))))))))

theorem sc_law_words : FnScope n_law_words ["_law_cell_here"] (defScope (top 28)) := ⟨rfl, rfl, rfl, by decide +kernel, rfl, by decide +kernel, by decide +kernel⟩
theorem ok_law_words (T : Tx w K mg A) (G_law_mix : GFn P w K mg base 1 "_law_mix" [] (sp_law_mix K A)) (G_law_names : GFn P w K mg base 2 "_law_names" [] (sp_law_names K A)) {f : Addr} {fd : FuncData} (F : FunD K "_law_words" "_law_words" (defArgs (top 28)) (defBody (top 28)) (defScope (top 28)) [] [] f fd) :
    FnOk P w K mg base (L2.CX P w) 3 f fd ["_law_cell_here"] (sp_law_words K A) := by
  refine F.ok sc_law_words (len_law_words) (fun cdv A0 outer s H vs Q E hr h => ⟨t_law_words K A E, ?_, pure_law_words T.cs vs H Q E h⟩)
  exact (pss_cons (ps_set (i := 1) sc_law_words.nd rfl (Or.inl rfl) (g_call G_law_names hr (by decide) takes0 (pa_cons (pv 0) (pa_cons pe_int pa_nil))))
  (pss_cons (ps_set (i := 2) sc_law_words.nd rfl (Or.inl rfl) (pe_joinU pe_str (pe_slice u_sl (pv 1) po_none (po_some (g_call G_law_mix hr (by decide) takes0 (pa_cons (pv 0) (pa_cons pe_int (pa_cons pe_int pa_nil))))))))
  (pss_cons (ps_if (pt_cmpR (u_eq hr.units) (pv 2) pe_str (nomark _))
  (pss_one (ps_set (i := 2) sc_law_words.nd rfl (Or.inl rfl) pe_str))
  pss_nil)
  (pss_cons (ps_set (i := 3) sc_law_words.nd rfl (Or.inl rfl) (pe_ix ix_seq (pe_lst (pa_cons pe_int (pa_cons pe_int (pa_cons (pe_op u_pow pe_int pe_int) (pa_cons (pe_op u_pow pe_int pe_int) pa_nil))))) (g_call G_law_mix hr (by decide) takes0 (pa_cons (pv 0) (pa_cons pe_int (pa_cons pe_int pa_nil)))) (fun _ _ => rfl)))
  (pss_cons (ps_set (i := 4) sc_law_words.nd rfl (Or.inl rfl) (pe_ix ix_seq (pe_lst (pa_cons (pe_op u_mod (pe_op u_div (pv 0) pe_int) (pv 3)) (pa_cons pe_int (pa_cons (pe_op u_sub (pv 3) pe_int) (pa_cons (pe_op u_mod (pe_op u_mul (pv 0) (pe_op u_pow pe_int pe_int)) (pv 3)) pa_nil))))) (g_call G_law_mix hr (by decide) takes0 (pa_cons (pv 0) (pa_cons pe_int (pa_cons pe_int pa_nil)))) (fun _ _ => rfl)))
  (pss_cons (ps_set (i := 5) sc_law_words.nd rfl (Or.inl rfl) (pe_ix ix_seq (pe_lst (pa_cons pe_str (pa_cons pe_str pa_nil))) (pe_callTy u_int (by rfl) T.n_int (by decide +kernel) (pa_cons (pe_and (pe_cmpR (u_eq hr.units) (g_call G_law_mix hr (by decide) takes0 (pa_cons (pv 0) (pa_cons pe_int (pa_cons pe_int pa_nil)))) pe_int (nomark _)) (pe_one (pe_cmpR u_gt (pv 4) pe_int (nomark _)))) pa_nil)) (fun _ _ => rfl)))
  (pss_cons (ps_set (i := 6) sc_law_words.nd rfl (Or.inl rfl) (pe_ix ix_seq pe_str (g_call G_law_mix hr (by decide) takes0 (pa_cons (pv 0) (pa_cons pe_int (pa_cons pe_int pa_nil)))) (fun _ _ => rfl)))
  (pss_cons (ps_set (i := 7) sc_law_words.nd rfl (Or.inl rfl) (pe_ix ix_seq (pe_op u_add (pe_op u_mul (pe_lst (pa_cons (pe_ix ix_seq (pv 1) pe_int (fun _ _ => rfl)) pa_nil)) pe_int) (pe_lst (pa_cons pe_str pa_nil))) (g_call G_law_mix hr (by decide) takes0 (pa_cons (pv 0) (pa_cons pe_int (pa_cons pe_int pa_nil)))) (fun _ _ => rfl)))
  (pss_cons (ps_set (i := 8) sc_law_words.nd rfl (Or.inl rfl) (pe_lst (pa_cons (pv 2) (pa_cons (pe_op u_add (pv 5) (pe_callTy u_strI (by rfl) T.n_str (by decide +kernel) (pa_cons (pv 4) pa_nil))) (pa_cons (pe_op u_add (pe_op u_add (pe_ix ix_seq (pv 1) pe_int (fun _ _ => rfl)) pe_str) (pv 2)) (pa_cons (pe_op u_add (pe_op u_add (pe_op u_add (pe_op u_add (pe_ix ix_seq (pv 1) pe_int (fun _ _ => rfl)) pe_str) (pe_ix ix_seq (pv 1) pe_int (fun _ _ => rfl))) pe_str) (pv 6)) pa_nil))))))
  (pss_one (ps_ret (pe_op u_add (pv 8) (pe_lst (pa_cons (pe_op u_add (pe_op u_add (pe_op u_add (pe_op u_add (pv 2) pe_str) (pv 7)) pe_str) (pe_ix ix_seq pe_str (g_call G_law_mix hr (by decide) takes0 (pa_cons (pv 0) (pa_cons pe_int (pa_cons pe_int pa_nil)))) (fun _ _ => rfl))) pa_nil))))))))))))))

theorem sc_law_spoilt : FnScope n_law_spoilt ["_law_word", "_law_cell_here", "_law_turn"] (defScope (top 29)) := ⟨rfl, rfl, rfl, by decide +kernel, rfl, by decide +kernel, by decide +kernel⟩
theorem ok_law_spoilt (T : Tx w K mg A) (G_law_mix : GFn P w K mg base 1 "_law_mix" [] (sp_law_mix K A)) {f : Addr} {fd : FuncData} (F : FunD K "_law_spoilt" "_law_spoilt" (defArgs (top 29)) (defBody (top 29)) (defScope (top 29)) [] [] f fd) :
    FnOk P w K mg base (L2.CX P w) 2 f fd ["_law_word", "_law_cell_here", "_law_turn"] (sp_law_spoilt K A) := by
  refine F.ok sc_law_spoilt (len_law_spoilt) (fun cdv A0 outer s H vs Q E hr h => ⟨t_law_spoilt K A E, ?_, pure_law_spoilt T.cs vs H Q E h⟩)
  exact (pss_cons (ps_set (i := 3) sc_law_spoilt.nd rfl (Or.inl rfl) pe_str)
  (pss_cons (ps_set (i := 4) sc_law_spoilt.nd rfl (Or.inl rfl) (pe_ix ix_seq (pv 3) (g_call G_law_mix hr (by decide) takes0 (pa_cons (pv 1) (pa_cons (pv 2) (pa_cons (pe_callB u_len (by rfl) T.n_len PySem.boot_len (pa_cons (pv 3) pa_nil)) pa_nil)))) (fun _ _ => rfl)))
  (pss_cons (ps_set (i := 5) sc_law_spoilt.nd rfl (Or.inl rfl) (g_call G_law_mix hr (by decide) takes0 (pa_cons (pv 1) (pa_cons (pe_op u_add (pv 2) pe_int) (pa_cons (pe_callB u_len (by rfl) T.n_len PySem.boot_len (pa_cons (pv 0) pa_nil)) pa_nil)))))
  (pss_cons (ps_set (i := 6) sc_law_spoilt.nd rfl (Or.inl rfl) (pe_lst (pa_cons (pe_op u_add (pe_op u_add (pe_slice u_sl (pv 0) po_none (po_some (pv 5))) (pv 4)) (pe_slice u_sl (pv 0) (po_some (pv 5)) po_none)) (pa_cons (pe_op u_add (pe_op u_add (pe_slice u_sl (pv 0) po_none (po_some (pv 5))) (pv 4)) (pe_slice u_sl (pv 0) (po_some (pe_op u_add (pv 5) pe_int)) po_none)) (pa_cons (pe_op u_add (pe_slice u_sl (pv 0) po_none (po_some (pv 5))) (pe_slice u_sl (pv 0) (po_some (pe_op u_add (pv 5) pe_int)) po_none)) (pa_cons (pe_op u_add (pv 0) (pv 4)) pa_nil))))))
  (pss_one (ps_ret (pe_op u_add (pv 6) (pe_lst (pa_cons (pe_op u_add (pv 4) (pv 0)) (pa_cons (pe_op u_add (pv 0) (pv 0)) (pa_cons (pe_op u_add (pe_op u_add (pv 0) pe_str) (pv 0)) (pa_cons (pe_op u_add pe_str (pv 0)) pa_nil))))))))))))

theorem sc_law_rows : FnScope n_law_rows ["_law_cell_here", "_law_words_here"] (defScope (top 30)) := ⟨rfl, rfl, rfl, by decide +kernel, rfl, by decide +kernel, by decide +kernel⟩
theorem ok_law_rows (T : Tx w K mg A) (G_law_mix : GFn P w K mg base 1 "_law_mix" [] (sp_law_mix K A)) (G_law_alike : GFn P w K mg base 8 "_law_alike" [] (sp_law_alike K A)) (G_read_row : GFn P w K mg base 1 "read_row" [] (sp_read_row K A)) {f : Addr} {fd : FuncData} (F : FunD K "_law_rows" "_law_rows" (defArgs (top 30)) (defBody (top 30)) (defScope (top 30)) [] [] f fd) :
    FnOk P w K mg base (L2.CX P w) 9 f fd ["_law_cell_here", "_law_words_here"] (sp_law_rows K A) := by
  refine okT F sc_law_rows (by decide +kernel) (by decide) (len_law_rows) (fun cdv A0 outer s H vs Q E hr h => ⟨t_law_rows K A E, ?_, pure_law_rows T.cs vs H Q E h⟩)
  exact (psst_cons (PST.of (ps_set (i := 2) sc_law_rows.nd rfl (Or.inl rfl) (pe_joinU pe_str (pe_slice u_sl (pv 1) po_none (po_some (g_call G_law_mix hr (by decide) takes0 (pa_cons (pv 0) (pa_cons pe_int (pa_cons pe_int pa_nil)))))))))
  (psst_cons (pst_set (i := 3) sc_law_rows.nd rfl (Or.inl rfl) (pet_lst (pat_cons (PETof (pv 2)) (pat_cons (PETof (pe_op u_add (pv 2) pe_str)) (pat_cons (PETof (pe_op u_add pe_str (pv 2))) (pat_cons (CwR.pet_replC (pv 2)) pat_nil))))))
  (psst_cons (PST.of (ps_for (passes_of rfl) rfl (pi_list (pv 3)) (pg_name (i := 4) sc_law_rows.nd rfl (Or.inl rfl))
  (pss_cons (ps_set (i := 5) sc_law_rows.nd rfl (Or.inl rfl) (g_call G_read_row hr (by decide) takes0 (pa_cons (pv 4) pa_nil)))
  (pss_one (ps_if (pt_not (pt_val (g_call G_law_alike hr (by decide) takes0 (pa_cons (pv 5) (pa_cons (pe_callTy u_tuple (by rfl) T.n_tuple (by decide +kernel) (pa_cons (pe_splitU (pv 4) pe_str) pa_nil)) pa_nil)))))
  (pss_one (ps_ret pe_bl))
  pss_nil)))))
  (psst_last (PST.of (ps_ret pe_bl))))))

theorem sc_law_main : FnScope n_law_main ["_law_script"] (defScope (top 31)) := ⟨rfl, rfl, rfl, by decide +kernel, rfl, by decide +kernel, by decide +kernel⟩
theorem ok_law_main (T : Tx w K mg A) (G_law_right : GFn P w K mg base 9 "_law_right" [] (sp_law_right K A)) (G_law_spoilt : GFn P w K mg base 2 "_law_spoilt" [] (sp_law_spoilt K A)) (G_law_words : GFn P w K mg base 3 "_law_words" [] (sp_law_words K A)) (G_law_rows : GFn P w K mg base 9 "_law_rows" [] (sp_law_rows K A)) {f : Addr} {fd : FuncData} (F : FunD K "law" "law" (defArgs (top 31)) (defBody (top 31)) (defScope (top 31)) [] [] f fd) :
    FnOk P w K mg base (L2.CX P w) 10 f fd ["_law_script"] (sp_law_main K A) := by
  refine F.ok sc_law_main (len_law_main) (fun cdv A0 outer s H vs Q E hr h => ⟨t_law_main K A E, ?_, pure_law_main T.cs vs H Q E h⟩)
  exact (pss_cons (ps_for (passes_of rfl) rfl (pi_list (pe_op u_add (pe_slice u_sl (pv 0) po_none (po_some pe_int)) (pe_lst (pa_cons pe_int (pa_cons pe_int (pa_cons pe_int pa_nil)))))) (pg_name (i := 1) sc_law_main.nd rfl (Or.inl rfl))
  (pss_cons (ps_set (i := 2) sc_law_main.nd rfl (Or.inl rfl) (g_call G_law_words hr (by decide) takes0 (pa_cons (pv 1) pa_nil)))
  (pss_cons (ps_if (pt_not (pt_val (g_call G_law_rows hr (by decide) takes0 (pa_cons (pv 1) (pa_cons (pv 2) pa_nil)))))
  (pss_one (ps_ret pe_bl))
  pss_nil)
  (pss_one (ps_for (passes_of rfl) rfl (pi_range1 (by rfl) T.n_range (pa_cons (pe_callB u_len (by rfl) T.n_len PySem.boot_len (pa_cons (pv 2) pa_nil)) pa_nil)) (pg_name (i := 3) sc_law_main.nd rfl (Or.inl rfl))
  (pss_cons (ps_if (pt_not (pt_val (g_call G_law_right hr (by decide) takes0 (pa_cons (pe_ix ix_seq (pv 2) (pv 3) (fun _ _ => rfl)) pa_nil))))
  (pss_one (ps_ret pe_bl))
  pss_nil)
  (pss_one (ps_for (passes_of rfl) rfl (pi_list (g_call G_law_spoilt hr (by decide) takes0 (pa_cons (pe_ix ix_seq (pv 2) (pv 3) (fun _ _ => rfl)) (pa_cons (pv 1) (pa_cons (pe_op u_add pe_int (pe_op u_mul pe_int (pv 3))) pa_nil))))) (pg_name (i := 4) sc_law_main.nd rfl (Or.inl rfl))
  (pss_one (ps_if (pt_not (pt_val (g_call G_law_right hr (by decide) takes0 (pa_cons (pv 4) pa_nil))))
  (pss_one (ps_ret pe_bl))
  pss_nil))))))))))
  (pss_one (ps_ret (pe_and (g_call G_law_right hr (by decide) takes0 (pa_cons pe_str pa_nil)) (pe_and (g_call G_law_right hr (by decide) takes0 (pa_cons pe_str pa_nil)) (pe_and (g_call G_law_right hr (by decide) takes0 (pa_cons pe_str pa_nil)) (pe_and (g_call G_law_right hr (by decide) takes0 (pa_cons pe_str pa_nil)) (pe_one (g_call G_law_right hr (by decide) takes0 (pa_cons pe_str pa_nil))))))))))

end
end TG

set_option maxHeartbeats 0
namespace TG
open PySem PySem.Spec PyProof.Rows L2 DL
def topNames : List PySem.Str := ([Str.ofString "LETTERS", Str.ofString "LONGEST", Str.ofString "is_name", Str.ofString "FIGURES", Str.ofString "MOST_FIGURES", Str.ofString "STRENGTHS", Str.ofString "read_row", Str.ofString "read_names", Str.ofString "is_written", Str.ofString "read_whole", Str.ofString "read_turn", Str.ofString "read_fact", Str.ofString "read_paper", Str.ofString "show_names", Str.ofString "show_paper", Str.ofString "_law_cell", Str.ofString "_law_mix", Str.ofString "_law_names", Str.ofString "_law_is_name", Str.ofString "_law_listed", Str.ofString "_law_number", Str.ofString "_law_read", Str.ofString "_law_alike", Str.ofString "_law_told", Str.ofString "_law_right", Str.ofString "_law_words", Str.ofString "_law_spoilt", Str.ofString "_law_rows"] : List PySem.Str)
def d0 : He.DefD := ⟨("is_name", none), "is_name", "is_name", defArgs (top 3), defBody (top 3), defScope (top 3), [], []⟩
def d1 : He.DefD := ⟨("read_row", none), "read_row", "read_row", defArgs (top 8), defBody (top 8), defScope (top 8), [], []⟩
def d2 : He.DefD := ⟨("read_names", none), "read_names", "read_names", defArgs (top 9), defBody (top 9), defScope (top 9), [], []⟩
def d3 : He.DefD := ⟨("is_written", none), "is_written", "is_written", defArgs (top 10), defBody (top 10), defScope (top 10), [], []⟩
def d4 : He.DefD := ⟨("read_whole", none), "read_whole", "read_whole", defArgs (top 11), defBody (top 11), defScope (top 11), [], []⟩
def d5 : He.DefD := ⟨("read_turn", none), "read_turn", "read_turn", defArgs (top 12), defBody (top 12), defScope (top 12), [], []⟩
def d6 : He.DefD := ⟨("read_fact", none), "read_fact", "read_fact", defArgs (top 13), defBody (top 13), defScope (top 13), [], []⟩
def d7 : He.DefD := ⟨("read_paper", none), "read_paper", "read_paper", defArgs (top 14), defBody (top 14), defScope (top 14), [], []⟩
def d8 : He.DefD := ⟨("show_names", none), "show_names", "show_names", defArgs (top 15), defBody (top 15), defScope (top 15), [], []⟩
def d9 : He.DefD := ⟨("show_paper", none), "show_paper", "show_paper", defArgs (top 16), defBody (top 16), defScope (top 16), [], []⟩
def d10 : He.DefD := ⟨("_law_mix", none), "_law_mix", "_law_mix", defArgs (top 19), defBody (top 19), defScope (top 19), [], []⟩
def d11 : He.DefD := ⟨("_law_names", none), "_law_names", "_law_names", defArgs (top 20), defBody (top 20), defScope (top 20), [], []⟩
def d12 : He.DefD := ⟨("_law_is_name", none), "_law_is_name", "_law_is_name", defArgs (top 21), defBody (top 21), defScope (top 21), [], []⟩
def d13 : He.DefD := ⟨("_law_listed", none), "_law_listed", "_law_listed", defArgs (top 22), defBody (top 22), defScope (top 22), [], []⟩
def d14 : He.DefD := ⟨("_law_number", none), "_law_number", "_law_number", defArgs (top 23), defBody (top 23), defScope (top 23), [], []⟩
def d15 : He.DefD := ⟨("_law_read", none), "_law_read", "_law_read", defArgs (top 24), defBody (top 24), defScope (top 24), [], []⟩
def d16 : He.DefD := ⟨("_law_alike", none), "_law_alike", "_law_alike", defArgs (top 25), defBody (top 25), defScope (top 25), [], []⟩
def d17 : He.DefD := ⟨("_law_told", none), "_law_told", "_law_told", defArgs (top 26), defBody (top 26), defScope (top 26), [], []⟩
def d18 : He.DefD := ⟨("_law_right", none), "_law_right", "_law_right", defArgs (top 27), defBody (top 27), defScope (top 27), [], []⟩
def d19 : He.DefD := ⟨("_law_words", none), "_law_words", "_law_words", defArgs (top 28), defBody (top 28), defScope (top 28), [], []⟩
def d20 : He.DefD := ⟨("_law_spoilt", none), "_law_spoilt", "_law_spoilt", defArgs (top 29), defBody (top 29), defScope (top 29), [], []⟩
def d21 : He.DefD := ⟨("_law_rows", none), "_law_rows", "_law_rows", defArgs (top 30), defBody (top 30), defScope (top 30), [], []⟩
def d22 : He.DefD := ⟨("law", none), "law", "law", defArgs (top 31), defBody (top 31), defScope (top 31), [], []⟩
def fn : List He.DefD := [d0, d1, d2, d3, d4, d5, d6, d7, d8, d9, d10, d11, d12, d13, d14, d15, d16, d17, d18, d19, d20, d21, d22]
def fa : List He.Fa := [.free "all", .free "bool", .free "int", .free "isinstance", .free "len", .free "list", .free "range", .free "str", .free "tuple", .free "zip", .str "FIGURES" "0123456789", .str "LETTERS" "abcdefghijklmnopqrstuvwxyz", .int "LONGEST" 8, .int "MOST_FIGURES" 60, .glo "STRENGTHS", .glo "is_name", .glo "read_row", .glo "is_written", .glo "show_names", .glo "_law_mix", .glo "_law_is_name", .glo "_law_number", .glo "read_names", .glo "read_whole", .glo "read_fact", .glo "show_paper", .glo "_law_names", .glo "_law_listed", .glo "_law_spoilt", .glo "read_turn", .glo "read_paper", .glo "_law_read", .glo "_law_words", .glo "_law_told", .glo "_law_alike", .glo "_law_right", .glo "_law_rows", .glo "law"]
def ts : List He.Tab := [((fun K => He.ga K "STRENGTHS"), ["0", "1", "2"])]
def ex (K : PySem.W.Frag) : Bool := He.valsB K (He.ga K "STRENGTHS") [("0", .int 0), ("1", .int 1), ("2", .int 2)]
abbrev Rw : PySem.W.OpenRow := PySem.W.OpenLaw.row PySem.Challenge.rw_taglook_k91_words_read_and_written
abbrev hk : PySem.W.Hook := He.hookX 6 fa fn ts [] ex
def ob (s : PySem.W.SharedT) : He.AlX := He.obsX 6 fa fn ts [] ex (HandSHeadRun.getT s)
theorem ob_eq (s : PySem.W.SharedT) : ob s = hk.obs s.abs := He.obsX_eq (HandSHeadRun.getT_eq s)
theorem runF (w : World) : HandSHeadRun.RunEq Rw (PySem.W.view Rw.prog [31]) hk ob 3000 topNames (w.withFollow "special-get-raises" false) := by
  intro os
  kernel_rfl
theorem runT (w : World) : HandSHeadRun.RunEq Rw (PySem.W.view Rw.prog [31]) hk ob 3000 topNames (w.withFollow "special-get-raises" true) := by
  intro os
  kernel_rfl
theorem run (w : World) : HandSHeadRun.RunEq Rw (PySem.W.view Rw.prog [31]) hk ob 3000 topNames w := PySem.W.byRow2 "special-get-raises" (P := fun w => HandSHeadRun.RunEq Rw (PySem.W.view Rw.prog [31]) hk ob 3000 topNames w) runF runT w

section
variable {P : Program} {w : World} {K : PySem.W.Frag} {h : Heap} {mg : Str → Option Value} {base : Heap}
def Adv (w : World) (K : PySem.W.Frag) : Ad := ⟨He.ga K "STRENGTHS", w.params⟩
theorem cs_strengths (c : He.SaysX fa fn ts [] ex w h K) (z : Str) : KdV K w.params (He.ga K "STRENGTHS") z ((strOf z).map .int) := by
  have e : ts.map (fun t => He.dicW K (t.1 K)) = ts.map fun t => some (He.keysIn w.params t.2) := congrArg (fun z : He.AlT => z.2) c.t
  have e1 : He.dicW K (He.ga K "STRENGTHS") = some (He.keysIn w.params ["0", "1", "2"]) := congrArg (fun l => l.headD none) e
  have hv : He.valsB K (He.ga K "STRENGTHS") [("0", .int 0), ("1", .int 1), ("2", .int 2)] = true := c.more
  unfold strOf
  by_cases h0 : z = "0"
  · rw [if_pos h0, h0]
    exact kd_some (q := ("0", .int 0)) e1 hv List.mem_cons_self
  · by_cases h1 : z = "1"
    · rw [if_neg h0, if_pos h1, h1]
      exact kd_some (q := ("1", .int 1)) e1 hv (List.mem_cons_of_mem _ List.mem_cons_self)
    · by_cases h2 : z = "2"
      · rw [if_neg h0, if_neg h1, if_pos h2, h2]
        exact kd_some (q := ("2", .int 2)) e1 hv (List.mem_cons_of_mem _ (List.mem_cons_of_mem _ List.mem_cons_self))
      · rw [if_neg h0, if_neg h1, if_neg h2]
        exact kd_none e1 (by simp [h0, h1, h2])
theorem start_law {A : Ad} {H : Hp} {a : Addr} {ns : List Int} (hlen : ns.length ≤ 63) (hbits : ∀ z ∈ ns, Builtin.Int.intBits z ≤ 1048576) (hS : SqL K H a (ns.map V.int)) : sp_law_main K A [.ref a] H (fun v _ => v = .bl true) fun _ _ _ => False :=
  ⟨ns, H, [], split_one H, ⟨⟨a, _, rfl, .inl hS, dpa_of_ints⟩, trivial⟩, ⟨Nat.le_trans hlen (by decide), hbits⟩, fun v H2 ⟨B, _, _, q⟩ => q⟩
theorem tx (X : K.In h) (G : h.Ns mainGlobals mg) (c : He.SaysX fa fn ts [] ex w h K) : Tx w K mg (Adv w K) where
  cs := ⟨cs_strengths c⟩
  pr := rfl
  n_all := He.free_ok X G (c.t.d.fact 0 rfl)
  n_bool := He.free_ok X G (c.t.d.fact 1 rfl)
  n_int := He.free_ok X G (c.t.d.fact 2 rfl)
  n_isinstance := He.free_ok X G (c.t.d.fact 3 rfl)
  n_len := He.free_ok X G (c.t.d.fact 4 rfl)
  n_list := He.free_ok X G (c.t.d.fact 5 rfl)
  n_range := He.free_ok X G (c.t.d.fact 6 rfl)
  n_str := He.free_ok X G (c.t.d.fact 7 rfl)
  n_tuple := He.free_ok X G (c.t.d.fact 8 rfl)
  n_zip := He.free_ok X G (c.t.d.fact 9 rfl)
  c_FIGURES := He.str_ok X G (c.t.d.fact 10 rfl)
  c_LETTERS := He.str_ok X G (c.t.d.fact 11 rfl)
  c_LONGEST := He.int_ok X G (c.t.d.fact 12 rfl)
  c_MOST_FIGURES := He.int_ok X G (c.t.d.fact 13 rfl)
  c_STRENGTHS := He.glo_ok X G (c.t.d.fact 14 rfl)
theorem okLaw (X : K.In h) (G : h.Ns mainGlobals mg) (c : He.SaysX fa fn ts [] ex w h K) : ∃ fd, FunD K "law" "law" (defArgs (top 31)) (defBody (top 31)) (defScope (top 31)) [] [] (He.ga K "law") fd ∧ ∀ base : Heap, FnOk P w K mg base (L2.CX P w) 10 (He.ga K "law") fd ["_law_script"] (sp_law_main K (Adv w K)) := by
  have T := tx (mg := mg) X G c
  obtain ⟨fd_is_name, F_is_name⟩ := c.t.d.def_ 0 (d := d0) rfl
  obtain ⟨fd_read_row, F_read_row⟩ := c.t.d.def_ 1 (d := d1) rfl
  obtain ⟨fd_is_written, F_is_written⟩ := c.t.d.def_ 3 (d := d3) rfl
  obtain ⟨fd_show_names, F_show_names⟩ := c.t.d.def_ 8 (d := d8) rfl
  obtain ⟨fd_law_mix, F_law_mix⟩ := c.t.d.def_ 10 (d := d10) rfl
  obtain ⟨fd_law_is_name, F_law_is_name⟩ := c.t.d.def_ 12 (d := d12) rfl
  obtain ⟨fd_law_number, F_law_number⟩ := c.t.d.def_ 14 (d := d14) rfl
  obtain ⟨fd_read_names, F_read_names⟩ := c.t.d.def_ 2 (d := d2) rfl
  obtain ⟨fd_read_whole, F_read_whole⟩ := c.t.d.def_ 4 (d := d4) rfl
  obtain ⟨fd_read_fact, F_read_fact⟩ := c.t.d.def_ 6 (d := d6) rfl
  obtain ⟨fd_show_paper, F_show_paper⟩ := c.t.d.def_ 9 (d := d9) rfl
  obtain ⟨fd_law_names, F_law_names⟩ := c.t.d.def_ 11 (d := d11) rfl
  obtain ⟨fd_law_listed, F_law_listed⟩ := c.t.d.def_ 13 (d := d13) rfl
  obtain ⟨fd_law_spoilt, F_law_spoilt⟩ := c.t.d.def_ 20 (d := d20) rfl
  obtain ⟨fd_read_turn, F_read_turn⟩ := c.t.d.def_ 5 (d := d5) rfl
  obtain ⟨fd_read_paper, F_read_paper⟩ := c.t.d.def_ 7 (d := d7) rfl
  obtain ⟨fd_law_read, F_law_read⟩ := c.t.d.def_ 15 (d := d15) rfl
  obtain ⟨fd_law_words, F_law_words⟩ := c.t.d.def_ 19 (d := d19) rfl
  obtain ⟨fd_law_told, F_law_told⟩ := c.t.d.def_ 17 (d := d17) rfl
  obtain ⟨fd_law_alike, F_law_alike⟩ := c.t.d.def_ 16 (d := d16) rfl
  obtain ⟨fd_law_right, F_law_right⟩ := c.t.d.def_ 18 (d := d18) rfl
  obtain ⟨fd_law_rows, F_law_rows⟩ := c.t.d.def_ 21 (d := d21) rfl
  obtain ⟨fd_law_main, F_law_main⟩ := c.t.d.def_ 22 (d := d22) rfl
  refine ⟨fd_law_main, F_law_main, fun base => ?_⟩
  have G_is_name : GFn P w K mg base 1 "is_name" [] (sp_is_name K (Adv w K)) := ⟨⟨_, _, _, _, He.glo_ok X G (c.t.d.fact 15 rfl), F_is_name.kp, F_is_name.bindsN fun _ _ _ _ _ _ us hl => match us, hl with | [_], _ => rfl, .nil, ok_is_name T F_is_name⟩⟩
  have G_read_row : GFn P w K mg base 1 "read_row" [] (sp_read_row K (Adv w K)) := ⟨⟨_, _, _, _, He.glo_ok X G (c.t.d.fact 16 rfl), F_read_row.kp, F_read_row.bindsN fun _ _ _ _ _ _ us hl => match us, hl with | [_], _ => rfl, .nil, ok_read_row T F_read_row⟩⟩
  have G_is_written : GFn P w K mg base 1 "is_written" [] (sp_is_written K (Adv w K)) := ⟨⟨_, _, _, _, He.glo_ok X G (c.t.d.fact 17 rfl), F_is_written.kp, F_is_written.bindsN fun _ _ _ _ _ _ us hl => match us, hl with | [_], _ => rfl, .nil, ok_is_written T F_is_written⟩⟩
  have G_show_names : GFn P w K mg base 1 "show_names" [] (sp_show_names K (Adv w K)) := ⟨⟨_, _, _, _, He.glo_ok X G (c.t.d.fact 18 rfl), F_show_names.kp, F_show_names.bindsN fun _ _ _ _ _ _ us hl => match us, hl with | [_], _ => rfl, .nil, ok_show_names T F_show_names⟩⟩
  have G_law_mix : GFn P w K mg base 1 "_law_mix" [] (sp_law_mix K (Adv w K)) := ⟨⟨_, _, _, _, He.glo_ok X G (c.t.d.fact 19 rfl), F_law_mix.kp, F_law_mix.bindsN fun _ _ _ _ _ _ us hl => match us, hl with | [_, _, _], _ => rfl, .nil, ok_law_mix T F_law_mix⟩⟩
  have G_law_is_name : GFn P w K mg base 1 "_law_is_name" [] (sp_law_is_name K (Adv w K)) := ⟨⟨_, _, _, _, He.glo_ok X G (c.t.d.fact 20 rfl), F_law_is_name.kp, F_law_is_name.bindsN fun _ _ _ _ _ _ us hl => match us, hl with | [_], _ => rfl, .nil, ok_law_is_name T F_law_is_name⟩⟩
  have G_law_number : GFn P w K mg base 1 "_law_number" [] (sp_law_number K (Adv w K)) := ⟨⟨_, _, _, _, He.glo_ok X G (c.t.d.fact 21 rfl), F_law_number.kp, F_law_number.bindsN fun _ _ _ _ _ _ us hl => match us, hl with | [_], _ => rfl, .nil, ok_law_number T F_law_number⟩⟩
  have G_read_names : GFn P w K mg base 2 "read_names" [] (sp_read_names K (Adv w K)) := ⟨⟨_, _, _, _, He.glo_ok X G (c.t.d.fact 22 rfl), F_read_names.kp, F_read_names.bindsN fun _ _ _ _ _ _ us hl => match us, hl with | [_], _ => rfl, .nil, ok_read_names T G_is_name F_read_names⟩⟩
  have G_read_whole : GFn P w K mg base 2 "read_whole" [] (sp_read_whole K (Adv w K)) := ⟨⟨_, _, _, _, He.glo_ok X G (c.t.d.fact 23 rfl), F_read_whole.kp, F_read_whole.bindsN fun _ _ _ _ _ _ us hl => match us, hl with | [_], _ => rfl, .nil, ok_read_whole T G_is_written F_read_whole⟩⟩
  have G_read_fact : GFn P w K mg base 2 "read_fact" [] (sp_read_fact K (Adv w K)) := ⟨⟨_, _, _, _, He.glo_ok X G (c.t.d.fact 24 rfl), F_read_fact.kp, F_read_fact.bindsN fun _ _ _ _ _ _ us hl => match us, hl with | [_], _ => rfl, .nil, ok_read_fact T G_is_name F_read_fact⟩⟩
  have G_show_paper : GFn P w K mg base 2 "show_paper" [] (sp_show_paper K (Adv w K)) := ⟨⟨_, _, _, _, He.glo_ok X G (c.t.d.fact 25 rfl), F_show_paper.kp, F_show_paper.bindsN fun _ _ _ _ _ _ us hl => match us, hl with | [_], _ => rfl, .nil, ok_show_paper T G_show_names F_show_paper⟩⟩
  have G_law_names : GFn P w K mg base 2 "_law_names" [] (sp_law_names K (Adv w K)) := ⟨⟨_, _, _, _, He.glo_ok X G (c.t.d.fact 26 rfl), F_law_names.kp, F_law_names.bindsN fun _ _ _ _ _ _ us hl => match us, hl with | [_, _], _ => rfl, .nil, ok_law_names T G_law_mix F_law_names⟩⟩
  have G_law_listed : GFn P w K mg base 2 "_law_listed" [] (sp_law_listed K (Adv w K)) := ⟨⟨_, _, _, _, He.glo_ok X G (c.t.d.fact 27 rfl), F_law_listed.kp, F_law_listed.bindsN fun _ _ _ _ _ _ us hl => match us, hl with | [_], _ => rfl, .nil, ok_law_listed T G_law_is_name F_law_listed⟩⟩
  have G_law_spoilt : GFn P w K mg base 2 "_law_spoilt" [] (sp_law_spoilt K (Adv w K)) := ⟨⟨_, _, _, _, He.glo_ok X G (c.t.d.fact 28 rfl), F_law_spoilt.kp, F_law_spoilt.bindsN fun _ _ _ _ _ _ us hl => match us, hl with | [_, _, _], _ => rfl, .nil, ok_law_spoilt T G_law_mix F_law_spoilt⟩⟩
  have G_read_turn : GFn P w K mg base 3 "read_turn" [] (sp_read_turn K (Adv w K)) := ⟨⟨_, _, _, _, He.glo_ok X G (c.t.d.fact 29 rfl), F_read_turn.kp, F_read_turn.bindsN fun _ _ _ _ _ _ us hl => match us, hl with | [_], _ => rfl, .nil, ok_read_turn T G_read_names G_is_name F_read_turn⟩⟩
  have G_read_paper : GFn P w K mg base 3 "read_paper" [] (sp_read_paper K (Adv w K)) := ⟨⟨_, _, _, _, He.glo_ok X G (c.t.d.fact 30 rfl), F_read_paper.kp, F_read_paper.bindsN fun _ _ _ _ _ _ us hl => match us, hl with | [_], _ => rfl, .nil, ok_read_paper T G_read_names G_is_name F_read_paper⟩⟩
  have G_law_read : GFn P w K mg base 3 "_law_read" [] (sp_law_read K (Adv w K)) := ⟨⟨_, _, _, _, He.glo_ok X G (c.t.d.fact 31 rfl), F_law_read.kp, F_law_read.bindsN fun _ _ _ _ _ _ us hl => match us, hl with | [_], _ => rfl, .nil, ok_law_read T G_law_number G_law_listed G_law_is_name F_law_read⟩⟩
  have G_law_words : GFn P w K mg base 3 "_law_words" [] (sp_law_words K (Adv w K)) := ⟨⟨_, _, _, _, He.glo_ok X G (c.t.d.fact 32 rfl), F_law_words.kp, F_law_words.bindsN fun _ _ _ _ _ _ us hl => match us, hl with | [_], _ => rfl, .nil, ok_law_words T G_law_mix G_law_names F_law_words⟩⟩
  have G_law_told : GFn P w K mg base 4 "_law_told" [] (sp_law_told K (Adv w K)) := ⟨⟨_, _, _, _, He.glo_ok X G (c.t.d.fact 33 rfl), F_law_told.kp, F_law_told.bindsN fun _ _ _ _ _ _ us hl => match us, hl with | [_], _ => rfl, .nil, ok_law_told T G_read_paper G_read_fact G_read_turn G_read_whole G_read_names F_law_told⟩⟩
  have R0 : GFn P w K mg base (4 + 0) "_law_alike" [] (sp_law_alikeN 0 K (Adv w K)) := ⟨⟨_, _, ["_law_found", "_law_due"], _, He.glo_ok X G (c.t.d.fact 34 rfl), F_law_alike.kp, F_law_alike.bindsN fun _ _ _ _ _ _ us hl => match us, hl with | [_, _], _ => rfl, .nil, ⟨fun _ _ _ _ h => h.elim, fun _ _ _ _ _ _ _ _ _ _ _ _ _ h => h.elim⟩⟩⟩
  have R1 : GFn P w K mg base (4 + 1) "_law_alike" [] (sp_law_alikeN 1 K (Adv w K)) := ⟨⟨_, _, _, _, He.glo_ok X G (c.t.d.fact 34 rfl), F_law_alike.kp, F_law_alike.bindsN fun _ _ _ _ _ _ us hl => match us, hl with | [_, _], _ => rfl, .nil, ok_law_alike T R0 F_law_alike⟩⟩
  have R2 : GFn P w K mg base (4 + 2) "_law_alike" [] (sp_law_alikeN 2 K (Adv w K)) := ⟨⟨_, _, _, _, He.glo_ok X G (c.t.d.fact 34 rfl), F_law_alike.kp, F_law_alike.bindsN fun _ _ _ _ _ _ us hl => match us, hl with | [_, _], _ => rfl, .nil, ok_law_alike T R1 F_law_alike⟩⟩
  have R3 : GFn P w K mg base (4 + 3) "_law_alike" [] (sp_law_alikeN 3 K (Adv w K)) := ⟨⟨_, _, _, _, He.glo_ok X G (c.t.d.fact 34 rfl), F_law_alike.kp, F_law_alike.bindsN fun _ _ _ _ _ _ us hl => match us, hl with | [_, _], _ => rfl, .nil, ok_law_alike T R2 F_law_alike⟩⟩
  have R4 : GFn P w K mg base (4 + 4) "_law_alike" [] (sp_law_alikeN 4 K (Adv w K)) := ⟨⟨_, _, _, _, He.glo_ok X G (c.t.d.fact 34 rfl), F_law_alike.kp, F_law_alike.bindsN fun _ _ _ _ _ _ us hl => match us, hl with | [_, _], _ => rfl, .nil, ok_law_alike T R3 F_law_alike⟩⟩
  have G_law_alike : GFn P w K mg base 8 "_law_alike" [] (sp_law_alike K (Adv w K)) := R4
  have G_law_right : GFn P w K mg base 9 "_law_right" [] (sp_law_right K (Adv w K)) := ⟨⟨_, _, _, _, He.glo_ok X G (c.t.d.fact 35 rfl), F_law_right.kp, F_law_right.bindsN fun _ _ _ _ _ _ us hl => match us, hl with | [_], _ => rfl, .nil, ok_law_right T G_law_alike G_law_told G_law_read G_show_names G_show_paper F_law_right⟩⟩
  have G_law_rows : GFn P w K mg base 9 "_law_rows" [] (sp_law_rows K (Adv w K)) := ⟨⟨_, _, _, _, He.glo_ok X G (c.t.d.fact 36 rfl), F_law_rows.kp, F_law_rows.bindsN fun _ _ _ _ _ _ us hl => match us, hl with | [_, _], _ => rfl, .nil, ok_law_rows T G_law_mix G_law_alike G_read_row F_law_rows⟩⟩
  exact ok_law_main T G_law_right G_law_spoilt G_law_words G_law_rows F_law_main
end
end TG
open PySem PySem.W PySem.Calls PyProof.Rows
theorem PySem.Challenge.cw_taglook_k91_words_read_and_written_holds : PySem.Challenge.rw_taglook_k91_words_read_and_written.Holds := by
  w_on; o_law
  refine HandSHeadRun.head_any (r := OpenLaw.row PySem.Challenge.rw_taglook_k91_words_read_and_written) (q := view (OpenLaw.row PySem.Challenge.rw_taglook_k91_words_read_and_written).prog [31]) (H := TG.hk) (ob := TG.ob) (M := 3000) (loose := TG.topNames) (d := HandSHeadRun.topDef (OpenLaw.row PySem.Challenge.rw_taglook_k91_words_read_and_written).prog 31) (kwd := []) TG.ob_eq
    (by kernel_rfl) (fun s => by kernel_rfl) TG.run (by kernel_rfl) (by kernel_rfl) (by kernel_rfl) (by rfl) (by first | assumption | decide +kernel) (by decide +kernel) ⟨rfl, rfl, rfl, rfl, rfl, by decide +kernel⟩ ?hw ?hc
  case hw => w_witness2
  case hc =>
    refine LamX.walk_ofTsE (l := PySem.Challenge.rw_taglook_k91_words_read_and_written) (n := 63) (k := 10) (x := "_law_script") (CX := fun w => L2.CX (PySem.Challenge.rw_taglook_k91_words_read_and_written).prog w) rfl (by decide) (by kernel_rfl) ⟨rfl, by decide, by decide⟩ ?F (fun w H s e s' ⟨a, B, H', cls, d, h1, h2, h3, h4, h5, h6, h7, h8⟩ => h8)
    intro w mg fa h Y G hmg0
    obtain ⟨K, KX, c⟩ := Y
    have hmg : mg ("law" : PySem.Str) = some (.ref fa) := by
      have e : (HandSHeadRun.topDef (OpenLaw.row PySem.Challenge.rw_taglook_k91_words_read_and_written).prog 31).name = ("law" : PySem.Str) := by kernel_rfl
      rw [← e]
      exact hmg0
    have e := hmg.symm.trans (He.glo_ok KX G (c.t.d.fact 37 (f := .glo "law") rfl))
    cases e
    obtain ⟨fd, F, ok⟩ := TG.okLaw (P := (PySem.Challenge.rw_taglook_k91_words_read_and_written).prog) (mg := mg) KX G c
    refine ⟨K, KX, fd, [], TG.sp_law_main K (TG.Adv w K), (fun _ h => nomatch h), (fun _ h => nomatch h), (fun _ h => nomatch h), fun s v => (L2.FunD.bindsA (ps := ["_law_script"]) F fun _ _ _ _ _ _ us hl => match us, hl with | [_], _ => rfl) s [v] rfl, ?_, fun base hb hns _ => ?_⟩
    · intro H a ns hlen hbits _ hS
      exact TG.start_law hlen hbits hS
    · exact ok base
