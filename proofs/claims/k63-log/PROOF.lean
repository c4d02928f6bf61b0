import PyProof.Rows.All
import Wide.All
import OpenK.AllK
import Wide.FinOn
import HandS.ForMost
import HandS.ForExc
import HandS.FStr
import HandS.TupAny
import HandS.Deep
import HandS.IsInst
import HandS.More
import HandS.SortInts
import HandS.Evl
import KE.SortData
import KE.IntTextLaws
import PySem.Challenge.RW_pairwarden_k63_whole_log_survives_cuts
set_option Elab.async false
set_option linter.all false
set_option maxRecDepth 100000
set_option maxHeartbeats 4000000
/-! PW0: operators as unions, the worlds of a body (frozen part, own lists), data as a whole. -/
namespace PW
open PySem PySem.Spec PyProof.Rows L2

/-! ### operators as unions -/
section
variable {X : Cx}
def rAddU (K : PySem.W.Frag) : R2 := fun x y H Q => rI0 (fun i j => .int (i + j)) x y H Q ∨ (∃ i j : Str, x = .str i ∧ y = .str j ∧ i.length + j.length ≤ sizeLine ∧ Q (.str (i ++ j)) H) ∨ rCat x y H Q ∨ rCatA K x y H Q
theorem op_addU : OpR X (binaryOp .Add) (rAddU X.K) := op_add.or (op_add_str.or (op_cat.or op_catA))
def rMulU : R2 := fun x y H Q => rI CMul (fun i j => .int (i * j)) x y H Q ∨ rRep x y H Q
theorem op_mulU : OpR X (binaryOp .Mult) rMulU := op_mul.or op_rep
def rEqU (K : PySem.W.Frag) : R2 := fun x y H Q => rEq x y H Q ∨ rEqD K x y H Q
theorem op_eqU (hu : X.A.units + 64 < cLine) : OpR X (compareOp .Eq) (rEqU X.K) := op_eq.or (op_eqD hu)
def rNeU (K : PySem.W.Frag) : R2 := fun x y H Q => rNe x y H Q ∨ rNeD K x y H Q
theorem op_neU (hu : X.A.units + 64 < cLine) : OpR X (compareOp .NotEq) (rNeU X.K) := op_ne.or (op_neD hu)
def rLtU (K : PySem.W.Frag) : R2 := fun x y H Q => rI0 (fun i j => .bl (decide (i < j))) x y H Q ∨ (∃ i j : Str, x = .str i ∧ y = .str j ∧ Q (.bl (decide (i.cps.toList < j.cps.toList))) H)
theorem op_ltU : OpR X (compareOp .Lt) (rLtU X.K) := op_lt.or op_lt_str
def rLeU (K : PySem.W.Frag) : R2 := fun x y H Q => rI0 (fun i j => .bl (decide (i ≤ j))) x y H Q ∨ (∃ i j : Str, x = .str i ∧ y = .str j ∧ Q (.bl (!decide (j.cps.toList < i.cps.toList))) H)
theorem op_leU : OpR X (compareOp .LtE) (rLeU X.K) := op_le.or op_le_str
def rGtU (K : PySem.W.Frag) : R2 := fun x y H Q => rI0 (fun i j => .bl (decide (j < i))) x y H Q ∨ (∃ i j : Str, x = .str i ∧ y = .str j ∧ Q (.bl (decide (j.cps.toList < i.cps.toList))) H)
theorem op_gtU : OpR X (compareOp .Gt) (rGtU X.K) := op_gt.or op_gt_str
def rGeU (K : PySem.W.Frag) : R2 := fun x y H Q => rI0 (fun i j => .bl (decide (j ≤ i))) x y H Q ∨ (∃ i j : Str, x = .str i ∧ y = .str j ∧ Q (.bl (!decide (i.cps.toList < j.cps.toList))) H)
theorem op_geU : OpR X (compareOp .GtE) (rGeU X.K) := op_ge.or op_ge_str
def rInU (K : PySem.W.Frag) : R2 := fun x y H Q => rIn K false x y H Q ∨ (∃ (c : Nat) (z : Str), x = .str ⟨#[c]⟩ ∧ y = .str z ∧ Q (.bl (decide (c ∈ z.cps.toList))) H) ∨ rNoneIn K false x y H Q ∨ rInD K x y H Q
def rNotInU (K : PySem.W.Frag) : R2 := fun x y H Q => rIn K true x y H Q ∨ (∃ (c : Nat) (z : Str), x = .str ⟨#[c]⟩ ∧ y = .str z ∧ Q (.bl (!decide (c ∈ z.cps.toList))) H) ∨ rNoneIn K true x y H Q ∨ rNotInD K x y H Q
theorem op_inU (hu : X.A.units + 65 < cLine) : OpR X (compareOp .In) (rInU X.K) := op_in_seq.or (op_in_sign.or ((op_noneIn (by omega)).or (op_inD hu)))
theorem op_notInU (hu : X.A.units + 65 < cLine) : OpR X (compareOp .NotIn) (rNotInU X.K) := op_notIn_seq.or (op_notIn_sign.or ((op_noneNotIn (by omega)).or (op_notInD hu)))
def rSlU (K : PySem.W.Frag) : V → Option Int → Option Int → Hp → VK → Prop := fun x lo hi H Q => rSlS x lo hi H Q ∨ rSlL K x lo hi H Q ∨ rSlA K x lo hi H Q
theorem sl_U : SlR X (rSlU X.K) := sl_str.or (sl_list.or sl_tupA)
def rIntU : List V → Hp → VK → Prop := fun xs H Q => (∃ i, xs = [.int i] ∧ Q (.int i) H) ∨ (∃ (a : Str) (n : Int), xs = [.str a] ∧ PySem.intText? a = some n ∧ a.length ≤ 640 ∧ Q (.int n) H)
theorem call_intU : CallR X (.type "int") rIntU := by
  intro pins s σ H xs us Q I r h
  rcases h with ⟨i, e, q⟩ | h
  · exact call_int1 pins s σ H xs us Q I r (.inl ⟨i, e, q⟩)
  · exact call_int_str pins s σ H xs us Q I r h
end

/-! ### data as a whole, kept -/
theorem same_rd {H H' : Hp} {a : Addr} {u : HO} (e : Same H H') (h : Rd H a u) : Rd H' a u := by
  rcases h with h | ⟨o, h⟩
  · exact Or.inl (e a _ h)
  · exact Or.inr ⟨o, e a _ h⟩
theorem same_l {K : PySem.W.Frag} {H H' : Hp} {a : Addr} {xs : List V} (e : Same H H') (h : SqL K H a xs) : SqL K H' a xs := by
  rcases h with h | h
  · exact Or.inl (same_rd e h)
  · exact Or.inr h
theorem same_t {K : PySem.W.Frag} {H H' : Hp} {a : Addr} {xs : List V} (e : Same H H') (h : SqT K H a xs) : SqT K H' a xs := by
  rcases h with h | h
  · exact Or.inl (same_rd e h)
  · exact Or.inr h
mutual
theorem dp_mono {K : PySem.W.Frag} {H H' : Hp} (e : Same H H') : ∀ {v : V} {d : PyData}, Dp K H v d → Dp K H' v d
  | _, _, .non => .non
  | _, _, .bl b => .bl b
  | _, _, .int i => .int i
  | _, _, .str x => .str x
  | _, _, .lst h a => .lst (same_l e h) (dpa_mono e a)
  | _, _, .tup h a => .tup (same_t e h) (dpa_mono e a)
theorem dpa_mono {K : PySem.W.Frag} {H H' : Hp} (e : Same H H') : ∀ {vs : List V} {ds : List PyData}, DpAll K H vs ds → DpAll K H' vs ds
  | _, _, .nil => .nil
  | _, _, .cons h a => .cons (dp_mono e h) (dpa_mono e a)
end
section
variable {K : PySem.W.Frag} {H H' F F' : Hp} {v : V} {vs ws : List V} {d : PyData} {ds es : List PyData} {p : Addr}
theorem dpa_len (h : DpAll K H vs ds) : vs.length = ds.length := by
  induction ds generalizing vs with
  | nil => cases h; rfl
  | cons d ds ih => cases h with | cons a b => rw [List.length_cons, List.length_cons, ih b]
theorem dpa_get {i : Nat} (h : DpAll K H vs ds) (e : vs[i]? = some v) : ∃ d, ds[i]? = some d ∧ Dp K H v d := by
  induction ds generalizing vs i with
  | nil => cases h; simp at e
  | cons d ds ih =>
    cases h with
    | cons a b =>
      cases i with
      | zero => simp at e; subst e; exact ⟨d, by simp, a⟩
      | succ i =>
        obtain ⟨d', h1, h2⟩ := ih b (i := i) (by simpa using e)
        exact ⟨d', by simpa using h1, h2⟩
theorem dpa_at {i : Nat} (h : DpAll K H vs ds) (e : ds[i]? = some d) : ∃ v, vs[i]? = some v ∧ Dp K H v d := by
  have hl := dpa_len h
  have hi : i < vs.length := by rw [hl]; exact (List.getElem?_eq_some_iff.mp e).1
  obtain ⟨d', h1, h2⟩ := dpa_get h (List.getElem?_eq_getElem hi)
  rw [e] at h1
  cases h1
  exact ⟨_, List.getElem?_eq_getElem hi, h2⟩
theorem dpa_app (h : DpAll K H vs ds) (h' : DpAll K H ws es) : DpAll K H (vs ++ ws) (ds ++ es) := by
  induction ds generalizing vs with
  | nil => cases h; exact h'
  | cons d ds ih => cases h with | cons a b => exact .cons a (ih b)
theorem dpa_one (h : Dp K H v d) : DpAll K H [v] [d] := .cons h .nil
theorem dpa_snoc (h : DpAll K H vs ds) (h' : Dp K H v d) : DpAll K H (vs ++ [v]) (ds ++ [d]) := dpa_app h (dpa_one h')
theorem dp_int {i : Int} (h : Dp K H v (.int i)) : v = .int i := by cases h; rfl
theorem dp_bool {b : Bool} (h : Dp K H v (.bool b)) : v = .bl b := by cases h; rfl
theorem dp_str {x : Str} (h : Dp K H v (.str x)) : v = .str x := by cases h; rfl
theorem dp_none (h : Dp K H v .none) : v = .non := by cases h; rfl
theorem dp_list (h : Dp K H v (.list ds)) : ∃ a xs, v = .ref a ∧ SqL K H a xs ∧ DpAll K H xs ds := by cases h with | lst h a => exact ⟨_, _, rfl, h, a⟩
theorem dp_tup (h : Dp K H v (.tuple ds)) : ∃ a xs, v = .ref a ∧ SqT K H a xs ∧ DpAll K H xs ds := by cases h with | tup h a => exact ⟨_, _, rfl, h, a⟩
theorem dpa_ints {ns : List Int} (h : DpAll K H vs (ns.map PyData.int)) : vs = ns.map V.int := by
  induction ns generalizing vs with
  | nil => cases h; rfl
  | cons n ns ih => cases h with | cons a b => rw [dp_int a, ih b]; rfl
theorem dpa_strs {ns : List Str} (h : DpAll K H vs (ns.map PyData.str)) : vs = ns.map V.str := by
  induction ns generalizing vs with
  | nil => cases h; rfl
  | cons n ns ih => cases h with | cons a b => rw [dp_str a, ih b]; rfl
theorem dpa_of_ints {ns : List Int} : DpAll K H (ns.map V.int) (ns.map PyData.int) := by
  induction ns with
  | nil => exact .nil
  | cons n ns ih => exact .cons (.int n) ih
theorem dpa_of_strs {ns : List Str} : DpAll K H (ns.map V.str) (ns.map PyData.str) := by
  induction ns with
  | nil => exact .nil
  | cons n ns ih => exact .cons (.str n) ih
end

/-! ### worlds: F the part that stays as it is, H the heap, F0 H0 those at the entry, M the lists that are one's own -/
structure Step (F H F' H' : Hp) : Prop where
  ff : Same F F'
  fh : Same F' H'
  hh : Same H H'
  sep : ∀ b, F b = none → H b ≠ none → F' b = none
structure Wd (F0 H0 F H : Hp) (M : List (Addr × HO)) : Prop where
  ff : Same F0 F
  fh : Same F H
  hh : Same H0 H
  sep : ∀ b, F0 b = none → H0 b ≠ none → F b = none
  mt : ∀ m ∈ M, F m.1 = none ∧ H m.1 = some m.2 ∧ H0 m.1 = none
  nd : (M.map (·.1)).Nodup
section
variable {K : PySem.W.Frag} {F0 H0 F H F' H' F2 H2 : Hp} {M : List (Addr × HO)} {p : Addr} {o o' : HO}
theorem Step.refl (e : Same F H) : Step F H F H := ⟨.refl F, e, .refl H, fun _ h _ => h⟩
theorem Step.trans (a : Step F H F' H') (b : Step F' H' F2 H2) : Step F H F2 H2 :=
  ⟨a.ff.trans b.ff, b.fh, a.hh.trans b.hh, fun c h1 h2 => b.sep c (a.sep c h1 h2) fun z => by
    cases q : H c with
    | none => exact h2 q
    | some o => rw [a.hh c o q] at z; cases z⟩
theorem Wd.start (e : Same F H) : Wd F H F H [] := ⟨.refl F, e, .refl H, fun _ h _ => h, fun _ h => by simp at h, List.nodup_nil⟩
theorem Wd.done (w : Wd F0 H0 F H M) : Step F0 H0 F H := ⟨w.ff, w.fh, w.hh, w.sep⟩
theorem Wd.step (w : Wd F0 H0 F H M) (s : Step F H F' H') : Wd F0 H0 F' H' M := by
  refine ⟨w.ff.trans s.ff, s.fh, w.hh.trans s.hh, fun b h1 h2 => s.sep b (w.sep b h1 h2) fun z => ?_, fun m hm => ?_, w.nd⟩
  · cases q : H0 b with
    | none => exact h2 q
    | some o => rw [w.hh b o q] at z; cases z
  · obtain ⟨a, b, c⟩ := w.mt m hm
    exact ⟨s.sep _ a (by rw [b]; simp), s.hh _ _ b, c⟩
theorem Wd.free (w : Wd F0 H0 F H M) (h : H p = none) : F p = none ∧ H0 p = none ∧ ∀ m ∈ M, m.1 ≠ p := by
  refine ⟨w.fh.free h, w.hh.free h, fun m hm z => ?_⟩
  obtain ⟨_, b, _⟩ := w.mt m hm
  rw [z, h] at b
  cases b
theorem same_new (h : H p = none) : Same H (upd H p o) := fun b u e => by rw [upd_ne (ne_of_none e h)]; exact e
theorem same_upd (e : Same F H) : Same (upd F p o) (upd H p o) := fun b u h => by
  unfold upd at h ⊢
  split
  · rename_i hb; rw [if_pos hb] at h; exact h
  · rename_i hb; rw [if_neg hb] at h; exact e b u h
/-- a new object that will not change: it joins the frozen part -/
theorem Wd.fix (w : Wd F0 H0 F H M) (h : H p = none) (o : HO) : Wd F0 H0 (upd F p o) (upd H p o) M ∧ Same F (upd F p o) := by
  obtain ⟨f, h0, hm⟩ := w.free h
  refine ⟨⟨w.ff.trans (same_new f), same_upd w.fh, w.hh.trans (same_new h), fun b h1 h2 => ?_, fun m hm' => ?_, w.nd⟩, same_new f⟩
  · have : b ≠ p := fun z => h2 (by rw [z]; exact h0)
    rw [upd_ne this]
    exact w.sep b h1 h2
  · obtain ⟨a, b, c⟩ := w.mt m hm'
    rw [upd_ne (hm m hm'), upd_ne (hm m hm')]
    exact ⟨a, b, c⟩
/-- a new list of one's own -/
theorem Wd.own (w : Wd F0 H0 F H M) (h : H p = none) (o : HO) : Wd F0 H0 F (upd H p o) ((p, o) :: M) := by
  obtain ⟨f, h0, hm⟩ := w.free h
  refine ⟨w.ff, w.fh.trans (same_new h), w.hh.trans (same_new h), w.sep, fun m hm' => ?_, ?_⟩
  · rcases List.mem_cons.mp hm' with rfl | hm'
    · exact ⟨f, upd_same, h0⟩
    · obtain ⟨a, b, c⟩ := w.mt m hm'
      rw [upd_ne (hm m hm')]
      exact ⟨a, b, c⟩
  · rw [List.map_cons, List.nodup_cons]
    refine ⟨fun z => ?_, w.nd⟩
    obtain ⟨m, hm', e⟩ := List.mem_map.mp z
    exact hm m hm' e
theorem Wd.at_ (w : Wd F0 H0 F H ((p, o) :: M)) : H p = some o := (w.mt _ List.mem_cons_self).2.1
theorem Wd.set (w : Wd F0 H0 F H ((p, o) :: M)) (o' : HO) : Wd F0 H0 F (upd H p o') ((p, o') :: M) := by
  obtain ⟨f, hp, h0⟩ := w.mt _ List.mem_cons_self
  have nd := w.nd
  rw [List.map_cons, List.nodup_cons] at nd
  refine ⟨w.ff, fun b u e => ?_, fun b u e => ?_, w.sep, fun m hm => ?_, w.nd⟩
  · rw [upd_ne (ne_of_none e f)]
    exact w.fh b u e
  · rw [upd_ne (ne_of_none e h0)]
    exact w.hh b u e
  · rcases List.mem_cons.mp hm with rfl | hm
    · exact ⟨f, upd_same, h0⟩
    · obtain ⟨a, b, c⟩ := w.mt m (List.mem_cons_of_mem _ hm)
      have : m.1 ≠ p := fun z => nd.1 (z ▸ List.mem_map_of_mem (f := (·.1)) hm)
      rw [upd_ne this]
      exact ⟨a, b, c⟩
theorem Wd.swap {q : Addr} {u : HO} (w : Wd F0 H0 F H ((p, o) :: (q, u) :: M)) : Wd F0 H0 F H ((q, u) :: (p, o) :: M) := by
  refine ⟨w.ff, w.fh, w.hh, w.sep, fun m hm => w.mt m ?_, ?_⟩
  · simp only [List.mem_cons] at hm ⊢
    rcases hm with h | h | h
    · exact .inr (.inl h)
    · exact .inl h
    · exact .inr (.inr h)
  · have nd := w.nd
    simp only [List.map_cons, List.nodup_cons, List.mem_cons, not_or] at nd ⊢
    exact ⟨⟨fun z => nd.1.1 z.symm, nd.2.1⟩, nd.1.2, nd.2.2⟩
theorem Wd.drop (w : Wd F0 H0 F H ((p, o) :: M)) : Wd F0 H0 F H M := by
  have nd := w.nd
  rw [List.map_cons, List.nodup_cons] at nd
  exact ⟨w.ff, w.fh, w.hh, w.sep, fun m hm => w.mt m (List.mem_cons_of_mem _ hm), nd.2⟩
/-- a list of one's own changes no more -/
theorem Wd.freeze (w : Wd F0 H0 F H ((p, o) :: M)) : Wd F0 H0 (upd F p o) H M ∧ Same F (upd F p o) := by
  obtain ⟨f, hp, h0⟩ := w.mt _ List.mem_cons_self
  have nd := w.nd
  rw [List.map_cons, List.nodup_cons] at nd
  refine ⟨⟨w.ff.trans (same_new f), fun b u e => ?_, w.hh, fun b h1 h2 => ?_, fun m hm => ?_, nd.2⟩, same_new f⟩
  · by_cases hb : b = p
    · subst hb; rw [upd_same] at e; cases e; exact hp
    · rw [upd_ne hb] at e; exact w.fh b u e
  · have : b ≠ p := fun z => h2 (by rw [z]; exact h0)
    rw [upd_ne this]
    exact w.sep b h1 h2
  · obtain ⟨a, b, c⟩ := w.mt m (List.mem_cons_of_mem _ hm)
    have : m.1 ≠ p := fun z => nd.1 (z ▸ List.mem_map_of_mem (f := (·.1)) hm)
    rw [upd_ne this]
    exact ⟨a, b, c⟩
end
/-! ### an exception class meets itself -/
theorem exm_self {K : PySem.W.Frag} {S : Addr} (h1 : PySem.W.subIn K (.ref S) (.type "BaseException") = some true) (h2 : PySem.W.isClsIn K S = true) (h3 : PySem.W.typeIn K (.ref S) = some (.type "type")) (h4 : PySem.W.subIn K (.ref S) (.ref S) = some true) :
    PySem.W.exmOne K (.ref S) (.ref S) = some true := by
  have e1 : (PySem.W.subIn K (.ref S) (.type "BaseException") == some true) = true := by rw [h1] <;> rfl
  have e2 : ((PySem.W.clsIn K S).isSome && PySem.W.typeIn K (.ref S) == some (.type "type")) = true := by
    have h2' : (PySem.W.clsIn K S).isSome = true := h2
    rw [h2', h3] <;> rfl
  show (if (PySem.W.subIn K (.ref S) (.type "BaseException") == some true) = true then (if ((PySem.W.clsIn K S).isSome && PySem.W.typeIn K (.ref S) == some (.type "type")) = true then PySem.W.subIn K (.ref S) (.ref S) else none) else none) = some true
  rw [if_pos e1, if_pos e2]
  exact h4
end PW

set_option Elab.async false
set_option linter.all false
set_option maxRecDepth 100000
set_option maxHeartbeats 4000000
/-! PW1: comprehensions and loops over worlds. -/
namespace PW
open PySem PySem.Spec PyProof.Rows L2

theorem hu65_of {A : Around} {k : Nat} (hr : Room k A) : A.units + 65 < cLine := by have := hr.un; omega
theorem hu64_of {A : Around} {k : Nat} (hr : Room k A) : A.units + 64 < cLine := by have := hr.un; omega
theorem iteYes {c A B : Prop} [Decidable c] (h : c) (x : A) : if decide c = true then A else B := by rw [decide_eq_true h]; exact iteT x
theorem iteNo {c A B : Prop} [Decidable c] (h : ¬ c) (x : B) : if decide c = true then A else B := by rw [decide_eq_false h]; exact iteF x
theorem iteNY {c A B : Prop} [Decidable c] (h : ¬ c) (x : A) : if (!decide c) = true then A else B := by rw [decide_eq_false h]; exact iteT x
theorem iteD {c A B : Prop} [Decidable c] (h1 : c → A) (h2 : ¬ c → B) : if decide c = true then A else B := by
  by_cases h : c
  · exact iteYes h (h1 h)
  · exact iteNo h (h2 h)
theorem iteND {c A B : Prop} [Decidable c] (h1 : ¬ c → A) (h2 : c → B) : if (!decide c) = true then A else B := by
  by_cases h : c
  · exact iteNS h (h2 h)
  · exact iteNY h (h1 h)
theorem iteB {b : Bool} {A B : Prop} (h1 : b = true → A) (h2 : b = false → B) : if b = true then A else B := by
  cases b with
  | true => exact iteT (h1 rfl)
  | false => exact iteF (h2 rfl)
theorem small {n : Nat} (h : n ≤ 1000000) : n ≤ sizeLine := Nat.le_trans h (by decide)
theorem small' {n : Nat} (h : n ≤ 1000000) : n < sizeLine := Nat.lt_of_le_of_lt h (by decide)
theorem take_more {α : Type} {l : List α} {i : Nat} {x : α} (h : l[i]? = some x) : l.take (i + 1) = l.take i ++ [x] := by
  rw [List.take_succ, h]; rfl
section
variable {K : PySem.W.Frag} {F0 H0 F H F' H' F1 H1 F2 H2 : Hp} {M : List (Addr × HO)} {p : Addr} {o o' : HO}
theorem Wd.same (w : Wd F0 H0 F H M) (e : Same H H') : Wd F0 H0 F H' M :=
  ⟨w.ff, w.fh.trans e, w.hh.trans e, w.sep, fun m hm => by
    obtain ⟨a, b, c⟩ := w.mt m hm
    exact ⟨a, e _ _ b, c⟩, w.nd⟩
theorem Step.same (e : Same F H) (e2 : Same H H') : Step F H F H' := ⟨.refl F, e.trans e2, e2, fun _ h _ => h⟩
theorem Wd.l (w : Wd F0 H0 F H M) {a : Addr} {xs : List V} (h : SqL K F a xs) : SqL K H a xs := same_l w.fh h
theorem Wd.t (w : Wd F0 H0 F H M) {a : Addr} {xs : List V} (h : SqT K F a xs) : SqT K H a xs := same_t w.fh h
theorem Wd.d (w : Wd F0 H0 F H M) {v : V} {d : PyData} (h : Dp K F v d) : Dp K H v d := dp_mono w.fh h

/-! ### comprehensions: the new list at D, its items data -/
theorem lc_wdL {a : Addr} {xs : List V} {g : TG} {te : TE} {vs : List Nat} {σ : L2.St} {D : Addr} {Qd : Hp → Prop} (ds : List PyData) (hl : ds.length = xs.length) (w : Wd F0 H0 F1 H1 M) (hD : H1 D = none) (hx : SqL K F1 a xs) (hz : xs.length ≤ 1000000)
    (hs : ∀ (i : Nat) (x : V) (d : PyData) (F H : Hp) (acc : List V) (Q : VK), xs[i]? = some x → ds[i]? = some d → Same F1 F → Wd F0 H0 F H ((D, .lst acc) :: M) → (∀ y F4 H4, Step F H F4 H4 → Dp K F4 y d → Q y H4) → g x (wipe σ vs) H fun σ2 H2 => wipe σ2 vs = wipe σ vs ∧ te σ2 H2 Q)
    (hd : ∀ vs' F' H', Same F1 F' → Wd F0 H0 F' H' ((D, .lst vs') :: M) → DpAll K F' vs' ds → Qd H') :
    ∃ W : Nat → Nat → Hp → Prop, (∃ m, W 0 m (upd H1 D (.lst []))) ∧ ∀ i m H, W i m H →
      ((Itl K a).stop i H ∧ Qd H) ∨ ((Itl K a).go i H ∧ ∃ Nx : Hp → Prop, (∀ H', Nx H' → ∃ m', m' < m ∧ W (i + 1) m' H') ∧ ∀ x H', (Itl K a).yld i H x H' → g x (wipe σ vs) H' fun σ2 H2 => wipe σ2 vs = wipe σ vs ∧ tYes σ2 H2 fun b H3 =>
        if b = true then te σ2 H3 fun y H4 => ∃ acc, H4 D = some (.lst acc) ∧ acc.length < sizeLine ∧ Nx (upd H4 D (.lst (acc ++ [y]))) else Nx H3) := by
  refine lc_list (xs := xs) (fun i H => ∃ acc F, Same F1 F ∧ Wd F0 H0 F H ((D, .lst acc) :: M) ∧ DpAll K F acc (ds.take i)) ⟨[], F1, .refl F1, w.own hD _, .nil⟩ (fun i H _ ⟨acc, F, e, w', _⟩ => w'.l (same_l e hx)) (fun i x H hi ⟨acc, F, e, w', da⟩ => ?_) (fun H ⟨acc, F, e, w', da⟩ => ?_)
  · have hil : i < ds.length := by rw [hl]; exact (List.getElem?_eq_some_iff.mp hi).1
    have hdi := List.getElem?_eq_getElem hil
    refine hs i x _ F H acc _ hi hdi e w' fun y F4 H4 st dy => ?_
    have w4 := w'.step st
    refine ⟨acc, w4.at_, ?_, acc ++ [y], F4, e.trans st.ff, w4.set _, ?_⟩
    · have := dpa_len da
      rw [List.length_take] at this
      exact small' (by omega)
    · rw [take_more hdi]
      exact dpa_snoc (dpa_mono st.ff da) dy
  · rw [← hl, List.take_length] at da
    exact hd acc F H e w' da
theorem lc_wdT {a : Addr} {xs : List V} {g : TG} {te : TE} {vs : List Nat} {σ : L2.St} {D : Addr} {Qd : Hp → Prop} (ds : List PyData) (hl : ds.length = xs.length) (w : Wd F0 H0 F1 H1 M) (hD : H1 D = none) (hx : SqT K F1 a xs) (hz : xs.length ≤ 1000000)
    (hs : ∀ (i : Nat) (x : V) (d : PyData) (F H : Hp) (acc : List V) (Q : VK), xs[i]? = some x → ds[i]? = some d → Same F1 F → Wd F0 H0 F H ((D, .lst acc) :: M) → (∀ y F4 H4, Step F H F4 H4 → Dp K F4 y d → Q y H4) → g x (wipe σ vs) H fun σ2 H2 => wipe σ2 vs = wipe σ vs ∧ te σ2 H2 Q)
    (hd : ∀ vs' F' H', Same F1 F' → Wd F0 H0 F' H' ((D, .lst vs') :: M) → DpAll K F' vs' ds → Qd H') :
    ∃ W : Nat → Nat → Hp → Prop, (∃ m, W 0 m (upd H1 D (.lst []))) ∧ ∀ i m H, W i m H →
      ((Itt K a).stop i H ∧ Qd H) ∨ ((Itt K a).go i H ∧ ∃ Nx : Hp → Prop, (∀ H', Nx H' → ∃ m', m' < m ∧ W (i + 1) m' H') ∧ ∀ x H', (Itt K a).yld i H x H' → g x (wipe σ vs) H' fun σ2 H2 => wipe σ2 vs = wipe σ vs ∧ tYes σ2 H2 fun b H3 =>
        if b = true then te σ2 H3 fun y H4 => ∃ acc, H4 D = some (.lst acc) ∧ acc.length < sizeLine ∧ Nx (upd H4 D (.lst (acc ++ [y]))) else Nx H3) := by
  refine lc_tup (xs := xs) (fun i H => ∃ acc F, Same F1 F ∧ Wd F0 H0 F H ((D, .lst acc) :: M) ∧ DpAll K F acc (ds.take i)) ⟨[], F1, .refl F1, w.own hD _, .nil⟩ (fun i H _ ⟨acc, F, e, w', _⟩ => w'.t (same_t e hx)) (fun i x H hi ⟨acc, F, e, w', da⟩ => ?_) (fun H ⟨acc, F, e, w', da⟩ => ?_)
  · have hil : i < ds.length := by rw [hl]; exact (List.getElem?_eq_some_iff.mp hi).1
    have hdi := List.getElem?_eq_getElem hil
    refine hs i x _ F H acc _ hi hdi e w' fun y F4 H4 st dy => ?_
    have w4 := w'.step st
    refine ⟨acc, w4.at_, ?_, acc ++ [y], F4, e.trans st.ff, w4.set _, ?_⟩
    · have := dpa_len da
      rw [List.length_take] at this
      exact small' (by omega)
    · rw [take_more hdi]
      exact dpa_snoc (dpa_mono st.ff da) dy
  · rw [← hl, List.take_length] at da
    exact hd acc F H e w' da
end
/-- for c in s -/
theorem for_str {z : Str} {g : TG} {tb : TS} {D : Ends} {σ : L2.St} {H : Hp} (Pv : Nat → L2.St → Hp → Prop) (h0 : Pv 0 σ H)
    (hs : ∀ (i : Nat) (c : Nat) σ H, z.cps.toList[i]? = some c → Pv i σ H → g (.str ⟨#[c]⟩) σ H fun σ2 H2 => tb { D with nx := Pv (i + 1), ct := Pv (i + 1), bk := D.nx } σ2 H2) (hd : ∀ σ H, Pv z.cps.toList.length σ H → D.nx σ H) :
    ∃ W : Nat → Nat → L2.St → Hp → Prop, (∃ m, W 0 m σ H) ∧ ∀ i m σ H, W i m σ H →
      ((Its z).stop i H ∧ D.nx σ H) ∨ ((Its z).go i H ∧ ∃ N : L2.St → Hp → Prop, (∀ σ' H', N σ' H' → ∃ m', m' < m ∧ W (i + 1) m' σ' H') ∧ ∀ x H', (Its z).yld i H x H' → g x σ H' fun σ2 H2 => tb { D with nx := N, ct := N, bk := D.nx } σ2 H2) := by
  have hz : z.cps.size = z.cps.toList.length := by simp
  refine ⟨fun i m σ H => m = z.cps.toList.length - i ∧ i ≤ z.cps.toList.length ∧ Pv i σ H, ⟨z.cps.toList.length, by simp, Nat.zero_le _, h0⟩, ?_⟩
  rintro i m σ H ⟨rfl, hi, p⟩
  by_cases hlt : i < z.cps.toList.length
  · refine .inr ⟨by show i < z.cps.size; omega, Pv (i + 1), fun σ' H' p' => ⟨z.cps.toList.length - (i + 1), by omega, rfl, hlt, p'⟩, fun x H' y => ?_⟩
    obtain ⟨e, c, hc, ev⟩ := y
    subst e ev
    exact hs i c σ _ (by rw [← hc]; simp) p
  · have e : i = z.cps.toList.length := by omega
    subst e
    exact .inl ⟨by show z.cps.size ≤ _; omega, hd σ H p⟩
section
variable {K : PySem.W.Frag} {F0 H0 F H F' H' F1 H1 F2 H2 : Hp} {M : List (Addr × HO)} {p : Addr} {o o' : HO}
theorem lc_wdR {lo : Int} {n : Nat} {g : TG} {te : TE} {vs : List Nat} {σ : L2.St} {D : Addr} {Qd : Hp → Prop} (ds : List PyData) (hl : ds.length = n) (w : Wd F0 H0 F1 H1 M) (hD : H1 D = none) (hz : n ≤ 1000000)
    (hs : ∀ (i : Nat) (d : PyData) (F H : Hp) (acc : List V) (Q : VK), i < n → ds[i]? = some d → Same F1 F → Wd F0 H0 F H ((D, .lst acc) :: M) → (∀ y F4 H4, Step F H F4 H4 → Dp K F4 y d → Q y H4) → g (.int (lo + i)) (wipe σ vs) H fun σ2 H2 => wipe σ2 vs = wipe σ vs ∧ te σ2 H2 Q)
    (hd : ∀ vs' F' H', Same F1 F' → Wd F0 H0 F' H' ((D, .lst vs') :: M) → DpAll K F' vs' ds → Qd H') :
    ∃ W : Nat → Nat → Hp → Prop, (∃ m, W 0 m (upd H1 D (.lst []))) ∧ ∀ i m H, W i m H →
      ((Itr lo n).stop i H ∧ Qd H) ∨ ((Itr lo n).go i H ∧ ∃ Nx : Hp → Prop, (∀ H', Nx H' → ∃ m', m' < m ∧ W (i + 1) m' H') ∧ ∀ x H', (Itr lo n).yld i H x H' → g x (wipe σ vs) H' fun σ2 H2 => wipe σ2 vs = wipe σ vs ∧ tYes σ2 H2 fun b H3 =>
        if b = true then te σ2 H3 fun y H4 => ∃ acc, H4 D = some (.lst acc) ∧ acc.length < sizeLine ∧ Nx (upd H4 D (.lst (acc ++ [y]))) else Nx H3) := by
  refine lc_range (fun i H => ∃ acc F, Same F1 F ∧ Wd F0 H0 F H ((D, .lst acc) :: M) ∧ DpAll K F acc (ds.take i)) ⟨[], F1, .refl F1, w.own hD _, .nil⟩ (fun i H hi ⟨acc, F, e, w', da⟩ => ?_) (fun H ⟨acc, F, e, w', da⟩ => ?_)
  · have hil : i < ds.length := by rw [hl]; exact hi
    have hdi := List.getElem?_eq_getElem hil
    refine hs i _ F H acc _ hi hdi e w' fun y F4 H4 st dy => ?_
    have w4 := w'.step st
    refine ⟨acc, w4.at_, ?_, acc ++ [y], F4, e.trans st.ff, w4.set _, ?_⟩
    · have := dpa_len da
      rw [List.length_take] at this
      exact small' (by omega)
    · rw [take_more hdi]
      exact dpa_snoc (dpa_mono st.ff da) dy
  · rw [← hl, List.take_length] at da
    exact hd acc F H e w' da
end
def tJoined (ts : List TE) : TE := fun σ H Q => tJs ts Str.empty σ H fun out H1 => Q (.str out) H1
theorem pe_joinedN {X : Cx} {v1 v2 : Expr} {rest : List Expr} {ts : List TE} {pos : Pos} (h : PJ X (v1 :: v2 :: rest) ts) : PE X (.JoinedStr (v1 :: v2 :: rest) pos) (tJoined ts) := pe_joined h
theorem cutV_tail (x : V) (r : List V) : cutV (x :: r) (some 1) none = r := by
  have e1 : HT.sIx (x :: r).length 0 (some ((1 : Nat) : Int)) = 1 := by rw [HT.sIx_nat]; simp
  have e2 : HT.sIx (x :: r).length (x :: r).length none = r.length + 1 := HT.sIx_none _ _
  show ((x :: r).drop (HT.sIx (x :: r).length 0 (some ((1 : Nat) : Int)))).take (HT.sIx (x :: r).length (x :: r).length none - HT.sIx (x :: r).length 0 (some ((1 : Nat) : Int))) = r
  rw [e1, e2]
  show r.take (r.length + 1 - 1) = r
  rw [Nat.add_sub_cancel, List.take_length]
theorem cutV_front {xs ys : List V} {n : Nat} (h : xs.length = n) : cutV (xs ++ ys) none (some (n : Int)) = xs := by
  have e1 : HT.sIx (xs ++ ys).length 0 none = 0 := HT.sIx_none _ _
  have e2 : HT.sIx (xs ++ ys).length (xs ++ ys).length (some (n : Int)) = n := by rw [HT.sIx_nat, List.length_append]; omega
  unfold cutV
  rw [e1, e2, Nat.sub_zero, List.drop_zero, ← h, List.take_left]
theorem cutV_back {xs ys : List V} {n : Nat} (h : xs.length = n) : cutV (xs ++ ys) (some (n : Int)) none = ys := by
  have e1 : HT.sIx (xs ++ ys).length 0 (some (n : Int)) = n := by rw [HT.sIx_nat, List.length_append]; omega
  have e2 : HT.sIx (xs ++ ys).length (xs ++ ys).length none = (xs ++ ys).length := HT.sIx_none _ _
  unfold cutV
  rw [e1, e2, ← h, List.drop_left, List.length_append, Nat.add_sub_cancel_left, List.take_length]
/-- a chain's two tests, both told -/
theorem andB {t u : TT} {σ : L2.St} {H : Hp} {Q : Bool → Hp → Prop} (b1 b2 : Bool) (h1 : ∀ R : Bool → Hp → Prop, R b1 H → t σ H R) (h2 : b1 = true → ∀ R : Bool → Hp → Prop, R b2 H → u σ H R) (q : Q (b1 && b2) H) : tAnd t u σ H Q := by
  refine h1 _ ?_
  cases b1 with
  | true => exact iteT (h2 rfl _ q)
  | false => exact iteF q
theorem orB {t u : TT} {σ : L2.St} {H : Hp} {Q : Bool → Hp → Prop} (b1 b2 : Bool) (h1 : ∀ R : Bool → Hp → Prop, R b1 H → t σ H R) (h2 : b1 = false → ∀ R : Bool → Hp → Prop, R b2 H → u σ H R) (q : Q (b1 || b2) H) : tOr t u σ H Q := by
  refine h1 _ ?_
  cases b1 with
  | true => exact iteT q
  | false => exact iteF (h2 rfl _ q)
/-! ### the same rules, K told apart (within a comprehension's block) -/
section
variable {X : Cx} {K : PySem.W.Frag}
theorem op_addK (h : X.K = K) : OpR X (binaryOp .Add) (rAddU K) := h ▸ op_addU
theorem op_eqK (h : X.K = K) (hu : X.A.units + 64 < cLine) : OpR X (compareOp .Eq) (rEqU K) := h ▸ op_eqU hu
theorem op_neK (h : X.K = K) (hu : X.A.units + 64 < cLine) : OpR X (compareOp .NotEq) (rNeU K) := h ▸ op_neU hu
theorem op_ltK (h : X.K = K) : OpR X (compareOp .Lt) (rLtU K) := h ▸ op_ltU
theorem op_leK (h : X.K = K) : OpR X (compareOp .LtE) (rLeU K) := h ▸ op_leU
theorem op_gtK (h : X.K = K) : OpR X (compareOp .Gt) (rGtU K) := h ▸ op_gtU
theorem op_geK (h : X.K = K) : OpR X (compareOp .GtE) (rGeU K) := h ▸ op_geU
theorem op_inK (h : X.K = K) (hu : X.A.units + 65 < cLine) : OpR X (compareOp .In) (rInU K) := h ▸ op_inU hu
theorem op_notInK (h : X.K = K) (hu : X.A.units + 65 < cLine) : OpR X (compareOp .NotIn) (rNotInU K) := h ▸ op_notInU hu
theorem sl_K (h : X.K = K) : SlR X (rSlU K) := h ▸ sl_U
theorem ix_K (h : X.K = K) : IxR X (rIx K) := h ▸ ix_seq
def rLn (K : PySem.W.Frag) : List V → Hp → VK → Prop := fun xs H Q => ∃ x n, xs = [x] ∧ LenV K x H n ∧ Q (.int n) H
theorem call_lenK (h : X.K = K) : CallR X (.builtin "len") (rLn K) := h ▸ call_len
def rTupOf (K : PySem.W.Frag) : List V → Hp → VK → Prop := fun xs H Q => ∃ p ys, xs = [.ref p] ∧ ((SqL K H p ys ∧ ∀ l, H l = none → Q (.ref l) (upd H l (.tup ys))) ∨ (SqT K H p ys ∧ Q (.ref p) H))
theorem call_tupleK (h : X.K = K) : CallR X (.type "tuple") (rTupOf K) := h ▸ call_tuple_of
def rListOf (K : PySem.W.Frag) : List V → Hp → VK → Prop := fun xs H Q => ∃ p ys, xs = [.ref p] ∧ (SqL K H p ys ∨ SqT K H p ys) ∧ ∀ l, H l = none → Q (.ref l) (upd H l (.lst ys))
theorem call_listK (h : X.K = K) : CallR X (.type "list") (rListOf K) := h ▸ call_list_of
theorem cr_sumK (h : X.K = K) (hc : X.calm = true) : CallR X (.builtin "sum") (rSum K) := h ▸ cr_sum hc
theorem call_isiK1 (h : X.K = K) : CallR X (.builtin "isinstance") (rIsi K) := h ▸ call_isi
theorem cr_sortedK (h : X.K = K) : CallR X (.builtin "sorted") (rSortedI K) := h ▸ cr_sortedI
theorem pi_listK {tg l : Expr} {tl : TE} (h : X.K = K) (hl : PE X l tl) : PI X tg l (iList K tl) := h ▸ pi_list hl
theorem pi_tupK {tg l : Expr} {tl : TE} (h : X.K = K) (hl : PE X l tl) : PI X tg l (iTup K tl) := h ▸ pi_tup hl
theorem pg_tupK {es : List Expr} {k : Nat} {t : TGs} {n : Nat} {pos : Pos} (h : X.K = K) (hc : X.calm = true) (hg : PGs X es t)
    (hn : (assignEach es X.env).length = n := by rfl) (hst : (assignEach es X.env).findIdx? (·.1) = none := by rfl) : PG X (.Tuple es k pos) (gTup K n t) := h ▸ pg_tup hc hg hn hst
theorem pe_fldK {e : Expr} {ta : TE} {f : Str} {pos : Pos} (h : X.K = K) (he : PE X e ta) (hb : attributeBase e f X.env (eval e X.env) = eval e X.env) : PE X (.Attribute e f pos) (tFld K ta f) := h ▸ pe_fld he hb
end
end PW

set_option Elab.async false
set_option linter.all false
set_option maxRecDepth 100000
set_option maxHeartbeats 4000000
/-! PW2: sorted(xs) of data of any kind. -/
namespace PW
open PySem PySem.Spec PyProof.Rows L2
def sortD (xs : List V) (ds : List PyData) : List (V × PyData) := (xs.zip ds).mergeSort (PySem.W.dataLe false (·.2))
def rSortedD (K : PySem.W.Frag) : List V → Hp → VK → Prop := fun vs H Q => ∃ (a : Addr) (xs : List V) (ds : List PyData), vs = [.ref a] ∧ SqL K H a xs ∧ DpAll K H xs ds ∧ PySem.W.AllAlike ds ∧ PySem.W.Sortable ds ∧ (∀ d ∈ ds, d.depth ≤ 60) ∧
  ∀ p, H p = none → Q (.ref p) (upd H p (.lst ((sortD xs ds).map (·.1))))
theorem each_rel : ∀ {its : List Value} {xs : List V} {ds : List PyData}, Vals xs its → xs.length = ds.length → PySem.W.EachIs (fun v (b : V × PyData) => RelV b.1 v) its (xs.zip ds)
  | _, _, [], .nil, _ => .nil
  | _, _, _ :: _, .nil, h => by simp at h
  | _, _, [], .cons _ _, h => by simp at h
  | _, _, _ :: _, .cons r t, h => .cons r (each_rel t (by simpa using h))
theorem each_reads {h : Heap} : ∀ {its : List Value} {xs : List V} {ds : List PyData} {as : List Addr}, ReadsAll h its ds as → xs.length = ds.length → PySem.W.EachIs (fun v (b : V × PyData) => ∃ as, Reads h v b.2 as) its (xs.zip ds)
  | _, [], [], _, r, _ => by cases r; exact .nil
  | _, [], _ :: _, _, _, h => by simp at h
  | _, _ :: _, [], _, _, h => by simp at h
  | _, _ :: xs, _ :: ds, _, r, h => by
    cases r with
    | cons r1 r2 => exact .cons ⟨_, r1⟩ (each_reads r2 (by simpa using h))
theorem zip_snd : ∀ {xs : List V} {ds : List PyData}, xs.length = ds.length → (xs.zip ds).map (·.2) = ds
  | [], [], _ => rfl
  | [], _ :: _, h => by simp at h
  | _ :: _, [], h => by simp at h
  | _ :: xs, _ :: ds, h => by
    show _ :: (xs.zip ds).map (·.2) = _
    rw [zip_snd (by simpa using h)]
theorem zip_fst : ∀ {xs : List V} {ds : List PyData}, xs.length = ds.length → (xs.zip ds).map (·.1) = xs
  | [], [], _ => rfl
  | [], _ :: _, h => by simp at h
  | _ :: _, [], h => by simp at h
  | _ :: xs, _ :: ds, h => by
    show _ :: (xs.zip ds).map (·.1) = _
    rw [zip_fst (by simpa using h)]
theorem vals_each : ∀ {out : List Value} {l : List (V × PyData)}, PySem.W.EachIs (fun v (b : V × PyData) => RelV b.1 v) out l → Vals (l.map (·.1)) out
  | _, _, .nil => .nil
  | _, _, .cons r t => .cons r (vals_each t)
theorem cr_sortedD {X : Cx} (hu : X.A.units + 64 < cLine) : CallR X (.builtin "sorted") (rSortedD X.K) := by
  intro pins s σ H vs us Q I r h
  obtain ⟨a, xs, ds, rfl, hs, da, hal, hso, hdp, q⟩ := h
  obtain ⟨its, rv, hl, hz⟩ := I.list hs
  rw [Vals.ref1 r]
  have hlen := dpa_len da
  obtain ⟨as, hra⟩ := Dp.readsAll I ds _ its da rv
  have hmap : (xs.zip ds).map (·.2) = ds := zip_snd hlen
  refine PySem.W.sorted_data (bs := xs.zip ds) (enc := (·.2)) (R := fun v (b : V × PyData) => RelV b.1 v) hl.isList (each_rel rv hlen) (each_reads hra hlen) (by rw [hmap]; exact hal) (by rw [hmap]; exact hso) (by rw [List.length_zip]; omega) (fun b hb => ?_) fun out ho eo => ?_
  · have : b.2 ∈ ds := by rw [← hmap]; exact List.mem_map_of_mem (f := (·.2)) hb
    have := hdp _ this
    omega
  · obtain ⟨ep, he'⟩ := PyProof.Rows.sortedAll_at s.heap its out.toArray
    have hlen2 : ((sortD xs ds).map (·.1)).length ≤ sizeLine := by
      unfold sortD
      rw [List.length_map, List.length_mergeSort, List.length_zip]
      omega
    exact ⟨.ref _, upd H (s.heap.objs.size + 1) (.lst ((sortD xs ds).map (·.1))), I.laid (t' := s.toks) (fun _ _ => PyProof.Rows.sortedAll_old) (Nat.le_succ _) ⟨hlen2, out, ep, vals_each eo, he'⟩, rfl, q _ (I.hok.fresh (Nat.le_succ _))⟩
theorem cr_sortedDK {X : Cx} {K : PySem.W.Frag} (h : X.K = K) (hu : X.A.units + 64 < cLine) : CallR X (.builtin "sorted") (rSortedD K) := h ▸ cr_sortedD hu
/-- what comes out: the same pairs in another order, each not above the next -/
theorem sortD_perm (xs : List V) (ds : List PyData) : (sortD xs ds).Perm (xs.zip ds) := List.mergeSort_perm _ _
theorem dpa_pairs {K : PySem.W.Frag} {H : Hp} : ∀ {l : List (V × PyData)}, (∀ b ∈ l, Dp K H b.1 b.2) → DpAll K H (l.map (·.1)) (l.map (·.2))
  | [], _ => .nil
  | b :: l, h => .cons (h b (by simp)) (dpa_pairs fun c hc => h c (List.mem_cons_of_mem _ hc))
theorem pairs_dpa {K : PySem.W.Frag} {H : Hp} : ∀ {xs : List V} {ds : List PyData}, DpAll K H xs ds → ∀ b ∈ xs.zip ds, Dp K H b.1 b.2
  | _, _, .nil, b, hb => by simp at hb
  | _, _, .cons h t, b, hb => by
    rcases List.mem_cons.mp (by simpa using hb) with rfl | hb
    · exact h
    · exact pairs_dpa t b hb
theorem sortD_dpa {K : PySem.W.Frag} {H : Hp} {xs : List V} {ds : List PyData} (da : DpAll K H xs ds) : DpAll K H ((sortD xs ds).map (·.1)) ((sortD xs ds).map (·.2)) :=
  dpa_pairs fun b hb => pairs_dpa da b ((sortD_perm xs ds).mem_iff.mp hb)
/-- o.m(e, ..) within a try: what it raises is wished for at the slots as they stand -/
def tMethZ (C : Addr) (sp : Sp) (E : L2.St → XK) (m : Str) (ta : TE) (t : TA) : TE := fun σ H Q => ta σ H fun x H1 => ∃ a dx fs, x = .ref a ∧ H1 a = some (.ins C dx fs) ∧ fs.lookup m = none ∧ t σ H1 fun vs H2 => sp (x :: vs) H2 Q (E σ)
theorem pe_methZ {X : Cx} {CX : CXT} {k : Nat} {f C : Addr} {fd : FuncData} {ps : List Str} {sp : Sp} {E : L2.St → XK} {m : Str} {pos apos : Pos} {e o : Expr} {es : List Expr} {ta : TE} {t : TA} {pl : Sem Bool} (he : PE X o ta) (c : Cls X.K C) (hm : Meth X.K C m f)
    (F : FnOk X.prog X.w X.K X.mg X.base CX k f fd ps sp) (hr : Room k X.A) (hb : Binds X.K fd ps []) (hx : ∀ σ, PassesAt CX X σ (E σ)) (ha : PA X (e :: es) t)
    (hst : starEach (e :: es) X.env = (false, eval e X.env) :: starEach es X.env := by rfl) (hpl : (backTo pos (starEach es X.env)).any (·.1) = false := by rfl)
    (ht : eval (.Call (.Attribute o m apos) (e :: es) [] pos) X.env = (do
      let ov ← eval o X.env
      standAt apos.atName
      let (f, first) ← holding [ov] (getMethod ov m pl)
      callWith pos f first (backTo pos (starEach (e :: es) X.env)) (backToKw pos (keywordEach [] X.env))) := by rfl) :
    PE X (.Call (.Attribute o m apos) (e :: es) [] pos) (tMethZ C sp E m ta t) := by
  refine ⟨fun pins s σ H Q I h => ?_⟩
  refine PySem.W.methodCall_KW (pl := pl) (thn (he.run pins s σ H _ I h) fun u s1 ⟨x, H1, I1, rx, a, dx, fs, ex, ea, l, q⟩ => ?_) ht
  subst ex
  obtain rfl : u = Value.ref a := rx
  refine getmeth_ok I1 ea c hm l ?_
  refine PySem.W.callWith_K (first := [.ref a]) (h₀ := X.base) I.ok.mod.kin hm.kp (thn (ha.run pos pins s1 σ H1 _ I1 q) fun us s2 ⟨vs, H2, I2, r, q2⟩ => ⟨I2.kIn, ?_⟩) hst hpl
  exact run_fnS (us := .ref a :: us) (vs := .ref a :: vs) F hr hb (hx σ) I2 (.cons rfl r) q2
/-! ### a made object, turning the own part -/
theorem Wd.perm {F0 H0 F H : Hp} {M M' : List (Addr × HO)} (w : Wd F0 H0 F H M) (h : M.Perm M') : Wd F0 H0 F H M' :=
  ⟨w.ff, w.fh, w.hh, w.sep, fun m hm => w.mt m (h.mem_iff.mpr hm), (h.map _).nodup_iff.mp w.nd⟩
theorem Wd.roll {F0 H0 F H : Hp} {x : Addr × HO} {M : List (Addr × HO)} (w : Wd F0 H0 F H (x :: M)) : Wd F0 H0 F H (M ++ [x]) := w.perm (List.perm_append_comm (l₁ := [x]) (l₂ := M))
theorem Wd.made {F0 H0 F H H' : Hp} {M : List (Addr × HO)} {p l : Addr} {o ol op : HO} (w : Wd F0 H0 F H ((p, o) :: M)) (keep : ∀ b u, H b = some u → b ≠ p → H' b = some u) (hl : H l = none) (hlp : l ≠ p) (e1 : H' l = some ol) (e2 : H' p = some op) :
    Wd F0 H0 F H' ((l, ol) :: (p, op) :: M) := by
  obtain ⟨f, hp, h0⟩ := w.mt _ List.mem_cons_self
  have nd := w.nd
  obtain ⟨fl, hl0, hm⟩ := w.free hl
  refine ⟨w.ff, fun b u e => keep b u (w.fh b u e) (ne_of_none e f), fun b u e => keep b u (w.hh b u e) (ne_of_none e h0), w.sep, fun m hm' => ?_, ?_⟩
  · rcases List.mem_cons.mp hm' with rfl | hm'
    · exact ⟨fl, e1, hl0⟩
    · rcases List.mem_cons.mp hm' with rfl | hm'
      · exact ⟨f, e2, h0⟩
      · obtain ⟨a, b, c⟩ := w.mt m (List.mem_cons_of_mem _ hm')
        rw [List.map_cons, List.nodup_cons] at nd
        exact ⟨a, keep _ _ b (fun z => nd.1 (z ▸ List.mem_map_of_mem (f := (·.1)) hm')), c⟩
  · rw [List.map_cons, List.map_cons] at *
    rw [List.nodup_cons]
    refine ⟨fun z => ?_, by simpa using nd⟩
    rcases List.mem_cons.mp z with z | z
    · exact hlp z
    · obtain ⟨m, hm', e⟩ := List.mem_map.mp z
      exact hm m (List.mem_cons_of_mem _ hm') e
end PW

set_option Elab.async false
set_option linter.all false
set_option maxRecDepth 100000
set_option maxHeartbeats 4000000
/-! M63: records and their texts, plain Lean. -/
namespace Rc
open PySem PySem.Spec PyProof.Rows L2 TL

/-! ### numbers -/
def numS (i : Int) : Str := Str.ofString (toString i)
def NumOk (i : Int) : Prop := 0 ≤ i ∧ i < 1000000000
theorem tl_numS {i : Int} (h : 0 ≤ i) : tl (numS i) = numL i.toNat := by
  obtain ⟨n, rfl⟩ := Int.eq_ofNat_of_zero_le h
  show tl (Str.ofString (toString ((n : Nat) : Int))) = numL ((n : Int)).toNat
  rw [tl_num, Int.toNat_natCast]
theorem numS_len {i : Int} (h : NumOk i) : (tl (numS i)).length ≤ 9 := by
  rw [tl_numS h.1]
  exact numL_len (by decide) (by have := h.2; have := h.1; omega)
theorem numS_ne {i : Int} (h : 0 ≤ i) : tl (numS i) ≠ [] := by rw [tl_numS h]; exact numL_ne _
theorem numS_digits {i : Int} (h : 0 ≤ i) : NumText.AllDigits (tl (numS i)) := by rw [tl_numS h]; exact numL_digits _
theorem numS_free {i : Int} {s : Nat} (h : 0 ≤ i) (hs : s < 48 ∨ 57 < s) : s ∉ tl (numS i) := by rw [tl_numS h]; exact numL_free hs
theorem numL_head : ∀ (n : Nat), 1 < (numL n).length → (numL n)[0]? ≠ some 48 := by
  intro n
  induction n using Nat.strongRecOn with
  | _ n ih =>
    intro hl
    by_cases h : n < 10
    · rw [numL_lt h] at hl
      simp at hl
    · have e := numL_step (n := n) (by omega)
      have hne := numL_ne (n / 10)
      have h0 : (numL n)[0]? = (numL (n / 10))[0]? := by
        rw [e, List.getElem?_append_left]
        exact List.length_pos_iff.mpr hne
      rw [h0]
      by_cases h2 : n / 10 < 10
      · rw [numL_lt h2]
        show some (48 + n / 10) ≠ some 48
        intro z
        have := Option.some.inj z
        omega
      · refine ih (n / 10) (by omega) ?_
        rw [numL_step (n := n / 10) (by omega), List.length_append]
        have := List.length_pos_iff.mpr (numL_ne (n / 10 / 10))
        simp
        omega
theorem numS_head {i : Int} (h : 0 ≤ i) (hl : 1 < (tl (numS i)).length) : (tl (numS i))[0]? ≠ some 48 := by
  rw [tl_numS h] at hl ⊢
  exact numL_head _ hl
theorem numS_text {i : Int} (h : NumOk i) : PySem.intText? (numS i) = some i := by
  have e := PySem.intText_digits (x := numS i) (numS_digits h.1) (numS_ne h.1) (by rw [len_tl]; exact Nat.le_trans (numS_len h) (by decide))
  rw [e]
  show some (((NumText.digitsVal (tl (numS i)) : Nat)) : Int) = some i
  rw [tl_numS h.1, numL_val, Int.toNat_of_nonneg h.1]
theorem numS_log {i : Int} (h : NumOk i) : i.natAbs.log2 < 1920 := by
  have h1 : i.natAbs < 2 ^ 30 := by have := h.1; have := h.2; omega
  by_cases h0 : i.natAbs = 0
  · rw [h0]; decide
  · exact Nat.lt_trans ((Nat.log2_lt h0).mpr h1) (by decide)

/-! ### texts -/
theorem str_eq {x y : Str} (h : tl x = tl y) : x = y := ext_tl h
theorem app_assoc (x y z : Str) : x ++ y ++ z = x ++ (y ++ z) := str_eq (by rw [tl_append, tl_append, tl_append, tl_append, List.append_assoc])
theorem mem_joinL {S : List Nat} {s : Nat} : ∀ {ps : List (List Nat)}, s ∈ joinL S ps → s ∈ S ∨ ∃ p ∈ ps, s ∈ p
  | [], h => by cases h
  | [p], h => .inr ⟨p, by simp, h⟩
  | p :: q :: r, h => by
    have h : s ∈ p ++ (S ++ joinL S (q :: r)) := h
    rcases List.mem_append.mp h with h | h
    · exact .inr ⟨p, by simp, h⟩
    · rcases List.mem_append.mp h with h | h
      · exact .inl h
      · rcases mem_joinL h with h | ⟨p', h1, h2⟩
        · exact .inl h
        · exact .inr ⟨p', List.mem_cons_of_mem _ h1, h2⟩
theorem tl_joinT (y : Str) (ps : List Str) : tl (Txt.join y ps) = joinL (tl y) (ps.map tl) := by rw [join_eq, tl_join]
theorem free_join {y : Str} {ps : List Str} {s : Nat} (h1 : s ∉ tl y) (h2 : ∀ p ∈ ps, s ∉ tl p) : s ∉ tl (Txt.join y ps) := by
  rw [tl_joinT]
  intro h
  rcases mem_joinL h with h | ⟨p, hp, h⟩
  · exact h1 h
  · obtain ⟨q, hq, rfl⟩ := List.mem_map.mp hp
    exact h2 q hq h
theorem free_app {x y : Str} {s : Nat} (h1 : s ∉ tl x) (h2 : s ∉ tl y) : s ∉ tl (x ++ y) := by
  rw [tl_append]
  intro h
  rcases List.mem_append.mp h with h | h
  · exact h1 h
  · exact h2 h
/-- signs all below 128 -/
def Asc (x : Str) : Prop := ∀ c ∈ tl x, c < 128
theorem asc_app {x y : Str} (h1 : Asc x) (h2 : Asc y) : Asc (x ++ y) := fun c h => by
  rw [tl_append] at h
  exact (List.mem_append.mp h).elim (h1 c) (h2 c)
theorem asc_join {y : Str} {ps : List Str} (h1 : Asc y) (h2 : ∀ p ∈ ps, Asc p) : Asc (Txt.join y ps) := fun c h => by
  rw [tl_joinT] at h
  rcases mem_joinL h with h | ⟨p, hp, h⟩
  · exact h1 c h
  · obtain ⟨q, hq, rfl⟩ := List.mem_map.mp hp
    exact h2 q hq c h
theorem asc_ok {x : Str} (h : Asc x) : PyData.strOk x = true := by
  unfold PyData.strOk
  rw [Array.all_eq_true]
  intro i hi
  have := h x.cps[i] (by simp [tl])
  simp
  omega
theorem asc_num {i : Int} (h : 0 ≤ i) : Asc (numS i) := fun c hc => by
  have := numS_digits h c hc
  omega

/-! ### slices at the ends -/
theorem cut_last (x : Str) (c : Nat) : cutS (x ++ ⟨#[c]⟩) (some (-1)) none = ⟨#[c]⟩ := by
  refine str_eq ?_
  have hl : (x ++ (⟨#[c]⟩ : Str)).length = (tl x).length + 1 := by rw [len_tl, tl_append]; simp
  unfold cutS
  rw [tl_mk, hl]
  show List.take ((tl x).length + 1 - HT.sIx ((tl x).length + 1) 0 (some (-1))) (List.drop (HT.sIx ((tl x).length + 1) 0 (some (-1))) (tl (x ++ ⟨#[c]⟩))) = [c]
  have e : HT.sIx ((tl x).length + 1) 0 (some (-1)) = (tl x).length := by
    have e0 : (if (-1 : Int) < 0 then ((-1 : Int) + (((tl x).length + 1 : Nat) : Int)).toNat else min (-1 : Int).toNat ((tl x).length + 1)) = ((-1 : Int) + (((tl x).length + 1 : Nat) : Int)).toNat := if_pos (by decide)
    exact e0.trans (by omega)
  rw [e, tl_append, List.drop_left]
  have : (tl x).length + 1 - (tl x).length = 1 := by omega
  rw [this]
  rfl
theorem cut_init (x : Str) (c : Nat) : cutS (x ++ ⟨#[c]⟩) none (some (-1)) = x := by
  refine str_eq ?_
  have hl : (x ++ (⟨#[c]⟩ : Str)).length = (tl x).length + 1 := by rw [len_tl, tl_append]; simp
  unfold cutS
  rw [tl_mk, hl]
  show List.take (HT.sIx ((tl x).length + 1) ((tl x).length + 1) (some (-1)) - 0) (List.drop 0 (tl (x ++ ⟨#[c]⟩))) = tl x
  have e : HT.sIx ((tl x).length + 1) ((tl x).length + 1) (some (-1)) = (tl x).length := by
    have e0 : (if (-1 : Int) < 0 then ((-1 : Int) + (((tl x).length + 1 : Nat) : Int)).toNat else min (-1 : Int).toNat ((tl x).length + 1)) = ((-1 : Int) + (((tl x).length + 1 : Nat) : Int)).toNat := if_pos (by decide)
    exact e0.trans (by omega)
  rw [e, Nat.sub_zero, List.drop_zero, tl_append, List.take_left]
theorem cut_sub {x : Str} {lo hi : Option Int} {c : Nat} (h : c ∈ tl (cutS x lo hi)) : c ∈ tl x := by
  unfold cutS at h
  rw [tl_mk] at h
  exact List.mem_of_mem_drop (List.mem_of_mem_take h)
theorem cut_torn {x : Str} {c : Nat} (h : c ∉ tl x) (lo hi : Option Int) : cutS x lo hi ≠ ⟨#[c]⟩ := fun e => h (cut_sub (lo := lo) (hi := hi) (by rw [e]; simp [tl]))

/-! ### records -/
inductive Rec where
  | picture (caps : List Int) (names : List (Str × List Int)) (ws : List (Int × Int × Int))
  | put (name : Str) (ns : List Int) (ws : List (Int × Int × Int))
  | erase (name : Str)
  | deal (ws : List (Int × Int × Int))
  | cap (seat cap : Int) (ws : List (Int × Int × Int))
def Rec.isPic : Rec → Bool
  | .picture .. => true
  | _ => false
abbrev comma : Str := ","
abbrev eqS : Str := "="
abbrev colon : Str := ":"
abbrev space : Str := " "
abbrev stroke : Str := "/"
abbrev semi : Str := ";"
abbrev wPicture : Str := "picture"
abbrev wPut : Str := "put"
abbrev wErase : Str := "erase"
abbrev wDeal : Str := "deal"
abbrev wCap : Str := "cap"
def listW (ns : List Int) : Str := Txt.join comma (ns.map numS)
def nameW (p : Str × List Int) : Str := p.1 ++ eqS ++ listW p.2
def wardW (w : Int × Int × Int) : Str := numS w.1 ++ colon ++ numS w.2.1 ++ comma ++ numS w.2.2
/-- the words ahead of the stroke -/
def headW : Rec → List Str
  | .picture caps names _ => [wPicture, listW caps] ++ names.map nameW
  | .put n ns _ => [wPut, nameW (n, ns)]
  | .cap s c _ => [wCap, numS s, numS c]
  | .deal _ => [wDeal]
  | .erase n => [wErase, n]
def Rec.ws : Rec → List (Int × Int × Int)
  | .picture _ _ ws => ws
  | .put _ _ ws => ws
  | .cap _ _ ws => ws
  | .deal ws => ws
  | .erase _ => []
def words (r : Rec) : List Str := match r with
  | .erase n => [wErase, n]
  | r => headW r ++ [stroke] ++ r.ws.map wardW
def recText (r : Rec) : Str := Txt.join space (words r) ++ semi
def encNs (ns : List Int) : PyData := .tuple (ns.map PyData.int)
def encName (p : Str × List Int) : PyData := .tuple [.str p.1, encNs p.2]
def encW (w : Int × Int × Int) : PyData := .tuple [.int w.1, .int w.2.1, .int w.2.2]
def encWs (ws : List (Int × Int × Int)) : PyData := .tuple (ws.map encW)
def headD : Rec → List PyData
  | .picture caps names _ => [.str wPicture, encNs caps, .tuple (names.map encName)]
  | .put n ns _ => [.str wPut, .str n, encNs ns]
  | .cap s c _ => [.str wCap, .int s, .int c]
  | .deal _ => [.str wDeal]
  | .erase n => [.str wErase, .str n]
def encR (r : Rec) : PyData := match r with
  | .erase n => .tuple [.str wErase, .str n]
  | r => .tuple (headD r ++ [encWs r.ws])
/-! what a record may be -/
def NameOk (x : Str) : Prop := 1 ≤ (tl x).length ∧ (tl x).length ≤ 12 ∧ ∀ c ∈ tl x, (97 ≤ c ∧ c ≤ 122) ∨ (48 ≤ c ∧ c ≤ 57)
structure NsOk (ns : List Int) : Prop where
  num : ∀ n ∈ ns, NumOk n
  pos : ∀ n ∈ ns, 1 ≤ n
  up : ns.Pairwise (· < ·)
  few : ns.length ≤ 100
structure WsOk (ws : List (Int × Int × Int)) : Prop where
  num : ∀ w ∈ ws, NumOk w.1 ∧ NumOk w.2.1 ∧ NumOk w.2.2
  pos : ∀ w ∈ ws, 1 ≤ w.1 ∧ w.2.1 < w.2.2
  up : (ws.map (·.1)).Pairwise (· < ·)
  few : ws.length ≤ 100
def RecOk : Rec → Prop
  | .picture caps names ws => caps ≠ [] ∧ (∀ c ∈ caps, NumOk c) ∧ caps.length ≤ 100 ∧ (∀ p ∈ names, NameOk p.1 ∧ NsOk p.2) ∧ (names.map (·.1)).Pairwise (fun x y => tl x < tl y) ∧ names.length ≤ 100 ∧ WsOk ws
  | .put n ns ws => NameOk n ∧ NsOk ns ∧ WsOk ws
  | .erase n => NameOk n
  | .deal ws => WsOk ws
  | .cap s c ws => NumOk s ∧ NumOk c ∧ WsOk ws
theorem RecOk.ws {r : Rec} (h : RecOk r) : WsOk r.ws := by
  cases r with
  | picture caps names ws => exact h.2.2.2.2.2.2
  | put n ns ws => exact h.2.2
  | erase n => exact ⟨fun _ h => by simp [Rec.ws] at h, fun _ h => by simp [Rec.ws] at h, List.Pairwise.nil, by simp [Rec.ws]⟩
  | deal ws => exact h
  | cap s c ws => exact h.2.2

/-! ### which signs stand in a word -/
theorem ofS_tl (s : String) : tl (s : Str) = s.toList.map Char.toNat := tl_ofString s
theorem free_list {ns : List Int} (h : ∀ n ∈ ns, NumOk n) {s : Nat} (hs : s < 48 ∨ 57 < s) (hc : s ≠ 44) : s ∉ tl (listW ns) :=
  free_join (by rw [ofS_tl]; simpa using hc) fun p hp => by
    obtain ⟨n, hn, rfl⟩ := List.mem_map.mp hp
    exact numS_free (h n hn).1 hs
theorem name_free {x : Str} (h : NameOk x) {s : Nat} (hs : (s < 48 ∨ 57 < s) ∧ (s < 97 ∨ 122 < s)) : s ∉ tl x := fun hm => by
  have := h.2.2 s hm
  omega
theorem free_name {p : Str × List Int} (h1 : NameOk p.1) (h2 : NsOk p.2) {s : Nat} (hs : (s < 48 ∨ 57 < s) ∧ (s < 97 ∨ 122 < s)) (hc : s ≠ 44 ∧ s ≠ 61) : s ∉ tl (nameW p) :=
  free_app (free_app (name_free h1 hs) (by rw [ofS_tl]; simpa using hc.2)) (free_list h2.num hs.1 hc.1)
theorem free_ward {w : Int × Int × Int} (h : NumOk w.1 ∧ NumOk w.2.1 ∧ NumOk w.2.2) {s : Nat} (hs : s < 48 ∨ 57 < s) (hc : s ≠ 44 ∧ s ≠ 58) : s ∉ tl (wardW w) :=
  free_app (free_app (free_app (free_app (numS_free h.1.1 hs) (by rw [ofS_tl]; simpa using hc.2)) (numS_free h.2.1.1 hs)) (by rw [ofS_tl]; simpa using hc.1)) (numS_free h.2.2.1 hs)
/-- no word of a record has a space or a semicolon; no word but the stroke has a stroke -/
theorem head_free {r : Rec} (h : RecOk r) {s : Nat} (hs : s = 32 ∨ s = 59 ∨ s = 47) : ∀ w ∈ headW r, s ∉ tl w := by
  have lit : ∀ x : String, (∀ c ∈ x.toList.map Char.toNat, 97 ≤ c) → s ∉ tl (x : Str) := fun x hx hm => by
    rw [ofS_tl] at hm
    have := hx s hm
    omega
  have k1 : (s < 48 ∨ 57 < s) ∧ (s < 97 ∨ 122 < s) := by omega
  have k2 : s ≠ 44 ∧ s ≠ 61 := by omega
  cases r with
  | picture caps names ws =>
    obtain ⟨_, h2, _, h4, _⟩ := h
    intro w hw
    have hw : w ∈ [wPicture, listW caps] ++ names.map nameW := hw
    rcases List.mem_append.mp hw with hw | hw
    · simp only [List.mem_cons, List.not_mem_nil, or_false] at hw
      rcases hw with rfl | rfl
      · exact lit "picture" (by decide)
      · exact free_list h2 k1.1 k2.1
    · obtain ⟨p, hp, rfl⟩ := List.mem_map.mp hw
      exact free_name (h4 p hp).1 (h4 p hp).2 k1 k2
  | put n ns ws =>
    intro w hw
    have hw : w ∈ [wPut, nameW (n, ns)] := hw
    simp only [List.mem_cons, List.not_mem_nil, or_false] at hw
    rcases hw with rfl | rfl
    · exact lit "put" (by decide)
    · exact free_name h.1 h.2.1 k1 k2
  | erase n =>
    intro w hw
    have hw : w ∈ [wErase, n] := hw
    simp only [List.mem_cons, List.not_mem_nil, or_false] at hw
    rcases hw with rfl | rfl
    · exact lit "erase" (by decide)
    · exact name_free h k1
  | deal ws =>
    intro w hw
    have hw : w ∈ [wDeal] := hw
    simp only [List.mem_cons, List.not_mem_nil, or_false] at hw
    subst hw
    exact lit "deal" (by decide)
  | cap s' c ws =>
    intro w hw
    have hw : w ∈ [wCap, numS s', numS c] := hw
    simp only [List.mem_cons, List.not_mem_nil, or_false] at hw
    rcases hw with rfl | rfl | rfl
    · exact lit "cap" (by decide)
    · exact numS_free h.1.1 k1.1
    · exact numS_free h.2.1.1 k1.1
theorem words_free {r : Rec} (h : RecOk r) {s : Nat} (hs : s = 32 ∨ s = 59) : ∀ w ∈ words r, s ∉ tl w := by
  have key : ∀ w ∈ headW r ++ [stroke] ++ r.ws.map wardW, s ∉ tl w := fun w hw => by
    rcases List.mem_append.mp hw with hw | hw
    · rcases List.mem_append.mp hw with hw | hw
      · exact head_free h (by omega) w hw
      · rw [List.mem_singleton.mp hw, ofS_tl]
        simp
        omega
    · obtain ⟨p, hp, rfl⟩ := List.mem_map.mp hw
      exact free_ward (h.ws.num p hp) (by omega) (by omega)
  cases r with
  | erase n => exact head_free h (by omega)
  | _ => exact key
theorem words_ne (r : Rec) : words r ≠ [] := by cases r <;> simp [words, headW]
theorem body_free {r : Rec} (h : RecOk r) : 59 ∉ tl (Txt.join space (words r)) := free_join (by rw [ofS_tl]; decide) (words_free h (.inr rfl))
/-- the read-back of the words -/
theorem split_words {r : Rec} (h : RecOk r) : Txt.split (Txt.join space (words r)) space = words r :=
  split_join (s := 32) (S := []) (by rw [ofS_tl]; rfl) (by decide +kernel) (words_ne r) (words_free h (.inl rfl))
theorem split_list {ns : List Int} (h : ∀ n ∈ ns, NumOk n) (hne : ns ≠ []) : Txt.split (listW ns) comma = ns.map numS :=
  split_join (s := 44) (S := []) (by rw [ofS_tl]; rfl) (by decide +kernel) (by simpa using hne) fun p hp => by
    obtain ⟨n, hn, rfl⟩ := List.mem_map.mp hp
    exact numS_free (h n hn).1 (by omega)
theorem nameW_join (p : Str × List Int) : nameW p = Txt.join eqS [p.1, listW p.2] := by
  refine str_eq ?_
  rw [tl_joinT]
  show tl (p.1 ++ eqS ++ listW p.2) = tl p.1 ++ (tl eqS ++ tl (listW p.2))
  rw [tl_append, tl_append, List.append_assoc]
theorem split_name {p : Str × List Int} (h1 : NameOk p.1) (h2 : NsOk p.2) : Txt.split (nameW p) eqS = [p.1, listW p.2] := by
  rw [nameW_join]
  refine split_join (s := 61) (S := []) (by rw [ofS_tl]; rfl) (by decide +kernel) (by simp) fun q hq => ?_
  simp only [List.mem_cons, List.not_mem_nil, or_false] at hq
  rcases hq with rfl | rfl
  · exact name_free h1 (by omega)
  · exact free_list h2.num (by omega) (by omega)
theorem wardW_join (w : Int × Int × Int) : wardW w = Txt.join colon [numS w.1, listW [w.2.1, w.2.2]] := by
  refine str_eq ?_
  rw [tl_joinT]
  show tl (numS w.1 ++ colon ++ numS w.2.1 ++ comma ++ numS w.2.2) = tl (numS w.1) ++ (tl colon ++ tl (listW [w.2.1, w.2.2]))
  have e : tl (listW [w.2.1, w.2.2]) = tl (numS w.2.1) ++ (tl comma ++ tl (numS w.2.2)) := tl_joinT _ _
  rw [e, tl_append, tl_append, tl_append, tl_append]
  simp only [List.append_assoc]
theorem split_ward {w : Int × Int × Int} (h : NumOk w.1 ∧ NumOk w.2.1 ∧ NumOk w.2.2) : Txt.split (wardW w) colon = [numS w.1, listW [w.2.1, w.2.2]] := by
  rw [wardW_join]
  refine split_join (s := 58) (S := []) (by rw [ofS_tl]; rfl) (by decide +kernel) (by simp) fun q hq => ?_
  simp only [List.mem_cons, List.not_mem_nil, or_false] at hq
  rcases hq with rfl | rfl
  · exact numS_free h.1.1 (by omega)
  · refine free_list (fun n hn => ?_) (by omega) (by omega)
    simp only [List.mem_cons, List.not_mem_nil, or_false] at hn
    rcases hn with rfl | rfl
    · exact h.2.1
    · exact h.2.2
/-! ### the program's own way to write a record -/
theorem joinL_app {S : List Nat} : ∀ {a b : List (List Nat)}, a ≠ [] → b ≠ [] → joinL S (a ++ b) = joinL S a ++ (S ++ joinL S b)
  | [], _, h, _ => absurd rfl h
  | [p], b, _, hb => by
    cases b with
    | nil => exact absurd rfl hb
    | cons q r => rfl
  | p :: q :: a, b, _, hb => by
    show p ++ (S ++ joinL S ((q :: a) ++ b)) = p ++ (S ++ joinL S (q :: a)) ++ (S ++ joinL S b)
    rw [joinL_app (by simp) hb]
    simp only [List.append_assoc]
/-- the text of warden entries, a space ahead of each -/
def wardsT (ws : List (Int × Int × Int)) : Str := Txt.join Str.empty (ws.map fun w => space ++ wardW w)
theorem joinL_nil : ∀ ps : List (List Nat), joinL [] ps = ps.flatten
  | [] => rfl
  | [p] => by simp [joinL]
  | p :: q :: r => by
    show p ++ ([] ++ joinL [] (q :: r)) = _
    rw [joinL_nil (q :: r)]
    simp
theorem joinL_stroke {ps : List (List Nat)} {S s : List Nat} : joinL S (s :: ps) = s ++ (ps.map fun p => S ++ p).flatten := by
  induction ps generalizing s with
  | nil => simp [joinL]
  | cons p ps ih =>
    show s ++ (S ++ joinL S (p :: ps)) = _
    rw [ih]
    simp
theorem text_eq {r : Rec} (hn : ∀ n, r ≠ .erase n) : Txt.join space (headW r) ++ " /" ++ wardsT r.ws ++ semi = recText r := by
  have hw : words r = headW r ++ [stroke] ++ r.ws.map wardW := by
    cases r with
    | erase n => exact absurd rfl (hn n)
    | _ => rfl
  have hh : headW r ≠ [] := by cases r <;> simp [headW]
  refine str_eq ?_
  unfold recText
  rw [tl_append, tl_append, tl_append, tl_append, hw]
  congr 1
  rw [tl_joinT, tl_joinT]
  have e1 : (headW r ++ [stroke] ++ r.ws.map wardW).map tl = (headW r).map tl ++ (tl stroke :: (r.ws.map wardW).map tl) := by simp
  rw [e1, joinL_app (by simpa using hh) (by simp), joinL_stroke]
  have e2 : tl (wardsT r.ws) = (((r.ws.map wardW).map tl).map fun p => tl space ++ p).flatten := by
    unfold wardsT
    rw [tl_joinT]
    show joinL [] _ = _
    rw [joinL_nil]
    simp only [List.map_map]
    congr 1
    refine List.map_congr_left fun w _ => ?_
    show tl (space ++ wardW w) = tl space ++ tl (wardW w)
    rw [tl_append]
  rw [e2]
  have e3 : tl (" /" : Str) = tl space ++ tl stroke := by rw [ofS_tl, ofS_tl, ofS_tl]; rfl
  rw [e3]
  simp only [List.append_assoc]
theorem erase_eq (n : Str) : "erase " ++ n ++ semi = recText (.erase n) := by
  refine str_eq ?_
  unfold recText
  rw [tl_append, tl_append, tl_append, tl_joinT]
  show tl ("erase " : Str) ++ tl n ++ tl semi = tl wErase ++ (tl space ++ tl n) ++ tl semi
  have e3 : tl ("erase " : Str) = tl wErase ++ tl space := by rw [ofS_tl, ofS_tl, ofS_tl]; rfl
  rw [e3]
  simp only [List.append_assoc]

/-! ### lengths -/
theorem joinL_len {S : List Nat} {k : Nat} : ∀ {ps : List (List Nat)}, (∀ p ∈ ps, p.length ≤ k) → (joinL S ps).length ≤ ps.length * (k + S.length)
  | [], _ => Nat.zero_le _
  | [p], h => by
    have := h p (by simp)
    show p.length ≤ 1 * (k + S.length)
    omega
  | p :: q :: r, h => by
    have h1 := h p (by simp)
    have h2 := joinL_len (S := S) (ps := q :: r) fun x hx => h x (List.mem_cons_of_mem _ hx)
    show (p ++ (S ++ joinL S (q :: r))).length ≤ ((q :: r).length + 1) * (k + S.length)
    rw [List.length_append, List.length_append, Nat.add_mul]
    omega
theorem list_len {ns : List Int} (h : ∀ n ∈ ns, NumOk n) (hl : ns.length ≤ 100) : (tl (listW ns)).length ≤ 1000 := by
  unfold listW
  rw [tl_joinT]
  refine Nat.le_trans (joinL_len (k := 9) fun p hp => ?_) ?_
  · simp only [List.map_map, List.mem_map] at hp
    obtain ⟨n, hn, rfl⟩ := hp
    exact numS_len (h n hn)
  · have : (tl comma).length = 1 := by rw [ofS_tl]; rfl
    rw [this, List.length_map, List.length_map]
    omega
theorem name_len {p : Str × List Int} (h1 : NameOk p.1) (h2 : NsOk p.2) : (tl (nameW p)).length ≤ 1013 := by
  unfold nameW
  rw [tl_append, tl_append, List.length_append, List.length_append]
  have := h1.2.1
  have := list_len h2.num h2.few
  have : (tl eqS).length = 1 := by rw [ofS_tl]; rfl
  omega
theorem ward_len {w : Int × Int × Int} (h : NumOk w.1 ∧ NumOk w.2.1 ∧ NumOk w.2.2) : (tl (wardW w)).length ≤ 29 := by
  unfold wardW
  rw [tl_append, tl_append, tl_append, tl_append, List.length_append, List.length_append, List.length_append, List.length_append]
  have := numS_len h.1
  have := numS_len h.2.1
  have := numS_len h.2.2
  have : (tl comma).length = 1 := by rw [ofS_tl]; rfl
  have : (tl colon).length = 1 := by rw [ofS_tl]; rfl
  omega
theorem head_len {r : Rec} (h : RecOk r) : ∀ w ∈ headW r, (tl w).length ≤ 1013 := by
  intro w hw
  have lit : ∀ x : String, x.toList.length ≤ 1013 → (tl (x : Str)).length ≤ 1013 := fun x hx => by rw [ofS_tl, List.length_map]; exact hx
  cases r with
  | picture caps names ws =>
    obtain ⟨_, h2, h3, h4, _⟩ := h
    have hw : w ∈ [wPicture, listW caps] ++ names.map nameW := hw
    rcases List.mem_append.mp hw with hw | hw
    · simp only [List.mem_cons, List.not_mem_nil, or_false] at hw
      rcases hw with rfl | rfl
      · exact lit "picture" (by decide)
      · exact Nat.le_trans (list_len h2 h3) (by decide)
    · obtain ⟨p, hp, rfl⟩ := List.mem_map.mp hw
      exact name_len (h4 p hp).1 (h4 p hp).2
  | put n ns ws =>
    have hw : w ∈ [wPut, nameW (n, ns)] := hw
    simp only [List.mem_cons, List.not_mem_nil, or_false] at hw
    rcases hw with rfl | rfl
    · exact lit "put" (by decide)
    · exact name_len (p := (n, ns)) h.1 h.2.1
  | erase n =>
    have hw : w ∈ [wErase, n] := hw
    simp only [List.mem_cons, List.not_mem_nil, or_false] at hw
    rcases hw with rfl | rfl
    · exact lit "erase" (by decide)
    · exact Nat.le_trans h.2.1 (by decide)
  | deal ws =>
    have hw : w ∈ [wDeal] := hw
    simp only [List.mem_cons, List.not_mem_nil, or_false] at hw
    subst hw
    exact lit "deal" (by decide)
  | cap s' c ws =>
    have hw : w ∈ [wCap, numS s', numS c] := hw
    simp only [List.mem_cons, List.not_mem_nil, or_false] at hw
    rcases hw with rfl | rfl | rfl
    · exact lit "cap" (by decide)
    · exact Nat.le_trans (numS_len h.1) (by decide)
    · exact Nat.le_trans (numS_len h.2.1) (by decide)
theorem headW_few {r : Rec} (h : RecOk r) : (headW r).length ≤ 102 := by
  cases r with
  | picture caps names ws =>
    have := h.2.2.2.2.2.1
    show ([wPicture, listW caps] ++ names.map nameW).length ≤ 102
    rw [List.length_append, List.length_map]
    simp
    omega
  | _ => simp [headW]
theorem words_few {r : Rec} (h : RecOk r) : (words r).length ≤ 203 := by
  have h1 := headW_few h
  have h2 := h.ws.few
  have key : (headW r ++ [stroke] ++ r.ws.map wardW).length ≤ 203 := by
    rw [List.length_append, List.length_append, List.length_map]
    simp
    omega
  cases r with
  | erase n => simp [words]
  | _ => exact key
theorem words_len {r : Rec} (h : RecOk r) : ∀ w ∈ words r, (tl w).length ≤ 1013 := by
  have key : ∀ w ∈ headW r ++ [stroke] ++ r.ws.map wardW, (tl w).length ≤ 1013 := fun w hw => by
    rcases List.mem_append.mp hw with hw | hw
    · rcases List.mem_append.mp hw with hw | hw
      · exact head_len h w hw
      · rw [List.mem_singleton.mp hw, ofS_tl]
        decide
    · obtain ⟨p, hp, rfl⟩ := List.mem_map.mp hw
      exact Nat.le_trans (ward_len (h.ws.num p hp)) (by decide)
  cases r with
  | erase n => exact head_len h
  | _ => exact key
theorem text_len {r : Rec} (h : RecOk r) : (tl (Txt.join space (words r))).length ≤ 210000 := by
  rw [tl_joinT]
  refine Nat.le_trans (joinL_len (k := 1013) fun p hp => ?_) ?_
  · obtain ⟨w, hw, rfl⟩ := List.mem_map.mp hp
    exact words_len h w hw
  · have e : (tl space).length = 1 := by rw [ofS_tl]; rfl
    have := words_few h
    rw [List.length_map, e]
    omega
theorem recText_len {r : Rec} (h : RecOk r) : (recText r).length ≤ 210001 := by
  rw [len_tl]
  unfold recText
  rw [tl_append, List.length_append]
  have := text_len h
  have : (tl semi).length = 1 := by rw [ofS_tl]; rfl
  omega

/-! ### what a log's strings say -/
theorem take_more1 {α : Type} {l : List α} {i : Nat} {x : α} (h : l[i]? = some x) : l.take (i + 1) = l.take i ++ [x] := by
  rw [List.take_succ, h]; rfl
def Parses (x : Str) : Option Rec → Prop
  | none => 59 ∉ tl x
  | some r => x = recText r ∧ RecOk r
def encO : Option Rec → PyData
  | none => .none
  | some r => encR r
def cstep (s : List Rec × Nat) (i : Nat) : Option Rec → List Rec × Nat
  | none => s
  | some r => if r.isPic = true then ([r], i + 1) else if 0 < s.1.length ∧ s.2 = i then (s.1 ++ [r], i + 1) else s
def countN (os : List (Option Rec)) : Nat → List Rec × Nat
  | 0 => ([], 0)
  | i + 1 => match os[i]? with
    | some o => cstep (countN os i) i o
    | none => countN os i
theorem countN_succ {os : List (Option Rec)} {i : Nat} {o : Option Rec} (h : os[i]? = some o) : countN os (i + 1) = cstep (countN os i) i o := by
  rw [countN, h]
theorem countN_end (os : List (Option Rec)) : ∀ i, (countN os i).2 ≤ i ∧ (countN os i).1.length ≤ i
  | 0 => by simp [countN]
  | i + 1 => by
    have ih := countN_end os i
    cases h : os[i]? with
    | none =>
      have e : countN os (i + 1) = countN os i := by rw [countN, h]
      rw [e]; omega
    | some o =>
      rw [countN_succ h]
      cases o with
      | none =>
        have e : cstep (countN os i) i none = countN os i := rfl
        rw [e]; omega
      | some r =>
        unfold cstep
        by_cases c : r.isPic = true
        · simp [c]
        · by_cases c2 : 0 < (countN os i).1.length ∧ (countN os i).2 = i
          · simp only [c, if_neg, c2, if_pos]
            simp
            omega
          · simp [c, c2]
            omega
/-- the records from the last picture on -/
def lastRun (rs : List Rec) : List Rec := rs.foldl (fun acc r => if r.isPic = true then [r] else acc ++ [r]) []
theorem lastRun_snoc (rs : List Rec) (r : Rec) : lastRun (rs ++ [r]) = if r.isPic = true then [r] else lastRun rs ++ [r] := by
  unfold lastRun
  rw [List.foldl_append]
  rfl
theorem lastRun_ne : ∀ {rs : List Rec}, rs ≠ [] → lastRun rs ≠ [] := by
  intro rs h
  obtain ⟨l, a, rfl⟩ : ∃ l a, rs = l ++ [a] := ⟨rs.dropLast, rs.getLast h, (List.dropLast_concat_getLast h).symm⟩
  rw [lastRun_snoc]
  split <;> simp
/-- whole records one behind the other, the first a picture; behind them torn strings -/
theorem count_whole {rs : List Rec} {n : Nat} (h0 : ∀ r, rs[0]? = some r → r.isPic = true) :
    countN (rs.map some ++ List.replicate n none) (rs.length + n) = (lastRun rs, rs.length) := by
  have key : ∀ i, i ≤ rs.length → countN (rs.map some ++ List.replicate n none) i = (lastRun (rs.take i), i) := by
    intro i
    induction i with
    | zero => intro _; rfl
    | succ i ih =>
      intro hi
      have hri : rs[i]? = some rs[i] := List.getElem?_eq_getElem (by omega)
      have ho : (rs.map some ++ List.replicate n none)[i]? = some (some rs[i]) := by
        rw [List.getElem?_append_left (by rw [List.length_map]; omega), List.getElem?_map, hri]
        rfl
      rw [countN_succ ho, ih (by omega), take_more1 hri, lastRun_snoc]
      unfold cstep
      by_cases c : rs[i].isPic = true
      · simp only [c, if_pos]
      · have hi0 : 0 < i := by
          rcases Nat.eq_zero_or_pos i with z | z
          · subst z
            exact absurd (h0 _ hri) c
          · exact z
        have hne : rs.take i ≠ [] := by
          intro z
          have h3 : (rs.take i).length = 0 := by rw [z]; rfl
          rw [List.length_take] at h3
          omega
        have := List.length_pos_iff.mpr (lastRun_ne hne)
        simp only [c, if_neg, this, and_self, if_pos, Bool.false_eq_true, if_false, if_true]
  have key2 : ∀ k, k ≤ n → countN (rs.map some ++ List.replicate n none) (rs.length + k) = (lastRun rs, rs.length) := by
    intro k
    induction k with
    | zero =>
      intro _
      have := key rs.length (Nat.le_refl _)
      rw [List.take_length] at this
      exact this
    | succ k ih =>
      intro hk
      have ho : (rs.map some ++ List.replicate n none)[rs.length + k]? = some none := by
        rw [List.getElem?_append_right (by rw [List.length_map]; omega), List.length_map, List.getElem?_replicate]
        rw [if_pos (by omega)]
      show countN _ (rs.length + k + 1) = _
      rw [countN_succ ho, ih (by omega)]
      rfl
  exact key2 n (Nat.le_refl _)
end Rc

set_option Elab.async false
set_option linter.all false
set_option maxRecDepth 100000
set_option maxHeartbeats 8000000
namespace Q
open PySem PySem.Spec PyProof.Rows L2 TL PW Rc
def top (i : Nat) : Stmt := PySem.Challenge.pw_pairwarden_k63_whole_log_survives_cuts.main.body.getD i (.Pass ⟨0, 0, 0, 0⟩)
abbrev s_L_draws : Stmt := top 32
abbrev s_L_names : Stmt := top 34
abbrev s_World_init : Stmt := inClass (top 29) 0
abbrev s_L_cell : Stmt := top 31
abbrev s_number_of : Stmt := top 3
abbrev s_read_list : Stmt := top 7
abbrev s_is_name : Stmt := top 4
abbrev s_is_rising : Stmt := top 2
abbrev s_read_named : Stmt := top 9
abbrev s_read_cap : Stmt := top 16
abbrev s_read_picture : Stmt := top 15
abbrev s_read_head : Stmt := top 17
abbrev s_read_warden : Stmt := top 11
abbrev s_read_wardens : Stmt := top 12
abbrev s_read_record : Stmt := top 18
abbrev s_counted : Stmt := top 19
abbrev s_log_end : Stmt := top 21
abbrev s_read_log : Stmt := top 20
abbrev s_L_is_integer : Stmt := top 33
abbrev s_L_alike : Stmt := top 35
abbrev s_L_counts : Stmt := top 41
abbrev s_L_small : Stmt := top 39
abbrev s_L_join : Stmt := top 36
abbrev s_L_text_of : Stmt := top 37
abbrev s_warden_text : Stmt := top 10
abbrev s_list_text : Stmt := top 6
abbrev s_named_text : Stmt := top 8
abbrev s_head_words : Stmt := top 13
abbrev s_record_text : Stmt := top 14
abbrev s_World_cut_after : Stmt := inClass (top 29) 1
abbrev s_tear : Stmt := top 27
abbrev s_World__stored : Stmt := inClass (top 29) 4
abbrev s_World__count_write : Stmt := inClass (top 29) 5
abbrev s_World_write_log : Stmt := inClass (top 29) 3
abbrev s_L_write : Stmt := top 40
abbrev s_L_sizes : Stmt := top 38
abbrev s_law : Stmt := top 42
theorem sc_L_draws : FnScope ["_law_cell_here", "_law_sizes_here", "_law_left", "_law_digits", "_law_drawn", "_law_k", "_law_size", "_law_mixed"] ["_law_cell_here", "_law_sizes_here"] (defScope s_L_draws) := ⟨rfl, rfl, rfl, by decide +kernel, rfl, by decide +kernel, by decide +kernel⟩
theorem sc_L_names : FnScope ["_law_cell_here", "_law_drawn", "_law_signs", "_law_stem", "_law_names_here", "_law_k", "_law_spot"] ["_law_cell_here"] (defScope s_L_names) := ⟨rfl, rfl, rfl, by decide +kernel, rfl, by decide +kernel, by decide +kernel⟩
theorem sc_World_init : FnScope ["self", "seats", "seat"] ["self", "seats"] (defScope s_World_init) := ⟨rfl, rfl, rfl, by decide +kernel, rfl, by decide +kernel, by decide +kernel⟩
theorem sc_L_cell : FnScope ["_law_script", "_law_k"] ["_law_script", "_law_k"] (defScope s_L_cell) := ⟨rfl, rfl, rfl, by decide +kernel, rfl, by decide +kernel, by decide +kernel⟩
theorem sc_number_of : FnScope ["text", "sign"] ["text"] (defScope s_number_of) := ⟨rfl, rfl, rfl, by decide +kernel, rfl, by decide +kernel, by decide +kernel⟩
theorem sc_read_list : FnScope ["text", "numbers", "part"] ["text"] (defScope s_read_list) := ⟨rfl, rfl, rfl, by decide +kernel, rfl, by decide +kernel, by decide +kernel⟩
theorem sc_is_name : FnScope ["text", "sign"] ["text"] (defScope s_is_name) := ⟨rfl, rfl, rfl, by decide +kernel, rfl, by decide +kernel, by decide +kernel⟩
theorem sc_is_rising : FnScope ["numbers", "index"] ["numbers"] (defScope s_is_rising) := ⟨rfl, rfl, rfl, by decide +kernel, rfl, by decide +kernel, by decide +kernel⟩
theorem sc_read_named : FnScope ["word", "parts", "numbers"] ["word"] (defScope s_read_named) := ⟨rfl, rfl, rfl, by decide +kernel, rfl, by decide +kernel, by decide +kernel⟩
theorem sc_read_cap : FnScope ["words", "seat", "cap"] ["words"] (defScope s_read_cap) := ⟨rfl, rfl, rfl, by decide +kernel, rfl, by decide +kernel, by decide +kernel⟩
theorem sc_read_picture : FnScope ["words", "caps", "names", "word", "name", "numbers"] ["words"] (defScope s_read_picture) := ⟨rfl, rfl, rfl, by decide +kernel, rfl, by decide +kernel, by decide +kernel⟩
theorem sc_read_head : FnScope ["words", "named"] ["words"] (defScope s_read_head) := ⟨rfl, rfl, rfl, by decide +kernel, rfl, by decide +kernel, by decide +kernel⟩
theorem sc_read_warden : FnScope ["word", "parts", "number", "pair"] ["word"] (defScope s_read_warden) := ⟨rfl, rfl, rfl, by decide +kernel, rfl, by decide +kernel, by decide +kernel⟩
theorem sc_read_wardens : FnScope ["words", "entries", "word", "entry"] ["words"] (defScope s_read_wardens) := ⟨rfl, rfl, rfl, by decide +kernel, rfl, by decide +kernel, by decide +kernel⟩
theorem sc_read_record : FnScope ["text", "words", "stroke", "head", "wardens"] ["text"] (defScope s_read_record) := ⟨rfl, rfl, rfl, by decide +kernel, rfl, by decide +kernel, by decide +kernel⟩
theorem sc_counted : FnScope ["log", "records", "end", "index", "record"] ["log"] (defScope s_counted) := ⟨rfl, rfl, rfl, by decide +kernel, rfl, by decide +kernel, by decide +kernel⟩
theorem sc_log_end : FnScope ["log"] ["log"] (defScope s_log_end) := ⟨rfl, rfl, rfl, by decide +kernel, rfl, by decide +kernel, by decide +kernel⟩
theorem sc_read_log : FnScope ["log"] ["log"] (defScope s_read_log) := ⟨rfl, rfl, rfl, by decide +kernel, rfl, by decide +kernel, by decide +kernel⟩
theorem sc_L_is_integer : FnScope ["_law_actual"] ["_law_actual"] (defScope s_L_is_integer) := ⟨rfl, rfl, rfl, by decide +kernel, rfl, by decide +kernel, by decide +kernel⟩
theorem sc_L_alike : FnScope ["_law_actual", "_law_due", "_law_k"] ["_law_actual", "_law_due"] (defScope s_L_alike) := ⟨rfl, rfl, rfl, by decide +kernel, rfl, by decide +kernel, by decide +kernel⟩
theorem sc_L_counts : FnScope ["_law_world", "_law_strings", "_law_records", "_law_whole", "_law_end", "_law_actual"] ["_law_world", "_law_strings", "_law_records", "_law_whole"] (defScope s_L_counts) := ⟨rfl, rfl, rfl, by decide +kernel, rfl, by decide +kernel, by decide +kernel⟩
theorem sc_L_small : FnScope ["_law_row", "_law_k", "_law_is_picture", "_law_names_here", "_law_numbers", "_law_others", "_law_wardens", "_law_step", "_law_low", "_law_first", "_law_second", "_law_caps", "_law_named"] ["_law_row", "_law_k", "_law_is_picture", "_law_names_here"] (defScope s_L_small) := ⟨rfl, rfl, rfl, by decide +kernel, rfl, by decide +kernel, by decide +kernel⟩
theorem sc_L_join : FnScope ["_law_numbers", "_law_number"] ["_law_numbers"] (defScope s_L_join) := ⟨rfl, rfl, rfl, by decide +kernel, rfl, by decide +kernel, by decide +kernel⟩
theorem sc_L_text_of : FnScope ["_law_record", "_law_words", "_law_entry", "_law_named"] ["_law_record"] (defScope s_L_text_of) := ⟨rfl, rfl, rfl, by decide +kernel, rfl, by decide +kernel, by decide +kernel⟩
theorem sc_warden_text : FnScope ["entries", "entry"] ["entries"] (defScope s_warden_text) := ⟨rfl, rfl, rfl, by decide +kernel, rfl, by decide +kernel, by decide +kernel⟩
theorem sc_list_text : FnScope ["numbers", "number"] ["numbers"] (defScope s_list_text) := ⟨rfl, rfl, rfl, by decide +kernel, rfl, by decide +kernel, by decide +kernel⟩
theorem sc_named_text : FnScope ["name", "numbers"] ["name", "numbers"] (defScope s_named_text) := ⟨rfl, rfl, rfl, by decide +kernel, rfl, by decide +kernel, by decide +kernel⟩
theorem sc_head_words : FnScope ["record", "name", "numbers"] ["record"] (defScope s_head_words) := ⟨rfl, rfl, rfl, by decide +kernel, rfl, by decide +kernel, by decide +kernel⟩
theorem sc_record_text : FnScope ["record"] ["record"] (defScope s_record_text) := ⟨rfl, rfl, rfl, by decide +kernel, rfl, by decide +kernel, by decide +kernel⟩
theorem sc_World_cut_after : FnScope ["self", "writes", "kept"] ["self", "writes", "kept"] (defScope s_World_cut_after) := ⟨rfl, rfl, rfl, by decide +kernel, rfl, by decide +kernel, by decide +kernel⟩
theorem sc_tear : FnScope ["old", "new", "kept"] ["old", "new", "kept"] (defScope s_tear) := ⟨rfl, rfl, rfl, by decide +kernel, rfl, by decide +kernel, by decide +kernel⟩
theorem sc_World__stored : FnScope ["self", "old", "new"] ["self", "old", "new"] (defScope s_World__stored) := ⟨rfl, rfl, rfl, by decide +kernel, rfl, by decide +kernel, by decide +kernel⟩
theorem sc_World__count_write : FnScope ["self"] ["self"] (defScope s_World__count_write) := ⟨rfl, rfl, rfl, by decide +kernel, rfl, by decide +kernel, by decide +kernel⟩
theorem sc_World_write_log : FnScope ["self", "index", "text"] ["self", "index", "text"] (defScope s_World_write_log) := ⟨rfl, rfl, rfl, by decide +kernel, rfl, by decide +kernel, by decide +kernel⟩
theorem sc_L_write : FnScope ["_law_world", "_law_index", "_law_text", "_law_actual"] ["_law_world", "_law_index", "_law_text"] (defScope s_L_write) := ⟨rfl, rfl, rfl, by decide +kernel, rfl, by decide +kernel, by decide +kernel⟩
theorem sc_L_sizes : FnScope [] [] (defScope s_L_sizes) := ⟨rfl, rfl, rfl, by decide +kernel, rfl, by decide +kernel, by decide +kernel⟩
theorem sc_law : FnScope ["_law_script", "_law_names_here", "_law_world", "_law_strings", "_law_records", "_law_whole", "_law_fuse", "_law_kept", "_law_k", "_law_row", "_law_record", "_law_text", "_law_told", "_law_due"] ["_law_script"] (defScope s_law) := ⟨rfl, rfl, rfl, by decide +kernel, rfl, by decide +kernel, by decide +kernel⟩
/-- where things stand behind the top -/
structure Ad where
  a_L_draws : Addr
  d_L_draws : FuncData
  a_L_names : Addr
  d_L_names : FuncData
  a_World_init : Addr
  d_World_init : FuncData
  a_L_cell : Addr
  d_L_cell : FuncData
  a_number_of : Addr
  d_number_of : FuncData
  a_read_list : Addr
  d_read_list : FuncData
  a_is_name : Addr
  d_is_name : FuncData
  a_is_rising : Addr
  d_is_rising : FuncData
  a_read_named : Addr
  d_read_named : FuncData
  a_read_cap : Addr
  d_read_cap : FuncData
  a_read_picture : Addr
  d_read_picture : FuncData
  a_read_head : Addr
  d_read_head : FuncData
  a_read_warden : Addr
  d_read_warden : FuncData
  a_read_wardens : Addr
  d_read_wardens : FuncData
  a_read_record : Addr
  d_read_record : FuncData
  a_counted : Addr
  d_counted : FuncData
  a_log_end : Addr
  d_log_end : FuncData
  a_read_log : Addr
  d_read_log : FuncData
  a_L_is_integer : Addr
  d_L_is_integer : FuncData
  a_L_alike : Addr
  d_L_alike : FuncData
  a_L_counts : Addr
  d_L_counts : FuncData
  a_L_small : Addr
  d_L_small : FuncData
  a_L_join : Addr
  d_L_join : FuncData
  a_L_text_of : Addr
  d_L_text_of : FuncData
  a_warden_text : Addr
  d_warden_text : FuncData
  a_list_text : Addr
  d_list_text : FuncData
  a_named_text : Addr
  d_named_text : FuncData
  a_head_words : Addr
  d_head_words : FuncData
  a_record_text : Addr
  d_record_text : FuncData
  a_World_cut_after : Addr
  d_World_cut_after : FuncData
  a_tear : Addr
  d_tear : FuncData
  a_World__stored : Addr
  d_World__stored : FuncData
  a_World__count_write : Addr
  d_World__count_write : FuncData
  a_World_write_log : Addr
  d_World_write_log : FuncData
  a_L_write : Addr
  d_L_write : FuncData
  a_L_sizes : Addr
  d_L_sizes : FuncData
  a_law : Addr
  d_law : FuncData
  A_World : Addr
  A_PowerCut : Addr
  A_PoolError : Addr
structure Txt (K : PySem.W.Frag) (mg : Str → Option Value) (A : Ad) : Prop where
  F_L_draws : Fun K "_law_draws" "_law_draws" s_L_draws A.a_L_draws A.d_L_draws
  b_L_draws : Binds K A.d_L_draws ["_law_cell_here", "_law_sizes_here"] []
  g_L_draws : mg "_law_draws" = some (.ref A.a_L_draws)
  F_L_names : Fun K "_law_names" "_law_names" s_L_names A.a_L_names A.d_L_names
  b_L_names : Binds K A.d_L_names ["_law_cell_here"] []
  g_L_names : mg "_law_names" = some (.ref A.a_L_names)
  F_World_init : Fun K "__init__" "World.__init__" s_World_init A.a_World_init A.d_World_init
  b_World_init : Binds K A.d_World_init ["self", "seats"] []
  M_World : Mk K A.A_World A.a_World_init
  F_L_cell : Fun K "_law_cell" "_law_cell" s_L_cell A.a_L_cell A.d_L_cell
  b_L_cell : Binds K A.d_L_cell ["_law_script", "_law_k"] []
  g_L_cell : mg "_law_cell" = some (.ref A.a_L_cell)
  F_number_of : Fun K "number_of" "number_of" s_number_of A.a_number_of A.d_number_of
  b_number_of : Binds K A.d_number_of ["text"] []
  g_number_of : mg "number_of" = some (.ref A.a_number_of)
  F_read_list : Fun K "read_list" "read_list" s_read_list A.a_read_list A.d_read_list
  b_read_list : Binds K A.d_read_list ["text"] []
  g_read_list : mg "read_list" = some (.ref A.a_read_list)
  F_is_name : Fun K "is_name" "is_name" s_is_name A.a_is_name A.d_is_name
  b_is_name : Binds K A.d_is_name ["text"] []
  g_is_name : mg "is_name" = some (.ref A.a_is_name)
  F_is_rising : Fun K "is_rising" "is_rising" s_is_rising A.a_is_rising A.d_is_rising
  b_is_rising : Binds K A.d_is_rising ["numbers"] []
  g_is_rising : mg "is_rising" = some (.ref A.a_is_rising)
  F_read_named : Fun K "read_named" "read_named" s_read_named A.a_read_named A.d_read_named
  b_read_named : Binds K A.d_read_named ["word"] []
  g_read_named : mg "read_named" = some (.ref A.a_read_named)
  F_read_cap : Fun K "read_cap" "read_cap" s_read_cap A.a_read_cap A.d_read_cap
  b_read_cap : Binds K A.d_read_cap ["words"] []
  g_read_cap : mg "read_cap" = some (.ref A.a_read_cap)
  F_read_picture : Fun K "read_picture" "read_picture" s_read_picture A.a_read_picture A.d_read_picture
  b_read_picture : Binds K A.d_read_picture ["words"] []
  g_read_picture : mg "read_picture" = some (.ref A.a_read_picture)
  F_read_head : Fun K "read_head" "read_head" s_read_head A.a_read_head A.d_read_head
  b_read_head : Binds K A.d_read_head ["words"] []
  g_read_head : mg "read_head" = some (.ref A.a_read_head)
  F_read_warden : Fun K "read_warden" "read_warden" s_read_warden A.a_read_warden A.d_read_warden
  b_read_warden : Binds K A.d_read_warden ["word"] []
  g_read_warden : mg "read_warden" = some (.ref A.a_read_warden)
  F_read_wardens : Fun K "read_wardens" "read_wardens" s_read_wardens A.a_read_wardens A.d_read_wardens
  b_read_wardens : Binds K A.d_read_wardens ["words"] []
  g_read_wardens : mg "read_wardens" = some (.ref A.a_read_wardens)
  F_read_record : Fun K "read_record" "read_record" s_read_record A.a_read_record A.d_read_record
  b_read_record : Binds K A.d_read_record ["text"] []
  g_read_record : mg "read_record" = some (.ref A.a_read_record)
  F_counted : Fun K "counted" "counted" s_counted A.a_counted A.d_counted
  b_counted : Binds K A.d_counted ["log"] []
  g_counted : mg "counted" = some (.ref A.a_counted)
  F_log_end : Fun K "log_end" "log_end" s_log_end A.a_log_end A.d_log_end
  b_log_end : Binds K A.d_log_end ["log"] []
  g_log_end : mg "log_end" = some (.ref A.a_log_end)
  F_read_log : Fun K "read_log" "read_log" s_read_log A.a_read_log A.d_read_log
  b_read_log : Binds K A.d_read_log ["log"] []
  g_read_log : mg "read_log" = some (.ref A.a_read_log)
  F_L_is_integer : Fun K "_law_is_integer" "_law_is_integer" s_L_is_integer A.a_L_is_integer A.d_L_is_integer
  b_L_is_integer : Binds K A.d_L_is_integer ["_law_actual"] []
  g_L_is_integer : mg "_law_is_integer" = some (.ref A.a_L_is_integer)
  F_L_alike : Fun K "_law_alike" "_law_alike" s_L_alike A.a_L_alike A.d_L_alike
  b_L_alike : Binds K A.d_L_alike ["_law_actual", "_law_due"] []
  g_L_alike : mg "_law_alike" = some (.ref A.a_L_alike)
  F_L_counts : Fun K "_law_counts" "_law_counts" s_L_counts A.a_L_counts A.d_L_counts
  b_L_counts : Binds K A.d_L_counts ["_law_world", "_law_strings", "_law_records", "_law_whole"] []
  g_L_counts : mg "_law_counts" = some (.ref A.a_L_counts)
  F_L_small : Fun K "_law_small" "_law_small" s_L_small A.a_L_small A.d_L_small
  b_L_small : Binds K A.d_L_small ["_law_row", "_law_k", "_law_is_picture", "_law_names_here"] []
  g_L_small : mg "_law_small" = some (.ref A.a_L_small)
  F_L_join : Fun K "_law_join" "_law_join" s_L_join A.a_L_join A.d_L_join
  b_L_join : Binds K A.d_L_join ["_law_numbers"] []
  g_L_join : mg "_law_join" = some (.ref A.a_L_join)
  F_L_text_of : Fun K "_law_text_of" "_law_text_of" s_L_text_of A.a_L_text_of A.d_L_text_of
  b_L_text_of : Binds K A.d_L_text_of ["_law_record"] []
  g_L_text_of : mg "_law_text_of" = some (.ref A.a_L_text_of)
  F_warden_text : Fun K "warden_text" "warden_text" s_warden_text A.a_warden_text A.d_warden_text
  b_warden_text : Binds K A.d_warden_text ["entries"] []
  g_warden_text : mg "warden_text" = some (.ref A.a_warden_text)
  F_list_text : Fun K "list_text" "list_text" s_list_text A.a_list_text A.d_list_text
  b_list_text : Binds K A.d_list_text ["numbers"] []
  g_list_text : mg "list_text" = some (.ref A.a_list_text)
  F_named_text : Fun K "named_text" "named_text" s_named_text A.a_named_text A.d_named_text
  b_named_text : Binds K A.d_named_text ["name", "numbers"] []
  g_named_text : mg "named_text" = some (.ref A.a_named_text)
  F_head_words : Fun K "head_words" "head_words" s_head_words A.a_head_words A.d_head_words
  b_head_words : Binds K A.d_head_words ["record"] []
  g_head_words : mg "head_words" = some (.ref A.a_head_words)
  F_record_text : Fun K "record_text" "record_text" s_record_text A.a_record_text A.d_record_text
  b_record_text : Binds K A.d_record_text ["record"] []
  g_record_text : mg "record_text" = some (.ref A.a_record_text)
  F_World_cut_after : Fun K "cut_after" "World.cut_after" s_World_cut_after A.a_World_cut_after A.d_World_cut_after
  b_World_cut_after : Binds K A.d_World_cut_after ["self", "writes", "kept"] []
  m_World_cut_after : Meth K A.A_World "cut_after" A.a_World_cut_after
  F_tear : Fun K "tear" "tear" s_tear A.a_tear A.d_tear
  b_tear : Binds K A.d_tear ["old", "new", "kept"] []
  g_tear : mg "tear" = some (.ref A.a_tear)
  F_World__stored : Fun K "_stored" "World._stored" s_World__stored A.a_World__stored A.d_World__stored
  b_World__stored : Binds K A.d_World__stored ["self", "old", "new"] []
  m_World__stored : Meth K A.A_World "_stored" A.a_World__stored
  F_World__count_write : Fun K "_count_write" "World._count_write" s_World__count_write A.a_World__count_write A.d_World__count_write
  b_World__count_write : Binds K A.d_World__count_write ["self"] []
  m_World__count_write : Meth K A.A_World "_count_write" A.a_World__count_write
  F_World_write_log : Fun K "write_log" "World.write_log" s_World_write_log A.a_World_write_log A.d_World_write_log
  b_World_write_log : Binds K A.d_World_write_log ["self", "index", "text"] []
  m_World_write_log : Meth K A.A_World "write_log" A.a_World_write_log
  F_L_write : Fun K "_law_write" "_law_write" s_L_write A.a_L_write A.d_L_write
  b_L_write : Binds K A.d_L_write ["_law_world", "_law_index", "_law_text"] []
  g_L_write : mg "_law_write" = some (.ref A.a_L_write)
  F_L_sizes : Fun K "_law_sizes" "_law_sizes" s_L_sizes A.a_L_sizes A.d_L_sizes
  b_L_sizes : Binds K A.d_L_sizes [] []
  g_L_sizes : mg "_law_sizes" = some (.ref A.a_L_sizes)
  F_law : Fun K "law" "law" s_law A.a_law A.d_law
  b_law : Binds K A.d_law ["_law_script"] []
  g_law : mg "law" = some (.ref A.a_law)
  cl_World : Cls K A.A_World
  g_World : mg "World" = some (.ref A.A_World)
  o_World_seats : NoAttr K A.A_World "seats"
  o_World_disks : NoAttr K A.A_World "disks"
  o_World_log : NoAttr K A.A_World "log"
  o_World_writes : NoAttr K A.A_World "writes"
  o_World_fuse : NoAttr K A.A_World "fuse"
  o_World_kept : NoAttr K A.A_World "kept"
  g_PowerCut : mg "PowerCut" = some (.ref A.A_PowerCut)
  x_PowerCut : PySem.W.excIn K A.A_PowerCut [.type "ValueError", .type "Exception", .type "BaseException", .type "object"] "ValueError.__new__" = true
  k_PowerCut : PySem.W.keepIn K (.ref A.A_PowerCut) = true
  xb_PowerCut : PySem.W.subIn K (.ref A.A_PowerCut) (.type "BaseException") = some true
  xt_PowerCut : PySem.W.typeIn K (.ref A.A_PowerCut) = some (.type "type")
  xe_PowerCut : PySem.W.exmOne K (.ref A.A_PowerCut) (.ref A.A_PowerCut) = some true
  g_PoolError : mg "PoolError" = some (.ref A.A_PoolError)
  x_PoolError : PySem.W.excIn K A.A_PoolError [.type "ValueError", .type "Exception", .type "BaseException", .type "object"] "ValueError.__new__" = true
  k_PoolError : PySem.W.keepIn K (.ref A.A_PoolError) = true
  xb_PoolError : PySem.W.subIn K (.ref A.A_PoolError) (.type "BaseException") = some true
  xt_PoolError : PySem.W.typeIn K (.ref A.A_PoolError) = some (.type "type")
  xe_PoolError : PySem.W.exmOne K (.ref A.A_PoolError) (.ref A.A_PoolError) = some true
  n_abs : mg "abs" = none
  n_range : mg "range" = none
  n_int : mg "int" = none
  n_len : mg "len" = none
  n_tuple : mg "tuple" = none
  n_isinstance : mg "isinstance" = none
  n_bool : mg "bool" = none
  n_str : mg "str" = none
  n_list : mg "list" = none
  n_sorted : mg "sorted" = none
  n_min : mg "min" = none
  n_max : mg "max" = none
end Q

set_option Elab.async false
set_option linter.all false
set_option maxRecDepth 100000
set_option maxHeartbeats 8000000
namespace Q
open PySem PySem.Spec PyProof.Rows L2 TL PW Rc
section
variable {P : Program} {w : World} {K : PySem.W.Frag} {mg : Str → Option Value} {base : Heap} {A : Ad}
/-! ### small things -/
theorem item_int {ns : List Int} {i : Nat} {y : V} (hi : (ns.map V.int)[i]? = some y) : ∃ z, ns[i]? = some z ∧ y = V.int z := by
  rw [List.getElem?_map] at hi
  cases e : ns[i]? with
  | none => rw [e] at hi; cases hi
  | some z => rw [e] at hi; exact ⟨z, rfl, (Option.some.inj hi).symm⟩
theorem item_map {α β : Type} {f : α → β} {ns : List α} {i : Nat} {y : β} (hi : (ns.map f)[i]? = some y) : ∃ z, ns[i]? = some z ∧ y = f z := by
  rw [List.getElem?_map] at hi
  cases e : ns[i]? with
  | none => rw [e] at hi; cases hi
  | some z => rw [e] at hi; exact ⟨z, rfl, (Option.some.inj hi).symm⟩
theorem sum_le {α : Type} {f : α → Nat} {k : Nat} : ∀ {l : List α}, (∀ x ∈ l, f x ≤ k) → (l.map f).sum ≤ l.length * k
  | [], _ => by simp
  | a :: l, h => by
    have h1 := h a (by simp)
    have h2 := sum_le (l := l) fun x hx => h x (List.mem_cons_of_mem _ hx)
    rw [List.map_cons, List.sum_cons, List.length_cons, Nat.add_mul]
    omega

/-! ### list_text -/
def spListText (K : PySem.W.Frag) : Sp := fun vs H Q _ => ∃ (v : V) (ns : List Int), vs = [v] ∧ Dp K H v (encNs ns) ∧ (∀ n ∈ ns, NumOk n) ∧ ns.length ≤ 100 ∧ ∀ H', Same H H' → Q (.str (listW ns)) H'
theorem ok_list_text (T : Txt K mg A) : FnOk P w K mg base CX0 1 A.a_list_text A.d_list_text ["numbers"] (spListText K) := by
  refine T.F_list_text.ok sc_list_text (fun vs H Q E h => ?_) (fun cdv A' outer s H vs Q E hr h => ?_)
  · obtain ⟨v, ns, rfl, _⟩ := h; rfl
  · obtain ⟨v, ns, rfl, D, hn, hl, k⟩ := h
    obtain ⟨p, xs, rfl, hs, da⟩ := dp_tup D
    have ex := dpa_ints da
    subst ex
    have w := Wd.start (Same.refl H)
    refine ⟨_, pss_one (ps_ret (pe_join (pe_str) (pe_lc (own := [("number", 1)]) rfl sc_list_text.nd (pi_tupK (K := K) rfl (pv 0)) (blkOk_by (own := [("number", 1)]) (N := ["numbers", "number"]) (sc := defScope s_list_text) (by decide +kernel)) (fun _ _ _ _ _ => pg_name (i := 1) sc_list_text.nd rfl (Or.inl rfl)) (fun _ _ _ _ _ => pts_nil) (fun _ _ _ _ _ => pe_callTy call_str_int (by rfl) T.n_str (by decide +kernel) (pa_cons (pv 1) pa_nil))))), ?_⟩
    refine ⟨⟨_, rfl⟩, _, rfl, p, rfl, ⟨_, hs⟩, fun D hD => ?_⟩
    refine lc_wdT (ns.map fun n => PyData.str (numS n)) (by simp) w hD hs (by rw [List.length_map]; omega) ?_ ?_
    · intro i x d F H1 acc Q1 hx hd e w1 kk
      obtain ⟨n, hn', rfl⟩ := item_int hx
      rw [List.getElem?_map, hn'] at hd
      cases hd
      exact ⟨rfl, _, rfl, n, rfl, numS_log (hn n (List.mem_of_getElem? hn')), kk _ F H1 (.refl w1.fh) (.str _)⟩
    · intro vs' F' H' e w1 da'
      have ev : vs' = (ns.map numS).map V.str := dpa_strs (by rw [List.map_map]; exact da')
      subst ev
      refine ⟨comma, D, ns.map numS, rfl, rfl, .inl (.of w1.at_), ?_, k H' w1.hh⟩
      have h9 : ((ns.map numS).map (·.length)).sum ≤ (ns.map numS).length * 9 := sum_le fun x hx => by
        obtain ⟨n, hn', rfl⟩ := List.mem_map.mp hx
        rw [len_tl]
        exact numS_len (hn n hn')
      have h1 : comma.length = 1 := by rw [len_tl, ofS_tl]; rfl
      rw [List.length_map] at h9
      rw [h1, List.length_map]
      omega

end
end Q

set_option Elab.async false
set_option linter.all false
set_option maxRecDepth 100000
set_option maxHeartbeats 8000000
namespace Q
open PySem PySem.Spec PyProof.Rows L2 TL PW Rc
section
variable {P : Program} {w : World} {K : PySem.W.Frag} {mg : Str → Option Value} {base : Heap} {A : Ad}
/-! ### named_text -/
def spNamedText (K : PySem.W.Frag) : Sp := fun vs H Q _ => ∃ (x : Str) (v : V) (ns : List Int), vs = [.str x, v] ∧ Dp K H v (encNs ns) ∧ (∀ n ∈ ns, NumOk n) ∧ ns.length ≤ 100 ∧ (tl x).length ≤ 12 ∧ ∀ H', Same H H' → Q (.str (nameW (x, ns))) H'
theorem ok_named_text (T : Txt K mg A) : FnOk P w K mg base CX0 2 A.a_named_text A.d_named_text ["name", "numbers"] (spNamedText K) := by
  refine T.F_named_text.ok sc_named_text (fun vs H Q E h => ?_) (fun cdv A' outer s H vs Q E hr h => ?_)
  · obtain ⟨x, v, ns, rfl, _⟩ := h; rfl
  · obtain ⟨x, v, ns, rfl, D, hn, hl, hx, k⟩ := h
    have e1 : (tl eqS).length = 1 := by rw [ofS_tl]; rfl
    refine ⟨_, pss_one (ps_ret (pe_op (op_addK (K := K) rfl) (pe_op (op_addK (K := K) rfl) (pv 0) (pe_str)) (pe_call (ok_list_text T) (hr.mono (by decide)) rfl T.g_list_text T.F_list_text.kp T.b_list_text .nil pass0 (pa_cons (pv 1) pa_nil)))), ?_⟩
    refine ⟨_, rfl, .inr (.inl ⟨_, _, rfl, rfl, ?_, _, rfl, v, ns, rfl, D, hn, hl, fun H' e => .inr (.inl ⟨_, _, rfl, rfl, ?_, k H' e⟩)⟩)⟩
    · refine small ?_
      show x.length + eqS.length ≤ _
      rw [len_tl, len_tl, e1]; omega
    · refine small ?_
      have := list_len hn hl
      show (x ++ eqS).length + (listW ns).length ≤ _
      rw [len_tl, len_tl, tl_append, List.length_append, e1]; omega

/-! ### number_of -/
theorem dig_mem {c : Nat} (h : 48 ≤ c ∧ c ≤ 57) : c ∈ ("0123456789" : Str).cps.toList := by
  show c ∈ tl ("0123456789" : Str)
  rw [ofS_tl]
  have : ("0123456789".toList.map Char.toNat) = [48, 49, 50, 51, 52, 53, 54, 55, 56, 57] := by decide
  rw [this]
  simp
  omega
def spNumberOf : Sp := fun vs H Q _ => ∃ n : Int, vs = [.str (numS n)] ∧ NumOk n ∧ ∀ H', Same H H' → Q (.int n) H'
theorem ok_number_of (T : Txt K mg A) : FnOk P w K mg base CX0 1 A.a_number_of A.d_number_of ["text"] spNumberOf := by
  refine T.F_number_of.ok sc_number_of (fun vs H Q E h => ?_) (fun cdv A' outer s H vs Q E hr h => ?_)
  · obtain ⟨n, rfl, _⟩ := h; rfl
  · obtain ⟨n, rfl, hn, k⟩ := h
    have hu64 := hu64_of hr
    have hu65 := hu65_of hr
    have hl9 := numS_len hn
    have hz : (numS n).length ≤ sizeLine := small (by rw [len_tl]; omega)
    refine ⟨_, pss_cons (ps_if (pt_cmpR (op_eqK (K := K) rfl hu64) (pv 0) (pe_str) (nomark _)) (pss_one (ps_ret (pe_non))) (pss_nil))
  (pss_cons (ps_for PassesOwn.never rfl (pi_str (pv 0)) (pg_name (i := 1) sc_number_of.nd rfl (Or.inl rfl)) (pss_one (ps_if (pt_cmpR (op_notInK (K := K) rfl hu65) (pv 1) (pe_str) (by rfl)) (pss_one (ps_ret (pe_non))) (pss_nil))))
  (pss_cons (ps_if (PW.pt (pw_and (pt_cmpR (op_gtK (K := K) rfl) (pe_callB (call_lenK (K := K) rfl) (by rfl) T.n_len (by decide +kernel) (pa_cons (pv 0) pa_nil)) (pe_int) (nomark _)) (pw_and1 (pt_cmpR (op_eqK (K := K) rfl hu64) (pe_ix (ix_K (K := K) rfl) (pv 0) (pe_int) (fun _ _ => rfl)) (pe_str) (nomark _))))) (pss_one (ps_ret (pe_non))) (pss_nil))
  (pss_cons (ps_if (pt_cmpR (op_gtK (K := K) rfl) (pe_callB (call_lenK (K := K) rfl) (by rfl) T.n_len (by decide +kernel) (pa_cons (pv 0) pa_nil)) (pe_int) (nomark _)) (pss_one (ps_ret (pe_non))) (pss_nil))
  (pss_one (ps_ret (pe_callTy call_intU (by rfl) T.n_int (by decide +kernel) (pa_cons (pv 0) pa_nil))))))), ?_⟩
    refine ⟨_, rfl, .inl ⟨rfl, _, rfl, iteNo (fun e => ?_) ?_⟩⟩
    · have e := V.str.inj e
      exact numS_ne hn.1 (by rw [e]; decide +kernel)
    refine ⟨_, rfl, _, rfl, for_str (fun i σ H' => ∃ v, σ = [some (.str (numS n)), v] ∧ Same H H') ⟨none, rfl, .refl H⟩ ?_ ?_⟩
    · rintro i c σ H1 hc ⟨v, rfl, e⟩
      have hd := numS_digits hn.1 c (List.mem_of_getElem? hc)
      exact ⟨_, rfl, .inr (.inl ⟨c, _, rfl, rfl, _, rfl, iteNS (dig_mem hd) ⟨_, rfl, e⟩⟩)⟩
    · rintro σ H1 ⟨v, rfl, e⟩
      refine ⟨_, rfl, _, _, rfl, ⟨hz, rfl⟩, .inl ⟨_, _, rfl, rfl, _, rfl, iteD (fun c => ?_) (fun c => ?_)⟩⟩
      · have c' : 1 < (tl (numS n)).length := by rw [← len_tl]; exact_mod_cast c
        have h0 := numS_head hn.1 c'
        obtain ⟨d, hd⟩ : ∃ d, (tl (numS n))[0]? = some d := ⟨_, List.getElem?_eq_getElem (by omega)⟩
        refine ⟨_, rfl, .inr (.inr ⟨_, 0, d, rfl, rfl, hz, atI_nat (j := 0) hd, .inl ⟨rfl, _, rfl, iteNo (fun e => ?_) ?_⟩⟩)⟩
        · have e := V.str.inj e
          rw [hd] at h0
          have e2 : tl (⟨#[d]⟩ : Str) = tl ("0" : Str) := congrArg tl e
          rw [ofS_tl] at e2
          have e3 : [d] = [48] := e2
          exact h0 (by rw [(List.cons.inj e3).1])
        · refine ⟨_, rfl, _, _, rfl, ⟨hz, rfl⟩, .inl ⟨_, _, rfl, rfl, _, rfl, iteNo ?_ ?_⟩⟩
          · rw [len_tl]; omega
          · exact ⟨_, rfl, .inr ⟨_, n, rfl, numS_text hn, by rw [len_tl]; omega, k H1 e⟩⟩
      · refine ⟨_, rfl, _, _, rfl, ⟨hz, rfl⟩, .inl ⟨_, _, rfl, rfl, _, rfl, iteNo ?_ ?_⟩⟩
        · rw [len_tl]; omega
        · exact ⟨_, rfl, .inr ⟨_, n, rfl, numS_text hn, by rw [len_tl]; omega, k H1 e⟩⟩

/-! ### is_name -/
theorem nam_mem {c : Nat} (h : (97 ≤ c ∧ c ≤ 122) ∨ (48 ≤ c ∧ c ≤ 57)) : c ∈ ("abcdefghijklmnopqrstuvwxyz0123456789" : Str).cps.toList := by
  show c ∈ tl ("abcdefghijklmnopqrstuvwxyz0123456789" : Str)
  rw [ofS_tl]
  have : ("abcdefghijklmnopqrstuvwxyz0123456789".toList.map Char.toNat) = [97, 98, 99, 100, 101, 102, 103, 104, 105, 106, 107, 108, 109, 110, 111, 112, 113, 114, 115, 116, 117, 118, 119, 120, 121, 122, 48, 49, 50, 51, 52, 53, 54, 55, 56, 57] := by decide
  rw [this]
  simp
  omega
def spIsName : Sp := fun vs H Q _ => ∃ x : Str, vs = [.str x] ∧ NameOk x ∧ ∀ H', Same H H' → Q (.bl true) H'
theorem ok_is_name (T : Txt K mg A) : FnOk P w K mg base CX0 1 A.a_is_name A.d_is_name ["text"] spIsName := by
  refine T.F_is_name.ok sc_is_name (fun vs H Q E h => ?_) (fun cdv A' outer s H vs Q E hr h => ?_)
  · obtain ⟨n, rfl, _⟩ := h; rfl
  · obtain ⟨x, rfl, hx, k⟩ := h
    have hu64 := hu64_of hr
    have hu65 := hu65_of hr
    obtain ⟨h1, h2, h3⟩ := id hx
    have hz : x.length ≤ sizeLine := small (by rw [len_tl]; omega)
    refine ⟨_, pss_cons (ps_if (PW.pt (pw_or (pt_cmpR (op_ltK (K := K) rfl) (pe_callB (call_lenK (K := K) rfl) (by rfl) T.n_len (by decide +kernel) (pa_cons (pv 0) pa_nil)) (pe_int) (nomark _)) (pw_or1 (pt_cmpR (op_gtK (K := K) rfl) (pe_callB (call_lenK (K := K) rfl) (by rfl) T.n_len (by decide +kernel) (pa_cons (pv 0) pa_nil)) (pe_int) (nomark _))))) (pss_one (ps_ret (pe_bl))) (pss_nil))
  (pss_cons (ps_for PassesOwn.never rfl (pi_str (pv 0)) (pg_name (i := 1) sc_is_name.nd rfl (Or.inl rfl)) (pss_one (ps_if (pt_cmpR (op_notInK (K := K) rfl hu65) (pv 1) (pe_str) (by rfl)) (pss_one (ps_ret (pe_bl))) (pss_nil))))
  (pss_one (ps_ret (pe_bl)))), ?_⟩
    refine ⟨_, rfl, _, _, rfl, ⟨hz, rfl⟩, .inl ⟨_, _, rfl, rfl, _, rfl, iteNo (by rw [len_tl]; omega) ?_⟩⟩
    refine ⟨_, rfl, _, _, rfl, ⟨hz, rfl⟩, .inl ⟨_, _, rfl, rfl, _, rfl, iteNo (by rw [len_tl]; omega) ?_⟩⟩
    refine ⟨_, rfl, _, rfl, for_str (fun i σ H' => ∃ v, σ = [some (.str x), v] ∧ Same H H') ⟨none, rfl, .refl H⟩ ?_ ?_⟩
    · rintro i c σ H1 hc ⟨v, rfl, e⟩
      exact ⟨_, rfl, .inr (.inl ⟨c, _, rfl, rfl, _, rfl, iteNS (nam_mem (h3 c (List.mem_of_getElem? hc))) ⟨_, rfl, e⟩⟩)⟩
    · rintro σ H1 ⟨v, rfl, e⟩
      exact k H1 e

/-! ### is_rising -/
/-- a list or a tuple of ints -/
def IntsAt (K : PySem.W.Frag) (H : Hp) (v : V) (ns : List Int) : Prop := ∃ p, v = .ref p ∧ (SqL K H p (ns.map V.int) ∨ SqT K H p (ns.map V.int))
theorem at_pair {ns : List Int} {i : Nat} (h : 1 + i < ns.length) : ∃ a b, ns[i]? = some a ∧ ns[i + 1]? = some b := ⟨_, _, List.getElem?_eq_getElem (by omega), List.getElem?_eq_getElem (by omega)⟩
def spRisingI (K : PySem.W.Frag) : Sp := fun vs H Q _ => ∃ (v : V) (ns : List Int), vs = [v] ∧ IntsAt K H v ns ∧ ns.length ≤ 1000 ∧ ns.Pairwise (· < ·) ∧ ∀ H', Same H H' → Q (.bl true) H'
theorem pw_lt {ns : List Int} {i : Nat} {a b : Int} (h : ns.Pairwise (· < ·)) (ha : ns[i]? = some a) (hb : ns[i + 1]? = some b) : a < b := by
  rw [List.pairwise_iff_getElem] at h
  obtain ⟨h1, rfl⟩ := List.getElem?_eq_some_iff.mp ha
  obtain ⟨h2, rfl⟩ := List.getElem?_eq_some_iff.mp hb
  exact h i (i + 1) h1 h2 (by omega)
theorem ok_is_rising (T : Txt K mg A) : FnOk P w K mg base CX0 1 A.a_is_rising A.d_is_rising ["numbers"] (spRisingI K) := by
  refine T.F_is_rising.ok sc_is_rising (fun vs H Q E h => ?_) (fun cdv A' outer s H vs Q E hr h => ?_)
  · obtain ⟨v, ns, rfl, _⟩ := h; rfl
  · obtain ⟨v, ns, rfl, ⟨p, rfl, hp⟩, hl, up, k⟩ := h
    refine ⟨_, pss_cons (ps_for PassesOwn.never rfl (pi_range2 rfl T.n_range (pa_cons (pe_int) (pa_cons (pe_callB (call_lenK (K := K) rfl) (by rfl) T.n_len (by decide +kernel) (pa_cons (pv 0) pa_nil)) pa_nil))) (pg_name (i := 1) sc_is_rising.nd rfl (Or.inl rfl)) (pss_one (ps_if (pt_cmpR (op_geK (K := K) rfl) (pe_ix (ix_K (K := K) rfl) (pv 0) (pe_op op_sub (pv 1) (pe_int)) (fun _ _ => rfl)) (pe_ix (ix_K (K := K) rfl) (pv 0) (pv 1) (fun _ _ => rfl)) (nomark _)) (pss_one (ps_ret (pe_bl))) (pss_nil))))
  (pss_one (ps_ret (pe_bl))), ?_⟩
    have hlen : LenV K (.ref p) H ns.length := by
      rcases hp with hp | hp
      · exact .inl ⟨_, hp, by rw [List.length_map]⟩
      · exact .inr ⟨_, hp, by rw [List.length_map]⟩
    refine ⟨_, rfl, _, _, rfl, hlen, 1, (ns.length : Int), rfl, ⟨by decide, by decide, by omega, by omega⟩, for_range (lo := 1) (n := ((ns.length : Int) - 1).toNat) (fun i σ H' => ∃ v, σ = [some (.ref p), v] ∧ Same H H') ⟨none, rfl, .refl H⟩ ?_ ?_⟩
    · rintro i σ H1 hi ⟨v, rfl, e⟩
      obtain ⟨a, b, ha, hb⟩ := at_pair (ns := ns) (i := i) (by omega)
      have ix : ∀ (j : Nat) (z : Int) (zi : Int) (Q' : VK), ns[j]? = some z → zi = (j : Int) → Q' (.int z) H1 → rIx K (.ref p) (.int zi) H1 Q' := fun j z zi Q' hj ez q => by
        subst ez
        have hj' : (ns.map V.int)[j]? = some (.int z) := by rw [List.getElem?_map, hj]; rfl
        rcases hp with hp | hp
        · exact .inl ⟨p, _, _, _, rfl, rfl, e.seq hp, atI_nat hj', q⟩
        · exact .inr (.inl ⟨p, _, _, _, rfl, rfl, same_t e hp, atI_nat hj', q⟩)
      refine ⟨_, rfl, _, rfl, _, _, rfl, rfl, ix i a _ _ ha (by omega) ⟨_, rfl, _, rfl, ix (i + 1) b _ _ hb (by omega) ?_⟩⟩
      have hab := pw_lt up ha hb
      exact .inl ⟨_, _, rfl, rfl, _, rfl, iteNo (by omega) ⟨_, rfl, e⟩⟩
    · rintro σ H1 ⟨v, rfl, e⟩
      exact k H1 e
def spRisingS (K : PySem.W.Frag) : Sp := fun vs H Q _ => ∃ (p : Addr) (ns : List Str), vs = [.ref p] ∧ SqL K H p (ns.map V.str) ∧ ns.length ≤ 1000 ∧ ns.Pairwise (fun x y => tl x < tl y) ∧ ∀ H', Same H H' → Q (.bl true) H'
theorem ok_rising_strs (T : Txt K mg A) : FnOk P w K mg base CX0 1 A.a_is_rising A.d_is_rising ["numbers"] (spRisingS K) := by
  refine T.F_is_rising.ok sc_is_rising (fun vs H Q E h => ?_) (fun cdv A' outer s H vs Q E hr h => ?_)
  · obtain ⟨v, ns, rfl, _⟩ := h; rfl
  · obtain ⟨p, ns, rfl, hp, hl, up, k⟩ := h
    refine ⟨_, pss_cons (ps_for PassesOwn.never rfl (pi_range2 rfl T.n_range (pa_cons (pe_int) (pa_cons (pe_callB (call_lenK (K := K) rfl) (by rfl) T.n_len (by decide +kernel) (pa_cons (pv 0) pa_nil)) pa_nil))) (pg_name (i := 1) sc_is_rising.nd rfl (Or.inl rfl)) (pss_one (ps_if (pt_cmpR (op_geK (K := K) rfl) (pe_ix (ix_K (K := K) rfl) (pv 0) (pe_op op_sub (pv 1) (pe_int)) (fun _ _ => rfl)) (pe_ix (ix_K (K := K) rfl) (pv 0) (pv 1) (fun _ _ => rfl)) (nomark _)) (pss_one (ps_ret (pe_bl))) (pss_nil))))
  (pss_one (ps_ret (pe_bl))), ?_⟩
    have hlen : LenV K (.ref p) H ns.length := .inl ⟨_, hp, by rw [List.length_map]⟩
    refine ⟨_, rfl, _, _, rfl, hlen, 1, (ns.length : Int), rfl, ⟨by decide, by decide, by omega, by omega⟩, for_range (lo := 1) (n := ((ns.length : Int) - 1).toNat) (fun i σ H' => ∃ v, σ = [some (.ref p), v] ∧ Same H H') ⟨none, rfl, .refl H⟩ ?_ ?_⟩
    · rintro i σ H1 hi ⟨v, rfl, e⟩
      obtain ⟨a, ha⟩ : ∃ a, ns[i]? = some a := ⟨_, List.getElem?_eq_getElem (by omega)⟩
      obtain ⟨b, hb⟩ : ∃ b, ns[i + 1]? = some b := ⟨_, List.getElem?_eq_getElem (by omega)⟩
      have ix : ∀ (j : Nat) (z : Str) (zi : Int) (Q' : VK), ns[j]? = some z → zi = (j : Int) → Q' (.str z) H1 → rIx K (.ref p) (.int zi) H1 Q' := fun j z zi Q' hj ez q => by
        subst ez
        have hj' : (ns.map V.str)[j]? = some (.str z) := by rw [List.getElem?_map, hj]; rfl
        exact .inl ⟨p, _, _, _, rfl, rfl, e.seq hp, atI_nat hj', q⟩
      refine ⟨_, rfl, _, rfl, _, _, rfl, rfl, ix i a _ _ ha (by omega) ⟨_, rfl, _, rfl, ix (i + 1) b _ _ hb (by omega) ?_⟩⟩
      have hab : tl a < tl b := by
        rw [List.pairwise_iff_getElem] at up
        obtain ⟨h1, rfl⟩ := List.getElem?_eq_some_iff.mp ha
        obtain ⟨h2, rfl⟩ := List.getElem?_eq_some_iff.mp hb
        exact up i (i + 1) h1 h2 (by omega)
      exact .inr ⟨_, _, rfl, rfl, _, rfl, iteNS hab ⟨_, rfl, e⟩⟩
    · rintro σ H1 ⟨v, rfl, e⟩
      exact k H1 e

end
end Q

set_option Elab.async false
set_option linter.all false
set_option maxRecDepth 100000
set_option maxHeartbeats 8000000
namespace Q
open PySem PySem.Spec PyProof.Rows L2 TL PW Rc
section
variable {P : Program} {w : World} {K : PySem.W.Frag} {mg : Str → Option Value} {base : Heap} {A : Ad}
theorem strs_map {ns : List Int} : (ns.map numS).map V.str = ns.map fun n => V.str (numS n) := by rw [List.map_map]; rfl
theorem shaped_of {d : PyData} (h : d.canLay0 = true) (h2 : d.depth ≤ 64) : SeqAt.shaped d = true := by
  unfold SeqAt.shaped
  rw [h, decide_eq_true h2]
  rfl
theorem none_ints (ns : List Int) : inV .non (ns.map V.int) = false := by
  unfold inV
  rw [List.any_eq_false]
  intro x hx
  obtain ⟨n, _, rfl⟩ := List.mem_map.mp hx
  simp [eqV]
theorem flat_ints (ns : List Int) : (ns.map V.int).all flatV = true := by
  rw [List.all_eq_true]
  intro x hx
  obtain ⟨n, _, rfl⟩ := List.mem_map.mp hx
  rfl

/-! ### read_list -/
/-- a tuple is handed back: F the frozen part -/
def RetD (K : PySem.W.Frag) (F H : Hp) (Q : VK) (d : PyData) : Prop := ∀ v F' H', Step F H F' H' → Dp K F' v d → Q v H'
def spReadList (K : PySem.W.Frag) : Sp := fun vs H Q _ => ∃ (F : Hp) (ns : List Int), vs = [.str (listW ns)] ∧ (∀ n ∈ ns, NumOk n) ∧ ns.length ≤ 100 ∧ Same F H ∧ RetD K F H Q (encNs ns)
theorem ok_read_list (T : Txt K mg A) : FnOk P w K mg base CX0 2 A.a_read_list A.d_read_list ["text"] (spReadList K) := by
  refine T.F_read_list.ok sc_read_list (fun vs H Q E h => ?_) (fun cdv A' outer s H vs Q E hr h => ?_)
  · obtain ⟨F, n, rfl, _⟩ := h; rfl
  · obtain ⟨F, ns, rfl, hn, hl, eF, k⟩ := h
    have hu64 := hu64_of hr
    have hu65 := hu65_of hr
    have w := Wd.start eF
    refine ⟨_, pss_cons (ps_if (pt_cmpR (op_eqK (K := K) rfl hu64) (pv 0) (pe_str) (nomark _)) (pss_one (ps_ret (pe_tup (pa_nil)))) (pss_nil))
  (pss_cons (ps_setLc (i := 1) (own := [("part", 2)]) rfl sc_read_list.nd rfl rfl (sw_true rfl rfl rfl (by decide +kernel)) (pi_listK (K := K) rfl (pe_split (pv 0) (pe_str))) (blkOk_by (own := [("part", 2)]) (N := ["text", "numbers", "part"]) (sc := defScope s_read_list) (by decide +kernel)) (fun _ _ _ _ _ => pg_name (i := 2) sc_read_list.nd rfl (Or.inl rfl)) (fun _ _ _ _ _ => pts_nil) (fun _ _ _ _ _ => pe_call (ok_number_of T) (hr.mono (by decide)) rfl T.g_number_of T.F_number_of.kp T.b_number_of .nil pass0 (pa_cons (pv 2) pa_nil)))
  (pss_cons (ps_if (pt_cmpR (op_inK (K := K) rfl hu65) (pe_non) (pv 1) (by rfl)) (pss_one (ps_ret (pe_non))) (pss_nil))
  (pss_one (ps_ret (pe_callTy (call_tupleK (K := K) rfl) (by rfl) T.n_tuple (by decide +kernel) (pa_cons (pv 1) pa_nil)))))), ?_⟩
    refine ⟨_, rfl, .inl ⟨rfl, _, rfl, iteD (fun e => ?_) (fun e => ?_)⟩⟩
    · -- the empty text
      have e := V.str.inj e
      have hns : ns = [] := by
        cases ns with
        | nil => rfl
        | cons n r =>
          exfalso
          have e2 := congrArg tl e
          rw [ofS_tl] at e2
          unfold listW at e2
          rw [tl_joinT] at e2
          have e3 : joinL (tl comma) ((List.map numS (n :: r)).map tl) = [] := e2
          cases r with
          | nil => exact numS_ne (hn n (by simp)).1 e3
          | cons m r =>
            have e4 : tl (numS n) ++ (tl comma ++ joinL (tl comma) ((List.map numS (m :: r)).map tl)) = [] := e3
            exact numS_ne (hn n (by simp)).1 (List.append_eq_nil_iff.mp e4).1
      subst hns
      refine ⟨Nat.zero_le _, fun p hp => ?_⟩
      obtain ⟨w2, e2⟩ := w.fix hp (.tup [])
      exact k _ _ _ w2.done (.tup (.of upd_same) .nil)
    · have hne : ns ≠ [] := fun z => e (by rw [z]; rfl)
      have hz := list_len hn hl
      refine ⟨_, rfl, ⟨_, rfl⟩, _, _, rfl, rfl, by decide +kernel, small (by rw [len_tl]; omega), ?_⟩
      rw [split_list hn hne]
      intro p hp
      have w1 := (w.own hp (.lst ((ns.map numS).map V.str))).freeze
      obtain ⟨w1, e1⟩ := w1
      refine ⟨p, rfl, ⟨_, .of upd_same⟩, fun D hD => ?_⟩
      refine lc_wdL (xs := (ns.map numS).map V.str) (ns.map PyData.int) (by simp) w1 hD (.of upd_same) (by simp; omega) ?_ ?_
      · intro i x d F1 H1 acc Q1 hx hd e2 w2 kk
        rw [strs_map] at hx
        obtain ⟨n, hn', rfl⟩ := item_map hx
        rw [List.getElem?_map, hn'] at hd
        cases hd
        exact ⟨rfl, _, rfl, n, rfl, hn n (List.mem_of_getElem? hn'), fun H' e => kk _ F1 H' (.same w2.fh e) (.int _)⟩
      · intro vs' F' H' e2 w2 da
        have ev := dpa_ints da
        subst ev
        refine ⟨_, rfl, .inl ⟨D, _, rfl, .inl (.of w2.at_), rfl, flat_ints ns, _, rfl, ?_⟩⟩
        rw [if_neg (by decide), none_ints]
        refine iteF ?_
        refine ⟨_, rfl, D, _, rfl, .inl ⟨.of w2.at_, fun q hq => ?_⟩⟩
        obtain ⟨w3, e3⟩ := w2.drop.fix hq (.tup (ns.map V.int))
        exact k _ _ _ w3.done (.tup (.of upd_same) dpa_of_ints)

/-! ### warden_text -/
def spWardenText (K : PySem.W.Frag) : Sp := fun vs H Q _ => ∃ (v : V) (ws : List (Int × Int × Int)), vs = [v] ∧ Dp K H v (encWs ws) ∧ WsOk ws ∧ ∀ H', Same H H' → Q (.str (wardsT ws)) H'
theorem wd_at {K : PySem.W.Frag} {H : Hp} {v : V} {w : Int × Int × Int} (h : Dp K H v (encW w)) : ∃ p, v = .ref p ∧ SqT K H p [.int w.1, .int w.2.1, .int w.2.2] := by
  obtain ⟨p, xs, rfl, hs, da⟩ := dp_tup h
  cases da with
  | cons a da => cases da with
    | cons b da => cases da with
      | cons c da =>
        cases da
        rw [dp_int a, dp_int b, dp_int c] at hs
        exact ⟨p, rfl, hs⟩
theorem lit_len (x : String) : (tl (x : Str)).length = x.toList.length := by rw [ofS_tl, List.length_map]
theorem slen_app (x y : Str) : (x ++ y).length = x.length + y.length := by rw [len_tl, len_tl, len_tl, tl_append, List.length_append]
theorem ward_str (w : Int × Int × Int) : Str.empty ++ " " ++ numS w.1 ++ ":" ++ numS w.2.1 ++ "," ++ numS w.2.2 = space ++ wardW w := by
  refine str_eq ?_
  unfold wardW
  simp only [tl_append, List.append_assoc]
  rfl
theorem ok_warden_text (T : Txt K mg A) : FnOk P w K mg base CX0 1 A.a_warden_text A.d_warden_text ["entries"] (spWardenText K) := by
  refine T.F_warden_text.ok sc_warden_text (fun vs H Q E h => ?_) (fun cdv A' outer s H vs Q E hr h => ?_)
  · obtain ⟨v, ns, rfl, _⟩ := h; rfl
  · obtain ⟨v, ws, rfl, D, hw, k⟩ := h
    obtain ⟨p, xs, rfl, hs, da⟩ := dp_tup D
    have w := Wd.start (Same.refl H)
    have hxl : xs.length = ws.length := by rw [dpa_len da, List.length_map]
    refine ⟨_, pss_one (ps_ret (pe_join (pe_str) (pe_lc (own := [("entry", 1)]) rfl sc_warden_text.nd (pi_tupK (K := K) rfl (pv 0)) (blkOk_by (own := [("entry", 1)]) (N := ["entries", "entry"]) (sc := defScope s_warden_text) (by decide +kernel)) (fun _ _ _ _ _ => pg_name (i := 1) sc_warden_text.nd rfl (Or.inl rfl)) (fun _ _ _ _ _ => pts_nil) (fun _ _ _ _ _ => pe_joinedN (.cons (pe_str) (.cons (pe_fmt (pe_ix (ix_K (K := K) rfl) (pv 1) (pe_int) (fun _ _ => rfl))) (.cons (pe_str) (.cons (pe_fmt (pe_ix (ix_K (K := K) rfl) (pv 1) (pe_int) (fun _ _ => rfl))) (.cons (pe_str) (.cons (pe_fmt (pe_ix (ix_K (K := K) rfl) (pv 1) (pe_int) (fun _ _ => rfl))) .nil)))))))))), ?_⟩
    refine ⟨⟨_, rfl⟩, _, rfl, p, rfl, ⟨_, hs⟩, fun D hD => ?_⟩
    refine lc_wdT (ws.map fun w => PyData.str (space ++ wardW w)) (by rw [List.length_map, hxl]) w hD hs (by have := hw.few; omega) ?_ ?_
    · intro i x d F H1 acc Q1 hx hd e w1 kk
      obtain ⟨d2, hd2, dx⟩ := dpa_get da hx
      obtain ⟨u, hu, rfl⟩ := item_map hd2
      rw [List.getElem?_map, hu] at hd
      cases hd
      obtain ⟨q, rfl, hq⟩ := wd_at dx
      have hq1 : SqT K H1 q _ := same_t (e.trans w1.fh) hq
      obtain ⟨n1, n2, n3⟩ := hw.num u (List.mem_of_getElem? hu)
      have l1 : (numS u.1).length ≤ 9 := by rw [len_tl]; exact numS_len n1
      have l2 : (numS u.2.1).length ≤ 9 := by rw [len_tl]; exact numS_len n2
      have l3 : (numS u.2.2).length ≤ 9 := by rw [len_tl]; exact numS_len n3
      have a0 : Str.empty.length = 0 := rfl
      have a1 : (Str.ofString " ").length = 1 := by decide +kernel
      have a2 : (Str.ofString ":").length = 1 := by decide +kernel
      have a3 : (Str.ofString ",").length = 1 := by decide +kernel
      refine ⟨rfl, ?_⟩
      refine ⟨_, rfl, small (by simp only [slen_app, a0, a1]; omega), ?_⟩
      refine ⟨_, rfl, .inr (.inl ⟨q, _, 0, _, rfl, rfl, hq1, atI_nat (j := 0) rfl, .inr ⟨_, rfl, numS_log n1, numS u.1, rfl, small (by simp only [slen_app, a0, a1]; omega), ?_⟩⟩)⟩
      refine ⟨_, rfl, small (by simp only [slen_app, a0, a1, a2]; omega), ?_⟩
      refine ⟨_, rfl, .inr (.inl ⟨q, _, 1, _, rfl, rfl, hq1, atI_nat (j := 1) rfl, .inr ⟨_, rfl, numS_log n2, numS u.2.1, rfl, small (by simp only [slen_app, a0, a1, a2]; omega), ?_⟩⟩)⟩
      refine ⟨_, rfl, small (by simp only [slen_app, a0, a1, a2, a3]; omega), ?_⟩
      refine ⟨_, rfl, .inr (.inl ⟨q, _, 2, _, rfl, rfl, hq1, atI_nat (j := 2) rfl, .inr ⟨_, rfl, numS_log n3, numS u.2.2, rfl, small (by simp only [slen_app, a0, a1, a2, a3]; omega), ?_⟩⟩)⟩
      refine kk _ F H1 (.refl w1.fh) ?_
      have es := ward_str u
      have es2 : Str.empty ++ Str.ofString " " ++ numS u.1 ++ Str.ofString ":" ++ numS u.2.1 ++ Str.ofString "," ++ numS u.2.2 = space ++ wardW u := es
      show Dp K F (.str (Str.empty ++ Str.ofString " " ++ numS u.1 ++ Str.ofString ":" ++ numS u.2.1 ++ Str.ofString "," ++ numS u.2.2)) (.str (space ++ wardW u))
      rw [es2]
      exact .str _
    · intro vs' F' H' e w1 da'
      have ev : vs' = (ws.map fun w => space ++ wardW w).map V.str := dpa_strs (by rw [List.map_map]; exact da')
      subst ev
      refine ⟨_, D, ws.map fun w => space ++ wardW w, rfl, rfl, .inl (.of w1.at_), ?_, k H' w1.hh⟩
      have h9 : ((ws.map fun w => space ++ wardW w).map (·.length)).sum ≤ (ws.map fun w => space ++ wardW w).length * 30 := sum_le fun x hx => by
        obtain ⟨u, hu, rfl⟩ := List.mem_map.mp hx
        have := ward_len (hw.num u hu)
        rw [len_tl, tl_append, List.length_append]
        have : (tl space).length = 1 := by rw [ofS_tl]; rfl
        omega
      rw [List.length_map] at h9
      have := hw.few
      show _ + _ * (0 : Nat) ≤ _
      omega

end
end Q

set_option Elab.async false
set_option linter.all false
set_option maxRecDepth 100000
set_option maxHeartbeats 8000000
namespace Q
open PySem PySem.Spec PyProof.Rows L2 TL PW Rc
section
variable {P : Program} {w : World} {K : PySem.W.Frag} {mg : Str → Option Value} {base : Heap} {A : Ad}
/-! ### reading the words back -/
theorem flat_strs (ns : List Str) : (ns.map V.str).all flatV = true := by
  rw [List.all_eq_true]
  intro x hx
  obtain ⟨n, _, rfl⟩ := List.mem_map.mp hx
  rfl
theorem inV_int (i : Int) (ns : List Int) : inV (.int i) (ns.map V.int) = decide (i ∈ ns) := by
  induction ns with
  | nil => rfl
  | cons a l ih =>
    have e : inV (.int i) ((a :: l).map V.int) = (eqV (.int a) (.int i) || inV (.int i) (l.map V.int)) := rfl
    rw [e, ih]
    have e2 : eqV (.int a) (.int i) = decide (a = i) := by first | rfl | (simp [eqV]; done) | (unfold eqV; simp [Bool.beq_eq_decide_eq])
    rw [e2]
    by_cases h : a = i
    · subst h; simp
    · simp [h, Ne.symm h, eq_comm]
theorem canlay_str {x : Str} (h : PyData.strOk x = true) : PyData.canLay0 (.str x) = true := by rw [PyData.canLay0]; exact h

/-! ### read_named -/
def spReadNamed (K : PySem.W.Frag) : Sp := fun vs H Q _ => ∃ (F : Hp) (p : Str × List Int), vs = [.str (nameW p)] ∧ NameOk p.1 ∧ NsOk p.2 ∧ Same F H ∧ RetD K F H Q (encName p)
theorem ok_read_named (T : Txt K mg A) : FnOk P w K mg base CX0 3 A.a_read_named A.d_read_named ["word"] (spReadNamed K) := by
  refine T.F_read_named.ok sc_read_named (fun vs H Q E h => ?_) (fun cdv A' outer s H vs Q E hr h => ?_)
  · obtain ⟨F, n, rfl, _⟩ := h; rfl
  · obtain ⟨F, p, rfl, h1, h2, eF, k⟩ := h
    have hu64 := hu64_of hr
    have hu65 := hu65_of hr
    have w := Wd.start eF
    refine ⟨_, pss_cons (ps_set (i := 1) sc_read_named.nd rfl (Or.inl rfl) (pe_split (pv 0) (pe_str)))
  (pss_cons (ps_if (PW.pt (pw_or (pt_cmpR (op_neK (K := K) rfl hu64) (pe_callB (call_lenK (K := K) rfl) (by rfl) T.n_len (by decide +kernel) (pa_cons (pv 1) pa_nil)) (pe_int) (nomark _)) (pw_or1 (pt_not (pt_val (pe_call (ok_is_name T) (hr.mono (by decide)) rfl T.g_is_name T.F_is_name.kp T.b_is_name .nil pass0 (pa_cons (pe_ix (ix_K (K := K) rfl) (pv 1) (pe_int) (fun _ _ => rfl)) pa_nil))))))) (pss_one (ps_ret (pe_non))) (pss_nil))
  (pss_cons (ps_set (i := 2) sc_read_named.nd rfl (Or.inl rfl) (pe_call (ok_read_list T) (hr.mono (by decide)) rfl T.g_read_list T.F_read_list.kp T.b_read_list .nil pass0 (pa_cons (pe_ix (ix_K (K := K) rfl) (pv 1) (pe_int) (fun _ _ => rfl)) pa_nil)))
  (pss_cons (ps_if (PW.pt (pw_or (pt_cmp (pc_isN (pv 2))) (pw_or (pt_cmpR (op_inK (K := K) rfl hu65) (pe_int) (pv 2) (by rfl)) (pw_or1 (pt_not (pt_val (pe_call (ok_is_rising T) (hr.mono (by decide)) rfl T.g_is_rising T.F_is_rising.kp T.b_is_rising .nil pass0 (pa_cons (pv 2) pa_nil)))))))) (pss_one (ps_ret (pe_non))) (pss_nil))
  (pss_one (ps_ret (pe_tup (pa_cons (pe_ix (ix_K (K := K) rfl) (pv 1) (pe_int) (fun _ _ => rfl)) (pa_cons (pv 2) pa_nil)))))))), ?_⟩
    have hz := name_len h1 h2
    refine ⟨_, rfl, ⟨_, rfl⟩, _, _, rfl, rfl, by decide +kernel, small (by rw [len_tl]; omega), ?_⟩
    rw [split_name h1 h2]
    intro q hq
    obtain ⟨w1, e1⟩ := (w.own hq (.lst ([p.1, listW p.2].map V.str))).freeze
    have hL : SqL K (upd F q (.lst ([p.1, listW p.2].map V.str))) q ([p.1, listW p.2].map V.str) := .of upd_same
    -- len(parts) != 2
    refine ⟨_, rfl, _, _, rfl, .inl ⟨_, w1.l hL, rfl⟩, .inl ⟨rfl, _, rfl, iteNS rfl ?_⟩⟩
    -- is_name(parts[0])
    refine ⟨_, rfl, .inl ⟨q, _, 0, _, rfl, rfl, w1.l hL, atI_nat (j := 0) rfl, p.1, rfl, h1, fun H2 s2 => ⟨_, rfl, ?_⟩⟩⟩
    refine iteF ?_
    have w2 := w1.same s2
    -- numbers = read_list(parts[1])
    refine ⟨_, rfl, .inl ⟨q, _, 1, _, rfl, rfl, w2.l hL, atI_nat (j := 1) rfl, _, p.2, rfl, h2.num, h2.few, w2.fh, fun v F3 H3 st D => ?_⟩⟩
    have w3 := w2.step st
    obtain ⟨r, xs, rfl, hr, da⟩ := dp_tup D
    have ev := dpa_ints da
    subst ev
    refine ⟨_, rfl, _, rfl, iteNo (by intro z; cases z) ?_⟩
    refine ⟨_, rfl, .inl ⟨r, _, rfl, .inr (w3.t hr), rfl, flat_ints _, _, rfl, ?_⟩⟩
    rw [if_neg (by decide), inV_int]
    refine iteNo (fun h0 => by have := h2.pos 0 h0; omega) ?_
    refine ⟨_, rfl, .ref r, p.2, rfl, ⟨r, rfl, .inr (w3.t hr)⟩, by have := h2.few; omega, h2.up, fun H4 s4 => ⟨_, rfl, iteF ?_⟩⟩
    have w4 := w3.same s4
    refine ⟨_, rfl, .inl ⟨q, _, 0, _, rfl, rfl, w4.l (same_l st.ff hL), atI_nat (j := 0) rfl, _, rfl, by show 2 ≤ sizeLine; decide, fun u hu => ?_⟩⟩
    obtain ⟨w5, e5⟩ := w4.fix hu (.tup [.str p.1, .ref r])
    exact k _ _ _ w5.done (.tup (.of upd_same) (.cons (.str _) (.cons (dp_mono e5 D) .nil)))

/-! ### read_warden -/
def spReadWarden (K : PySem.W.Frag) : Sp := fun vs H Q _ => ∃ (F : Hp) (u : Int × Int × Int), vs = [.str (wardW u)] ∧ (NumOk u.1 ∧ NumOk u.2.1 ∧ NumOk u.2.2) ∧ 1 ≤ u.1 ∧ u.2.1 < u.2.2 ∧ Same F H ∧ RetD K F H Q (encW u)
theorem ok_read_warden (T : Txt K mg A) : FnOk P w K mg base CX0 3 A.a_read_warden A.d_read_warden ["word"] (spReadWarden K) := by
  refine T.F_read_warden.ok sc_read_warden (fun vs H Q E h => ?_) (fun cdv A' outer s H vs Q E hr h => ?_)
  · obtain ⟨F, n, rfl, _⟩ := h; rfl
  · obtain ⟨F, u, rfl, hn, h1, h2, eF, k⟩ := h
    have hu64 := hu64_of hr
    have hu65 := hu65_of hr
    have w := Wd.start eF
    refine ⟨_, pss_cons (ps_set (i := 1) sc_read_warden.nd rfl (Or.inl rfl) (pe_split (pv 0) (pe_str)))
  (pss_cons (ps_if (pt_cmpR (op_neK (K := K) rfl hu64) (pe_callB (call_lenK (K := K) rfl) (by rfl) T.n_len (by decide +kernel) (pa_cons (pv 1) pa_nil)) (pe_int) (nomark _)) (pss_one (ps_ret (pe_non))) (pss_nil))
  (pss_cons (ps_set (i := 2) sc_read_warden.nd rfl (Or.inl rfl) (pe_call (ok_number_of T) (hr.mono (by decide)) rfl T.g_number_of T.F_number_of.kp T.b_number_of .nil pass0 (pa_cons (pe_ix (ix_K (K := K) rfl) (pv 1) (pe_int) (fun _ _ => rfl)) pa_nil)))
  (pss_cons (ps_set (i := 3) sc_read_warden.nd rfl (Or.inl rfl) (pe_call (ok_read_list T) (hr.mono (by decide)) rfl T.g_read_list T.F_read_list.kp T.b_read_list .nil pass0 (pa_cons (pe_ix (ix_K (K := K) rfl) (pv 1) (pe_int) (fun _ _ => rfl)) pa_nil)))
  (pss_cons (ps_if (PW.pt (pw_or (pt_cmp (pc_isN (pv 2))) (pw_or (pt_cmpR (op_ltK (K := K) rfl) (pv 2) (pe_int) (nomark _)) (pw_or (pt_cmp (pc_isN (pv 3))) (pw_or (pt_cmpR (op_neK (K := K) rfl hu64) (pe_callB (call_lenK (K := K) rfl) (by rfl) T.n_len (by decide +kernel) (pa_cons (pv 3) pa_nil)) (pe_int) (nomark _)) (pw_or1 (pt_cmpR (op_geK (K := K) rfl) (pe_ix (ix_K (K := K) rfl) (pv 3) (pe_int) (fun _ _ => rfl)) (pe_ix (ix_K (K := K) rfl) (pv 3) (pe_int) (fun _ _ => rfl)) (nomark _)))))))) (pss_one (ps_ret (pe_non))) (pss_nil))
  (pss_one (ps_ret (pe_tup (pa_cons (pv 2) (pa_cons (pe_ix (ix_K (K := K) rfl) (pv 3) (pe_int) (fun _ _ => rfl)) (pa_cons (pe_ix (ix_K (K := K) rfl) (pv 3) (pe_int) (fun _ _ => rfl)) pa_nil)))))))))), ?_⟩
    have hz := ward_len hn
    refine ⟨_, rfl, ⟨_, rfl⟩, _, _, rfl, rfl, by decide +kernel, small (by rw [len_tl]; omega), ?_⟩
    rw [split_ward hn]
    intro q hq
    obtain ⟨w1, e1⟩ := (w.own hq (.lst ([numS u.1, listW [u.2.1, u.2.2]].map V.str))).freeze
    have hL : SqL K (upd F q (.lst ([numS u.1, listW [u.2.1, u.2.2]].map V.str))) q ([numS u.1, listW [u.2.1, u.2.2]].map V.str) := .of upd_same
    refine ⟨_, rfl, _, _, rfl, .inl ⟨_, w1.l hL, rfl⟩, .inl ⟨rfl, _, rfl, iteNS rfl ?_⟩⟩
    refine ⟨_, rfl, .inl ⟨q, _, 0, _, rfl, rfl, w1.l hL, atI_nat (j := 0) rfl, u.1, rfl, hn.1, fun H2 s2 => ?_⟩⟩
    have w2 := w1.same s2
    refine ⟨_, rfl, .inl ⟨q, _, 1, _, rfl, rfl, w2.l hL, atI_nat (j := 1) rfl, _, [u.2.1, u.2.2], rfl, fun n h => ?_, by show 2 ≤ 100; decide, w2.fh, fun v F3 H3 st D => ?_⟩⟩
    · simp only [List.mem_cons, List.not_mem_nil, or_false] at h
      rcases h with rfl | rfl
      · exact hn.2.1
      · exact hn.2.2
    have w3 := w2.step st
    obtain ⟨r, xs, rfl, hr, da⟩ := dp_tup D
    have ev := dpa_ints da
    subst ev
    refine ⟨_, rfl, _, rfl, iteNo (by intro z; cases z) ?_⟩
    refine ⟨_, rfl, .inl ⟨_, _, rfl, rfl, _, rfl, iteNo (by omega) ?_⟩⟩
    refine ⟨_, rfl, _, rfl, iteNo (by intro z; cases z) ?_⟩
    refine ⟨_, rfl, _, _, rfl, .inr ⟨_, w3.t hr, rfl⟩, .inl ⟨rfl, _, rfl, iteNS rfl ?_⟩⟩
    refine ⟨_, rfl, .inr (.inl ⟨r, _, 0, _, rfl, rfl, w3.t hr, atI_nat (j := 0) rfl, _, rfl, .inr (.inl ⟨r, _, 1, _, rfl, rfl, w3.t hr, atI_nat (j := 1) rfl, .inl ⟨_, _, rfl, rfl, _, rfl, iteNo (by omega) ?_⟩⟩)⟩)⟩
    refine ⟨_, rfl, _, rfl, .inr (.inl ⟨r, _, 0, _, rfl, rfl, w3.t hr, atI_nat (j := 0) rfl, _, rfl, .inr (.inl ⟨r, _, 1, _, rfl, rfl, w3.t hr, atI_nat (j := 1) rfl, by show 3 ≤ sizeLine; decide, fun z hz => ?_⟩)⟩)⟩
    obtain ⟨w5, e5⟩ := w3.fix hz (.tup [.int u.1, .int u.2.1, .int u.2.2])
    exact k _ _ _ w5.done (.tup (.of upd_same) (.cons (.int _) (.cons (.int _) (.cons (.int _) .nil))))

/-! ### read_wardens -/
theorem none_tups (ds : List PyData) (h : ∀ d ∈ ds, ∃ xs, d = .tuple xs) : (ds.any fun z => PyData.eqv z .none) = false := by
  rw [List.any_eq_false]
  intro d hd
  obtain ⟨xs, rfl⟩ := h d hd
  simp [PyData.eqv]
theorem canlay_ints (ns : List Int) : PyData.canLayAll0 (ns.map PyData.int) = true := by
  induction ns with
  | nil => rfl
  | cons n ns ih => rw [List.map_cons, PyData.canLayAll0, ih]; rfl
theorem canlay_all {α : Type} {f : α → PyData} {l : List α} (h : ∀ x ∈ l, (f x).canLay0 = true) : PyData.canLayAll0 (l.map f) = true := by
  induction l with
  | nil => rfl
  | cons n ns ih => rw [List.map_cons, PyData.canLayAll0, h n (by simp), ih fun x hx => h x (List.mem_cons_of_mem _ hx)]; rfl
theorem depth_all {α : Type} {f : α → PyData} {k : Nat} {l : List α} (h : ∀ x ∈ l, (f x).depth ≤ k) : PyData.depthAll (l.map f) ≤ k := by
  induction l with
  | nil => exact Nat.zero_le _
  | cons n ns ih =>
    rw [List.map_cons, PyData.depthAll]
    exact Nat.max_le.mpr ⟨h n (by simp), ih fun x hx => h x (List.mem_cons_of_mem _ hx)⟩

def spReadWardens (K : PySem.W.Frag) : Sp := fun vs H Q _ => ∃ (F : Hp) (p : Addr) (ws : List (Int × Int × Int)), vs = [.ref p] ∧ SqL K F p ((ws.map wardW).map V.str) ∧ WsOk ws ∧ Same F H ∧ RetD K F H Q (encWs ws)
theorem canlay_ws (ws : List (Int × Int × Int)) : PyData.canLayAll0 (ws.map encW) = true := canlay_all fun x _ => by
  show PyData.canLay0 (.tuple _) = true
  rw [PyData.canLay0]
  rfl
theorem depth_w (x : Int × Int × Int) : (encW x).depth ≤ 2 := by
  show PyData.depth (.tuple _) ≤ 2
  simp [PyData.depth, PyData.depthAll]
theorem shaped_ws (ws : List (Int × Int × Int)) : SeqAt.shaped (.list (ws.map encW)) = true :=
  shaped_of (by rw [PyData.canLay0]; exact canlay_ws ws) (by
    have := depth_all (f := encW) (k := 2) (l := ws) fun x _ => depth_w x
    rw [PyData.depth]; omega)
theorem ok_read_wardens (T : Txt K mg A) : FnOk P w K mg base CX0 4 A.a_read_wardens A.d_read_wardens ["words"] (spReadWardens K) := by
  refine T.F_read_wardens.ok sc_read_wardens (fun vs H Q E h => ?_) (fun cdv A' outer s H vs Q E hr h => ?_)
  · obtain ⟨F, n, ws, rfl, _⟩ := h; rfl
  · obtain ⟨F, p, ws, rfl, hs, hw, eF, k⟩ := h
    have hu64 := hu64_of hr
    have hu65 := hu65_of hr
    have w := Wd.start eF
    have few := hw.few
    refine ⟨_, pss_cons (ps_setLc (i := 1) (own := [("word", 2)]) rfl sc_read_wardens.nd rfl rfl (sw_true rfl rfl rfl (by decide +kernel)) (pi_listK (K := K) rfl (pv 0)) (blkOk_by (own := [("word", 2)]) (N := ["words", "entries", "word", "entry"]) (sc := defScope s_read_wardens) (by decide +kernel)) (fun _ _ _ _ _ => pg_name (i := 2) sc_read_wardens.nd rfl (Or.inl rfl)) (fun _ _ _ _ _ => pts_nil) (fun _ _ _ _ _ => pe_call (ok_read_warden T) (hr.mono (by decide)) rfl T.g_read_warden T.F_read_warden.kp T.b_read_warden .nil pass0 (pa_cons (pv 2) pa_nil)))
  (pss_cons (ps_if (PW.pt (pw_or (pt_cmpR (op_inK (K := K) rfl hu65) (pe_non) (pv 1) (by rfl)) (pw_or1 (pt_not (pt_val (pe_call (ok_is_rising T) (hr.mono (by decide)) rfl T.g_is_rising T.F_is_rising.kp T.b_is_rising .nil pass0 (pa_cons (pe_lc (own := [("entry", 3)]) rfl sc_read_wardens.nd (pi_listK (K := K) rfl (pv 1)) (blkOk_by (own := [("entry", 3)]) (N := ["words", "entries", "word", "entry"]) (sc := defScope s_read_wardens) (by decide +kernel)) (fun _ _ _ _ _ => pg_name (i := 3) sc_read_wardens.nd rfl (Or.inl rfl)) (fun _ _ _ _ _ => pts_nil) (fun _ _ _ _ _ => pe_ix (ix_K (K := K) rfl) (pv 3) (pe_int) (fun _ _ => rfl))) pa_nil))))))) (pss_one (ps_ret (pe_non))) (pss_nil))
  (pss_one (ps_ret (pe_callTy (call_tupleK (K := K) rfl) (by rfl) T.n_tuple (by decide +kernel) (pa_cons (pv 1) pa_nil))))), ?_⟩
    refine ⟨_, rfl, p, rfl, ⟨_, w.l hs⟩, fun D hD => ?_⟩
    refine lc_wdL (ws.map encW) (by simp) w hD hs (by simp; omega) ?_ ?_
    · intro i x d F1 H1 acc Q1 hx hd e1 w1 kk
      rw [List.map_map] at hx
      obtain ⟨u, hu, rfl⟩ := item_map hx
      rw [List.getElem?_map, hu] at hd
      cases hd
      have hm := List.mem_of_getElem? hu
      exact ⟨rfl, _, rfl, F1, u, rfl, hw.num u hm, (hw.pos u hm).1, (hw.pos u hm).2, w1.fh, fun v F' H' st D => kk v F' H' st D⟩
    · intro vs' F' H' e1 w1 da
      obtain ⟨w2, e2⟩ := w1.freeze
      have hL : SqL K (upd F' D (.lst vs')) D vs' := .of upd_same
      have hvl : vs'.length = ws.length := by rw [dpa_len da, List.length_map]
      refine ⟨_, rfl, .inr (.inr (.inr ⟨_, ws.map encW, .non, .lst (w2.l hL) (dpa_mono (e2.trans w2.fh) da), rfl, shaped_ws ws, _, rfl, ?_⟩))⟩
      rw [none_tups _ fun d hd => by obtain ⟨u, _, rfl⟩ := List.mem_map.mp hd; exact ⟨_, rfl⟩]
      refine iteF ?_
      refine ⟨_, rfl, D, rfl, ⟨_, w2.l hL⟩, fun D2 hD2 => ?_⟩
      refine lc_wdL ((ws.map (·.1)).map PyData.int) (by rw [List.length_map, List.length_map, hvl]) w2 hD2 hL (by omega) ?_ ?_
      · intro i x d F1 H1 acc Q1 hx hd e3 w3 kk
        obtain ⟨d2, hd2, dx⟩ := dpa_get da hx
        obtain ⟨u, hu, rfl⟩ := item_map hd2
        rw [List.map_map, List.getElem?_map, hu] at hd
        cases hd
        obtain ⟨q, rfl, hq⟩ := wd_at dx
        have hq1 : SqT K H1 q _ := same_t ((e2.trans e3).trans w3.fh) hq
        exact ⟨rfl, _, rfl, .inr (.inl ⟨q, _, 0, _, rfl, rfl, hq1, atI_nat (j := 0) rfl, kk _ F1 H1 (.refl w3.fh) (.int _)⟩)⟩
      · intro vs2 F3 H3 e3 w3 da3
        have ev := dpa_ints da3
        subst ev
        refine ⟨.ref D2, ws.map (·.1), rfl, ⟨D2, rfl, .inl (.of w3.at_)⟩, by rw [List.length_map]; omega, hw.up, fun H4 s4 => ⟨_, rfl, iteF ?_⟩⟩
        have w4 := w3.drop.same s4
        refine ⟨_, rfl, D, _, rfl, .inl ⟨w4.l (same_l e3 hL), fun q hq => ?_⟩⟩
        obtain ⟨w5, e5⟩ := w4.fix hq (.tup vs')
        exact k _ _ _ w5.done (.tup (.of upd_same) (dpa_mono ((e2.trans e3).trans e5) da))

/-! ### read_cap -/
def spReadCap (K : PySem.W.Frag) : Sp := fun vs H Q _ => ∃ (F : Hp) (p : Addr) (a b : Int), vs = [.ref p] ∧ SqL K F p [.str (numS a), .str (numS b)] ∧ NumOk a ∧ NumOk b ∧ Same F H ∧ RetD K F H Q (.tuple [.str wCap, .int a, .int b])
theorem ok_read_cap (T : Txt K mg A) : FnOk P w K mg base CX0 2 A.a_read_cap A.d_read_cap ["words"] (spReadCap K) := by
  refine T.F_read_cap.ok sc_read_cap (fun vs H Q E h => ?_) (fun cdv A' outer s H vs Q E hr h => ?_)
  · obtain ⟨F, p, a, b, rfl, _⟩ := h; rfl
  · obtain ⟨F, p, a, b, rfl, hs, ha, hb, eF, k⟩ := h
    have w := Wd.start eF
    refine ⟨_, pss_cons (ps_set (i := 1) sc_read_cap.nd rfl (Or.inl rfl) (pe_call (ok_number_of T) (hr.mono (by decide)) rfl T.g_number_of T.F_number_of.kp T.b_number_of .nil pass0 (pa_cons (pe_ix (ix_K (K := K) rfl) (pv 0) (pe_int) (fun _ _ => rfl)) pa_nil)))
  (pss_cons (ps_set (i := 2) sc_read_cap.nd rfl (Or.inl rfl) (pe_call (ok_number_of T) (hr.mono (by decide)) rfl T.g_number_of T.F_number_of.kp T.b_number_of .nil pass0 (pa_cons (pe_ix (ix_K (K := K) rfl) (pv 0) (pe_int) (fun _ _ => rfl)) pa_nil)))
  (pss_cons (ps_if (PW.pt (pw_or (pt_cmp (pc_isN (pv 1))) (pw_or1 (pt_cmp (pc_isN (pv 2)))))) (pss_one (ps_ret (pe_non))) (pss_nil))
  (pss_one (ps_ret (pe_tup (pa_cons (pe_str) (pa_cons (pv 1) (pa_cons (pv 2) pa_nil)))))))), ?_⟩
    refine ⟨_, rfl, .inl ⟨p, _, 0, _, rfl, rfl, w.l hs, atI_nat (j := 0) rfl, a, rfl, ha, fun H1 s1 => ?_⟩⟩
    have w1 := w.same s1
    refine ⟨_, rfl, .inl ⟨p, _, 1, _, rfl, rfl, w1.l hs, atI_nat (j := 1) rfl, b, rfl, hb, fun H2 s2 => ?_⟩⟩
    have w2 := w1.same s2
    refine ⟨_, rfl, _, rfl, iteNo (by intro z; cases z) ?_⟩
    refine ⟨_, rfl, _, rfl, iteNo (by intro z; cases z) ?_⟩
    refine ⟨_, rfl, _, rfl, by show 3 ≤ sizeLine; decide, fun q hq => ?_⟩
    obtain ⟨w3, e3⟩ := w2.fix hq (.tup [.str wCap, .int a, .int b])
    exact k _ _ _ w3.done (.tup (.of upd_same) (.cons (.str _) (.cons (.int _) (.cons (.int _) .nil))))

end
end Q

set_option Elab.async false
set_option linter.all false
set_option maxRecDepth 100000
set_option maxHeartbeats 8000000
namespace Q
open PySem PySem.Spec PyProof.Rows L2 TL PW Rc
section
variable {P : Program} {w : World} {K : PySem.W.Frag} {mg : Str → Option Value} {base : Heap} {A : Ad}
/-! ### read_picture -/
theorem name_at {K : PySem.W.Frag} {H : Hp} {v : V} {p : Str × List Int} (h : Dp K H v (encName p)) : ∃ q r, v = .ref q ∧ SqT K H q [.str p.1, .ref r] ∧ SqT K H r (p.2.map V.int) := by
  obtain ⟨q, xs, rfl, hs, da⟩ := dp_tup h
  cases da with
  | cons a da => cases da with
    | cons b da =>
      cases da
      obtain ⟨r, ys, rfl, hr, db⟩ := dp_tup b
      rw [dp_str a] at hs
      have ev := dpa_ints db
      subst ev
      exact ⟨q, r, rfl, hs, hr⟩
theorem depth_ns (ns : List Int) : (encNs ns).depth ≤ 2 := by
  have := depth_all (f := PyData.int) (k := 1) (l := ns) fun x _ => by simp [PyData.depth]
  show PyData.depth (.tuple _) ≤ 2
  rw [PyData.depth]; omega
theorem depth_name (p : Str × List Int) : (encName p).depth ≤ 3 := by
  have := depth_ns p.2
  show PyData.depth (.tuple [_, _]) ≤ 3
  simp only [PyData.depth, PyData.depthAll]
  omega
theorem asc_name {x : Str} (h : NameOk x) : Asc x := fun c hc => by have := h.2.2 c hc; omega
theorem canlay_name {p : Str × List Int} (h : NameOk p.1) : (encName p).canLay0 = true := by
  show PyData.canLay0 (.tuple [_, .tuple _]) = true
  simp only [PyData.canLay0, PyData.canLayAll0, asc_ok (asc_name h), canlay_ints]
  rfl
theorem shaped_names {l : List (Str × List Int)} (h : ∀ p ∈ l, NameOk p.1) : SeqAt.shaped (.list (l.map encName)) = true :=
  shaped_of (by rw [PyData.canLay0]; exact canlay_all fun p hp => canlay_name (h p hp)) (by
    have := depth_all (f := encName) (k := 3) (l := l) fun x _ => depth_name x
    rw [PyData.depth]; omega)
def spReadPicture (K : PySem.W.Frag) : Sp := fun vs H Q _ => ∃ (F : Hp) (p : Addr) (caps : List Int) (names : List (Str × List Int)), vs = [.ref p] ∧ SqL K F p ((listW caps :: names.map nameW).map V.str) ∧
  caps ≠ [] ∧ (∀ c ∈ caps, NumOk c) ∧ caps.length ≤ 100 ∧ (∀ p ∈ names, NameOk p.1 ∧ NsOk p.2) ∧ (names.map (·.1)).Pairwise (fun x y => tl x < tl y) ∧ names.length ≤ 100 ∧ Same F H ∧ RetD K F H Q (.tuple [.str wPicture, encNs caps, .tuple (names.map encName)])
theorem ok_read_picture (T : Txt K mg A) : FnOk P w K mg base CX0 4 A.a_read_picture A.d_read_picture ["words"] (spReadPicture K) := by
  refine T.F_read_picture.ok sc_read_picture (fun vs H Q E h => ?_) (fun cdv A' outer s H vs Q E hr h => ?_)
  · obtain ⟨F, p, a, b, rfl, _⟩ := h; rfl
  · obtain ⟨F, p, caps, names, rfl, hs, c1, c2, c3, n1, n2, n3, eF, k⟩ := h
    have hu64 := hu64_of hr
    have hu65 := hu65_of hr
    have w := Wd.start eF
    refine ⟨_, pss_cons (ps_set (i := 1) sc_read_picture.nd rfl (Or.inl rfl) (pe_call (ok_read_list T) (hr.mono (by decide)) rfl T.g_read_list T.F_read_list.kp T.b_read_list .nil pass0 (pa_cons (pe_ix (ix_K (K := K) rfl) (pv 0) (pe_int) (fun _ _ => rfl)) pa_nil)))
  (pss_cons (ps_setLc (i := 2) (own := [("word", 3)]) rfl sc_read_picture.nd rfl rfl (sw_true rfl rfl rfl (by decide +kernel)) (pi_listK (K := K) rfl (pe_slice (sl_K (K := K) rfl) (pv 0) (po_some (pe_int)) po_none)) (blkOk_by (own := [("word", 3)]) (N := ["words", "caps", "names", "word", "name", "numbers"]) (sc := defScope s_read_picture) (by decide +kernel)) (fun _ _ _ _ _ => pg_name (i := 3) sc_read_picture.nd rfl (Or.inl rfl)) (fun _ _ _ _ _ => pts_nil) (fun _ _ _ _ _ => pe_call (ok_read_named T) (hr.mono (by decide)) rfl T.g_read_named T.F_read_named.kp T.b_read_named .nil pass0 (pa_cons (pv 3) pa_nil)))
  (pss_cons (ps_if (PW.pt (pw_or (pt_cmp (pc_isN (pv 1))) (pw_or (pt_cmpR (op_eqK (K := K) rfl hu64) (pe_callB (call_lenK (K := K) rfl) (by rfl) T.n_len (by decide +kernel) (pa_cons (pv 1) pa_nil)) (pe_int) (nomark _)) (pw_or1 (pt_cmpR (op_inK (K := K) rfl hu65) (pe_non) (pv 2) (by rfl)))))) (pss_one (ps_ret (pe_non))) (pss_nil))
  (pss_cons (ps_if (pt_not (pt_val (pe_call (ok_rising_strs T) (hr.mono (by decide)) rfl T.g_is_rising T.F_is_rising.kp T.b_is_rising .nil pass0 (pa_cons (pe_lc (own := [("name", 4), ("numbers", 5)]) rfl sc_read_picture.nd (pi_listK (K := K) rfl (pv 2)) (blkOk_by (own := [("name", 4), ("numbers", 5)]) (N := ["words", "caps", "names", "word", "name", "numbers"]) (sc := defScope s_read_picture) (by decide +kernel)) (fun _ _ _ _ _ => pg_tupK (K := K) (n := 2) rfl rfl (pgs_cons (pg_name (i := 4) sc_read_picture.nd rfl (Or.inl rfl)) (pgs_cons (pg_name (i := 5) sc_read_picture.nd rfl (Or.inl rfl)) pgs_nil))) (fun _ _ _ _ _ => pts_nil) (fun _ _ _ _ _ => pv 4)) pa_nil)))) (pss_one (ps_ret (pe_non))) (pss_nil))
  (pss_one (ps_ret (pe_tup (pa_cons (pe_str) (pa_cons (pv 1) (pa_cons (pe_callTy (call_tupleK (K := K) rfl) (by rfl) T.n_tuple (by decide +kernel) (pa_cons (pv 2) pa_nil)) pa_nil))))))))), ?_⟩
    refine ⟨_, rfl, .inl ⟨p, _, 0, _, rfl, rfl, w.l hs, atI_nat (j := 0) rfl, F, caps, rfl, c2, c3, w.fh, fun v F1 H1 st1 D1 => ?_⟩⟩
    have w1 := w.step st1
    obtain ⟨r, xs, rfl, hrr, da1⟩ := dp_tup D1
    have ev := dpa_ints da1
    subst ev
    -- words[1:]
    refine ⟨_, rfl, _, rfl, .inr (.inl ⟨p, _, rfl, w1.l (same_l st1.ff hs), fun q hq => ?_⟩)⟩
    have ec : cutV ((listW caps :: names.map nameW).map V.str) (some 1) none = (names.map nameW).map V.str := cutV_tail _ _
    have hq' := hq
    rw [ec]
    obtain ⟨w2, e2⟩ := (w1.own hq (.lst ((names.map nameW).map V.str))).freeze
    have hL : SqL K (upd F1 q (.lst ((names.map nameW).map V.str))) q ((names.map nameW).map V.str) := .of upd_same
    refine ⟨q, rfl, ⟨_, w2.l hL⟩, fun D hD => ?_⟩
    refine lc_wdL (names.map encName) (by simp) w2 hD hL (by simp; omega) ?_ ?_
    · intro i x d F3 H3 acc Q3 hx hd e3 w3 kk
      rw [List.map_map] at hx
      obtain ⟨u, hu, rfl⟩ := item_map hx
      rw [List.getElem?_map, hu] at hd
      cases hd
      have hm := n1 u (List.mem_of_getElem? hu)
      exact ⟨rfl, _, rfl, F3, u, rfl, hm.1, hm.2, w3.fh, fun v F' H' st D => kk v F' H' st D⟩
    · intro vs' F3 H3 e3 w3 da3
      obtain ⟨w4, e4⟩ := w3.freeze
      have hN : SqL K (upd F3 D (.lst vs')) D vs' := .of upd_same
      have hvl : vs'.length = names.length := by rw [dpa_len da3, List.length_map]
      have hcaps : SqT K (upd F3 D (.lst vs')) r (caps.map V.int) := same_t ((e2.trans e3).trans e4) hrr
      refine ⟨_, rfl, _, rfl, iteNo (by intro z; cases z) ?_⟩
      refine ⟨_, rfl, _, _, rfl, .inr ⟨_, w4.t hcaps, rfl⟩, .inl ⟨rfl, _, rfl, iteNo (fun z => ?_) ?_⟩⟩
      · have z := V.int.inj z
        rw [List.length_map] at z
        have : 0 < caps.length := List.length_pos_iff.mpr c1
        omega
      refine ⟨_, rfl, .inr (.inr (.inr ⟨_, names.map encName, .non, .lst (w4.l hN) (dpa_mono (e4.trans w4.fh) da3), rfl, shaped_names fun p hp => (n1 p hp).1, _, rfl, ?_⟩))⟩
      rw [none_tups _ fun d hd => by obtain ⟨u, _, rfl⟩ := List.mem_map.mp hd; exact ⟨_, rfl⟩]
      refine iteF ?_
      refine ⟨_, rfl, D, rfl, ⟨_, w4.l hN⟩, fun D2 hD2 => ?_⟩
      refine lc_wdL ((names.map (·.1)).map PyData.str) (by rw [List.length_map, List.length_map, hvl]) w4 hD2 hN (by omega) ?_ ?_
      · intro i x d F5 H5 acc Q5 hx hd e5 w5 kk
        obtain ⟨d2, hd2, dx⟩ := dpa_get da3 hx
        obtain ⟨u, hu, rfl⟩ := item_map hd2
        rw [List.map_map, List.getElem?_map, hu] at hd
        cases hd
        obtain ⟨q1, r1, rfl, hq1, hr1⟩ := name_at dx
        have hq2 : SqT K H5 q1 _ := same_t ((e4.trans e5).trans w5.fh) hq1
        exact ⟨q1, _, rfl, hq2, rfl, _, _, rfl, _, _, rfl, rfl, rfl, _, rfl, kk _ F5 H5 (.refl w5.fh) (.str _)⟩
      · intro vs2 F5 H5 e5 w5 da5
        have ev := dpa_strs da5
        subst ev
        refine ⟨D2, names.map (·.1), rfl, .of w5.at_, by rw [List.length_map]; omega, n2, fun H6 s6 => ⟨_, rfl, iteF ?_⟩⟩
        have w6 := w5.drop.same s6
        refine ⟨_, rfl, _, rfl, D, _, rfl, .inl ⟨w6.l (same_l e5 hN), fun q7 hq7 => ?_⟩⟩
        obtain ⟨w7, e7⟩ := w6.fix hq7 (.tup vs')
        refine ⟨by show 3 ≤ sizeLine; decide, fun q8 hq8 => ?_⟩
        obtain ⟨w8, e8⟩ := w7.fix hq8 (.tup [.str wPicture, .ref r, .ref q7])
        exact k _ _ _ w8.done (.tup (.of upd_same) (.cons (.str _) (.cons (dp_mono ((e5.trans e7).trans e8) (.tup hcaps dpa_of_ints)) (.cons (dp_mono e8 (.tup (.of upd_same) (dpa_mono ((e4.trans e5).trans e7) da3))) .nil))))

/-! ### read_head -/
theorem canlay_strs {l : List Str} (h : ∀ x ∈ l, Asc x) : PyData.canLay0 (.list (l.map PyData.str)) = true := by
  rw [PyData.canLay0]
  exact canlay_all fun x hx => canlay_str (asc_ok (h x hx))
theorem shaped_strs {l : List Str} (h : ∀ x ∈ l, Asc x) : SeqAt.shaped (.list (l.map PyData.str)) = true :=
  shaped_of (canlay_strs h) (by
    have := depth_all (f := PyData.str) (k := 1) (l := l) fun x _ => by simp [PyData.depth]
    rw [PyData.depth]; omega)
theorem eqv_strs : ∀ {l m : List Str}, PyData.eqvAll (l.map PyData.str) (m.map PyData.str) = decide (l = m)
  | [], [] => rfl
  | [], _ :: _ => rfl
  | _ :: _, [] => rfl
  | a :: l, b :: m => by
    have e : PyData.eqvAll ((a :: l).map PyData.str) ((b :: m).map PyData.str) = (PyData.eqv (.str a) (.str b) && PyData.eqvAll (l.map PyData.str) (m.map PyData.str)) := by rw [List.map_cons, List.map_cons, PyData.eqvAll]
    rw [e, eqv_strs (l := l) (m := m)]
    have e2 : PyData.eqv (.str a) (.str b) = (a == b) := by rw [PyData.eqv]
    rw [e2]
    by_cases h : a = b
    · subst h; simp
    · simp [h]
theorem asc_lit (x : String) (h : ∀ c ∈ x.toList.map Char.toNat, c < 128) : Asc (x : Str) := fun c hc => h c (by rw [← ofS_tl]; exact hc)
theorem asc_listW {ns : List Int} (h : ∀ n ∈ ns, NumOk n) : Asc (listW ns) := asc_join (asc_lit "," (by decide)) fun p hp => by
  obtain ⟨n, hn, rfl⟩ := List.mem_map.mp hp
  exact asc_num (h n hn).1
theorem asc_nameW {p : Str × List Int} (h1 : NameOk p.1) (h2 : NsOk p.2) : Asc (nameW p) := asc_app (asc_app (asc_name h1) (asc_lit "=" (by decide))) (asc_listW h2.num)
theorem asc_head {r : Rec} (h : RecOk r) : ∀ x ∈ headW r, Asc x := by
  cases r with
  | picture caps names ws =>
    obtain ⟨_, h2, _, h4, _⟩ := h
    intro x hx
    have hx : x ∈ [wPicture, listW caps] ++ names.map nameW := hx
    rcases List.mem_append.mp hx with hx | hx
    · simp only [List.mem_cons, List.not_mem_nil, or_false] at hx
      rcases hx with rfl | rfl
      · exact asc_lit "picture" (by decide)
      · exact asc_listW h2
    · obtain ⟨p, hp, rfl⟩ := List.mem_map.mp hx
      exact asc_nameW (h4 p hp).1 (h4 p hp).2
  | put n ns ws =>
    intro x hx
    have hx : x ∈ [wPut, nameW (n, ns)] := hx
    simp only [List.mem_cons, List.not_mem_nil, or_false] at hx
    rcases hx with rfl | rfl
    · exact asc_lit "put" (by decide)
    · exact asc_nameW (p := (n, ns)) h.1 h.2.1
  | erase n =>
    intro x hx
    have hx : x ∈ [wErase, n] := hx
    simp only [List.mem_cons, List.not_mem_nil, or_false] at hx
    rcases hx with rfl | rfl
    · exact asc_lit "erase" (by decide)
    · exact asc_name h
  | deal ws =>
    intro x hx
    have hx : x ∈ [wDeal] := hx
    simp only [List.mem_cons, List.not_mem_nil, or_false] at hx
    subst hx
    exact asc_lit "deal" (by decide)
  | cap s c ws =>
    intro x hx
    have hx : x ∈ [wCap, numS s, numS c] := hx
    simp only [List.mem_cons, List.not_mem_nil, or_false] at hx
    rcases hx with rfl | rfl | rfl
    · exact asc_lit "cap" (by decide)
    · exact asc_num h.1.1
    · exact asc_num h.2.1.1
def isErase : Rec → Bool
  | .erase _ => true
  | _ => false
def spReadHead (K : PySem.W.Frag) : Sp := fun vs H Q _ => ∃ (F : Hp) (p : Addr) (r : Rec), vs = [.ref p] ∧ SqL K F p ((headW r).map V.str) ∧ RecOk r ∧ isErase r = false ∧ Same F H ∧ RetD K F H Q (.tuple (headD r))
theorem eqD_strs {K : PySem.W.Frag} {H : Hp} {p q : Addr} {l m : List Str} {Q : VK} (hp : SqL K H p (l.map V.str)) (hq : SqL K H q (m.map V.str)) (hl : ∀ x ∈ l, Asc x) (hm : ∀ x ∈ m, Asc x) (k : Q (.bl (decide (l = m))) H) : rEqU K (.ref p) (.ref q) H Q := by
  refine .inr ⟨_, _, .lst hp dpa_of_strs, .lst hq dpa_of_strs, shaped_strs hl, shaped_strs hm, ?_⟩
  have e : PyData.eqv (.list (l.map PyData.str)) (.list (m.map PyData.str)) = decide (l = m) := by rw [PyData.eqv, eqv_strs]
  rw [e]
  exact k
theorem ok_read_head (T : Txt K mg A) : FnOk P w K mg base CX0 5 A.a_read_head A.d_read_head ["words"] (spReadHead K) := by
  refine T.F_read_head.ok sc_read_head (fun vs H Q E h => ?_) (fun cdv A' outer s H vs Q E hr h => ?_)
  · obtain ⟨F, p, a, rfl, _⟩ := h; rfl
  · obtain ⟨F, p, r, rfl, hs, ok, ne, eF, k⟩ := h
    have hu64 := hu64_of hr
    have hu65 := hu65_of hr
    have w := Wd.start eF
    refine ⟨_, pss_cons (ps_if (pt_cmpR (op_eqK (K := K) rfl hu64) (pv 0) (pe_lst (pa_cons (pe_str) pa_nil)) (nomark _)) (pss_one (ps_ret (pe_tup (pa_cons (pe_str) pa_nil)))) (pss_nil))
  (pss_cons (ps_if (PW.pt (pw_and (pt_cmpR (op_eqK (K := K) rfl hu64) (pe_callB (call_lenK (K := K) rfl) (by rfl) T.n_len (by decide +kernel) (pa_cons (pv 0) pa_nil)) (pe_int) (nomark _)) (pw_and1 (pt_cmpR (op_eqK (K := K) rfl hu64) (pe_ix (ix_K (K := K) rfl) (pv 0) (pe_int) (fun _ _ => rfl)) (pe_str) (nomark _))))) (pss_cons (ps_set (i := 1) sc_read_head.nd rfl (Or.inl rfl) (pe_call (ok_read_named T) (hr.mono (by decide)) rfl T.g_read_named T.F_read_named.kp T.b_read_named .nil pass0 (pa_cons (pe_ix (ix_K (K := K) rfl) (pv 0) (pe_int) (fun _ _ => rfl)) pa_nil)))
    (pss_cons (ps_if (pt_cmp (pc_isN (pv 1))) (pss_one (ps_ret (pe_non))) (pss_nil))
    (pss_one (ps_ret (pe_op (op_addK (K := K) rfl) (pe_tup (pa_cons (pe_str) pa_nil)) (pv 1)))))) (pss_nil))
  (pss_cons (ps_if (PW.pt (pw_and (pt_cmpR (op_eqK (K := K) rfl hu64) (pe_callB (call_lenK (K := K) rfl) (by rfl) T.n_len (by decide +kernel) (pa_cons (pv 0) pa_nil)) (pe_int) (nomark _)) (pw_and1 (pt_cmpR (op_eqK (K := K) rfl hu64) (pe_ix (ix_K (K := K) rfl) (pv 0) (pe_int) (fun _ _ => rfl)) (pe_str) (nomark _))))) (pss_one (ps_ret (pe_call (ok_read_cap T) (hr.mono (by decide)) rfl T.g_read_cap T.F_read_cap.kp T.b_read_cap .nil pass0 (pa_cons (pe_slice (sl_K (K := K) rfl) (pv 0) (po_some (pe_int)) po_none) pa_nil)))) (pss_nil))
  (pss_cons (ps_if (PW.pt (pw_and (pt_cmpR (op_geK (K := K) rfl) (pe_callB (call_lenK (K := K) rfl) (by rfl) T.n_len (by decide +kernel) (pa_cons (pv 0) pa_nil)) (pe_int) (nomark _)) (pw_and1 (pt_cmpR (op_eqK (K := K) rfl hu64) (pe_ix (ix_K (K := K) rfl) (pv 0) (pe_int) (fun _ _ => rfl)) (pe_str) (nomark _))))) (pss_one (ps_ret (pe_call (ok_read_picture T) (hr.mono (by decide)) rfl T.g_read_picture T.F_read_picture.kp T.b_read_picture .nil pass0 (pa_cons (pe_slice (sl_K (K := K) rfl) (pv 0) (po_some (pe_int)) po_none) pa_nil)))) (pss_nil))
  (pss_one (ps_ret (pe_non)))))), ?_⟩
    -- words == ["deal"]
    refine ⟨_, rfl, by show 1 ≤ sizeLine; decide, fun q hq => ?_⟩
    obtain ⟨w1, e1⟩ := w.fix hq (.lst [.str wDeal])
    have hs1 := w1.l (same_l e1 hs)
    refine eqD_strs (m := [wDeal]) hs1 (.of upd_same) (asc_head ok) (fun x hx => by rw [List.mem_singleton.mp hx]; exact asc_lit "deal" (by decide)) ⟨_, rfl, ?_⟩
    cases r with
    | erase n => cases ne
    | deal ws =>
      refine iteYes rfl ?_
      refine ⟨by show 1 ≤ sizeLine; decide, fun q2 hq2 => ?_⟩
      obtain ⟨w2, e2⟩ := w1.fix hq2 (.tup [.str wDeal])
      exact k _ _ _ w2.done (.tup (.of upd_same) (.cons (.str _) .nil))
    | put n ns ws =>
      refine iteNo (fun z => by cases z) ?_
      refine ⟨_, rfl, _, _, rfl, .inl ⟨_, hs1, rfl⟩, .inl ⟨rfl, _, rfl, iteYes rfl ?_⟩⟩
      refine ⟨_, rfl, .inl ⟨p, _, 0, _, rfl, rfl, hs1, atI_nat (j := 0) rfl, .inl ⟨rfl, _, rfl, iteYes rfl ?_⟩⟩⟩
      refine ⟨_, rfl, .inl ⟨p, _, 1, _, rfl, rfl, hs1, atI_nat (j := 1) rfl, _, (n, ns), rfl, ok.1, ok.2.1, w1.fh, fun v F2 H2 st D => ?_⟩⟩
      have w2 := w1.step st
      obtain ⟨q1, r1, rfl, hq1, hr1⟩ := name_at D
      refine ⟨_, rfl, _, rfl, iteNo (by intro z; cases z) ?_⟩
      refine ⟨by show 1 ≤ sizeLine; decide, fun q2 hq2 => ⟨_, rfl, ?_⟩⟩
      obtain ⟨w3, e3⟩ := w2.fix hq2 (.tup [.str wPut])
      refine .inr (.inr (.inr ⟨q2, q1, [.str wPut], [.str n, .ref r1], rfl, rfl, .of upd_same, w3.t (same_t e3 hq1), by show 1 + 2 ≤ sizeLine; decide, fun z => (by cases z), fun _ z => (by cases z), fun _ _ q4 hq4 => ?_⟩))
      obtain ⟨w4, e4⟩ := w3.fix hq4 (.tup [.str wPut, .str n, .ref r1])
      exact k _ _ _ w4.done (.tup (.of upd_same) (.cons (.str _) (.cons (.str _) (.cons (.tup (same_t (e3.trans e4) hr1) dpa_of_ints) .nil))))
    | cap a b ws =>
      refine iteNo (fun z => by cases z) ?_
      refine ⟨_, rfl, _, _, rfl, .inl ⟨_, hs1, rfl⟩, .inl ⟨rfl, _, rfl, iteNo (by show ¬ V.int ((3 : Nat) : Int) = V.int 2; decide) ?_⟩⟩
      refine iteF ?_
      refine ⟨_, rfl, _, _, rfl, .inl ⟨_, hs1, rfl⟩, .inl ⟨rfl, _, rfl, iteYes rfl ?_⟩⟩
      refine ⟨_, rfl, .inl ⟨p, _, 0, _, rfl, rfl, hs1, atI_nat (j := 0) rfl, .inl ⟨rfl, _, rfl, iteYes rfl ?_⟩⟩⟩
      refine ⟨_, rfl, _, rfl, .inr (.inl ⟨p, _, rfl, hs1, fun q2 hq2 => ?_⟩)⟩
      have ec : cutV ((headW (.cap a b ws)).map V.str) (some 1) none = [.str (numS a), .str (numS b)] := cutV_tail _ _
      rw [ec]
      obtain ⟨w2, e2⟩ := w1.fix hq2 (.lst [.str (numS a), .str (numS b)])
      exact ⟨_, q2, a, b, rfl, .of upd_same, ok.1, ok.2.1, w2.fh, fun v F' H' st D => k v F' H' (w2.step st).done D⟩
    | picture caps names ws =>
      obtain ⟨c1, c2, c3, n1, n2, n3, _⟩ := ok
      have hlen : ((headW (.picture caps names ws)).map V.str).length = 2 + names.length := by simp [headW]; omega
      have p0 : ((headW (.picture caps names ws)).map V.str)[0]? = some (.str wPicture) := rfl
      refine iteNo (fun z => by cases z) ?_
      -- len(words) == 2 and words[0] == "put"
      refine ⟨_, rfl, _, _, rfl, .inl ⟨_, hs1, rfl⟩, .inl ⟨rfl, _, rfl, ?_⟩⟩
      rw [hlen]
      have last : ∀ D : Ends, D.rt = Q → ((tSeq (tIfS (tAnd (tTest (tOp (rGeU K) (tCB (rLn K) (tCons (tVar 0) tNil)) (tC (.int 2)))) (tTest (tOp (rEqU K) (tOp (rIx K) (tVar 0) (tC (.int 0))) (tC (.str wPicture))))) (tRet (tCall (spReadPicture K) [] E0 (tCons (tSl (rSlU K) (tVar 0) (tPart (tC (.int 1))) tNoPart) tNil))) tNext) (tRet (tC .non))) D [some (.ref p)] (upd H q (.lst [.str wDeal]))) := fun D hD => by
        refine ⟨_, rfl, _, _, rfl, .inl ⟨_, hs1, rfl⟩, .inl ⟨_, _, rfl, rfl, _, rfl, iteYes (by rw [hlen]; omega) ?_⟩⟩
        refine ⟨_, rfl, .inl ⟨p, _, 0, _, rfl, rfl, hs1, atI_nat (j := 0) p0, .inl ⟨rfl, _, rfl, iteYes rfl ?_⟩⟩⟩
        refine ⟨_, rfl, _, rfl, .inr (.inl ⟨p, _, rfl, hs1, fun q2 hq2 => ?_⟩)⟩
        have ec : cutV ((headW (.picture caps names ws)).map V.str) (some 1) none = (listW caps :: names.map nameW).map V.str := cutV_tail _ _
        rw [ec]
        obtain ⟨w2, e2⟩ := w1.fix hq2 (.lst ((listW caps :: names.map nameW).map V.str))
        refine ⟨_, q2, caps, names, rfl, .of upd_same, c1, c2, c3, n1, n2, n3, w2.fh, fun v F' H' st D' => ?_⟩
        show D.rt v H'
        rw [hD]
        exact k v F' H' (w2.step st).done D'
      have third : ∀ D : Ends, D.rt = Q → ((tSeq (tIfS (tAnd (tTest (tOp (rEqU K) (tCB (rLn K) (tCons (tVar 0) tNil)) (tC (.int 3)))) (tTest (tOp (rEqU K) (tOp (rIx K) (tVar 0) (tC (.int 0))) (tC (.str wCap))))) (tRet (tCall (spReadCap K) [] E0 (tCons (tSl (rSlU K) (tVar 0) (tPart (tC (.int 1))) tNoPart) tNil))) tNext)
          (tSeq (tIfS (tAnd (tTest (tOp (rGeU K) (tCB (rLn K) (tCons (tVar 0) tNil)) (tC (.int 2)))) (tTest (tOp (rEqU K) (tOp (rIx K) (tVar 0) (tC (.int 0))) (tC (.str wPicture))))) (tRet (tCall (spReadPicture K) [] E0 (tCons (tSl (rSlU K) (tVar 0) (tPart (tC (.int 1))) tNoPart) tNil))) tNext) (tRet (tC .non)))) D [some (.ref p)] (upd H q (.lst [.str wDeal]))) := fun D hD => by
        refine ⟨_, rfl, _, _, rfl, .inl ⟨_, hs1, rfl⟩, .inl ⟨rfl, _, rfl, ?_⟩⟩
        refine iteD (fun _ => ?_) (fun _ => iteF (last D hD))
        exact ⟨_, rfl, .inl ⟨p, _, 0, _, rfl, rfl, hs1, atI_nat (j := 0) p0, .inl ⟨rfl, _, rfl, iteNo (by decide +kernel) (last D hD)⟩⟩⟩
      refine iteD (fun _ => ?_) (fun _ => iteF (third _ rfl))
      exact ⟨_, rfl, .inl ⟨p, _, 0, _, rfl, rfl, hs1, atI_nat (j := 0) p0, .inl ⟨rfl, _, rfl, iteNo (by decide +kernel) (third _ rfl)⟩⟩⟩

end
end Q

set_option Elab.async false
set_option linter.all false
set_option maxRecDepth 100000
set_option maxHeartbeats 8000000
namespace Q
open PySem PySem.Spec PyProof.Rows L2 TL PW Rc
section
variable {P : Program} {w : World} {K : PySem.W.Frag} {mg : Str → Option Value} {base : Heap} {A : Ad}
/-! ### read_record -/
theorem head_none_stroke {r : Rec} (h : RecOk r) : ∀ x ∈ headW r, x ≠ stroke := fun x hx e => by
  have := head_free h (s := 47) (by omega) x hx
  rw [e, ofS_tl] at this
  exact this (by decide)
def spReadRecord (K : PySem.W.Frag) : Sp := fun vs H Q _ => ∃ (F : Hp) (x : Str) (o : Option Rec), vs = [.str x] ∧ Parses x o ∧ x.length ≤ 1000000 ∧ Same F H ∧ RetD K F H Q (encO o)
theorem len_one (c : Nat) : (⟨#[c]⟩ : Str).length = 1 := rfl
theorem words_head {r : Rec} (h : isErase r = false) : words r = headW r ++ [stroke] ++ r.ws.map wardW := by cases r <;> first | rfl | cases h
theorem encR_head {r : Rec} (h : isErase r = false) : encR r = .tuple (headD r ++ [encWs r.ws]) := by cases r <;> first | rfl | cases h
theorem headD_ne (r : Rec) : headD r ≠ [] := by cases r <;> simp [headD]
theorem head0_erase {r : Rec} (h : isErase r = false) {x : Str} (hx : (headW r)[0]? = some x) : x ≠ wErase := by
  cases r with
  | erase n => cases h
  | picture a b c => cases hx; decide +kernel
  | put a b c => cases hx; decide +kernel
  | deal a => cases hx; decide +kernel
  | cap a b c => cases hx; decide +kernel
theorem inV_str (x : Str) (ns : List Str) : inV (.str x) (ns.map V.str) = decide (x ∈ ns) := by
  induction ns with
  | nil => rfl
  | cons a l ih =>
    have e : inV (.str x) ((a :: l).map V.str) = (eqV (.str a) (.str x) || inV (.str x) (l.map V.str)) := rfl
    rw [e, ih]
    have e2 : eqV (.str a) (.str x) = decide (a = x) := by first | rfl | (simp [eqV]; done) | (unfold eqV; simp [Bool.beq_eq_decide_eq])
    rw [e2]
    by_cases h : a = x
    · subst h; simp
    · simp [h, Ne.symm h, eq_comm]
theorem ok_read_record (T : Txt K mg A) : FnOk P w K mg base CX0 6 A.a_read_record A.d_read_record ["text"] (spReadRecord K) := by
  refine T.F_read_record.ok sc_read_record (fun vs H Q E h => ?_) (fun cdv A' outer s H vs Q E hr h => ?_)
  · obtain ⟨F, p, a, rfl, _⟩ := h; rfl
  · obtain ⟨F, x, o, rfl, ps, hz, eF, k⟩ := h
    have hu64 := hu64_of hr
    have hu65 := hu65_of hr
    have w := Wd.start eF
    refine ⟨_, pss_cons (ps_if (pt_cmpR (op_neK (K := K) rfl hu64) (pe_slice (sl_K (K := K) rfl) (pv 0) (po_some (pe_un un_neg (pe_int))) po_none) (pe_str) (nomark _)) (pss_one (ps_ret (pe_non))) (pss_nil))
  (pss_cons (ps_set (i := 1) sc_read_record.nd rfl (Or.inl rfl) (pe_split (pe_slice (sl_K (K := K) rfl) (pv 0) po_none (po_some (pe_un un_neg (pe_int)))) (pe_str)))
  (pss_cons (ps_if (pt_cmpR (op_eqK (K := K) rfl hu64) (pe_ix (ix_K (K := K) rfl) (pv 1) (pe_int) (fun _ _ => rfl)) (pe_str) (nomark _)) (pss_cons (ps_if (PW.pt (pw_or (pt_cmpR (op_neK (K := K) rfl hu64) (pe_callB (call_lenK (K := K) rfl) (by rfl) T.n_len (by decide +kernel) (pa_cons (pv 1) pa_nil)) (pe_int) (nomark _)) (pw_or1 (pt_not (pt_val (pe_call (ok_is_name T) (hr.mono (by decide)) rfl T.g_is_name T.F_is_name.kp T.b_is_name .nil pass0 (pa_cons (pe_ix (ix_K (K := K) rfl) (pv 1) (pe_int) (fun _ _ => rfl)) pa_nil))))))) (pss_one (ps_ret (pe_non))) (pss_nil))
    (pss_one (ps_ret (pe_tup (pa_cons (pe_str) (pa_cons (pe_ix (ix_K (K := K) rfl) (pv 1) (pe_int) (fun _ _ => rfl)) pa_nil)))))) (pss_nil))
  (pss_cons (ps_if (pt_cmpR (op_notInK (K := K) rfl hu65) (pe_str) (pv 1) (by rfl)) (pss_one (ps_ret (pe_non))) (pss_nil))
  (pss_cons (ps_set (i := 2) sc_read_record.nd rfl (Or.inl rfl) (pe_bm PySem.F.plainAttrs_list PySem.F.slot_list_index PySem.F.type_list_index (mt_indexD hu65) (pv 1) (pa_cons (pe_str) pa_nil)))
  (pss_cons (ps_set (i := 3) sc_read_record.nd rfl (Or.inl rfl) (pe_call (ok_read_head T) (hr.mono (by decide)) rfl T.g_read_head T.F_read_head.kp T.b_read_head .nil pass0 (pa_cons (pe_slice (sl_K (K := K) rfl) (pv 1) po_none (po_some (pv 2))) pa_nil)))
  (pss_cons (ps_set (i := 4) sc_read_record.nd rfl (Or.inl rfl) (pe_call (ok_read_wardens T) (hr.mono (by decide)) rfl T.g_read_wardens T.F_read_wardens.kp T.b_read_wardens .nil pass0 (pa_cons (pe_slice (sl_K (K := K) rfl) (pv 1) (po_some (pe_op (op_addK (K := K) rfl) (pv 2) (pe_int))) po_none) pa_nil)))
  (pss_cons (ps_if (PW.pt (pw_or (pt_cmp (pc_isN (pv 3))) (pw_or1 (pt_cmp (pc_isN (pv 4)))))) (pss_one (ps_ret (pe_non))) (pss_nil))
  (pss_one (ps_ret (pe_op (op_addK (K := K) rfl) (pv 3) (pe_tup (pa_cons (pv 4) pa_nil)))))))))))), ?_⟩
    -- text[-1:] != ";"
    refine ⟨_, rfl, _, rfl, _, rfl, .inl ⟨x, rfl, small hz, .inl ⟨rfl, _, rfl, ?_⟩⟩⟩
    cases o with
    | none =>
      refine iteNY (fun e => ?_) ?_
      · exact cut_torn ps (some (-1)) none (V.str.inj e)
      · exact k _ _ _ w.done .non
    | some r =>
      obtain ⟨rfl, ok⟩ := ps
      refine iteNS (congrArg V.str (cut_last _ 59)) ?_
      -- words = text[:-1].split(" ")
      have hi : cutS (recText r) none (some (-1)) = Txt.join space (words r) := cut_init _ 59
      refine ⟨_, rfl, _, rfl, _, rfl, .inl ⟨_, rfl, small hz, ⟨_, rfl⟩, _, _, rfl, rfl, by decide +kernel, ?_⟩⟩
      rw [hi]
      refine ⟨small (by have := text_len ok; rw [len_tl]; omega), ?_⟩
      rw [show Txt.split (Txt.join space (words r)) (Str.ofString " ") = words r from split_words ok]
      intro q hq
      obtain ⟨w1, e1⟩ := (w.own hq (.lst ((words r).map V.str))).freeze
      have hL : SqL K (upd F q (.lst ((words r).map V.str))) q ((words r).map V.str) := .of upd_same
      by_cases her : isErase r = true
      · cases r with
        | erase n =>
          refine ⟨_, rfl, .inl ⟨q, _, 0, _, rfl, rfl, w1.l hL, atI_nat (j := 0) rfl, .inl ⟨rfl, _, rfl, iteYes rfl ?_⟩⟩⟩
          refine ⟨_, rfl, _, _, rfl, .inl ⟨_, w1.l hL, rfl⟩, .inl ⟨rfl, _, rfl, iteNS rfl ?_⟩⟩
          refine ⟨_, rfl, .inl ⟨q, _, 1, _, rfl, rfl, w1.l hL, atI_nat (j := 1) rfl, n, rfl, ok, fun H2 s2 => ⟨_, rfl, iteF ?_⟩⟩⟩
          have w2 := w1.same s2
          refine ⟨_, rfl, .inl ⟨q, _, 1, _, rfl, rfl, w2.l hL, atI_nat (j := 1) rfl, by show 2 ≤ sizeLine; decide, fun z hz => ?_⟩⟩
          obtain ⟨w3, e3⟩ := w2.fix hz (.tup [.str wErase, .str n])
          exact k _ _ _ w3.done (.tup (.of upd_same) (.cons (.str _) (.cons (.str _) .nil)))
        | _ => cases her
      · have her : isErase r = false := by simpa using her
        have hw := words_head her
        have hne : headW r ≠ [] := by cases r <;> simp [headW]
        obtain ⟨y, hy⟩ : ∃ y, (headW r)[0]? = some y := ⟨_, List.getElem?_eq_getElem (List.length_pos_iff.mpr hne)⟩
        have hy' : ((words r).map V.str)[0]? = some (.str y) := by
          rw [hw, List.getElem?_map, List.append_assoc, List.getElem?_append_left (List.length_pos_iff.mpr hne), hy]
          rfl
        refine ⟨_, rfl, .inl ⟨q, _, 0, _, rfl, rfl, w1.l hL, atI_nat (j := 0) hy', .inl ⟨rfl, _, rfl, iteNo (fun e => head0_erase her hy (V.str.inj e)) ?_⟩⟩⟩
        -- "/" not in words
        refine ⟨_, rfl, .inl ⟨q, _, rfl, .inl (w1.l hL), rfl, flat_strs _, _, rfl, ?_⟩⟩
        rw [if_pos rfl, inV_str]
        have hmem : stroke ∈ words r := by rw [hw]; simp
        refine iteNS hmem ?_
        -- stroke = words.index("/")
        have hj : ((words r).map V.str)[(headW r).length]? = some (.str stroke) := by
          rw [hw, List.getElem?_map, List.append_assoc, List.getElem?_append_right (Nat.le_refl _), Nat.sub_self]
          rfl
        have hd0 : ∀ (ds : List PyData) (j : Nat) (z : PyData), True := fun _ _ _ => trivial
        refine ⟨_, rfl, .inl ⟨rfl, _, w1.l hL⟩, q, .str stroke, .str stroke, (words r).map PyData.str, (headW r).length, .str stroke, rfl, rfl, .lst (w1.l hL) dpa_of_strs, .str _, ?_, ?_, ?_, ?_, ?_, ?_⟩
        · refine shaped_strs fun x hx => ?_
          rw [hw] at hx
          rcases List.mem_append.mp hx with hx | hx
          · rcases List.mem_append.mp hx with hx | hx
            · exact asc_head ok x hx
            · rw [List.mem_singleton.mp hx]; exact asc_lit "/" (by decide)
          · obtain ⟨u, hu, rfl⟩ := List.mem_map.mp hx
            have n := ok.ws.num u hu
            exact asc_app (asc_app (asc_app (asc_app (asc_num n.1.1) (asc_lit ":" (by decide))) (asc_num n.2.1.1)) (asc_lit "," (by decide))) (asc_num n.2.2.1)
        · exact shaped_of (canlay_str (asc_ok (asc_lit "/" (by decide)))) (by simp [PyData.depth])
        · rw [hw, List.getElem?_map, List.append_assoc, List.getElem?_append_right (Nat.le_refl _), Nat.sub_self]
          rfl
        · rw [PyData.eqv]; exact beq_self_eq_true _
        · intro m z' hm hz'
          obtain ⟨u, hu, rfl⟩ := item_map hz'
          rw [hw, List.append_assoc, List.getElem?_append_left hm] at hu
          rw [PyData.eqv]
          exact beq_eq_false_iff_ne.mpr (head_none_stroke ok u (List.mem_of_getElem? hu))
        · -- head = read_head(words[:stroke])
          have ec1 : cutV ((words r).map V.str) none (some (((headW r).length : Nat) : Int)) = (headW r).map V.str := by
            rw [hw, List.append_assoc, List.map_append]
            exact cutV_front (by rw [List.length_map])
          refine ⟨_, rfl, _, rfl, _, rfl, .inr (.inl ⟨q, _, rfl, w1.l hL, fun q2 hq2 => ?_⟩)⟩
          rw [ec1]
          obtain ⟨w2, e2⟩ := (w1.own hq2 (.lst ((headW r).map V.str))).freeze
          refine ⟨_, q2, r, rfl, .of upd_same, ok, her, w2.fh, fun v F3 H3 st3 D3 => ?_⟩
          have w3 := w2.step st3
          obtain ⟨q3, xs3, rfl, hq3, da3⟩ := dp_tup D3
          -- wardens = read_wardens(words[stroke + 1:])
          have ec2 : cutV ((words r).map V.str) (some (((headW r).length : Nat) : Int) |>.map (· + 1)) none = (r.ws.map wardW).map V.str := by
            rw [hw, List.map_append]
            exact cutV_back (n := (headW r).length + 1) (by simp)
          refine ⟨_, rfl, _, rfl, .inl ⟨_, _, rfl, rfl, _, rfl, .inr (.inl ⟨q, _, rfl, w3.l (same_l (e2.trans st3.ff) hL), fun q4 hq4 => ?_⟩)⟩⟩
          rw [show cutV ((words r).map V.str) (some (((headW r).length : Int) + 1)) none = (r.ws.map wardW).map V.str from ec2]
          obtain ⟨w4, e4⟩ := (w3.own hq4 (.lst ((r.ws.map wardW).map V.str))).freeze
          refine ⟨_, q4, r.ws, rfl, .of upd_same, ok.ws, w4.fh, fun v5 F5 H5 st5 D5 => ?_⟩
          have w5 := w4.step st5
          obtain ⟨q5, xs5, rfl, hq5, da5⟩ := dp_tup D5
          refine ⟨_, rfl, _, rfl, iteNo (by intro z; cases z) ?_⟩
          refine ⟨_, rfl, _, rfl, iteNo (by intro z; cases z) ?_⟩
          refine ⟨_, rfl, _, rfl, by show 1 ≤ sizeLine; decide, fun q6 hq6 => ?_⟩
          obtain ⟨w6, e6⟩ := w5.fix hq6 (.tup [.ref q5])
          have l3 : xs3.length = (headD r).length := dpa_len da3
          have l3' : (headD r).length ≤ 3 := by cases r <;> simp [headD]
          refine .inr (.inr (.inr ⟨q3, q6, xs3, [.ref q5], rfl, rfl, w6.t (same_t ((e4.trans st5.ff).trans e6) hq3), .of upd_same, small (by rw [l3]; simp; omega), fun z => ?_, fun _ z => (by cases z), fun _ _ q7 hq7 => ?_⟩))
          · rw [z] at l3
            exact absurd (List.eq_nil_of_length_eq_zero l3.symm) (headD_ne r)
          · obtain ⟨w7, e7⟩ := w6.fix hq7 (.tup (xs3 ++ [.ref q5]))
            refine k _ _ _ w7.done ?_
            show Dp K _ _ (encR r)
            rw [encR_head her]
            exact .tup (.of upd_same) (dpa_app (dpa_mono (((e4.trans st5.ff).trans e6).trans e7) da3) (.cons (dp_mono (e6.trans e7) D5) .nil))

end
end Q

set_option Elab.async false
set_option linter.all false
set_option maxRecDepth 100000
set_option maxHeartbeats 8000000
namespace Q
open PySem PySem.Spec PyProof.Rows L2 TL PW Rc
section
variable {P : Program} {w : World} {K : PySem.W.Frag} {mg : Str → Option Value} {base : Heap} {A : Ad}
/-! ### counted -/
theorem cstep_pic {s : List Rec × Nat} {i : Nat} {r : Rec} (h : r.isPic = true) : cstep s i (some r) = ([r], i + 1) := if_pos h
theorem cstep_app {s : List Rec × Nat} {i : Nat} {r : Rec} (h : ¬ r.isPic = true) (c : 0 < s.1.length ∧ s.2 = i) : cstep s i (some r) = (s.1 ++ [r], i + 1) := (if_neg h).trans (if_pos c)
theorem cstep_no {s : List Rec × Nat} {i : Nat} {r : Rec} (h : ¬ r.isPic = true) (c : ¬ (0 < s.1.length ∧ s.2 = i)) : cstep s i (some r) = s := (if_neg h).trans (if_neg c)
def LogAt (K : PySem.W.Frag) (H : Hp) (p : Addr) (ls : List Str) (os : List (Option Rec)) : Prop := SqL K H p (ls.map V.str) ∧ ls.length = os.length ∧ ∀ (i : Nat) (x : Str) (o : Option Rec), ls[i]? = some x → os[i]? = some o → Parses x o ∧ x.length ≤ 1000000
def encCount (s : List Rec × Nat) : PyData := .tuple [.list (s.1.map encR), .int (s.2 : Int)]
def spCounted (K : PySem.W.Frag) : Sp := fun vs H Q _ => ∃ (F : Hp) (p : Addr) (ls : List Str) (os : List (Option Rec)), vs = [.ref p] ∧ LogAt K H p ls os ∧ ls.length ≤ 1000 ∧ Same F H ∧ RetD K F H Q (encCount (countN os os.length))
theorem rec0_at {K : PySem.W.Frag} {H : Hp} {v : V} {r : Rec} (h : Dp K H v (encR r)) : ∃ q x xs, v = .ref q ∧ SqT K H q (.str x :: xs) ∧ (x = wPicture ↔ r.isPic = true) := by
  cases r with
  | picture a b c =>
    obtain ⟨q, xs, rfl, hs, da⟩ := dp_tup h
    cases da with | cons h1 h2 => rw [dp_str h1] at hs; exact ⟨q, _, _, rfl, hs, ⟨fun _ => rfl, fun _ => rfl⟩⟩
  | put a b c =>
    obtain ⟨q, xs, rfl, hs, da⟩ := dp_tup h
    cases da with | cons h1 h2 => rw [dp_str h1] at hs; exact ⟨q, _, _, rfl, hs, ⟨fun z => absurd z (by decide +kernel), fun z => by cases z⟩⟩
  | erase a =>
    obtain ⟨q, xs, rfl, hs, da⟩ := dp_tup h
    cases da with | cons h1 h2 => rw [dp_str h1] at hs; exact ⟨q, _, _, rfl, hs, ⟨fun z => absurd z (by decide +kernel), fun z => by cases z⟩⟩
  | deal a =>
    obtain ⟨q, xs, rfl, hs, da⟩ := dp_tup h
    cases da with | cons h1 h2 => rw [dp_str h1] at hs; exact ⟨q, _, _, rfl, hs, ⟨fun z => absurd z (by decide +kernel), fun z => by cases z⟩⟩
  | cap a b c =>
    obtain ⟨q, xs, rfl, hs, da⟩ := dp_tup h
    cases da with | cons h1 h2 => rw [dp_str h1] at hs; exact ⟨q, _, _, rfl, hs, ⟨fun z => absurd z (by decide +kernel), fun z => by cases z⟩⟩
theorem encR_ref {K : PySem.W.Frag} {H : Hp} {v : V} {r : Rec} (h : Dp K H v (encR r)) : v ≠ .non := by
  obtain ⟨q, x, xs, rfl, _⟩ := rec0_at h
  intro z; cases z
theorem ok_counted (T : Txt K mg A) : FnOk P w K mg base CX0 7 A.a_counted A.d_counted ["log"] (spCounted K) := by
  refine T.F_counted.ok sc_counted (fun vs H Q E h => ?_) (fun cdv A' outer s H vs Q E hr h => ?_)
  · obtain ⟨F, p, ls, os, rfl, _⟩ := h; rfl
  · obtain ⟨F, p, ls, os, rfl, ⟨hlog, hlen, hps⟩, hz, eF, k⟩ := h
    have hu64 := hu64_of hr
    have hu65 := hu65_of hr
    have w := Wd.start eF
    refine ⟨_, pss_cons (ps_set (i := 1) sc_counted.nd rfl (Or.inl rfl) (pe_lst (pa_nil)))
  (pss_cons (ps_set (i := 2) sc_counted.nd rfl (Or.inl rfl) (pe_int))
  (pss_cons (ps_for PassesOwn.never rfl (pi_range1 rfl T.n_range (pa_cons (pe_callB (call_lenK (K := K) rfl) (by rfl) T.n_len (by decide +kernel) (pa_cons (pv 0) pa_nil)) pa_nil)) (pg_name (i := 3) sc_counted.nd rfl (Or.inl rfl)) (pss_cons (ps_set (i := 4) sc_counted.nd rfl (Or.inl rfl) (pe_call (ok_read_record T) (hr.mono (by decide)) rfl T.g_read_record T.F_read_record.kp T.b_read_record .nil pass0 (pa_cons (pe_ix (ix_K (K := K) rfl) (pv 0) (pv 3) (fun _ _ => rfl)) pa_nil)))
    (pss_one (ps_if (PW.pt (pw_and (pt_cmp (pc_notN (pv 4))) (pw_and1 (pt_cmpR (op_eqK (K := K) rfl hu64) (pe_ix (ix_K (K := K) rfl) (pv 4) (pe_int) (fun _ _ => rfl)) (pe_str) (nomark _))))) (pss_cons (ps_set (i := 1) sc_counted.nd rfl (Or.inl rfl) (pe_lst (pa_cons (pv 4) pa_nil)))
      (pss_one (ps_set (i := 2) sc_counted.nd rfl (Or.inl rfl) (pe_op (op_addK (K := K) rfl) (pv 3) (pe_int))))) (pss_one (ps_if (PW.pt (pw_and (pt_cmp (pc_notN (pv 4))) (pw_and (pt_cmpR (op_gtK (K := K) rfl) (pe_callB (call_lenK (K := K) rfl) (by rfl) T.n_len (by decide +kernel) (pa_cons (pv 1) pa_nil)) (pe_int) (nomark _)) (pw_and1 (pt_cmpR (op_eqK (K := K) rfl hu64) (pv 2) (pv 3) (nomark _)))))) (pss_cons (ps_expr (pe_bm PySem.F.plainAttrs_list PySem.F.slot_list_append PySem.F.type_list_append mt_append (pv 1) (pa_cons (pv 4) pa_nil)))
        (pss_one (ps_set (i := 2) sc_counted.nd rfl (Or.inl rfl) (pe_op (op_addK (K := K) rfl) (pv 3) (pe_int))))) (pss_nil)))))))
  (pss_one (ps_ret (pe_tup (pa_cons (pv 1) (pa_cons (pv 2) pa_nil))))))), ?_⟩
    -- records = []; end = 0
    refine ⟨Nat.zero_le _, fun D hD => ?_⟩
    have w1 := w.own hD (.lst [])
    refine ⟨_, rfl, _, _, rfl, .inl ⟨_, w1.hh.seq hlog, rfl⟩, (ls.length : Int), ?_, ?_, ?_, ?_⟩
    · rw [List.length_map]
    · omega
    · omega
    refine for_range (lo := 0) (n := ls.length) (fun i σ H' => ∃ D acc F1 iv rv, σ = [some (.ref p), some (.ref D), some (.int ((countN os i).2 : Int)), iv, rv] ∧ Wd F H F1 H' [(D, .lst acc)] ∧ DpAll K F1 acc ((countN os i).1.map encR))
      ⟨D, [], F, none, none, rfl, w1, .nil⟩ ?_ ?_
    · rintro i σ H1 hi ⟨D, acc, F1, iv, rv, rfl, w1, da⟩
      obtain ⟨x, hx⟩ : ∃ x, ls[i]? = some x := ⟨_, List.getElem?_eq_getElem hi⟩
      obtain ⟨o, ho⟩ : ∃ o, os[i]? = some o := ⟨_, List.getElem?_eq_getElem (by omega)⟩
      obtain ⟨px, hxz⟩ := hps i x o hx ho
      have hx' : (ls.map V.str)[i]? = some (.str x) := by rw [List.getElem?_map, hx]; rfl
      have hle := countN_end os i
      -- record = read_record(log[index])
      refine ⟨_, rfl, _, rfl, .inl ⟨p, _, _, _, rfl, rfl, w1.hh.seq hlog, by rw [Int.zero_add]; exact atI_nat hx', F1, x, o, rfl, px, hxz, w1.fh, fun v F2 H2 st2 D2 => ?_⟩⟩
      have w2 := w1.step st2
      have da2 := dpa_mono st2.ff da
      have hal : acc.length = (countN os i).1.length := by rw [dpa_len da, List.length_map]
      cases o with
      | none =>
        have ev := dp_none D2
        subst ev
        refine ⟨_, rfl, _, rfl, iteNS rfl (iteF ?_)⟩
        refine ⟨_, rfl, _, rfl, iteNS rfl (iteF ?_)⟩
        refine ⟨D, acc, F2, some (.int (0 + (i : Int))), some .non, ?_, w2, ?_⟩
        · rw [countN_succ ho]; rfl
        · rw [countN_succ ho]; exact da2
      | some r =>
        have nn := encR_ref D2
        obtain ⟨q, y, ys, rfl, hq, hpic⟩ := rec0_at D2
        refine ⟨_, rfl, _, rfl, iteNY nn ?_⟩
        refine ⟨_, rfl, .inr (.inl ⟨q, _, 0, _, rfl, rfl, w2.t hq, atI_nat (j := 0) rfl, .inl ⟨rfl, _, rfl, iteD (fun e => ?_) (fun e => ?_)⟩⟩)⟩
        · -- a picture
          have hp := hpic.mp (V.str.inj e)
          refine ⟨_, rfl, by show 1 ≤ sizeLine; decide, fun D3 hD3 => ?_⟩
          have w3 := w2.drop.own hD3 (.lst [.ref q])
          refine ⟨_, rfl, .inl ⟨_, _, rfl, rfl, ?_⟩⟩
          refine ⟨D3, [.ref q], F2, some (.int (0 + (i : Int))), some (.ref q), ?_, w3, ?_⟩
          · rw [countN_succ ho, cstep_pic hp]
            show [some (V.ref p), some (V.ref D3), some (V.int (0 + (i : Int) + 1)), some (V.int (0 + (i : Int))), some (V.ref q)] = [some (V.ref p), some (V.ref D3), some (V.int (((i + 1 : Nat)) : Int)), some (V.int (0 + (i : Int))), some (V.ref q)]
            rw [show (0 : Int) + (i : Int) + 1 = ((i + 1 : Nat) : Int) by omega]
          · rw [countN_succ ho, cstep_pic hp]
            exact .cons D2 .nil
        · have hp : ¬ r.isPic = true := fun z => e (congrArg V.str (hpic.mpr z))
          refine ⟨_, rfl, _, rfl, iteNY nn ?_⟩
          refine ⟨_, rfl, _, _, rfl, .inl ⟨_, .of w2.at_, rfl⟩, .inl ⟨_, _, rfl, rfl, _, rfl, iteD (fun c1 => ?_) (fun c1 => iteF ?_)⟩⟩
          · refine ⟨_, rfl, _, rfl, .inl ⟨rfl, _, rfl, iteD (fun c2 => ?_) (fun c2 => ?_)⟩⟩
            · -- appended
              have c2' := V.int.inj c2
              have cc : 0 < (countN os i).1.length ∧ (countN os i).2 = i := ⟨by omega, by omega⟩
              refine ⟨_, rfl, .inl ⟨rfl, _, .of w2.at_⟩, _, rfl, D, acc, _, rfl, rfl, w2.at_, small' (by omega), ?_⟩
              refine ⟨_, rfl, .inl ⟨_, _, rfl, rfl, ?_⟩⟩
              refine ⟨D, acc ++ [.ref q], F2, some (.int (0 + (i : Int))), some (.ref q), ?_, w2.set _, ?_⟩
              · rw [countN_succ ho, cstep_app hp cc]
                show [some (V.ref p), some (V.ref D), some (V.int (0 + (i : Int) + 1)), some (V.int (0 + (i : Int))), some (V.ref q)] = [some (V.ref p), some (V.ref D), some (V.int (((i + 1 : Nat)) : Int)), some (V.int (0 + (i : Int))), some (V.ref q)]
                rw [show (0 : Int) + (i : Int) + 1 = ((i + 1 : Nat) : Int) by omega]
              · rw [countN_succ ho, cstep_app hp cc]
                show DpAll K F2 _ (((countN os i).1 ++ [r]).map encR)
                rw [List.map_append]
                exact dpa_snoc da2 D2
            · have cc : ¬ (0 < (countN os i).1.length ∧ (countN os i).2 = i) := fun z => c2 (by rw [z.2]; simp)
              refine ⟨D, acc, F2, some (.int (0 + (i : Int))), some (.ref q), ?_, w2, ?_⟩
              · rw [countN_succ ho, cstep_no hp cc]; rfl
              · rw [countN_succ ho, cstep_no hp cc]; exact da2
          · have cc : ¬ (0 < (countN os i).1.length ∧ (countN os i).2 = i) := fun z => c1 (by omega)
            refine ⟨D, acc, F2, some (.int (0 + (i : Int))), some (.ref q), ?_, w2, ?_⟩
            · rw [countN_succ ho, cstep_no hp cc]; rfl
            · rw [countN_succ ho, cstep_no hp cc]; exact da2
    · rintro σ H1 ⟨D, acc, F1, iv, rv, rfl, w1, da⟩
      obtain ⟨w2, e2⟩ := w1.freeze
      refine ⟨_, rfl, _, rfl, by show 2 ≤ sizeLine; decide, fun q hq => ?_⟩
      obtain ⟨w3, e3⟩ := w2.fix hq (.tup [.ref D, .int ((countN os ls.length).2 : Int)])
      rw [← hlen] at k
      exact k _ _ _ w3.done (.tup (.of upd_same) (.cons (dp_mono e3 (.lst (.of upd_same) (dpa_mono e2 da))) (.cons (.int _) .nil)))
/-! ### read_log, log_end -/
def spReadLog (K : PySem.W.Frag) : Sp := fun vs H Q _ => ∃ (F : Hp) (p : Addr) (ls : List Str) (os : List (Option Rec)), vs = [.ref p] ∧ LogAt K H p ls os ∧ ls.length ≤ 1000 ∧ Same F H ∧ RetD K F H Q (.list ((countN os os.length).1.map encR))
theorem ok_read_log (T : Txt K mg A) : FnOk P w K mg base CX0 8 A.a_read_log A.d_read_log ["log"] (spReadLog K) := by
  refine T.F_read_log.ok sc_read_log (fun vs H Q E h => ?_) (fun cdv A' outer s H vs Q E hr h => ?_)
  · obtain ⟨F, p, ls, os, rfl, _⟩ := h; rfl
  · obtain ⟨F, p, ls, os, rfl, hl, hz, eF, k⟩ := h
    refine ⟨_, pss_one (ps_ret (pe_ix (ix_K (K := K) rfl) (pe_call (ok_counted T) (hr.mono (by decide)) rfl T.g_counted T.F_counted.kp T.b_counted .nil pass0 (pa_cons (pv 0) pa_nil)) (pe_int) (fun _ _ => rfl))), ?_⟩
    refine ⟨_, rfl, F, p, ls, os, rfl, hl, hz, eF, fun v F1 H1 st D => ?_⟩
    obtain ⟨q, xs, rfl, hq, da⟩ := dp_tup D
    cases da with
    | cons d1 da =>
      refine .inr (.inl ⟨q, _, 0, _, rfl, rfl, same_t st.fh hq, atI_nat (j := 0) rfl, k _ _ _ st d1⟩)
def spLogEnd (K : PySem.W.Frag) : Sp := fun vs H Q _ => ∃ (p : Addr) (ls : List Str) (os : List (Option Rec)), vs = [.ref p] ∧ LogAt K H p ls os ∧ ls.length ≤ 1000 ∧ ∀ H', Same H H' → Q (.int ((countN os os.length).2 : Int)) H'
theorem ok_log_end (T : Txt K mg A) : FnOk P w K mg base CX0 8 A.a_log_end A.d_log_end ["log"] (spLogEnd K) := by
  refine T.F_log_end.ok sc_log_end (fun vs H Q E h => ?_) (fun cdv A' outer s H vs Q E hr h => ?_)
  · obtain ⟨p, ls, os, rfl, _⟩ := h; rfl
  · obtain ⟨p, ls, os, rfl, hl, hz, k⟩ := h
    refine ⟨_, pss_one (ps_ret (pe_ix (ix_K (K := K) rfl) (pe_call (ok_counted T) (hr.mono (by decide)) rfl T.g_counted T.F_counted.kp T.b_counted .nil pass0 (pa_cons (pv 0) pa_nil)) (pe_int) (fun _ _ => rfl))), ?_⟩
    refine ⟨_, rfl, H, p, ls, os, rfl, hl, hz, .refl H, fun v F1 H1 st D => ?_⟩
    obtain ⟨q, xs, rfl, hq, da⟩ := dp_tup D
    cases da with
    | cons d1 da =>
      cases da with
      | cons d2 da =>
        rw [dp_int d2] at hq
        exact .inr (.inl ⟨q, _, 1, _, rfl, rfl, same_t st.fh hq, atI_nat (j := 1) rfl, k _ st.hh⟩)

end
end Q

set_option Elab.async false
set_option linter.all false
set_option maxRecDepth 100000
set_option maxHeartbeats 8000000
namespace Q
open PySem PySem.Spec PyProof.Rows L2 TL PW Rc
section
variable {P : Program} {w : World} {K : PySem.W.Frag} {mg : Str → Option Value} {base : Heap} {A : Ad}
/-! ### head_words, record_text -/
theorem encR_tup {K : PySem.W.Frag} {H : Hp} {v : V} {r : Rec} (h : Dp K H v (encR r)) (ne : isErase r = false) : ∃ q xs, v = .ref q ∧ SqT K H q xs ∧ DpAll K H xs (headD r ++ [encWs r.ws]) := by
  rw [encR_head ne] at h
  exact dp_tup h
def spHeadWords (K : PySem.W.Frag) : Sp := fun vs H Q _ => ∃ (F : Hp) (v : V) (r : Rec), vs = [v] ∧ Dp K F v (encR r) ∧ RecOk r ∧ isErase r = false ∧ Same F H ∧ ∀ p F' H', Step F H F' H' → SqL K F' p ((headW r).map V.str) → H' p = some (.lst ((headW r).map V.str)) → Q (.ref p) H'
theorem ok_head_words (T : Txt K mg A) : FnOk P w K mg base CX0 3 A.a_head_words A.d_head_words ["record"] (spHeadWords K) := by
  refine T.F_head_words.ok sc_head_words (fun vs H Q E h => ?_) (fun cdv A' outer s H vs Q E hr h => ?_)
  · obtain ⟨F, v, r, rfl, _⟩ := h; rfl
  · obtain ⟨F, v, r, rfl, D0, ok, ne, eF, k⟩ := h
    have hu64 := hu64_of hr
    have hu65 := hu65_of hr
    have w := Wd.start eF
    obtain ⟨q, xs, rfl, hq, da⟩ := encR_tup D0 ne
    refine ⟨_, pss_cons (ps_if (pt_cmpR (op_eqK (K := K) rfl hu64) (pe_ix (ix_K (K := K) rfl) (pv 0) (pe_int) (fun _ _ => rfl)) (pe_str) (nomark _)) (pss_one (ps_ret (pe_op (op_addK (K := K) rfl) (pe_lst (pa_cons (pe_str) (pa_cons (pe_call (ok_list_text T) (hr.mono (by decide)) rfl T.g_list_text T.F_list_text.kp T.b_list_text .nil pass0 (pa_cons (pe_ix (ix_K (K := K) rfl) (pv 0) (pe_int) (fun _ _ => rfl)) pa_nil)) pa_nil))) (pe_lc (own := [("name", 1), ("numbers", 2)]) rfl sc_head_words.nd (pi_tupK (K := K) rfl (pe_ix (ix_K (K := K) rfl) (pv 0) (pe_int) (fun _ _ => rfl))) (blkOk_by (own := [("name", 1), ("numbers", 2)]) (N := ["record", "name", "numbers"]) (sc := defScope s_head_words) (by decide +kernel)) (fun _ _ _ _ _ => pg_tupK (K := K) (n := 2) rfl rfl (pgs_cons (pg_name (i := 1) sc_head_words.nd rfl (Or.inl rfl)) (pgs_cons (pg_name (i := 2) sc_head_words.nd rfl (Or.inl rfl)) pgs_nil))) (fun _ _ _ _ _ => pts_nil) (fun _ _ _ _ _ => pe_call (ok_named_text T) (hr.mono (by decide)) rfl T.g_named_text T.F_named_text.kp T.b_named_text .nil pass0 (pa_cons (pv 1) (pa_cons (pv 2) pa_nil))))))) (pss_nil))
  (pss_cons (ps_if (pt_cmpR (op_eqK (K := K) rfl hu64) (pe_ix (ix_K (K := K) rfl) (pv 0) (pe_int) (fun _ _ => rfl)) (pe_str) (nomark _)) (pss_one (ps_ret (pe_lst (pa_cons (pe_str) (pa_cons (pe_call (ok_named_text T) (hr.mono (by decide)) rfl T.g_named_text T.F_named_text.kp T.b_named_text .nil pass0 (pa_cons (pe_ix (ix_K (K := K) rfl) (pv 0) (pe_int) (fun _ _ => rfl)) (pa_cons (pe_ix (ix_K (K := K) rfl) (pv 0) (pe_int) (fun _ _ => rfl)) pa_nil))) pa_nil))))) (pss_nil))
  (pss_cons (ps_if (pt_cmpR (op_eqK (K := K) rfl hu64) (pe_ix (ix_K (K := K) rfl) (pv 0) (pe_int) (fun _ _ => rfl)) (pe_str) (nomark _)) (pss_one (ps_ret (pe_lst (pa_cons (pe_str) (pa_cons (pe_callTy call_str_int (by rfl) T.n_str (by decide +kernel) (pa_cons (pe_ix (ix_K (K := K) rfl) (pv 0) (pe_int) (fun _ _ => rfl)) pa_nil)) (pa_cons (pe_callTy call_str_int (by rfl) T.n_str (by decide +kernel) (pa_cons (pe_ix (ix_K (K := K) rfl) (pv 0) (pe_int) (fun _ _ => rfl)) pa_nil)) pa_nil)))))) (pss_nil))
  (pss_one (ps_ret (pe_lst (pa_cons (pe_str) pa_nil)))))), ?_⟩
    cases r with
    | erase n => cases ne
    | picture caps names ws =>
      obtain ⟨c1, c2, c3, n1, n2, n3, _⟩ := ok
      cases da with | cons d0 da => cases da with | cons d1 da => cases da with | cons d2 da =>
      have e0 := dp_str d0
      subst e0
      obtain ⟨q2, xs2, rfl, hq2, da2⟩ := dp_tup d2
      have hn : xs2.length = names.length := by rw [dpa_len da2, List.length_map]
      refine ⟨_, rfl, .inr (.inl ⟨q, _, 0, _, rfl, rfl, w.t hq, atI_nat (j := 0) rfl, .inl ⟨rfl, _, rfl, iteYes rfl ?_⟩⟩)⟩
      refine ⟨_, rfl, .inr (.inl ⟨q, _, 1, _, rfl, rfl, w.t hq, atI_nat (j := 1) rfl, _, caps, rfl, w.d d1, c2, c3, fun H1 s1 => ?_⟩)⟩
      have w1 := w.same s1
      refine ⟨by show 2 ≤ sizeLine; decide, fun D hD => ?_⟩
      have w2 := w1.own hD (.lst [.str wPicture, .str (listW caps)])
      refine ⟨_, rfl, .inr (.inl ⟨q, _, 2, _, rfl, rfl, w2.t hq, atI_nat (j := 2) rfl, q2, rfl, ⟨_, w2.t hq2⟩, fun D2 hD2 => ?_⟩)⟩
      refine lc_wdT (names.map fun p => PyData.str (nameW p)) (by rw [List.length_map, hn]) w2 hD2 hq2 (by omega) ?_ ?_
      · intro i x d F3 H3 acc Q3 hx hd e3 w3 kk
        obtain ⟨d', hd', dx⟩ := dpa_get da2 hx
        obtain ⟨u, hu, rfl⟩ := item_map hd'
        rw [List.getElem?_map, hu] at hd
        cases hd
        have hm := n1 u (List.mem_of_getElem? hu)
        obtain ⟨q3, r3, rfl, hq3, hr3⟩ := name_at dx
        refine ⟨q3, _, rfl, same_t (e3.trans w3.fh) hq3, rfl, _, _, rfl, _, _, rfl, rfl, rfl, _, rfl, _, rfl, u.1, .ref r3, u.2, rfl, dp_mono (e3.trans w3.fh) (.tup hr3 dpa_of_ints), hm.2.num, hm.2.few, hm.1.2.1, fun H4 s4 => kk _ F3 H4 (.same w3.fh s4) (.str _)⟩
      · intro vs' F3 H3 e3 w3 da3
        have ev : vs' = (names.map nameW).map V.str := dpa_strs (by rw [List.map_map]; exact da3)
        subst ev
        refine .inr (.inr (.inl ⟨D, D2, _, _, rfl, rfl, w3.swap.at_, w3.at_, small (by simp; omega), fun D4 hD4 => ?_⟩))
        obtain ⟨w4, e4⟩ := w3.drop.drop.fix hD4 (.lst ([.str wPicture, .str (listW caps)] ++ (names.map nameW).map V.str))
        exact k _ _ _ w4.done (.of upd_same) upd_same
    | put n ns ws =>
      cases da with | cons d0 da => cases da with | cons d1 da => cases da with | cons d2 da =>
      have e0 := dp_str d0
      have e1 := dp_str d1
      subst e0 e1
      refine ⟨_, rfl, .inr (.inl ⟨q, _, 0, _, rfl, rfl, w.t hq, atI_nat (j := 0) rfl, .inl ⟨rfl, _, rfl, iteNo (by decide +kernel) ?_⟩⟩)⟩
      refine ⟨_, rfl, .inr (.inl ⟨q, _, 0, _, rfl, rfl, w.t hq, atI_nat (j := 0) rfl, .inl ⟨rfl, _, rfl, iteYes rfl ?_⟩⟩)⟩
      refine ⟨_, rfl, .inr (.inl ⟨q, _, 1, _, rfl, rfl, w.t hq, atI_nat (j := 1) rfl, _, rfl, .inr (.inl ⟨q, _, 2, _, rfl, rfl, w.t hq, atI_nat (j := 2) rfl, n, _, ns, rfl, w.d d2, ok.2.1.num, ok.2.1.few, ok.1.2.1, fun H1 s1 => ?_⟩)⟩)⟩
      have w1 := w.same s1
      refine ⟨by show 2 ≤ sizeLine; decide, fun D hD => ?_⟩
      obtain ⟨w2, e2⟩ := w1.fix hD (.lst [.str wPut, .str (nameW (n, ns))])
      exact k _ _ _ w2.done (.of upd_same) upd_same
    | cap a b ws =>
      cases da with | cons d0 da => cases da with | cons d1 da => cases da with | cons d2 da =>
      have e0 := dp_str d0
      have e1 := dp_int d1
      have e2 := dp_int d2
      subst e0 e1 e2
      refine ⟨_, rfl, .inr (.inl ⟨q, _, 0, _, rfl, rfl, w.t hq, atI_nat (j := 0) rfl, .inl ⟨rfl, _, rfl, iteNo (by decide +kernel) ?_⟩⟩)⟩
      refine ⟨_, rfl, .inr (.inl ⟨q, _, 0, _, rfl, rfl, w.t hq, atI_nat (j := 0) rfl, .inl ⟨rfl, _, rfl, iteNo (by decide +kernel) ?_⟩⟩)⟩
      refine ⟨_, rfl, .inr (.inl ⟨q, _, 0, _, rfl, rfl, w.t hq, atI_nat (j := 0) rfl, .inl ⟨rfl, _, rfl, iteYes rfl ?_⟩⟩)⟩
      refine ⟨_, rfl, .inr (.inl ⟨q, _, 1, _, rfl, rfl, w.t hq, atI_nat (j := 1) rfl, a, rfl, numS_log ok.1, ?_⟩)⟩
      refine ⟨_, rfl, .inr (.inl ⟨q, _, 2, _, rfl, rfl, w.t hq, atI_nat (j := 2) rfl, b, rfl, numS_log ok.2.1, ?_⟩)⟩
      refine ⟨by show 3 ≤ sizeLine; decide, fun D hD => ?_⟩
      obtain ⟨w2, e2⟩ := w.fix hD (.lst [.str wCap, .str (numS a), .str (numS b)])
      exact k _ _ _ w2.done (.of upd_same) upd_same
    | deal ws =>
      cases da with | cons d0 da =>
      have e0 := dp_str d0
      subst e0
      refine ⟨_, rfl, .inr (.inl ⟨q, _, 0, _, rfl, rfl, w.t hq, atI_nat (j := 0) rfl, .inl ⟨rfl, _, rfl, iteNo (by decide +kernel) ?_⟩⟩)⟩
      refine ⟨_, rfl, .inr (.inl ⟨q, _, 0, _, rfl, rfl, w.t hq, atI_nat (j := 0) rfl, .inl ⟨rfl, _, rfl, iteNo (by decide +kernel) ?_⟩⟩)⟩
      refine ⟨_, rfl, .inr (.inl ⟨q, _, 0, _, rfl, rfl, w.t hq, atI_nat (j := 0) rfl, .inl ⟨rfl, _, rfl, iteNo (by decide +kernel) ?_⟩⟩)⟩
      refine ⟨by show 1 ≤ sizeLine; decide, fun D hD => ?_⟩
      obtain ⟨w2, e2⟩ := w.fix hD (.lst [.str wDeal])
      exact k _ _ _ w2.done (.of upd_same) upd_same
def spRecText (K : PySem.W.Frag) : Sp := fun vs H Q _ => ∃ (v : V) (r : Rec), vs = [v] ∧ Dp K H v (encR r) ∧ RecOk r ∧ ∀ H', Same H H' → Q (.str (recText r)) H'
theorem erase_at {K : PySem.W.Frag} {H : Hp} {v : V} {n : Str} (h : Dp K H v (encR (.erase n))) : ∃ q, v = .ref q ∧ SqT K H q [.str wErase, .str n] := by
  obtain ⟨q, xs, rfl, hs, da⟩ := dp_tup h
  cases da with | cons d0 da => cases da with | cons d1 da =>
  cases da
  rw [dp_str d0, dp_str d1] at hs
  exact ⟨q, rfl, hs⟩
theorem rec_head {K : PySem.W.Frag} {H : Hp} {xs : List V} {r : Rec} (da : DpAll K H xs (headD r ++ [encWs r.ws])) (ne : isErase r = false) : ∃ x ys v, xs = .str x :: ys ∧ x ≠ wErase ∧ atI xs (-1) = some v ∧ Dp K H v (encWs r.ws) := by
  have hl := dpa_len da
  obtain ⟨v, hv, dv⟩ := dpa_at (i := (headD r).length) da (by rw [List.getElem?_append_right (Nat.le_refl _), Nat.sub_self]; rfl)
  have hx : xs = xs.take (headD r).length ++ [v] := by
    have := take_more hv
    rw [← this, List.take_of_length_le (by rw [hl]; simp)]
  have hat : atI xs (-1) = some v := by rw [hx]; exact atI_last _ _
  cases r with
  | erase n => cases ne
  | picture a b c => cases da with | cons d0 da => exact ⟨_, _, v, by rw [dp_str d0], by decide +kernel, hat, dv⟩
  | put a b c => cases da with | cons d0 da => exact ⟨_, _, v, by rw [dp_str d0], by decide +kernel, hat, dv⟩
  | deal a => cases da with | cons d0 da => exact ⟨_, _, v, by rw [dp_str d0], by decide +kernel, hat, dv⟩
  | cap a b c => cases da with | cons d0 da => exact ⟨_, _, v, by rw [dp_str d0], by decide +kernel, hat, dv⟩
theorem join_len {y : Str} {ps : List Str} {k n : Nat} (h1 : ∀ p ∈ ps, p.length ≤ k) (h2 : ps.length ≤ n) (h3 : y.length ≤ 1) (hk : n * (k + 1) ≤ 16777216) : (ps.map (·.length)).sum + ps.length * y.length ≤ 16777216 := by
  have h := sum_le (f := fun p : Str => p.length) h1
  have h4 : ps.length * y.length ≤ ps.length * 1 := Nat.mul_le_mul_left _ h3
  have h5 : ps.length * (k + 1) ≤ n * (k + 1) := Nat.mul_le_mul_right _ h2
  rw [Nat.mul_add] at h5
  omega
theorem ok_record_text (T : Txt K mg A) : FnOk P w K mg base CX0 4 A.a_record_text A.d_record_text ["record"] (spRecText K) := by
  refine T.F_record_text.ok sc_record_text (fun vs H Q E h => ?_) (fun cdv A' outer s H vs Q E hr h => ?_)
  · obtain ⟨v, r, rfl, _⟩ := h; rfl
  · obtain ⟨v, r, rfl, D0, ok, k⟩ := h
    have hu64 := hu64_of hr
    have hu65 := hu65_of hr
    have w := Wd.start (Same.refl H)
    have a1 : (Str.ofString "erase ").length = 6 := by decide +kernel
    have a2 : (Str.ofString ";").length = 1 := by decide +kernel
    have a3 : (Str.ofString " /").length = 2 := by decide +kernel
    refine ⟨_, pss_cons (ps_if (pt_cmpR (op_eqK (K := K) rfl hu64) (pe_ix (ix_K (K := K) rfl) (pv 0) (pe_int) (fun _ _ => rfl)) (pe_str) (nomark _)) (pss_one (ps_ret (pe_op (op_addK (K := K) rfl) (pe_op (op_addK (K := K) rfl) (pe_str) (pe_ix (ix_K (K := K) rfl) (pv 0) (pe_int) (fun _ _ => rfl))) (pe_str)))) (pss_nil))
  (pss_one (ps_ret (pe_op (op_addK (K := K) rfl) (pe_op (op_addK (K := K) rfl) (pe_op (op_addK (K := K) rfl) (pe_join (pe_str) (pe_call (ok_head_words T) (hr.mono (by decide)) rfl T.g_head_words T.F_head_words.kp T.b_head_words .nil pass0 (pa_cons (pv 0) pa_nil))) (pe_str)) (pe_call (ok_warden_text T) (hr.mono (by decide)) rfl T.g_warden_text T.F_warden_text.kp T.b_warden_text .nil pass0 (pa_cons (pe_ix (ix_K (K := K) rfl) (pv 0) (pe_un un_neg (pe_int)) (fun _ _ => rfl)) pa_nil))) (pe_str)))), ?_⟩
    by_cases her : isErase r = true
    · cases r with
      | erase n =>
        obtain ⟨q, rfl, hq⟩ := erase_at D0
        have hn : n.length ≤ 12 := by rw [len_tl]; exact ok.2.1
        refine ⟨_, rfl, .inr (.inl ⟨q, _, 0, _, rfl, rfl, hq, atI_nat (j := 0) rfl, .inl ⟨rfl, _, rfl, iteYes rfl ?_⟩⟩)⟩
        refine ⟨_, rfl, .inr (.inl ⟨q, _, 1, _, rfl, rfl, hq, atI_nat (j := 1) rfl, .inr (.inl ⟨_, _, rfl, rfl, small (by rw [a1]; omega), .inr (.inl ⟨_, _, rfl, rfl, small (by rw [slen_app, a1, a2]; omega), ?_⟩)⟩)⟩)⟩
        rw [show Str.ofString "erase " ++ n ++ Str.ofString ";" = recText (.erase n) from erase_eq n]
        exact k H (.refl H)
      | _ => cases her
    · have her : isErase r = false := by simpa using her
      obtain ⟨q, xs, rfl, hq, da⟩ := encR_tup D0 her
      obtain ⟨x, ys, v, rfl, hx, hat, dv⟩ := rec_head da her
      refine ⟨_, rfl, .inr (.inl ⟨q, _, 0, _, rfl, rfl, hq, atI_nat (j := 0) rfl, .inl ⟨rfl, _, rfl, iteNo (fun e => hx (V.str.inj e)) ?_⟩⟩)⟩
      refine ⟨⟨_, rfl⟩, _, rfl, H, _, r, rfl, D0, ok, her, .refl H, fun p F1 H1 st1 hp1 _ => ?_⟩
      have w1 := w.step st1
      have hl1 : (Txt.join space (headW r)).length ≤ 110000 := by
        rw [len_tl, tl_joinT]
        have hs : (tl space).length = 1 := by rw [ofS_tl]; rfl
        have := joinL_len (S := tl space) (k := 1013) (ps := (headW r).map tl) fun z hz => by
          obtain ⟨y, hy, rfl⟩ := List.mem_map.mp hz
          exact head_len ok y hy
        have h2 := headW_few ok
        rw [List.length_map, hs] at this
        omega
      refine ⟨_, p, headW r, rfl, rfl, .inl (w1.l hp1), join_len (k := 1013) (n := 102) (fun z hz => by rw [len_tl]; exact head_len ok z hz) (headW_few ok) (by decide +kernel) (by decide), .inr (.inl ⟨_, _, rfl, rfl, small (by rw [a3]; show (Txt.join space (headW r)).length + 2 ≤ _; omega), ?_⟩)⟩
      refine ⟨_, rfl, _, rfl, .inr (.inl ⟨q, _, -1, v, rfl, rfl, w1.t (same_t st1.ff hq), hat, _, r.ws, rfl, w1.d (dp_mono st1.ff dv), ok.ws, fun H2 s2 => ?_⟩)⟩
      have hl2 : (wardsT r.ws).length ≤ 4000 := by
        unfold wardsT
        rw [len_tl, tl_joinT]
        have := joinL_len (S := tl Str.empty) (k := 30) (ps := (r.ws.map fun w => space ++ wardW w).map tl) fun z hz => by
          simp only [List.map_map, List.mem_map] at hz
          obtain ⟨u, hu, rfl⟩ := hz
          have := ward_len (ok.ws.num u hu)
          show (tl (space ++ wardW u)).length ≤ 30
          rw [tl_append, List.length_append]
          have : (tl space).length = 1 := by rw [ofS_tl]; rfl
          omega
        have h2 := ok.ws.few
        have h0 : (tl Str.empty).length = 0 := rfl
        rw [List.length_map, List.length_map, h0] at this
        omega
      refine .inr (.inl ⟨_, _, rfl, rfl, small (by rw [slen_app, a3]; show (Txt.join space (headW r)).length + 2 + _ ≤ _; omega), .inr (.inl ⟨_, _, rfl, rfl, small (by rw [slen_app, slen_app, a3, a2]; show (Txt.join space (headW r)).length + 2 + _ + 1 ≤ _; omega), ?_⟩)⟩)
      rw [show Txt.join (Str.ofString " ") (headW r) ++ Str.ofString " /" ++ wardsT r.ws ++ Str.ofString ";" = recText r from text_eq (fun n e => by rw [e] at her; cases her)]
      exact k H2 (w1.same s2).hh

end
end Q

set_option Elab.async false
set_option linter.all false
set_option maxRecDepth 100000
set_option maxHeartbeats 8000000
namespace Q
open PySem PySem.Spec PyProof.Rows L2 TL PW Rc
section
variable {P : Program} {w : World} {K : PySem.W.Frag} {mg : Str → Option Value} {base : Heap} {A : Ad}
/-! ### the law's helpers -/
def cellOf (ns : List Int) (k : Int) : Int := ns.getD k.toNat 0
def spCell (K : PySem.W.Frag) : Sp := fun vs H Q _ => ∃ (a : Addr) (ns : List Int) (k : Int), vs = [.ref a, .int k] ∧ SqL K H a (ns.map V.int) ∧ 0 ≤ k ∧ ∀ H', Same H H' → Q (.int (cellOf ns k)) H'
theorem ok_L_cell (T : Txt K mg A) : FnOk P w K mg base CX0 1 A.a_L_cell A.d_L_cell ["_law_script", "_law_k"] (spCell K) := by
  refine T.F_L_cell.ok sc_L_cell (fun vs H Q E h => ?_) (fun cdv A' outer s H vs Q E hr h => ?_)
  · obtain ⟨a, ns, k, rfl, _⟩ := h; rfl
  · obtain ⟨a, ns, j, rfl, hs, hj, k⟩ := h
    refine ⟨_, pss_cons (ps_if (pt_cmpR (op_ltK (K := K) rfl) (pv 1) (pe_callB (call_lenK (K := K) rfl) (by rfl) T.n_len (by decide +kernel) (pa_cons (pv 0) pa_nil)) (nomark _)) (pss_one (ps_ret (pe_ix (ix_K (K := K) rfl) (pv 0) (pv 1) (fun _ _ => rfl)))) (pss_nil))
  (pss_one (ps_ret (pe_int))), ?_⟩
    refine ⟨_, rfl, _, rfl, _, _, rfl, .inl ⟨_, hs, rfl⟩, .inl ⟨_, _, rfl, rfl, _, rfl, iteD (fun c => ?_) (fun c => ?_)⟩⟩
    · rw [List.length_map] at c
      have hi : j.toNat < ns.length := by omega
      have e : (ns.map V.int)[j.toNat]? = some (.int (cellOf ns j)) := by
        unfold cellOf
        rw [List.getElem?_map, List.getElem?_eq_getElem hi, List.getD_eq_getElem?_getD, List.getElem?_eq_getElem hi]
        rfl
      refine ⟨_, rfl, _, rfl, .inl ⟨a, _, j, _, rfl, rfl, hs, ?_, k H (.refl H)⟩⟩
      have := atI_nat e
      rwa [Int.toNat_of_nonneg hj] at this
    · rw [List.length_map] at c
      have e : cellOf ns j = 0 := by
        unfold cellOf
        rw [List.getD_eq_getElem?_getD, List.getElem?_eq_none (by omega)]
        rfl
      rw [e] at k
      exact k H (.refl H)

/-- drawn numbers: as many as the sizes, each below its size -/
def Drawn (szs ds : List Int) : Prop := ds.length = szs.length ∧ ∀ (i : Nat) (d s : Int), ds[i]? = some d → szs[i]? = some s → 0 ≤ d ∧ d < s
def spDraws (K : PySem.W.Frag) : Sp := fun vs H Q _ => ∃ (F : Hp) (c : Int) (p : Addr) (szs : List Int), vs = [.int c, .ref p] ∧ SqL K H p (szs.map V.int) ∧ (∀ s ∈ szs, 0 < s ∧ s < 1073741824) ∧ szs.length ≤ 1000 ∧ Same F H ∧
  ∀ q F' H' (ds : List Int), Step F H F' H' → Drawn szs ds → SqL K F' q (ds.map V.int) → Q (.ref q) H'
theorem ok_L_draws (T : Txt K mg A) : FnOk P w K mg base CX0 1 A.a_L_draws A.d_L_draws ["_law_cell_here", "_law_sizes_here"] (spDraws K) := by
  refine T.F_L_draws.ok sc_L_draws (fun vs H Q E h => ?_) (fun cdv A' outer s H vs Q E hr h => ?_)
  · obtain ⟨F, c, p, szs, rfl, _⟩ := h; rfl
  · obtain ⟨F, c, p, szs, rfl, hs, hz, hl, eF, k⟩ := h
    have w := Wd.start eF
    refine ⟨_, pss_cons (ps_set (i := 2) sc_L_draws.nd rfl (Or.inl rfl) (pe_callB call_abs (by rfl) T.n_abs (by decide +kernel) (pa_cons (pe_callTy call_intU (by rfl) T.n_int (by decide +kernel) (pa_cons (pv 0) pa_nil)) pa_nil)))
  (pss_cons (ps_set (i := 3) sc_L_draws.nd rfl (Or.inl rfl) (pe_cmpR (op_geK (K := K) rfl) (pv 2) (pe_op op_pow (pe_int) (pe_int)) (nomark _)))
  (pss_cons (ps_set (i := 4) sc_L_draws.nd rfl (Or.inl rfl) (pe_lst (pa_nil)))
  (pss_cons (ps_for PassesOwn.never rfl (pi_range1 rfl T.n_range (pa_cons (pe_callB (call_lenK (K := K) rfl) (by rfl) T.n_len (by decide +kernel) (pa_cons (pv 1) pa_nil)) pa_nil)) (pg_name (i := 5) sc_L_draws.nd rfl (Or.inl rfl)) (pss_cons (ps_set (i := 6) sc_L_draws.nd rfl (Or.inl rfl) (pe_ix (ix_K (K := K) rfl) (pv 1) (pv 5) (fun _ _ => rfl)))
    (pss_one (ps_if (PW.pt (pw_and (pt_truth (pv 3) (by intro _; rfl)) (pw_and1 (pt_cmpR (op_gtK (K := K) rfl) (pv 2) (pe_int) (nomark _))))) (pss_cons (ps_expr (pe_bm PySem.F.plainAttrs_list PySem.F.slot_list_append PySem.F.type_list_append mt_append (pv 4) (pa_cons (pe_op op_mod (pe_callTy call_intU (by rfl) T.n_int (by decide +kernel) (pa_cons (pv 2) pa_nil)) (pv 6)) pa_nil)))
      (pss_one (ps_set (i := 2) sc_L_draws.nd rfl (Or.inl rfl) (pe_op op_fdiv (pv 2) (pv 6))))) (pss_cons (ps_set (i := 7) sc_L_draws.nd rfl (Or.inl rfl) (pe_op op_mod (pe_callTy call_intU (by rfl) T.n_int (by decide +kernel) (pa_cons (pe_op (op_addK (K := K) rfl) (pe_op (op_addK (K := K) rfl) (pe_callB call_abs (by rfl) T.n_abs (by decide +kernel) (pa_cons (pe_callTy call_intU (by rfl) T.n_int (by decide +kernel) (pa_cons (pv 0) pa_nil)) pa_nil)) (pe_op op_mulU (pe_int) (pv 5))) (pe_int)) pa_nil)) (pe_int)))
      (pss_cons (ps_set (i := 7) sc_L_draws.nd rfl (Or.inl rfl) (pe_op op_mod (pe_callTy call_intU (by rfl) T.n_int (by decide +kernel) (pa_cons (pe_op op_mulU (pv 7) (pe_op (op_addK (K := K) rfl) (pv 7) (pe_int))) pa_nil)) (pe_int)))
      (pss_cons (ps_set (i := 7) sc_L_draws.nd rfl (Or.inl rfl) (pe_op op_mod (pe_callTy call_intU (by rfl) T.n_int (by decide +kernel) (pa_cons (pe_op (op_addK (K := K) rfl) (pe_op op_mulU (pv 7) (pe_op (op_addK (K := K) rfl) (pv 7) (pe_int))) (pe_op op_mulU (pe_int) (pv 5))) pa_nil)) (pe_int)))
      (pss_one (ps_expr (pe_bm PySem.F.plainAttrs_list PySem.F.slot_list_append PySem.F.type_list_append mt_append (pv 4) (pa_cons (pe_op op_mod (pe_callTy call_intU (by rfl) T.n_int (by decide +kernel) (pa_cons (pe_op op_fdiv (pv 7) (pe_int)) pa_nil)) (pv 6)) pa_nil)))))))))))
  (pss_one (ps_ret (pv 4)))))), ?_⟩
    refine ⟨_, rfl, .inl ⟨_, rfl, _, rfl, ?_⟩⟩
    refine ⟨_, rfl, _, _, rfl, rfl, ⟨by decide, by decide, by decide⟩, .inl ⟨_, _, rfl, rfl, ?_⟩⟩
    refine ⟨Nat.zero_le _, fun D hD => ?_⟩
    have w1 := w.own hD (.lst [])
    refine ⟨_, rfl, _, _, rfl, .inl ⟨_, w1.hh.seq hs, rfl⟩, (szs.length : Int), by rw [List.length_map], by omega, by omega, ?_⟩
    refine for_range (lo := 0) (n := szs.length) (fun i σ H' => ∃ (left : Int) (dg : Bool) (ds : List Int) (v5 v6 v7 : Option V), σ = [some (.int c), some (.ref p), some (.int left), some (.bl dg), some (.ref D), v5, v6, v7] ∧ Wd F H F H' [(D, .lst (ds.map V.int))] ∧ ds.length = i ∧
      ∀ (j : Nat) (d s : Int), ds[j]? = some d → szs[j]? = some s → 0 ≤ d ∧ d < s) ⟨_, _, [], none, none, none, rfl, w1, rfl, fun j d s h => by simp at h⟩ ?_ ?_
    · rintro i σ H1 hi ⟨left, dg, ds, v5, v6, v7, rfl, w1, hdl, hb⟩
      obtain ⟨z, hzz⟩ : ∃ z, szs[i]? = some z := ⟨_, List.getElem?_eq_getElem hi⟩
      have hz' : (szs.map V.int)[i]? = some (.int z) := by rw [List.getElem?_map, hzz]; rfl
      obtain ⟨z0, z1⟩ := hz z (List.mem_of_getElem? hzz)
      have grow : ∀ x : Int, ∀ (j : Nat) (d s : Int), (ds ++ [x % z])[j]? = some d → szs[j]? = some s → 0 ≤ d ∧ d < s := fun x j d s hd hs' => by
        by_cases hj : j < ds.length
        · rw [List.getElem?_append_left hj] at hd
          exact hb j d s hd hs'
        · have hji : j = i := by
            have := (List.getElem?_eq_some_iff.mp hd).1
            rw [List.length_append] at this
            simp at this
            omega
          subst hji
          rw [List.getElem?_append_right (by omega), hdl, Nat.sub_self] at hd
          rw [hzz] at hs'
          cases hd
          cases hs'
          exact ⟨Int.emod_nonneg _ (by omega), Int.emod_lt_of_pos _ z0⟩
      have wset : ∀ x : Int, Wd F H F (upd H1 D (.lst (ds.map V.int ++ [.int (x % z)]))) [(D, .lst ((ds ++ [x % z]).map V.int))] := fun x => by
        rw [List.map_append]
        exact w1.set _
      have happ : (ds.map V.int).length < sizeLine := small' (by rw [List.length_map]; omega)
      have hmod : ∀ x m : Int, 0 < m → 0 ≤ x % m ∧ x % m < m := fun x m hm => ⟨Int.emod_nonneg _ (by omega), Int.emod_lt_of_pos _ hm⟩
      -- size = sizes[k]
      refine ⟨_, rfl, _, rfl, .inl ⟨p, _, _, _, rfl, rfl, w1.hh.seq hs, by rw [Int.zero_add]; exact atI_nat hz', ?_⟩⟩
      unfold gName
      dsimp only
      unfold tIfS
      refine andB dg (decide (0 < left)) (fun R r => ⟨_, rfl, dg, rfl, r⟩) (fun _ R r => ⟨_, rfl, .inl ⟨_, _, rfl, rfl, _, rfl, r⟩⟩) ?_
      refine iteB (fun c1 => ?_) (fun c1 => ?_)
      · -- by the digits
        refine ⟨_, rfl, .inl ⟨rfl, _, .of w1.at_⟩, _, rfl, .inl ⟨_, rfl, _, rfl, _, _, rfl, rfl, z0, D, _, _, rfl, rfl, w1.at_, happ, ?_⟩⟩
        exact ⟨_, rfl, _, rfl, _, _, rfl, rfl, ⟨z0, z1⟩, _, dg, ds ++ [left % z], _, _, _, rfl, wset left, by rw [List.length_append, hdl]; rfl, grow left⟩
      · have cm : ∀ x m y : Int, 0 < m → m ≤ 2147483647 → CMul (x % m) y := fun x m y h1 h2 => by
          have := hmod x m h1
          exact .inl ⟨by omega, by omega⟩
        refine ⟨_, rfl, .inl ⟨_, rfl, _, rfl, _, rfl, .inl ⟨_, _, rfl, rfl, .inl ⟨by decide, by decide⟩, .inl ⟨_, _, rfl, rfl, .inl ⟨_, _, rfl, rfl, .inl ⟨_, rfl, _, _, rfl, rfl, (by show (0 : Int) < 2147483647; decide), ?_⟩⟩⟩⟩⟩⟩
        refine ⟨_, rfl, _, rfl, .inl ⟨_, _, rfl, rfl, .inl ⟨_, _, rfl, rfl, cm _ _ _ (by decide) (by decide), .inl ⟨_, rfl, _, _, rfl, rfl, (by show (0 : Int) < 2147483629; decide), ?_⟩⟩⟩⟩
        refine ⟨_, rfl, _, rfl, .inl ⟨_, _, rfl, rfl, .inl ⟨_, _, rfl, rfl, cm _ _ _ (by decide) (by decide), _, rfl, .inl ⟨_, _, rfl, rfl, .inl ⟨by decide, by decide⟩, .inl ⟨_, _, rfl, rfl, .inl ⟨_, rfl, _, _, rfl, rfl, (by show (0 : Int) < 2147483647; decide), ?_⟩⟩⟩⟩⟩⟩
        refine ⟨_, rfl, .inl ⟨rfl, _, .of w1.at_⟩, _, rfl, _, _, rfl, rfl, ⟨by decide, by decide⟩, .inl ⟨_, rfl, _, rfl, _, _, rfl, rfl, z0, D, _, _, rfl, rfl, w1.at_, happ, ?_⟩⟩
        exact ⟨_, dg, _, _, _, _, rfl, wset _, by rw [List.length_append, hdl]; rfl, grow _⟩
    · rintro σ H1 ⟨left, dg, ds, v5, v6, v7, rfl, w1, hdl, hb⟩
      obtain ⟨w2, e2⟩ := w1.freeze
      exact ⟨_, rfl, k D _ _ ds w2.done ⟨hdl, hb⟩ (.of upd_same)⟩

/-! ### is_integer, alike -/
theorem tyx_tup {K : PySem.W.Frag} {H : Hp} {a : Addr} {xs : List V} (h : SqT K H a xs) : TyX K H (.ref a) (.type "tuple") := by
  rcases h with (h | ⟨o, h⟩) | ⟨o, its, n, h, hc, _⟩
  · exact .base (.tup h)
  · exact .fTuple h
  · exact .kTuple h hc
def spIsInt : Sp := fun vs H Q _ => ∃ i : Int, vs = [.int i] ∧ ∀ H', Same H H' → Q (.bl true) H'
theorem ok_L_is_integer (T : Txt K mg A) : FnOk P w K mg base CX0 1 A.a_L_is_integer A.d_L_is_integer ["_law_actual"] spIsInt := by
  refine T.F_L_is_integer.ok sc_L_is_integer (fun vs H Q E h => ?_) (fun cdv A' outer s H vs Q E hr h => ?_)
  · obtain ⟨i, rfl, _⟩ := h; rfl
  · obtain ⟨i, rfl, k⟩ := h
    refine ⟨_, pss_one (ps_ret (pe_and (pe_callB (call_isiK1 (K := K) rfl) (by rfl) T.n_isinstance (by decide +kernel) (pa_cons (pv 0) (pa_cons (pe_bltn (v := .ty "int") (by rfl) T.n_int (by decide +kernel) rfl) pa_nil))) (pe_one (pe_not (pe_callB (call_isiK1 (K := K) rfl) (by rfl) T.n_isinstance (by decide +kernel) (pa_cons (pv 0) (pa_cons (pe_bltn (v := .ty "bool") (by rfl) T.n_bool (by decide +kernel) rfl) pa_nil))))))), ?_⟩
    refine ⟨_, rfl, .int i, .ty "int", _, _, true, rfl, .ty "int", .base (.int i), kit_ty (by decide +kernel), true, rfl, iteT ?_⟩
    exact ⟨_, rfl, .int i, .ty "bool", _, _, false, rfl, .ty "bool", .base (.int i), kit_ty (by decide +kernel), false, rfl, k H (.refl H)⟩
/-- data of ints, texts and tuples, at most so deep -/
inductive AL : Nat → PyData → Prop
  | int {n : Nat} (i : Int) : AL n (.int i)
  | str {n : Nat} (x : Str) : AL n (.str x)
  | tup {n : Nat} {ds : List PyData} : (∀ d ∈ ds, AL n d) → ds.length ≤ 1000000 → AL (n + 1) (.tuple ds)
def spAlike (K : PySem.W.Frag) (n : Nat) : Sp := fun vs H Q _ => ∃ (v1 v2 : V) (d : PyData), vs = [v1, v2] ∧ Dp K H v1 d ∧ Dp K H v2 d ∧ AL n d ∧ ∀ H', Same H H' → Q (.bl true) H'
theorem ok_L_alikeN (T : Txt K mg A) : ∀ n : Nat, FnOk P w K mg base CX0 (2 + n) A.a_L_alike A.d_L_alike ["_law_actual", "_law_due"] (spAlike K n) := by
  have base : ∀ (n : Nat) (G : ∀ m, n = m + 1 → FnOk P w K mg base CX0 (2 + m) A.a_L_alike A.d_L_alike ["_law_actual", "_law_due"] (spAlike K m)), FnOk P w K mg base CX0 (1 + n + 1) A.a_L_alike A.d_L_alike ["_law_actual", "_law_due"] (spAlike K n) := by
    intro n G
    refine T.F_L_alike.ok sc_L_alike (fun vs H Q E h => ?_) (fun cdv A' outer s H vs Q E hr h => ?_)
    · obtain ⟨v1, v2, d, rfl, _⟩ := h; rfl
    · obtain ⟨v1, v2, d, rfl, D1, D2, al, k⟩ := h
      have hu64 := hu64_of hr
      have hu65 := hu65_of hr
      have hr1 : Room 1 _ := hr.mono (by omega)
      cases al with
      | int i =>
        have e1 := dp_int D1
        have e2 := dp_int D2
        subst e1 e2
        refine ⟨_, pss_cons (ps_if (pt_val (pe_callB (call_isiK1 (K := K) rfl) (by rfl) T.n_isinstance (by decide +kernel) (pa_cons (pv 1) (pa_cons (pe_bltn (v := .ty "str") (by rfl) T.n_str (by decide +kernel) rfl) pa_nil)))) pss_never pss_nil)
          (pss_cons (ps_if (pt_not (pt_val (pe_callB (call_isiK1 (K := K) rfl) (by rfl) T.n_isinstance (by decide +kernel) (pa_cons (pv 1) (pa_cons (pe_bltn (v := .ty "tuple") (by rfl) T.n_tuple (by decide +kernel) rfl) pa_nil))))) (pss_one (ps_ret (pe_and (pe_call (ok_L_is_integer T) hr1 rfl T.g_L_is_integer T.F_L_is_integer.kp T.b_L_is_integer .nil pass0 (pa_cons (pv 0) pa_nil)) (pe_one (pe_cmpR (op_eqK (K := K) rfl hu64) (pv 0) (pv 1) (nomark _)))))) (pss_nil)) pss_never), ?_⟩
        refine ⟨_, rfl, .int i, .ty "str", _, _, false, rfl, .ty "str", .base (.int i), kit_ty (by decide +kernel), false, rfl, iteF ?_⟩
        refine ⟨_, rfl, .int i, .ty "tuple", _, _, false, rfl, .ty "tuple", .base (.int i), kit_ty (by decide +kernel), false, rfl, iteT ?_⟩
        refine ⟨_, rfl, i, rfl, fun H1 s1 => ⟨true, rfl, iteT ⟨_, rfl, _, rfl, .inl ⟨rfl, ?_⟩⟩⟩⟩
        have e : decide (V.int i = V.int i) = true := decide_eq_true rfl
        show Q (.bl (decide (V.int i = V.int i))) H1
        rw [e]
        exact k H1 s1
      | str x =>
        have e1 := dp_str D1
        have e2 := dp_str D2
        subst e1 e2
        refine ⟨_, pss_cons (ps_if (pt_val (pe_callB (call_isiK1 (K := K) rfl) (by rfl) T.n_isinstance (by decide +kernel) (pa_cons (pv 1) (pa_cons (pe_bltn (v := .ty "str") (by rfl) T.n_str (by decide +kernel) rfl) pa_nil)))) (pss_one (ps_ret (pe_and (pe_callB (call_isiK1 (K := K) rfl) (by rfl) T.n_isinstance (by decide +kernel) (pa_cons (pv 0) (pa_cons (pe_bltn (v := .ty "str") (by rfl) T.n_str (by decide +kernel) rfl) pa_nil))) (pe_one (pe_cmpR (op_eqK (K := K) rfl hu64) (pv 0) (pv 1) (nomark _)))))) pss_nil) pss_never, ?_⟩
        refine ⟨_, rfl, .str x, .ty "str", _, _, true, rfl, .ty "str", .base (.str x), kit_ty (by decide +kernel), true, rfl, iteT ?_⟩
        refine ⟨_, rfl, .str x, .ty "str", _, _, true, rfl, .ty "str", .base (.str x), kit_ty (by decide +kernel), true, rfl, iteT ⟨_, rfl, _, rfl, .inl ⟨rfl, ?_⟩⟩⟩
        have e : decide (V.str x = V.str x) = true := decide_eq_true rfl
        show Q (.bl (decide (V.str x = V.str x))) H
        rw [e]
        exact k H (.refl H)
      | @tup m ds hd hl =>
        have G' := G m rfl
        have hrm : Room (2 + m) _ := hr.mono (by omega)
        obtain ⟨p1, xs1, rfl, hp1, da1⟩ := dp_tup D1
        obtain ⟨p2, xs2, rfl, hp2, da2⟩ := dp_tup D2
        have l1 := dpa_len da1
        have l2 := dpa_len da2
        refine ⟨_, pss_cons (ps_if (pt_val (pe_callB (call_isiK1 (K := K) rfl) (by rfl) T.n_isinstance (by decide +kernel) (pa_cons (pv 1) (pa_cons (pe_bltn (v := .ty "str") (by rfl) T.n_str (by decide +kernel) rfl) pa_nil)))) pss_never pss_nil)
          (pss_cons (ps_if (pt_not (pt_val (pe_callB (call_isiK1 (K := K) rfl) (by rfl) T.n_isinstance (by decide +kernel) (pa_cons (pv 1) (pa_cons (pe_bltn (v := .ty "tuple") (by rfl) T.n_tuple (by decide +kernel) rfl) pa_nil))))) pss_never pss_nil)
          (pss_cons (ps_if (PW.pt (pw_or (pt_not (pt_val (pe_callB (call_isiK1 (K := K) rfl) (by rfl) T.n_isinstance (by decide +kernel) (pa_cons (pv 0) (pa_cons (pe_bltn (v := .ty "tuple") (by rfl) T.n_tuple (by decide +kernel) rfl) pa_nil))))) (pw_or1 (pt_cmpR (op_neK (K := K) rfl hu64) (pe_callB (call_lenK (K := K) rfl) (by rfl) T.n_len (by decide +kernel) (pa_cons (pv 0) pa_nil)) (pe_callB (call_lenK (K := K) rfl) (by rfl) T.n_len (by decide +kernel) (pa_cons (pv 1) pa_nil)) (nomark _))))) pss_never pss_nil)
          (pss_cons (ps_for PassesOwn.never rfl (pi_range1 rfl T.n_range (pa_cons (pe_callB (call_lenK (K := K) rfl) (by rfl) T.n_len (by decide +kernel) (pa_cons (pv 1) pa_nil)) pa_nil)) (pg_name (i := 2) sc_L_alike.nd rfl (Or.inl rfl)) (pss_one (ps_if (pt_not (pt_val (pe_call G' hrm rfl T.g_L_alike T.F_L_alike.kp T.b_L_alike .nil pass0 (pa_cons (pe_ix (ix_K (K := K) rfl) (pv 0) (pv 2) (fun _ _ => rfl)) (pa_cons (pe_ix (ix_K (K := K) rfl) (pv 1) (pv 2) (fun _ _ => rfl)) pa_nil))))) pss_never pss_nil)))
          (pss_one (ps_ret pe_bl))))), ?_⟩
        refine ⟨_, rfl, _, .ty "str", _, _, false, rfl, .ty "str", tyx_tup hp2, kit_ty (by decide +kernel), false, rfl, iteF ?_⟩
        refine ⟨_, rfl, _, .ty "tuple", _, _, true, rfl, .ty "tuple", tyx_tup hp2, kit_ty (by decide +kernel), true, rfl, iteF ?_⟩
        refine ⟨_, rfl, _, .ty "tuple", _, _, true, rfl, .ty "tuple", tyx_tup hp1, kit_ty (by decide +kernel), true, rfl, iteF ?_⟩
        refine ⟨_, rfl, _, _, rfl, .inr ⟨_, hp1, rfl⟩, _, rfl, _, _, rfl, .inr ⟨_, hp2, rfl⟩, .inl ⟨rfl, _, rfl, iteNS (by rw [l1, l2]) ?_⟩⟩
        refine ⟨_, rfl, _, _, rfl, .inr ⟨_, hp2, rfl⟩, (ds.length : Int), by rw [l2], by omega, by omega, for_range (lo := 0) (n := ds.length) (fun i σ H' => ∃ v, σ = [some (.ref p1), some (.ref p2), v] ∧ Same H H') ⟨none, rfl, .refl H⟩ ?_ ?_⟩
        · rintro i σ H1 hi ⟨v, rfl, e⟩
          have hdi : ds[i]? = some ds[i] := List.getElem?_eq_getElem hi
          obtain ⟨x1, hx1, d1⟩ := dpa_at da1 hdi
          obtain ⟨x2, hx2, d2⟩ := dpa_at da2 hdi
          refine ⟨_, rfl, _, rfl, .inr (.inl ⟨p1, _, _, _, rfl, rfl, same_t e hp1, by rw [Int.zero_add]; exact atI_nat hx1, _, rfl, _, rfl, .inr (.inl ⟨p2, _, _, _, rfl, rfl, same_t e hp2, by rw [Int.zero_add]; exact atI_nat hx2, ?_⟩)⟩)⟩
          exact ⟨x1, x2, _, rfl, dp_mono e d1, dp_mono e d2, hd _ (List.getElem_mem hi), fun H2 s2 => ⟨_, rfl, iteF ⟨_, rfl, e.trans s2⟩⟩⟩
        · rintro σ H1 ⟨v, rfl, e⟩
          exact k H1 e
  intro n
  induction n with
  | zero => exact base 0 fun m h => by cases h
  | succ n ih => exact (base (n + 1) fun m h => by cases h; exact ih).mono (by omega)

end
end Q

set_option Elab.async false
set_option linter.all false
set_option maxRecDepth 100000
set_option maxHeartbeats 8000000
namespace Q
open PySem PySem.Spec PyProof.Rows L2 TL PW Rc
section
variable {P : Program} {w : World} {K : PySem.W.Frag} {mg : Str → Option Value} {base : Heap} {A : Ad}
/-! ### names -/
abbrev signsT : Str := "abcdefghijklmnopqrstuvwxyz0123456789"
theorem tl_signs : tl signsT = [97, 98, 99, 100, 101, 102, 103, 104, 105, 106, 107, 108, 109, 110, 111, 112, 113, 114, 115, 116, 117, 118, 119, 120, 121, 122, 48, 49, 50, 51, 52, 53, 54, 55, 56, 57] := by
  rw [ofS_tl]; decide
def GoodC (c : Nat) : Prop := (97 ≤ c ∧ c ≤ 122) ∨ (48 ≤ c ∧ c ≤ 57)
theorem signs_good : ∀ c ∈ tl signsT, GoodC c := by
  rw [tl_signs]
  intro c hc
  unfold GoodC
  simp only [List.mem_cons, List.not_mem_nil, or_false] at hc
  omega
theorem signs_at {d : Int} (h : 0 ≤ d ∧ d < 36) : ∃ c, GoodC c ∧ atI signsT.cps.toList d = some c := by
  have hl : (tl signsT).length = 36 := by rw [tl_signs]; rfl
  have hi : d.toNat < (tl signsT).length := by omega
  refine ⟨(tl signsT)[d.toNat], signs_good _ (List.getElem_mem hi), ?_⟩
  have := atI_nat (List.getElem?_eq_getElem hi)
  rwa [Int.toNat_of_nonneg h.1] at this
theorem cut_len {x : Str} {d : Int} (h : 0 ≤ d) : (tl (cutS x none (some d))).length ≤ d.toNat := by
  unfold cutS
  rw [tl_mk, List.length_take]
  have e : HT.sIx x.length x.length (some d) = min d.toNat x.length := by
    have e1 : (if d < 0 then (d + (x.length : Int)).toNat else min d.toNat x.length) = min d.toNat x.length := if_neg (by omega)
    exact e1
  have e2 : HT.sIx x.length 0 none = 0 := HT.sIx_none _ _
  rw [e, e2]
  omega
theorem drawn_at {szs ds : List Int} (h : Drawn szs ds) {i : Nat} {s : Int} (hs : szs[i]? = some s) : ∃ d, ds[i]? = some d ∧ 0 ≤ d ∧ d < s := by
  have hi : i < ds.length := by rw [h.1]; exact (List.getElem?_eq_some_iff.mp hs).1
  exact ⟨_, List.getElem?_eq_getElem hi, h.2 i _ s (List.getElem?_eq_getElem hi) hs⟩
def szNames : List Int := [36, 36, 36, 36, 36, 36, 36, 36, 36, 36, 36, 36, 12, 12, 12, 12, 36, 36, 36, 36]
def spNames (K : PySem.W.Frag) : Sp := fun vs H Q _ => ∃ (F : Hp) (c : Int), vs = [.int c] ∧ Same F H ∧ ∀ q F' H' (xs : List Str), Step F H F' H' → xs.length = 4 → (∀ x ∈ xs, NameOk x) → SqL K F' q (xs.map V.str) → Q (.ref q) H'
theorem ok_L_names (T : Txt K mg A) : FnOk P w K mg base CX0 2 A.a_L_names A.d_L_names ["_law_cell_here"] (spNames K) := by
  refine T.F_L_names.ok sc_L_names (fun vs H Q E h => ?_) (fun cdv A' outer s H vs Q E hr h => ?_)
  · obtain ⟨F, c, rfl, _⟩ := h; rfl
  · obtain ⟨F, c, rfl, eF, k⟩ := h
    have w := Wd.start eF
    refine ⟨_, pss_cons (ps_set (i := 1) sc_L_names.nd rfl (Or.inr rfl) (pe_call (ok_L_draws T) (hr.mono (by decide)) rfl T.g_L_draws T.F_L_draws.kp T.b_L_draws .nil pass0 (pa_cons (pv 0) (pa_cons (pe_op (op_addK (K := K) rfl) (pe_op (op_addK (K := K) rfl) (pe_op op_mulU (pe_lst (pa_cons (pe_int) pa_nil)) (pe_int)) (pe_op op_mulU (pe_lst (pa_cons (pe_int) pa_nil)) (pe_int))) (pe_op op_mulU (pe_lst (pa_cons (pe_int) pa_nil)) (pe_int))) pa_nil))))
  (pss_cons (ps_set (i := 2) sc_L_names.nd rfl (Or.inr rfl) (pe_str))
  (pss_cons (ps_set (i := 3) sc_L_names.nd rfl (Or.inl rfl) (pe_join (pe_str) (pe_lc (own := [("_law_k", 5)]) rfl sc_L_names.nd (pi_range1 rfl T.n_range (pa_cons (pe_int) pa_nil)) (blkOk_by (own := [("_law_k", 5)]) (N := ["_law_cell_here", "_law_drawn", "_law_signs", "_law_stem", "_law_names_here", "_law_k", "_law_spot"]) (sc := defScope s_L_names) (by decide +kernel)) (fun _ _ _ _ _ => pg_name (i := 5) sc_L_names.nd rfl (Or.inl rfl)) (fun _ _ _ _ _ => pts_nil) (fun _ _ _ _ _ => pe_ix (ix_K (K := K) rfl) (pv 2) (pe_ix (ix_K (K := K) rfl) (pv 1) (pv 5) (fun _ _ => rfl)) (fun _ _ => rfl)))))
  (pss_cons (ps_set (i := 4) sc_L_names.nd rfl (Or.inl rfl) (pe_lst (pa_nil)))
  (pss_cons (ps_for PassesOwn.never rfl (pi_range1 rfl T.n_range (pa_cons (pe_int) pa_nil)) (pg_name (i := 5) sc_L_names.nd rfl (Or.inl rfl)) (pss_cons (ps_set (i := 6) sc_L_names.nd rfl (Or.inl rfl) (pe_ix (ix_K (K := K) rfl) (pv 1) (pe_op (op_addK (K := K) rfl) (pe_int) (pv 5)) (fun _ _ => rfl)))
    (pss_one (ps_expr (pe_bm PySem.F.plainAttrs_list PySem.F.slot_list_append PySem.F.type_list_append mt_append (pv 4) (pa_cons (pe_op (op_addK (K := K) rfl) (pe_slice (sl_K (K := K) rfl) (pv 3) po_none (po_some (pv 6))) (pe_ix (ix_K (K := K) rfl) (pv 2) (pe_ix (ix_K (K := K) rfl) (pv 1) (pe_op (op_addK (K := K) rfl) (pe_int) (pv 5)) (fun _ _ => rfl)) (fun _ _ => rfl))) pa_nil))))))
  (pss_one (ps_ret (pv 4))))))), ?_⟩
    refine ⟨_, rfl, by show 1 ≤ sizeLine; decide, fun p1 h1 => ?_⟩
    obtain ⟨w1, e1⟩ := w.fix h1 (.lst [.int 36])
    refine .inr ⟨p1, 12, _, rfl, rfl, upd_same, by decide, by decide, by show 1 * 12 ≤ sizeLine; decide, fun p2 h2 => ?_⟩
    obtain ⟨w2, e2⟩ := w1.fix h2 (.lst (List.replicate (12 : Int).toNat [V.int 36]).flatten)
    refine ⟨by show 1 ≤ sizeLine; decide, fun p3 h3 => ?_⟩
    obtain ⟨w3, e3⟩ := w2.fix h3 (.lst [.int 12])
    refine .inr ⟨p3, 4, _, rfl, rfl, upd_same, by decide, by decide, by show 1 * 4 ≤ sizeLine; decide, fun p4 h4 => ?_⟩
    obtain ⟨w4, e4⟩ := w3.fix h4 (.lst (List.replicate (4 : Int).toNat [V.int 12]).flatten)
    have f2 : (upd (upd (upd (upd F p1 (.lst [.int 36])) p2 (.lst (List.replicate (12 : Int).toNat [V.int 36]).flatten)) p3 (.lst [.int 12])) p4 (.lst (List.replicate (4 : Int).toNat [V.int 12]).flatten)) p2 = some (.lst (List.replicate (12 : Int).toNat [V.int 36]).flatten) := (e3.trans e4) _ _ upd_same
    refine .inr (.inr (.inl ⟨p2, p4, _, _, rfl, rfl, w4.fh _ _ f2, upd_same, by show 12 + 4 ≤ sizeLine; decide, fun p5 h5 => ?_⟩))
    obtain ⟨w5, e5⟩ := w4.fix h5 (.lst ((List.replicate (12 : Int).toNat [V.int 36]).flatten ++ (List.replicate (4 : Int).toNat [V.int 12]).flatten))
    refine ⟨by show 1 ≤ sizeLine; decide, fun p6 h6 => ?_⟩
    obtain ⟨w6, e6⟩ := w5.fix h6 (.lst [.int 36])
    refine .inr ⟨p6, 4, _, rfl, rfl, upd_same, by decide, by decide, by show 1 * 4 ≤ sizeLine; decide, fun p7 h7 => ?_⟩
    obtain ⟨w7, e7⟩ := w6.fix h7 (.lst (List.replicate (4 : Int).toNat [V.int 36]).flatten)
    have f5 := (e6.trans e7) p5 _ upd_same
    refine .inr (.inr (.inl ⟨p5, p7, _, _, rfl, rfl, w7.fh _ _ f5, upd_same, by show 16 + 4 ≤ sizeLine; decide, fun p8 h8 => ?_⟩))
    obtain ⟨w8, e8⟩ := w7.fix h8 (.lst (szNames.map V.int))
    refine ⟨_, c, p8, szNames, rfl, .of upd_same, by decide, by decide, w8.fh, fun q F9 H9 ds st9 dr hq => ?_⟩
    have w9 := w8.step st9
    have hdl : ds.length = 20 := dr.1
    have at36 : ∀ i : Nat, i < 12 → ∃ d, ds[i]? = some d ∧ 0 ≤ d ∧ d < 36 := fun i hi => by
      refine drawn_at dr ?_
      have : i = 0 ∨ i = 1 ∨ i = 2 ∨ i = 3 ∨ i = 4 ∨ i = 5 ∨ i = 6 ∨ i = 7 ∨ i = 8 ∨ i = 9 ∨ i = 10 ∨ i = 11 := by omega
      rcases this with rfl | rfl | rfl | rfl | rfl | rfl | rfl | rfl | rfl | rfl | rfl | rfl <;> rfl
    have at12 : ∀ i : Nat, i < 4 → ∃ d, ds[12 + i]? = some d ∧ 0 ≤ d ∧ d < 12 := fun i hi => by
      refine drawn_at dr ?_
      have : i = 0 ∨ i = 1 ∨ i = 2 ∨ i = 3 := by omega
      rcases this with rfl | rfl | rfl | rfl <;> rfl
    have at16 : ∀ i : Nat, i < 4 → ∃ d, ds[16 + i]? = some d ∧ 0 ≤ d ∧ d < 36 := fun i hi => by
      refine drawn_at dr ?_
      have : i = 0 ∨ i = 1 ∨ i = 2 ∨ i = 3 := by omega
      rcases this with rfl | rfl | rfl | rfl <;> rfl
    have atV : ∀ {i : Nat} {d : Int}, ds[i]? = some d → (ds.map V.int)[i]? = some (.int d) := fun h => by rw [List.getElem?_map, h]; rfl
    have hzs : signsT.length ≤ sizeLine := by rw [len_tl, tl_signs]; decide
    -- the stem
    refine ⟨⟨_, rfl⟩, 12, rfl, by decide, by decide, fun D hD => ?_⟩
    obtain ⟨cs, hcs, hcg⟩ : ∃ cs : List Nat, cs.length = 12 ∧ ∀ i c, cs[i]? = some c → GoodC c ∧ ∃ d, ds[i]? = some d ∧ atI signsT.cps.toList d = some c := by
      refine ⟨(List.range 12).map fun i => (tl signsT).getD (ds.getD i 0).toNat 97, by simp, fun i c hc => ?_⟩
      rw [List.getElem?_map] at hc
      have hi : i < 12 := by
        rcases Nat.lt_or_ge i 12 with z | z
        · exact z
        · rw [List.getElem?_eq_none (by simpa using z)] at hc; cases hc
      rw [List.getElem?_eq_getElem (by simpa using hi), List.getElem_range] at hc
      obtain ⟨d, hd, d0, d1⟩ := at36 i hi
      have e : ds.getD i 0 = d := by rw [List.getD_eq_getElem?_getD, hd]; rfl
      have hc : some ((tl signsT).getD (ds.getD i 0).toNat 97) = some c := hc
      rw [e] at hc
      obtain ⟨c', g', a'⟩ := signs_at ⟨d0, d1⟩
      have h1 : (tl signsT)[d.toNat]? = some c' := by
        obtain ⟨j, hj1, hj2, _⟩ := atI_get a'
        have hi2 : d.toNat < (tl signsT).length := by rw [tl_signs]; show d.toNat < 36; omega
        have h2 := atI_nat (List.getElem?_eq_getElem hi2)
        rw [Int.toNat_of_nonneg d0] at h2
        have h3 : atI (tl signsT) d = some c' := a'
        rw [h3] at h2
        rw [List.getElem?_eq_getElem hi2]
        exact h2.symm
      rw [List.getD_eq_getElem?_getD, h1] at hc
      cases hc
      exact ⟨g', d, hd, a'⟩
    refine lc_wdR (K := K) (lo := 0) (n := 12) (cs.map fun c => PyData.str ⟨#[c]⟩) (by rw [List.length_map, hcs]) w9 hD (by decide) ?_ ?_
    · intro i d F1 H1 acc Q1 hi hd e1 w1 kk
      obtain ⟨c1, hc1, rfl⟩ := item_map hd
      obtain ⟨g1, d1, hd1, ha1⟩ := hcg i c1 hc1
      refine ⟨rfl, _, rfl, _, rfl, _, rfl, .inl ⟨q, _, _, _, rfl, rfl, w1.l (same_l e1 hq), by rw [Int.zero_add]; exact atI_nat (atV hd1), .inr (.inr ⟨_, d1, c1, rfl, rfl, hzs, ha1, kk _ F1 H1 (.refl w1.fh) (.str _)⟩)⟩⟩
    · intro vs' F1 H1 e1 w1 da
      have ev : vs' = (cs.map fun c => (⟨#[c]⟩ : Str)).map V.str := dpa_strs (by rw [List.map_map]; exact da)
      subst ev
      have sl1 : ∀ p ∈ (cs.map fun c => (⟨#[c]⟩ : Str)), p.length ≤ 1 := fun p hp => by
        obtain ⟨c, _, rfl⟩ := List.mem_map.mp hp
        exact Nat.le_refl 1
      refine ⟨_, D, cs.map fun c => (⟨#[c]⟩ : Str), rfl, rfl, .inl (.of w1.at_), join_len (k := 1) (n := 12) sl1 (by rw [List.length_map, hcs]; exact Nat.le_refl _) (by decide +kernel) (by decide), ?_⟩
      generalize hst : Txt.join (Str.ofString "") (cs.map fun c => (⟨#[c]⟩ : Str)) = stem
      have gst : ∀ c ∈ tl stem, GoodC c := by
        intro c hc
        rw [← hst, tl_joinT] at hc
        rcases mem_joinL hc with hc | ⟨p, hp, hc⟩
        · rw [ofS_tl] at hc; cases hc
        · obtain ⟨x, hx, rfl⟩ := List.mem_map.mp hp
          obtain ⟨c2, hc2, rfl⟩ := List.mem_map.mp hx
          obtain ⟨j, hj⟩ := List.mem_iff_getElem?.mp hc2
          have : c = c2 := by simpa [tl] using hc
          rw [this]
          exact (hcg j c2 hj).1
      have zst : stem.length ≤ sizeLine := by
        rw [← hst]
        refine small ?_
        rw [len_tl, tl_joinT]
        refine Nat.le_trans (joinL_len (k := 1) fun p hp => ?_) ?_
        · obtain ⟨x, hx, rfl⟩ := List.mem_map.mp hp
          rw [← len_tl]
          exact sl1 x hx
        · rw [ofS_tl, List.length_map, List.length_map, hcs]; decide
      have w1' := w1.drop
      refine ⟨Nat.zero_le _, fun D2 hD2 => ?_⟩
      have w2 := w1'.own hD2 (.lst [])
      have hq1 : SqL K F1 q (ds.map V.int) := same_l e1 hq
      refine ⟨4, rfl, by decide, by decide, for_range (lo := 0) (n := 4) (fun i σ H' => ∃ (xs : List Str) (v1 v2 : Option V), σ = [some (.int c), some (.ref q), some (.str signsT), some (.str stem), some (.ref D2), v1, v2] ∧ Wd F H F1 H' [(D2, .lst (xs.map V.str))] ∧ xs.length = i ∧ ∀ x ∈ xs, NameOk x)
        ⟨[], none, none, rfl, w2, rfl, fun _ h => by cases h⟩ ?_ ?_⟩
      · rintro i σ H3 hi ⟨xs, v1, v2, rfl, w3, hxl, hxs⟩
        obtain ⟨d1, hd1, d10, d11⟩ := at12 i hi
        obtain ⟨d2, hd2, d20, d21⟩ := at16 i hi
        obtain ⟨c2, g2, a2⟩ := signs_at ⟨d20, d21⟩
        have ei : (12 : Int) + (0 + (i : Int)) = ((12 + i : Nat) : Int) := by omega
        have ej : (16 : Int) + (0 + (i : Int)) = ((16 + i : Nat) : Int) := by omega
        refine ⟨_, rfl, _, rfl, .inl ⟨_, _, rfl, rfl, .inl ⟨q, _, _, _, rfl, rfl, w3.l hq1, by rw [ei]; exact atI_nat (atV hd1), ?_⟩⟩⟩
        refine ⟨_, rfl, .inl ⟨rfl, _, .of w3.at_⟩, _, rfl, _, rfl, _, rfl, .inl ⟨stem, rfl, zst, _, rfl, _, rfl, _, rfl, .inl ⟨_, _, rfl, rfl, .inl ⟨q, _, _, _, rfl, rfl, w3.l hq1, by rw [ej]; exact atI_nat (atV hd2), .inr (.inr ⟨_, d2, c2, rfl, rfl, hzs, a2, ?_⟩)⟩⟩⟩⟩
        have hcl := cut_len (x := stem) d10
        refine .inr (.inl ⟨_, _, rfl, rfl, small (by rw [len_tl]; show _ + 1 ≤ _; omega), D2, _, _, rfl, rfl, w3.at_, small' (by rw [List.length_map]; omega), ?_⟩)
        refine ⟨xs ++ [cutS stem none (some d1) ++ ⟨#[c2]⟩], _, _, rfl, ?_, by rw [List.length_append, hxl]; rfl, fun x hx => ?_⟩
        · rw [List.map_append]
          exact w3.set _
        · rcases List.mem_append.mp hx with hx | hx
          · exact hxs x hx
          · rw [List.mem_singleton.mp hx]
            refine ⟨?_, ?_, fun c hc => ?_⟩
            · rw [tl_append, List.length_append]; show 1 ≤ _ + 1; omega
            · rw [tl_append, List.length_append]; show _ + 1 ≤ 12; omega
            · rw [tl_append] at hc
              rcases List.mem_append.mp hc with hc | hc
              · exact gst c (cut_sub hc)
              · have : c = c2 := by simpa [tl] using hc
                rw [this]
                exact g2
      · rintro σ H3 ⟨xs, v1, v2, rfl, w3, hxl, hxs⟩
        obtain ⟨w4, e4⟩ := w3.freeze
        exact ⟨_, rfl, k D2 _ _ xs w4.done hxl hxs (.of upd_same)⟩

end
end Q

set_option Elab.async false
set_option linter.all false
set_option maxRecDepth 100000
set_option maxHeartbeats 8000000
namespace Q
open PySem PySem.Spec PyProof.Rows L2 TL PW Rc
section
variable {P : Program} {w : World} {K : PySem.W.Frag} {mg : Str → Option Value} {base : Heap} {A : Ad}
/-! ### the law's own text of a record -/
theorem ok_L_join (T : Txt K mg A) : FnOk P w K mg base CX0 1 A.a_L_join A.d_L_join ["_law_numbers"] (spListText K) := by
  refine T.F_L_join.ok sc_L_join (fun vs H Q E h => ?_) (fun cdv A' outer s H vs Q E hr h => ?_)
  · obtain ⟨v, ns, rfl, _⟩ := h; rfl
  · obtain ⟨v, ns, rfl, D, hn, hl, k⟩ := h
    obtain ⟨p, xs, rfl, hs, da⟩ := dp_tup D
    have ex := dpa_ints da
    subst ex
    have w := Wd.start (Same.refl H)
    refine ⟨_, pss_one (ps_ret (pe_join (pe_str) (pe_lc (own := [("_law_number", 1)]) rfl sc_L_join.nd (pi_tupK (K := K) rfl (pv 0)) (blkOk_by (own := [("_law_number", 1)]) (N := ["_law_numbers", "_law_number"]) (sc := defScope s_L_join) (by decide +kernel)) (fun _ _ _ _ _ => pg_name (i := 1) sc_L_join.nd rfl (Or.inl rfl)) (fun _ _ _ _ _ => pts_nil) (fun _ _ _ _ _ => pe_callTy call_str_int (by rfl) T.n_str (by decide +kernel) (pa_cons (pv 1) pa_nil))))), ?_⟩
    refine ⟨⟨_, rfl⟩, _, rfl, p, rfl, ⟨_, hs⟩, fun D hD => ?_⟩
    refine lc_wdT (ns.map fun n => PyData.str (numS n)) (by simp) w hD hs (by rw [List.length_map]; omega) ?_ ?_
    · intro i x d F H1 acc Q1 hx hd e w1 kk
      obtain ⟨n, hn', rfl⟩ := item_int hx
      rw [List.getElem?_map, hn'] at hd
      cases hd
      exact ⟨rfl, _, rfl, n, rfl, numS_log (hn n (List.mem_of_getElem? hn')), kk _ F H1 (.refl w1.fh) (.str _)⟩
    · intro vs' F' H' e w1 da'
      have ev : vs' = (ns.map numS).map V.str := dpa_strs (by rw [List.map_map]; exact da')
      subst ev
      refine ⟨comma, D, ns.map numS, rfl, rfl, .inl (.of w1.at_), ?_, k H' w1.hh⟩
      exact join_len (k := 9) (n := 100) (fun x hx => by
        obtain ⟨n, hn', rfl⟩ := List.mem_map.mp hx
        rw [len_tl]
        exact numS_len (hn n hn')) (by rw [List.length_map]; exact hl) (by decide +kernel) (by decide)
theorem named_lit {x : Str} {ns : List Int} : x ++ Str.ofString "=" ++ listW ns = nameW (x, ns) := rfl
theorem join_snoc_text {r : Rec} (ne : isErase r = false) : Txt.join (Str.ofString " ") (headW r ++ [stroke] ++ r.ws.map wardW) ++ Str.ofString ";" = recText r := by
  unfold recText
  rw [words_head ne]
theorem nameW_len {p : Str × List Int} (h1 : NameOk p.1) (h2 : NsOk p.2) : (nameW p).length ≤ 1013 := by rw [len_tl]; exact name_len h1 h2
theorem listW_len {ns : List Int} (h : ∀ n ∈ ns, NumOk n) (hl : ns.length ≤ 100) : (listW ns).length ≤ 1000 := by rw [len_tl]; exact list_len h hl
/-- the words so far, behind the statement n -/
def stW (n : Nat) (r : Rec) : List Str := match r with
  | .picture .. => headW r
  | .put .. => if n = 2 then [wPut] else headW r
  | .cap .. => [wCap]
  | .deal .. => [wDeal]
  | .erase .. => [wErase]
def MidT (K : PySem.W.Frag) (H : Hp) (q : Addr) (ws : List Str) : L2.St → Hp → Prop := fun σ' H' => ∃ D2 F2 v2 v3, σ' = [some (V.ref q), some (.ref D2), v2, v3] ∧ Same H F2 ∧ Wd H H F2 H' [(D2, .lst (ws.map V.str))]
theorem ok_L_text_of (T : Txt K mg A) : FnOk P w K mg base CX0 2 A.a_L_text_of A.d_L_text_of ["_law_record"] (spRecText K) := by
  refine T.F_L_text_of.ok sc_L_text_of (fun vs H Q E h => ?_) (fun cdv A' outer s H vs Q E hr h => ?_)
  · obtain ⟨v, r, rfl, _⟩ := h; rfl
  · obtain ⟨v, r, rfl, D0, ok, k⟩ := h
    have hu64 := hu64_of hr
    have hu65 := hu65_of hr
    have w := Wd.start (Same.refl H)
    have a1 : (Str.ofString "erase ").length = 6 := by decide +kernel
    have a2 : (Str.ofString ";").length = 1 := by decide +kernel
    have a4 : (Str.ofString "=").length = 1 := by decide +kernel
    have a5 : (Str.ofString ":").length = 1 := by decide +kernel
    have a6 : (Str.ofString ",").length = 1 := by decide +kernel
    refine ⟨_, pss_cons (ps_if (pt_cmpR (op_eqK (K := K) rfl hu64) (pe_ix (ix_K (K := K) rfl) (pv 0) (pe_int) (fun _ _ => rfl)) (pe_str) (nomark _)) (pss_one (ps_ret (pe_op (op_addK (K := K) rfl) (pe_op (op_addK (K := K) rfl) (pe_str) (pe_ix (ix_K (K := K) rfl) (pv 0) (pe_int) (fun _ _ => rfl))) (pe_str)))) (pss_nil))
  (pss_cons (ps_set (i := 1) sc_L_text_of.nd rfl (Or.inl rfl) (pe_lst (pa_cons (pe_ix (ix_K (K := K) rfl) (pv 0) (pe_int) (fun _ _ => rfl)) pa_nil)))
  (Evl.pss_cut (ps_if (pt_cmpR (op_eqK (K := K) rfl hu64) (pe_ix (ix_K (K := K) rfl) (pv 0) (pe_int) (fun _ _ => rfl)) (pe_str) (nomark _)) (pss_one (ps_set (i := 1) sc_L_text_of.nd rfl (Or.inl rfl) (pe_op (op_addK (K := K) rfl) (pe_op (op_addK (K := K) rfl) (pv 1) (pe_lst (pa_cons (pe_call (ok_L_join T) (hr.mono (by decide)) rfl T.g_L_join T.F_L_join.kp T.b_L_join .nil pass0 (pa_cons (pe_ix (ix_K (K := K) rfl) (pv 0) (pe_int) (fun _ _ => rfl)) pa_nil)) pa_nil))) (pe_lc (own := [("_law_named", 3)]) rfl sc_L_text_of.nd (pi_tupK (K := K) rfl (pe_ix (ix_K (K := K) rfl) (pv 0) (pe_int) (fun _ _ => rfl))) (blkOk_by (own := [("_law_named", 3)]) (N := ["_law_record", "_law_words", "_law_entry", "_law_named"]) (sc := defScope s_L_text_of) (by decide +kernel)) (fun _ _ _ _ _ => pg_name (i := 3) sc_L_text_of.nd rfl (Or.inl rfl)) (fun _ _ _ _ _ => pts_nil) (fun _ _ _ _ _ => pe_op (op_addK (K := K) rfl) (pe_op (op_addK (K := K) rfl) (pe_ix (ix_K (K := K) rfl) (pv 3) (pe_int) (fun _ _ => rfl)) (pe_str)) (pe_call (ok_L_join T) (hr.mono (by decide)) rfl T.g_L_join T.F_L_join.kp T.b_L_join .nil pass0 (pa_cons (pe_ix (ix_K (K := K) rfl) (pv 3) (pe_int) (fun _ _ => rfl)) pa_nil))))))) (pss_nil))
  (Evl.pss_cut (ps_if (pt_cmpR (op_eqK (K := K) rfl hu64) (pe_ix (ix_K (K := K) rfl) (pv 0) (pe_int) (fun _ _ => rfl)) (pe_str) (nomark _)) (pss_one (ps_expr (pe_bm PySem.F.plainAttrs_list PySem.F.slot_list_append PySem.F.type_list_append mt_append (pv 1) (pa_cons (pe_op (op_addK (K := K) rfl) (pe_op (op_addK (K := K) rfl) (pe_ix (ix_K (K := K) rfl) (pv 0) (pe_int) (fun _ _ => rfl)) (pe_str)) (pe_call (ok_L_join T) (hr.mono (by decide)) rfl T.g_L_join T.F_L_join.kp T.b_L_join .nil pass0 (pa_cons (pe_ix (ix_K (K := K) rfl) (pv 0) (pe_int) (fun _ _ => rfl)) pa_nil))) pa_nil)))) (pss_nil))
  (Evl.pss_cut (ps_if (pt_cmpR (op_eqK (K := K) rfl hu64) (pe_ix (ix_K (K := K) rfl) (pv 0) (pe_int) (fun _ _ => rfl)) (pe_str) (nomark _)) (pss_one (ps_set (i := 1) sc_L_text_of.nd rfl (Or.inl rfl) (pe_op (op_addK (K := K) rfl) (pv 1) (pe_lst (pa_cons (pe_callTy call_str_int (by rfl) T.n_str (by decide +kernel) (pa_cons (pe_ix (ix_K (K := K) rfl) (pv 0) (pe_int) (fun _ _ => rfl)) pa_nil)) (pa_cons (pe_callTy call_str_int (by rfl) T.n_str (by decide +kernel) (pa_cons (pe_ix (ix_K (K := K) rfl) (pv 0) (pe_int) (fun _ _ => rfl)) pa_nil)) pa_nil)))))) (pss_nil))
  (pss_cons (ps_expr (pe_bm PySem.F.plainAttrs_list PySem.F.slot_list_append PySem.F.type_list_append mt_append (pv 1) (pa_cons (pe_str) pa_nil)))
  (pss_cons (ps_for PassesOwn.never rfl (pi_tupK (K := K) rfl (pe_ix (ix_K (K := K) rfl) (pv 0) (pe_un un_neg (pe_int)) (fun _ _ => rfl))) (pg_name (i := 2) sc_L_text_of.nd rfl (Or.inl rfl)) (pss_one (ps_expr (pe_bm PySem.F.plainAttrs_list PySem.F.slot_list_append PySem.F.type_list_append mt_append (pv 1) (pa_cons (pe_op (op_addK (K := K) rfl) (pe_op (op_addK (K := K) rfl) (pe_op (op_addK (K := K) rfl) (pe_op (op_addK (K := K) rfl) (pe_callTy call_str_int (by rfl) T.n_str (by decide +kernel) (pa_cons (pe_ix (ix_K (K := K) rfl) (pv 2) (pe_int) (fun _ _ => rfl)) pa_nil)) (pe_str)) (pe_callTy call_str_int (by rfl) T.n_str (by decide +kernel) (pa_cons (pe_ix (ix_K (K := K) rfl) (pv 2) (pe_int) (fun _ _ => rfl)) pa_nil))) (pe_str)) (pe_callTy call_str_int (by rfl) T.n_str (by decide +kernel) (pa_cons (pe_ix (ix_K (K := K) rfl) (pv 2) (pe_int) (fun _ _ => rfl)) pa_nil))) pa_nil)))))
  (pss_one (ps_ret (pe_op (op_addK (K := K) rfl) (pe_join (pe_str) (pv 1)) (pe_str)))))))))), ?_⟩
    by_cases her : isErase r = true
    · cases r with
      | erase n =>
        obtain ⟨q, rfl, hq⟩ := erase_at D0
        have hn : n.length ≤ 12 := by rw [len_tl]; exact ok.2.1
        refine ⟨_, rfl, .inr (.inl ⟨q, _, 0, _, rfl, rfl, hq, atI_nat (j := 0) rfl, .inl ⟨rfl, _, rfl, iteYes rfl ?_⟩⟩)⟩
        refine ⟨_, rfl, .inr (.inl ⟨q, _, 1, _, rfl, rfl, hq, atI_nat (j := 1) rfl, .inr (.inl ⟨_, _, rfl, rfl, small (by rw [a1]; omega), .inr (.inl ⟨_, _, rfl, rfl, small (by rw [slen_app, a1, a2]; omega), ?_⟩)⟩)⟩)⟩
        rw [show Str.ofString "erase " ++ n ++ Str.ofString ";" = recText (.erase n) from erase_eq n]
        exact k H (.refl H)
      | _ => cases her
    · have her : isErase r = false := by simpa using her
      obtain ⟨q, xs, rfl, hq, da⟩ := encR_tup D0 her
      obtain ⟨x, ys, v, rfl, hx, hat, dv⟩ := rec_head da her
      refine ⟨_, rfl, .inr (.inl ⟨q, _, 0, _, rfl, rfl, hq, atI_nat (j := 0) rfl, .inl ⟨rfl, _, rfl, iteNo (fun e => hx (V.str.inj e)) ?_⟩⟩)⟩
      -- words = [record[0]]
      refine ⟨_, rfl, .inr (.inl ⟨q, _, 0, _, rfl, rfl, hq, atI_nat (j := 0) rfl, by show 1 ≤ sizeLine; decide, fun D hD => ?_⟩)⟩
      have w1 := w.own hD (.lst [.str x])
      have at0 : atI (V.str x :: ys) 0 = some (.str x) := atI_nat (j := 0) rfl
      have hx0 : ∃ l, headW r = x :: l := by
        cases r with
        | erase n => cases her
        | picture a b c => cases da with | cons d0 da => exact ⟨_, by rw [V.str.inj (dp_str d0)]; rfl⟩
        | put a b c => cases da with | cons d0 da => exact ⟨_, by rw [V.str.inj (dp_str d0)]; rfl⟩
        | deal a => cases da with | cons d0 da => exact ⟨_, by rw [V.str.inj (dp_str d0)]; rfl⟩
        | cap a b c => cases da with | cons d0 da => exact ⟨_, by rw [V.str.inj (dp_str d0)]; rfl⟩
      -- if picture
      refine ⟨MidT K H q (stW 2 r), ?_, ?_⟩
      · cases r with
        | erase n => cases her
        | picture caps names ws =>
          obtain ⟨c1, c2, c3, n1, n2, n3, _⟩ := id ok
          cases da with | cons d0 da => cases da with | cons d1 da => cases da with | cons d2 da =>
          have e0 := V.str.inj (dp_str d0)
          subst e0
          obtain ⟨q2, xs2, rfl, hq2, da2⟩ := dp_tup d2
          have hn : xs2.length = names.length := by rw [dpa_len da2, List.length_map]
          refine ⟨_, rfl, .inr (.inl ⟨q, _, 0, _, rfl, rfl, w1.t hq, at0, .inl ⟨rfl, _, rfl, iteYes rfl ?_⟩⟩)⟩
          refine ⟨_, rfl, _, rfl, .inr (.inl ⟨q, _, 1, _, rfl, rfl, w1.t hq, atI_nat (j := 1) rfl, _, caps, rfl, w1.d d1, c2, c3, fun H2 s2 => ?_⟩)⟩
          have w2 := w1.same s2
          refine ⟨by show 1 ≤ sizeLine; decide, fun D3 hD3 => ?_⟩
          have w3 := w2.own hD3 (.lst [.str (listW caps)])
          refine .inr (.inr (.inl ⟨D, D3, _, _, rfl, rfl, w3.swap.at_, w3.at_, by show 1 + 1 ≤ sizeLine; decide, fun D4 hD4 => ?_⟩))
          have w4 := w3.drop.drop.own hD4 (.lst ([.str wPicture] ++ [.str (listW caps)]))
          refine ⟨_, rfl, .inr (.inl ⟨q, _, 2, _, rfl, rfl, w4.t hq, atI_nat (j := 2) rfl, q2, rfl, ⟨_, w4.t hq2⟩, fun D5 hD5 => ?_⟩)⟩
          refine lc_wdT (names.map fun p => PyData.str (nameW p)) (by rw [List.length_map, hn]) w4 hD5 hq2 (by omega) ?_ ?_
          · intro i x d F3 H3 acc Q3 hx hd e3 w3 kk
            obtain ⟨d', hd', dx⟩ := dpa_get da2 hx
            obtain ⟨u, hu, rfl⟩ := item_map hd'
            rw [List.getElem?_map, hu] at hd
            cases hd
            have hm := n1 u (List.mem_of_getElem? hu)
            obtain ⟨q3, r3, rfl, hq3, hr3⟩ := name_at dx
            have hnl : u.1.length ≤ 12 := by rw [len_tl]; exact hm.1.2.1
            refine ⟨rfl, _, rfl, .inr (.inl ⟨q3, _, 0, _, rfl, rfl, same_t (e3.trans w3.fh) hq3, atI_nat (j := 0) rfl, .inr (.inl ⟨_, _, rfl, rfl, small (by rw [a4]; omega), ?_⟩)⟩)⟩
            refine ⟨_, rfl, .inr (.inl ⟨q3, _, 1, _, rfl, rfl, same_t (e3.trans w3.fh) hq3, atI_nat (j := 1) rfl, .ref r3, u.2, rfl, dp_mono (e3.trans w3.fh) (.tup hr3 dpa_of_ints), hm.2.num, hm.2.few, fun H4 s4 => ?_⟩)⟩
            refine .inr (.inl ⟨_, _, rfl, rfl, small (by have := listW_len hm.2.num hm.2.few; rw [slen_app, a4]; omega), ?_⟩)
            exact kk _ F3 H4 (.same w3.fh s4) (by show Dp K F3 (.str (nameW u)) _; exact .str _)
          · intro vs' F5 H5 e5 w5 da5
            have ev : vs' = (names.map nameW).map V.str := dpa_strs (by rw [List.map_map]; exact da5)
            subst ev
            refine .inr (.inr (.inl ⟨D4, D5, _, _, rfl, rfl, w5.swap.at_, w5.at_, small (by simp; omega), fun D6 hD6 => ?_⟩))
            have w6 := w5.drop.drop.own hD6 (.lst (([.str wPicture] ++ [.str (listW caps)]) ++ (names.map nameW).map V.str))
            exact ⟨D6, F5, _, _, rfl, e5, w6⟩
        | put a b c => exact ⟨_, rfl, .inr (.inl ⟨q, _, 0, _, rfl, rfl, w1.t hq, at0, .inl ⟨rfl, _, rfl, iteNo (by cases da with | cons d0 da => rw [dp_str d0]; decide +kernel) ⟨D, H, _, _, rfl, .refl H, by obtain ⟨l, hl⟩ := hx0; have ex : wPut = x := (List.cons.inj hl).1; subst ex; exact w1⟩⟩⟩)⟩
        | deal a => exact ⟨_, rfl, .inr (.inl ⟨q, _, 0, _, rfl, rfl, w1.t hq, at0, .inl ⟨rfl, _, rfl, iteNo (by cases da with | cons d0 da => rw [dp_str d0]; decide +kernel) ⟨D, H, _, _, rfl, .refl H, by obtain ⟨l, hl⟩ := hx0; have ex : wDeal = x := (List.cons.inj hl).1; subst ex; exact w1⟩⟩⟩)⟩
        | cap a b c => exact ⟨_, rfl, .inr (.inl ⟨q, _, 0, _, rfl, rfl, w1.t hq, at0, .inl ⟨rfl, _, rfl, iteNo (by cases da with | cons d0 da => rw [dp_str d0]; decide +kernel) ⟨D, H, _, _, rfl, .refl H, by obtain ⟨l, hl⟩ := hx0; have ex : wCap = x := (List.cons.inj hl).1; subst ex; exact w1⟩⟩⟩)⟩
      clear w1 hD
      rintro σ1 H1 ⟨D1, F1, v2, v3, rfl, e1, w1⟩
      have hq1 : SqT K F1 q (.str x :: ys) := same_t e1 hq
      -- if put
      refine ⟨MidT K H q (stW 3 r), ?_, ?_⟩
      · cases r with
        | erase n => cases her
        | put n ns ws =>
          cases da with | cons d0 da => cases da with | cons d1 da => cases da with | cons d2 da =>
          have e0 := V.str.inj (dp_str d0)
          have e1' := dp_str d1
          subst e0 e1'
          have hnl : n.length ≤ 12 := by rw [len_tl]; exact ok.1.2.1
          refine ⟨_, rfl, .inr (.inl ⟨q, _, 0, _, rfl, rfl, w1.t hq1, at0, .inl ⟨rfl, _, rfl, iteYes rfl ?_⟩⟩)⟩
          refine ⟨_, rfl, .inl ⟨rfl, _, .of w1.at_⟩, _, rfl, .inr (.inl ⟨q, _, 1, _, rfl, rfl, w1.t hq1, atI_nat (j := 1) rfl, .inr (.inl ⟨_, _, rfl, rfl, small (by rw [a4]; omega), ?_⟩)⟩)⟩
          refine ⟨_, rfl, .inr (.inl ⟨q, _, 2, _, rfl, rfl, w1.t hq1, atI_nat (j := 2) rfl, _, ns, rfl, w1.d (dp_mono e1 d2), ok.2.1.num, ok.2.1.few, fun H4 s4 => ?_⟩)⟩
          have w4 := w1.same s4
          refine .inr (.inl ⟨_, _, rfl, rfl, small (by have := listW_len ok.2.1.num ok.2.1.few; rw [slen_app, a4]; omega), D1, _, _, rfl, rfl, w4.at_, by show 1 < sizeLine; decide, ?_⟩)
          exact ⟨D1, F1, _, _, rfl, e1, w4.set _⟩
        | picture a b c => exact ⟨_, rfl, .inr (.inl ⟨q, _, 0, _, rfl, rfl, w1.t hq1, at0, .inl ⟨rfl, _, rfl, iteNo (by cases da with | cons d0 da => rw [dp_str d0]; decide +kernel) ⟨D1, F1, _, _, rfl, e1, w1⟩⟩⟩)⟩
        | deal a => exact ⟨_, rfl, .inr (.inl ⟨q, _, 0, _, rfl, rfl, w1.t hq1, at0, .inl ⟨rfl, _, rfl, iteNo (by cases da with | cons d0 da => rw [dp_str d0]; decide +kernel) ⟨D1, F1, _, _, rfl, e1, w1⟩⟩⟩)⟩
        | cap a b c => exact ⟨_, rfl, .inr (.inl ⟨q, _, 0, _, rfl, rfl, w1.t hq1, at0, .inl ⟨rfl, _, rfl, iteNo (by cases da with | cons d0 da => rw [dp_str d0]; decide +kernel) ⟨D1, F1, _, _, rfl, e1, w1⟩⟩⟩)⟩
      clear w1 hq1 e1
      rintro σ1 H1 ⟨D1, F1, v2, v3, rfl, e1, w1⟩
      have hq1 : SqT K F1 q (.str x :: ys) := same_t e1 hq
      -- if cap
      refine ⟨MidT K H q (headW r), ?_, ?_⟩
      · cases r with
        | erase n => cases her
        | cap a b ws =>
          cases da with | cons d0 da => cases da with | cons d1 da => cases da with | cons d2 da =>
          have e0 := V.str.inj (dp_str d0)
          have e1' := dp_int d1
          have e2' := dp_int d2
          subst e0 e1' e2'
          refine ⟨_, rfl, .inr (.inl ⟨q, _, 0, _, rfl, rfl, w1.t hq1, at0, .inl ⟨rfl, _, rfl, iteYes rfl ?_⟩⟩)⟩
          refine ⟨_, rfl, _, rfl, .inr (.inl ⟨q, _, 1, _, rfl, rfl, w1.t hq1, atI_nat (j := 1) rfl, a, rfl, numS_log ok.1, ?_⟩)⟩
          refine ⟨_, rfl, .inr (.inl ⟨q, _, 2, _, rfl, rfl, w1.t hq1, atI_nat (j := 2) rfl, b, rfl, numS_log ok.2.1, ?_⟩)⟩
          refine ⟨by show 2 ≤ sizeLine; decide, fun D3 hD3 => ?_⟩
          have w3 := w1.own hD3 (.lst [.str (numS a), .str (numS b)])
          refine .inr (.inr (.inl ⟨D1, D3, _, _, rfl, rfl, w3.swap.at_, w3.at_, by show 1 + 2 ≤ sizeLine; decide, fun D4 hD4 => ?_⟩))
          exact ⟨D4, F1, _, _, rfl, e1, w3.drop.drop.own hD4 _⟩
        | picture a b c => exact ⟨_, rfl, .inr (.inl ⟨q, _, 0, _, rfl, rfl, w1.t hq1, at0, .inl ⟨rfl, _, rfl, iteNo (by cases da with | cons d0 da => rw [dp_str d0]; decide +kernel) ⟨D1, F1, _, _, rfl, e1, w1⟩⟩⟩)⟩
        | deal a => exact ⟨_, rfl, .inr (.inl ⟨q, _, 0, _, rfl, rfl, w1.t hq1, at0, .inl ⟨rfl, _, rfl, iteNo (by cases da with | cons d0 da => rw [dp_str d0]; decide +kernel) ⟨D1, F1, _, _, rfl, e1, w1⟩⟩⟩)⟩
        | put a b c => exact ⟨_, rfl, .inr (.inl ⟨q, _, 0, _, rfl, rfl, w1.t hq1, at0, .inl ⟨rfl, _, rfl, iteNo (by cases da with | cons d0 da => rw [dp_str d0]; decide +kernel) ⟨D1, F1, _, _, rfl, e1, w1⟩⟩⟩)⟩
      clear w1 hq1 e1
      rintro σ1 H1 ⟨D1, F1, v2, v3, rfl, e1, w1⟩
      have hq1 : SqT K F1 q (.str x :: ys) := same_t e1 hq
      have few := headW_few ok
      have fws := ok.ws.few
      -- words.append("/")
      refine ⟨_, rfl, .inl ⟨rfl, _, .of w1.at_⟩, D1, _, _, rfl, rfl, w1.at_, small' (by rw [List.length_map]; omega), ?_⟩
      have w2 : Wd H H F1 (upd H1 D1 (.lst ((headW r).map V.str ++ [.str stroke]))) [(D1, .lst ((headW r ++ [stroke]).map V.str))] := by
        rw [List.map_append]; exact w1.set _
      obtain ⟨qw, xw, rfl, hqw, daw⟩ := dp_tup dv
      have hwl : xw.length = r.ws.length := by rw [dpa_len daw, List.length_map]
      have hqw1 : SqT K F1 qw xw := same_t e1 hqw
      refine ⟨_, rfl, _, rfl, .inr (.inl ⟨q, _, -1, _, rfl, rfl, w2.t hq1, hat, qw, rfl, ⟨_, w2.t hqw1⟩, for_tup (K := K) (a := qw) (xs := xw) (fun i σ' H' => ∃ v2 v3, σ' = [some (V.ref q), some (.ref D1), v2, v3] ∧ Wd H H F1 H' [(D1, .lst ((headW r ++ [stroke] ++ (r.ws.take i).map wardW).map V.str))])
        ⟨_, _, rfl, by rw [List.take_zero]; simpa using w2⟩ (fun i σ' H' _ ⟨_, _, _, w'⟩ => w'.t hqw1) ?_ ?_⟩)⟩
      · rintro i y σ' H' hy ⟨v2, v3, rfl, w3⟩
        obtain ⟨d', hd', dy⟩ := dpa_get daw hy
        obtain ⟨u, hu, rfl⟩ := item_map hd'
        obtain ⟨q3, rfl, hq3⟩ := wd_at dy
        have hq4 : SqT K H' q3 _ := same_t (e1.trans w3.fh) hq3
        obtain ⟨m1, m2, m3⟩ := ok.ws.num u (List.mem_of_getElem? hu)
        have l1 : (numS u.1).length ≤ 9 := by rw [len_tl]; exact numS_len m1
        have l2 : (numS u.2.1).length ≤ 9 := by rw [len_tl]; exact numS_len m2
        have l3 : (numS u.2.2).length ≤ 9 := by rw [len_tl]; exact numS_len m3
        refine ⟨_, rfl, .inl ⟨rfl, _, .of w3.at_⟩, _, rfl, .inr (.inl ⟨q3, _, 0, _, rfl, rfl, hq4, atI_nat (j := 0) rfl, _, rfl, numS_log m1, .inr (.inl ⟨_, _, rfl, rfl, small (by rw [a5]; show (numS u.1).length + 1 ≤ _; omega), ?_⟩)⟩)⟩
        refine ⟨_, rfl, .inr (.inl ⟨q3, _, 1, _, rfl, rfl, hq4, atI_nat (j := 1) rfl, _, rfl, numS_log m2, .inr (.inl ⟨_, _, rfl, rfl, small (by rw [slen_app, a5]; show (numS u.1).length + 1 + (numS u.2.1).length ≤ _; omega), ?_⟩)⟩)⟩
        refine .inr (.inl ⟨_, _, rfl, rfl, small (by rw [slen_app, slen_app, a5, a6]; show (numS u.1).length + 1 + (numS u.2.1).length + 1 ≤ _; omega), ?_⟩)
        refine ⟨_, rfl, .inr (.inl ⟨q3, _, 2, _, rfl, rfl, hq4, atI_nat (j := 2) rfl, _, rfl, numS_log m3, .inr (.inl ⟨_, _, rfl, rfl, small (by rw [slen_app, slen_app, slen_app, a5, a6]; show (numS u.1).length + 1 + (numS u.2.1).length + 1 + (numS u.2.2).length ≤ _; omega), D1, _, _, rfl, rfl, w3.at_, small' (by simp only [List.length_map, List.length_append, List.length_take, List.length_singleton]; omega), ?_⟩)⟩)⟩
        refine ⟨_, _, rfl, ?_⟩
        have e : (headW r ++ [stroke] ++ (r.ws.take (i + 1)).map wardW).map V.str = (headW r ++ [stroke] ++ (r.ws.take i).map wardW).map V.str ++ [.str (wardW u)] := by
          rw [take_more hu]
          simp only [List.map_append, List.map_cons, List.map_nil, List.append_assoc]
        rw [e]
        exact w3.set _
      · rintro σ' H' ⟨v2, v3, rfl, w3⟩
        rw [hwl, List.take_length] at w3
        refine ⟨⟨_, rfl⟩, _, rfl, _, D1, headW r ++ [stroke] ++ r.ws.map wardW, rfl, rfl, .inl (.of w3.at_), ?_, ?_⟩
        · rw [← words_head her]
          exact join_len (k := 1013) (n := 203) (fun z hz => by rw [len_tl]; exact words_len ok z hz) (words_few ok) (by decide +kernel) (by decide)
        · refine .inr (.inl ⟨_, _, rfl, rfl, small (by rw [a2, ← words_head her]; have := text_len ok; have e := len_tl (Txt.join (Str.ofString " ") (words r)); have e2 : (tl (Txt.join (Str.ofString " ") (words r))).length = (tl (Txt.join space (words r))).length := rfl; omega), ?_⟩)
          rw [join_snoc_text her]
          exact k H' w3.hh

end
end Q

set_option Elab.async false
set_option linter.all false
set_option maxRecDepth 100000
set_option maxHeartbeats 8000000
namespace Q
open PySem PySem.Spec PyProof.Rows L2 TL PW Rc
section
variable {P : Program} {w : World} {K : PySem.W.Frag} {mg : Str → Option Value} {base : Heap} {A : Ad}
/-! ### sizes -/
def szSmall : List Int := [5, 4, 4, 4, 3, 900, 90, 3, 900, 5, 5, 5, 5, 4, 40]
def szRow : List Int := [6, 6, 2, 90, 4] ++ szSmall
def spSizes : Sp := fun vs H Q _ => ∃ (F : Hp), vs = [] ∧ Same F H ∧ ∀ q F' H', Step F H F' H' → F' q = some (.lst (szSmall.map V.int)) → Q (.ref q) H'
theorem ok_L_sizes (T : Txt K mg A) : FnOk P w K mg base CX0 1 A.a_L_sizes A.d_L_sizes [] spSizes := by
  refine T.F_L_sizes.ok sc_L_sizes (fun vs H Q E h => ?_) (fun cdv A' outer s H vs Q E hr h => ?_)
  · obtain ⟨F, rfl, _⟩ := h; rfl
  · obtain ⟨F, rfl, eF, k⟩ := h
    have w := Wd.start eF
    refine ⟨_, pss_one (ps_ret (pe_lst (pa_cons (pe_int) (pa_cons (pe_int) (pa_cons (pe_int) (pa_cons (pe_int) (pa_cons (pe_int) (pa_cons (pe_int) (pa_cons (pe_int) (pa_cons (pe_int) (pa_cons (pe_int) (pa_cons (pe_int) (pa_cons (pe_int) (pa_cons (pe_int) (pa_cons (pe_int) (pa_cons (pe_int) (pa_cons (pe_int) pa_nil))))))))))))))))), ?_⟩
    refine ⟨by show 15 ≤ sizeLine; decide, fun p hp => ?_⟩
    obtain ⟨w1, e1⟩ := w.fix hp (.lst (szSmall.map V.int))
    exact k p _ _ w1.done upd_same

/-! ### small: a record by a drawn row -/
def nsOf (a b : Int) (n : Nat) : List Int := (List.range n).map fun (i : Nat) => 1 + a + (0 + (i : Int)) * (b + 1)
def otOf (b : Int) (n : Nat) : List Int := (List.range n).map fun (i : Nat) => 2 + b + 3 * (0 + (i : Int))
theorem range_at {α : Type} {f : Nat → α} {n i : Nat} {x : α} (h : ((List.range n).map f)[i]? = some x) : i < n ∧ x = f i := by
  rw [List.getElem?_map] at h
  by_cases c : i < n
  · rw [List.getElem?_range c] at h
    exact ⟨c, (Option.some.inj h).symm⟩
  · rw [List.getElem?_eq_none (by simpa using c)] at h
    cases h
theorem nsOf_ok {a b : Int} {n : Nat} (ha : 0 ≤ a ∧ a < 900) (hb : 0 ≤ b ∧ b < 90) (hn : n ≤ 3) : NsOk (nsOf a b n) := by
  have val : ∀ x ∈ nsOf a b n, ∃ i : Nat, i < n ∧ x = 1 + a + (0 + (i : Int)) * (b + 1) := fun x hx => by
    obtain ⟨i, hi, rfl⟩ := List.mem_map.mp hx
    exact ⟨i, List.mem_range.mp hi, rfl⟩
  have bd : ∀ i : Nat, i < n → 0 ≤ (0 + (i : Int)) * (b + 1) ∧ (0 + (i : Int)) * (b + 1) ≤ 180 := fun i hi => by
    have : i = 0 ∨ i = 1 ∨ i = 2 := by omega
    rcases this with rfl | rfl | rfl
    · simp
    · have e : (0 + ((1 : Nat) : Int)) * (b + 1) = b + 1 := by simp
      rw [e]; omega
    · have e : (0 + ((2 : Nat) : Int)) * (b + 1) = 2 * (b + 1) := by simp
      rw [e]; omega
  refine ⟨fun x hx => ?_, fun x hx => ?_, ?_, by unfold nsOf; simp; omega⟩
  · obtain ⟨i, hi, rfl⟩ := val x hx
    have := bd i hi
    exact ⟨by omega, by omega⟩
  · obtain ⟨i, hi, rfl⟩ := val x hx
    have := bd i hi
    omega
  · unfold nsOf
    rw [List.pairwise_map]
    refine List.Pairwise.imp ?_ (List.pairwise_lt_range (n := n))
    intro i j hij
    have h1 : (0 + (i : Int)) * (b + 1) < (0 + (j : Int)) * (b + 1) := Int.mul_lt_mul_of_pos_right (by omega) (by omega)
    omega
theorem otOf_ok {b : Int} {n : Nat} (hb : 0 ≤ b ∧ b < 90) (hn : n ≤ 3) : NsOk (otOf b n) := by
  have val : ∀ x ∈ otOf b n, ∃ i : Nat, i < n ∧ x = 2 + b + 3 * (0 + (i : Int)) := fun x hx => by
    obtain ⟨i, hi, rfl⟩ := List.mem_map.mp hx
    exact ⟨i, List.mem_range.mp hi, rfl⟩
  refine ⟨fun x hx => ?_, fun x hx => ?_, ?_, by unfold otOf; simp; omega⟩
  · obtain ⟨i, hi, rfl⟩ := val x hx
    exact ⟨by omega, by omega⟩
  · obtain ⟨i, hi, rfl⟩ := val x hx
    omega
  · unfold otOf
    rw [List.pairwise_map]
    refine List.Pairwise.imp ?_ (List.pairwise_lt_range (n := n))
    intro i j hij
    omega
/-- two texts in order, not the same -/
theorem lt_of_not {a b : Str} (h1 : a ≠ b) (h2 : ¬ tl b < tl a) : tl a < tl b := by
  rcases Decidable.em (tl a < tl b) with h | h
  · exact h
  · exact absurd (str_eq (List.le_antisymm (List.not_lt.mp h2) (List.not_lt.mp h))) h1
theorem sort_two {α : Type} (le : α → α → Bool) (x y : α) : [x, y].mergeSort le = if le x y = true then [x, y] else [y, x] := by
  simp [List.mergeSort, List.MergeSort.Internal.splitInTwo, List.merge]
theorem dataLt_names {a b : Str} {ns ms : List Int} (h : a ≠ b) : PySem.W.dataLt (encName (a, ns)) (encName (b, ms)) = decide (tl a < tl b) := by
  unfold encName encNs
  rw [PySem.W.dataLt_pair (by simp [PySem.W.alike]) (by rw [PySem.W.alike]; exact PySem.W.alike_ints _ _), if_neg]
  · exact PySem.W.dataLt_str _ _
  · rw [PyData.eqv]
    simpa using h
theorem sorted_names {v1 v2 : V} {a b : Str} {ns ms : List Int} (h : a ≠ b) : (sortD [v1, v2] [encName (a, ns), encName (b, ms)] = if tl b < tl a then [(v2, encName (b, ms)), (v1, encName (a, ns))] else [(v1, encName (a, ns)), (v2, encName (b, ms))]) := by
  unfold sortD
  show [(v1, encName (a, ns)), (v2, encName (b, ms))].mergeSort _ = _
  rw [sort_two, PySem.W.dataLe_eq]
  show (if (!PySem.W.dataLt (encName (b, ms)) (encName (a, ns))) = true then _ else _) = _
  rw [dataLt_names (Ne.symm h)]
  by_cases c : tl b < tl a
  · rw [if_pos c, decide_eq_true c]; rfl
  · rw [if_neg c, decide_eq_false c]; rfl

end
end Q

set_option Elab.async false
set_option linter.all false
set_option maxRecDepth 100000
set_option maxHeartbeats 8000000
namespace Q
open PySem PySem.Spec PyProof.Rows L2 TL PW Rc
section
variable {P : Program} {w : World} {K : PySem.W.Frag} {mg : Str → Option Value} {base : Heap} {A : Ad}
theorem row_ix {K : PySem.W.Frag} {H : Hp} {p : Addr} {R : List Int} {j : Nat} {d z : Int} {Q : VK} (hs : SqL K H p (R.map V.int)) (hd : R[j]? = some d) (hz : z = (j : Int)) (q : Q (.int d) H) : rIx K (.ref p) (.int z) H Q := by
  subst hz
  exact .inl ⟨p, _, _, _, rfl, rfl, hs, atI_nat (by rw [List.getElem?_map, hd]; rfl), q⟩
theorem str_ix {K : PySem.W.Frag} {H : Hp} {p : Addr} {R : List Str} {d : Str} {z : Int} {Q : VK} (hs : SqL K H p (R.map V.str)) (h0 : 0 ≤ z) (hd : R[z.toNat]? = some d) (q : Q (.str d) H) : rIx K (.ref p) (.int z) H Q := by
  have := atI_nat (xs := R.map V.str) (j := z.toNat) (v := .str d) (by rw [List.getElem?_map, hd]; rfl)
  rw [Int.toNat_of_nonneg h0] at this
  exact .inl ⟨p, _, _, _, rfl, rfl, hs, this, q⟩
def wOf (a b : Int) (R : List Int) (i : Nat) : Int × Int × Int := (1 + a + (0 + (i : Int)) * (b + 1), R.getD (14 + 2 * i) 0, R.getD (14 + 2 * i) 0 + 1 + R.getD (15 + 2 * i) 0)
def wsOf (a b : Int) (R : List Int) (n : Nat) : List (Int × Int × Int) := (List.range n).map (wOf a b R)
theorem wsOf_ok {a b : Int} {R : List Int} {n : Nat} (ha : 0 ≤ a ∧ a < 900) (hb : 0 ≤ b ∧ b < 90) (hn : n ≤ 2) (hR : ∀ j : Nat, 14 ≤ j → j ≤ 17 → 0 ≤ R.getD j 0 ∧ R.getD j 0 < 5) : WsOk (wsOf a b R n) := by
  have hN := nsOf_ok (n := n) ha hb (by omega)
  have e : (wsOf a b R n).map (·.1) = nsOf a b n := by
    unfold wsOf nsOf
    rw [List.map_map]
    rfl
  have mem : ∀ w ∈ wsOf a b R n, ∃ i : Nat, i < n ∧ w = wOf a b R i ∧ w.1 ∈ nsOf a b n := fun w hw => by
    have h1 : w.1 ∈ nsOf a b n := by rw [← e]; exact List.mem_map_of_mem (f := (·.1)) hw
    obtain ⟨i, hi, rfl⟩ := List.mem_map.mp hw
    exact ⟨i, List.mem_range.mp hi, rfl, h1⟩
  refine ⟨fun w hw => ?_, fun w hw => ?_, by rw [e]; exact hN.up, by unfold wsOf; rw [List.length_map, List.length_range]; omega⟩
  · obtain ⟨i, hi, rfl, h1⟩ := mem w hw
    have a1 := hR (14 + 2 * i) (by omega) (by omega)
    have a2 := hR (15 + 2 * i) (by omega) (by omega)
    refine ⟨hN.num _ h1, ⟨a1.1, by unfold wOf; show R.getD (14 + 2 * i) 0 < _; omega⟩, ?_, ?_⟩
    · show 0 ≤ R.getD (14 + 2 * i) 0 + 1 + R.getD (15 + 2 * i) 0; omega
    · show R.getD (14 + 2 * i) 0 + 1 + R.getD (15 + 2 * i) 0 < _; omega
  · obtain ⟨i, hi, rfl, h1⟩ := mem w hw
    have a2 := hR (15 + 2 * i) (by omega) (by omega)
    refine ⟨hN.pos _ h1, ?_⟩
    show R.getD (14 + 2 * i) 0 < R.getD (14 + 2 * i) 0 + 1 + R.getD (15 + 2 * i) 0
    omega
def capsOf (a : Int) (n : Nat) : List Int := (List.range n).map fun (i : Nat) => (a + 13 * (0 + (i : Int))) % 41
def spSmall (K : PySem.W.Frag) : Sp := fun vs H Q _ => ∃ (F : Hp) (p : Addr) (R : List Int) (isp : Bool) (q : Addr) (xs : List Str), vs = [.ref p, .int 5, .bl isp, .ref q] ∧ SqL K F p (R.map V.int) ∧ Drawn szRow R ∧ SqL K F q (xs.map V.str) ∧ xs.length = 4 ∧ (∀ x ∈ xs, NameOk x) ∧ Same F H ∧
  ∀ v F' H' (r : Rec), Step F H F' H' → Dp K F' v (encR r) → RecOk r → r.isPic = isp → Q v H'
theorem ok_L_small (T : Txt K mg A) : FnOk P w K mg base CX0 1 A.a_L_small A.d_L_small ["_law_row", "_law_k", "_law_is_picture", "_law_names_here"] (spSmall K) := by
  refine T.F_L_small.ok sc_L_small (fun vs H Q E h => ?_) (fun cdv A' outer s H vs Q E hr h => ?_)
  · obtain ⟨F, p, R, isp, q, xs, rfl, _⟩ := h; rfl
  · obtain ⟨F, p, R, isp, q, xs, rfl, hs, dr, hq, hx4, hxn, eF, k⟩ := h
    have hu64 := hu64_of hr
    have hu65 := hu65_of hr
    have w := Wd.start eF
    obtain ⟨r5, R5, b5, c5⟩ := drawn_at dr (i := 5) (s := 5) rfl
    obtain ⟨r6, R6, b6, c6⟩ := drawn_at dr (i := 6) (s := 4) rfl
    obtain ⟨r7, R7, b7, c7⟩ := drawn_at dr (i := 7) (s := 4) rfl
    obtain ⟨r8, R8, b8, c8⟩ := drawn_at dr (i := 8) (s := 4) rfl
    obtain ⟨r9, R9, b9, c9⟩ := drawn_at dr (i := 9) (s := 3) rfl
    obtain ⟨r10, R10, b10, c10⟩ := drawn_at dr (i := 10) (s := 900) rfl
    obtain ⟨r11, R11, b11, c11⟩ := drawn_at dr (i := 11) (s := 90) rfl
    obtain ⟨r12, R12, b12, c12⟩ := drawn_at dr (i := 12) (s := 3) rfl
    obtain ⟨r13, R13, b13, c13⟩ := drawn_at dr (i := 13) (s := 900) rfl
    obtain ⟨r18, R18, b18, c18⟩ := drawn_at dr (i := 18) (s := 4) rfl
    obtain ⟨r19, R19, b19, c19⟩ := drawn_at dr (i := 19) (s := 40) rfl
    have R14 : ∀ j : Nat, 14 ≤ j → j ≤ 17 → R[j]? = some (R.getD j 0) ∧ 0 ≤ R.getD j 0 ∧ R.getD j 0 < 5 := fun j h1 h2 => by
      obtain ⟨d, hd, d0, d1⟩ := drawn_at dr (i := j) (s := 5) (by
        have : j = 14 ∨ j = 15 ∨ j = 16 ∨ j = 17 := by omega
        rcases this with rfl | rfl | rfl | rfl <;> rfl)
      have e : R.getD j 0 = d := by rw [List.getD_eq_getElem?_getD, hd]; rfl
      rw [e]
      exact ⟨hd, d0, d1⟩
    refine ⟨_, pss_cons (ps_set (i := 4) sc_L_small.nd rfl (Or.inl rfl) (pe_callTy (call_tupleK (K := K) rfl) (by rfl) T.n_tuple (by decide +kernel) (pa_cons (pe_lc (own := [("_law_step", 7)]) rfl sc_L_small.nd (pi_range1 rfl T.n_range (pa_cons (pe_ix (ix_K (K := K) rfl) (pv 0) (pe_op (op_addK (K := K) rfl) (pv 1) (pe_int)) (fun _ _ => rfl)) pa_nil)) (blkOk_by (own := [("_law_step", 7)]) (N := ["_law_row", "_law_k", "_law_is_picture", "_law_names_here", "_law_numbers", "_law_others", "_law_wardens", "_law_step", "_law_low", "_law_first", "_law_second", "_law_caps", "_law_named"]) (sc := defScope s_L_small) (by decide +kernel)) (fun _ _ _ _ _ => pg_name (i := 7) sc_L_small.nd rfl (Or.inl rfl)) (fun _ _ _ _ _ => pts_nil) (fun _ _ _ _ _ => pe_op (op_addK (K := K) rfl) (pe_op (op_addK (K := K) rfl) (pe_int) (pe_ix (ix_K (K := K) rfl) (pv 0) (pe_op (op_addK (K := K) rfl) (pv 1) (pe_int)) (fun _ _ => rfl))) (pe_op op_mulU (pv 7) (pe_op (op_addK (K := K) rfl) (pe_ix (ix_K (K := K) rfl) (pv 0) (pe_op (op_addK (K := K) rfl) (pv 1) (pe_int)) (fun _ _ => rfl)) (pe_int))))) pa_nil)))
  (pss_cons (ps_set (i := 5) sc_L_small.nd rfl (Or.inl rfl) (pe_callTy (call_tupleK (K := K) rfl) (by rfl) T.n_tuple (by decide +kernel) (pa_cons (pe_lc (own := [("_law_step", 7)]) rfl sc_L_small.nd (pi_range1 rfl T.n_range (pa_cons (pe_ix (ix_K (K := K) rfl) (pv 0) (pe_op (op_addK (K := K) rfl) (pv 1) (pe_int)) (fun _ _ => rfl)) pa_nil)) (blkOk_by (own := [("_law_step", 7)]) (N := ["_law_row", "_law_k", "_law_is_picture", "_law_names_here", "_law_numbers", "_law_others", "_law_wardens", "_law_step", "_law_low", "_law_first", "_law_second", "_law_caps", "_law_named"]) (sc := defScope s_L_small) (by decide +kernel)) (fun _ _ _ _ _ => pg_name (i := 7) sc_L_small.nd rfl (Or.inl rfl)) (fun _ _ _ _ _ => pts_nil) (fun _ _ _ _ _ => pe_op (op_addK (K := K) rfl) (pe_op (op_addK (K := K) rfl) (pe_int) (pe_ix (ix_K (K := K) rfl) (pv 0) (pe_op (op_addK (K := K) rfl) (pv 1) (pe_int)) (fun _ _ => rfl))) (pe_op op_mulU (pe_int) (pv 7)))) pa_nil)))
  (pss_cons (ps_set (i := 6) sc_L_small.nd rfl (Or.inl rfl) (pe_lst (pa_nil)))
  (pss_cons (ps_for PassesOwn.never rfl (pi_range1 rfl T.n_range (pa_cons (pe_ix (ix_K (K := K) rfl) (pv 0) (pe_op (op_addK (K := K) rfl) (pv 1) (pe_int)) (fun _ _ => rfl)) pa_nil)) (pg_name (i := 7) sc_L_small.nd rfl (Or.inl rfl)) (pss_cons (ps_set (i := 8) sc_L_small.nd rfl (Or.inl rfl) (pe_ix (ix_K (K := K) rfl) (pv 0) (pe_op (op_addK (K := K) rfl) (pe_op (op_addK (K := K) rfl) (pv 1) (pe_int)) (pe_op op_mulU (pe_int) (pv 7))) (fun _ _ => rfl)))
    (pss_one (ps_expr (pe_bm PySem.F.plainAttrs_list PySem.F.slot_list_append PySem.F.type_list_append mt_append (pv 6) (pa_cons (pe_tup (pa_cons (pe_op (op_addK (K := K) rfl) (pe_op (op_addK (K := K) rfl) (pe_int) (pe_ix (ix_K (K := K) rfl) (pv 0) (pe_op (op_addK (K := K) rfl) (pv 1) (pe_int)) (fun _ _ => rfl))) (pe_op op_mulU (pv 7) (pe_op (op_addK (K := K) rfl) (pe_ix (ix_K (K := K) rfl) (pv 0) (pe_op (op_addK (K := K) rfl) (pv 1) (pe_int)) (fun _ _ => rfl)) (pe_int)))) (pa_cons (pv 8) (pa_cons (pe_op (op_addK (K := K) rfl) (pe_op (op_addK (K := K) rfl) (pv 8) (pe_int)) (pe_ix (ix_K (K := K) rfl) (pv 0) (pe_op (op_addK (K := K) rfl) (pe_op (op_addK (K := K) rfl) (pv 1) (pe_int)) (pe_op op_mulU (pe_int) (pv 7))) (fun _ _ => rfl))) pa_nil)))) pa_nil))))))
  (pss_cons (ps_set (i := 9) sc_L_small.nd rfl (Or.inl rfl) (pe_ix (ix_K (K := K) rfl) (pv 3) (pe_ix (ix_K (K := K) rfl) (pv 0) (pe_op (op_addK (K := K) rfl) (pv 1) (pe_int)) (fun _ _ => rfl)) (fun _ _ => rfl)))
  (pss_cons (ps_set (i := 10) sc_L_small.nd rfl (Or.inl rfl) (pe_ix (ix_K (K := K) rfl) (pv 3) (pe_ix (ix_K (K := K) rfl) (pv 0) (pe_op (op_addK (K := K) rfl) (pv 1) (pe_int)) (fun _ _ => rfl)) (fun _ _ => rfl)))
  (pss_cons (ps_if (pt_truth (pv 2) (by intro _; rfl)) (pss_cons (ps_set (i := 11) sc_L_small.nd rfl (Or.inl rfl) (pe_callTy (call_tupleK (K := K) rfl) (by rfl) T.n_tuple (by decide +kernel) (pa_cons (pe_lc (own := [("_law_step", 7)]) rfl sc_L_small.nd (pi_range1 rfl T.n_range (pa_cons (pe_op (op_addK (K := K) rfl) (pe_ix (ix_K (K := K) rfl) (pv 0) (pe_op (op_addK (K := K) rfl) (pv 1) (pe_int)) (fun _ _ => rfl)) (pe_int)) pa_nil)) (blkOk_by (own := [("_law_step", 7)]) (N := ["_law_row", "_law_k", "_law_is_picture", "_law_names_here", "_law_numbers", "_law_others", "_law_wardens", "_law_step", "_law_low", "_law_first", "_law_second", "_law_caps", "_law_named"]) (sc := defScope s_L_small) (by decide +kernel)) (fun _ _ _ _ _ => pg_name (i := 7) sc_L_small.nd rfl (Or.inl rfl)) (fun _ _ _ _ _ => pts_nil) (fun _ _ _ _ _ => pe_op op_mod (pe_callTy call_intU (by rfl) T.n_int (by decide +kernel) (pa_cons (pe_op (op_addK (K := K) rfl) (pe_ix (ix_K (K := K) rfl) (pv 0) (pe_op (op_addK (K := K) rfl) (pv 1) (pe_int)) (fun _ _ => rfl)) (pe_op op_mulU (pe_int) (pv 7))) pa_nil)) (pe_int))) pa_nil)))
    (pss_cons (ps_set (i := 12) sc_L_small.nd rfl (Or.inl rfl) (pe_lst (pa_nil)))
    (pss_cons (ps_if (pt_cmpR (op_gtK (K := K) rfl) (pe_ix (ix_K (K := K) rfl) (pv 0) (pe_op (op_addK (K := K) rfl) (pv 1) (pe_int)) (fun _ _ => rfl)) (pe_int) (nomark _)) (pss_one (ps_set (i := 12) sc_L_small.nd rfl (Or.inl rfl) (pe_lst (pa_cons (pe_tup (pa_cons (pv 9) (pa_cons (pv 4) pa_nil))) pa_nil)))) (pss_nil))
    (pss_cons (ps_if (PW.pt (pw_and (pt_cmpR (op_gtK (K := K) rfl) (pe_ix (ix_K (K := K) rfl) (pv 0) (pe_op (op_addK (K := K) rfl) (pv 1) (pe_int)) (fun _ _ => rfl)) (pe_int) (nomark _)) (pw_and1 (pt_cmpR (op_neK (K := K) rfl hu64) (pv 9) (pv 10) (nomark _))))) (pss_one (ps_set (i := 12) sc_L_small.nd rfl (Or.inl rfl) (pe_callB (cr_sortedDK (K := K) rfl hu64) (by rfl) T.n_sorted (by decide +kernel) (pa_cons (pe_lst (pa_cons (pe_tup (pa_cons (pv 9) (pa_cons (pv 4) pa_nil))) (pa_cons (pe_tup (pa_cons (pv 10) (pa_cons (pv 5) pa_nil))) pa_nil))) pa_nil)))) (pss_nil))
    (pss_one (ps_ret (pe_tup (pa_cons (pe_str) (pa_cons (pv 11) (pa_cons (pe_callTy (call_tupleK (K := K) rfl) (by rfl) T.n_tuple (by decide +kernel) (pa_cons (pv 12) pa_nil)) (pa_cons (pe_callTy (call_tupleK (K := K) rfl) (by rfl) T.n_tuple (by decide +kernel) (pa_cons (pv 6) pa_nil)) pa_nil))))))))))) (pss_nil))
  (pss_cons (ps_if (pt_cmpR (op_ltK (K := K) rfl) (pe_ix (ix_K (K := K) rfl) (pv 0) (pv 1) (fun _ _ => rfl)) (pe_int) (nomark _)) (pss_one (ps_ret (pe_tup (pa_cons (pe_str) (pa_cons (pv 9) (pa_cons (pv 4) (pa_cons (pe_callTy (call_tupleK (K := K) rfl) (by rfl) T.n_tuple (by decide +kernel) (pa_cons (pv 6) pa_nil)) pa_nil))))))) (pss_nil))
  (pss_cons (ps_if (pt_cmpR (op_eqK (K := K) rfl hu64) (pe_ix (ix_K (K := K) rfl) (pv 0) (pv 1) (fun _ _ => rfl)) (pe_int) (nomark _)) (pss_one (ps_ret (pe_tup (pa_cons (pe_str) (pa_cons (pv 9) pa_nil))))) (pss_nil))
  (pss_cons (ps_if (pt_cmpR (op_eqK (K := K) rfl hu64) (pe_ix (ix_K (K := K) rfl) (pv 0) (pv 1) (fun _ _ => rfl)) (pe_int) (nomark _)) (pss_one (ps_ret (pe_tup (pa_cons (pe_str) (pa_cons (pe_callTy (call_tupleK (K := K) rfl) (by rfl) T.n_tuple (by decide +kernel) (pa_cons (pv 6) pa_nil)) pa_nil))))) (pss_nil))
  (pss_one (ps_ret (pe_tup (pa_cons (pe_str) (pa_cons (pe_ix (ix_K (K := K) rfl) (pv 0) (pe_op (op_addK (K := K) rfl) (pv 1) (pe_int)) (fun _ _ => rfl)) (pa_cons (pe_ix (ix_K (K := K) rfl) (pv 0) (pe_op (op_addK (K := K) rfl) (pv 1) (pe_int)) (fun _ _ => rfl)) (pa_cons (pe_callTy (call_tupleK (K := K) rfl) (by rfl) T.n_tuple (by decide +kernel) (pa_cons (pv 6) pa_nil)) pa_nil)))))))))))))))), ?_⟩
    -- numbers
    refine ⟨_, rfl, _, rfl, .inl ⟨_, _, rfl, rfl, row_ix (w.l hs) R8 rfl ⟨r8, rfl, by omega, by omega, fun D hD => ?_⟩⟩⟩
    refine lc_wdR (K := K) (lo := 0) (n := r8.toNat) ((nsOf r10 r11 r8.toNat).map PyData.int) (by simp [nsOf]) w hD (by omega) ?_ ?_
    · intro i d F1 H1 acc Q1 hi hd e1 w1 kk
      obtain ⟨x, hx, rfl⟩ := item_map hd
      obtain ⟨_, rfl⟩ := range_at hx
      have hs1 := w1.l (same_l e1 hs)
      refine ⟨rfl, _, rfl, _, rfl, .inl ⟨_, _, rfl, rfl, row_ix hs1 R10 rfl (.inl ⟨_, _, rfl, rfl, _, rfl, _, rfl, _, rfl, .inl ⟨_, _, rfl, rfl, row_ix hs1 R11 rfl (.inl ⟨_, _, rfl, rfl, .inl ⟨_, _, rfl, rfl, .inl ⟨by omega, by omega⟩, .inl ⟨_, _, rfl, rfl, ?_⟩⟩⟩)⟩⟩)⟩⟩
      exact kk _ F1 H1 (.refl w1.fh) (.int _)
    intro vs1 F1 H1 e1 w1 da1
    have ev1 := dpa_ints da1
    subst ev1
    refine ⟨D, _, rfl, .inl ⟨.of w1.at_, fun q1 hq1 => ?_⟩⟩
    obtain ⟨w2, e2⟩ := w1.drop.fix hq1 (.tup ((nsOf r10 r11 r8.toNat).map V.int))
    generalize hF2 : upd F1 q1 (.tup ((nsOf r10 r11 r8.toNat).map V.int)) = F2 at w2 e2
    have DN : Dp K F2 (.ref q1) (encNs (nsOf r10 r11 r8.toNat)) := .tup (.of (by rw [← hF2]; exact upd_same)) dpa_of_ints
    generalize upd H1 q1 (.tup ((nsOf r10 r11 r8.toNat).map V.int)) = H2 at w2 ⊢
    clear da1 w1
    have hs2 := same_l (e1.trans e2) hs
    -- others
    refine ⟨_, rfl, _, rfl, .inl ⟨_, _, rfl, rfl, row_ix (w2.l hs2) R9 rfl ⟨r9, rfl, by omega, by omega, fun D2 hD2 => ?_⟩⟩⟩
    refine lc_wdR (K := K) (lo := 0) (n := r9.toNat) ((otOf r11 r9.toNat).map PyData.int) (by simp [otOf]) w2 hD2 (by omega) ?_ ?_
    · intro i d F3 H3 acc Q1 hi hd e3 w3 kk
      obtain ⟨x, hx, rfl⟩ := item_map hd
      obtain ⟨_, rfl⟩ := range_at hx
      have hs3 := w3.l (same_l e3 hs2)
      refine ⟨rfl, _, rfl, _, rfl, .inl ⟨_, _, rfl, rfl, row_ix hs3 R11 rfl (.inl ⟨_, _, rfl, rfl, _, rfl, .inl ⟨_, _, rfl, rfl, .inl ⟨by decide, by decide⟩, .inl ⟨_, _, rfl, rfl, ?_⟩⟩⟩)⟩⟩
      exact kk _ F3 H3 (.refl w3.fh) (.int _)
    intro vs3 F3 H3 e3 w3 da3
    have ev3 := dpa_ints da3
    subst ev3
    refine ⟨D2, _, rfl, .inl ⟨.of w3.at_, fun q4 hq4 => ?_⟩⟩
    obtain ⟨w4, e4⟩ := w3.drop.fix hq4 (.tup ((otOf r11 r9.toNat).map V.int))
    generalize hF4 : upd F3 q4 (.tup ((otOf r11 r9.toNat).map V.int)) = F4 at w4 e4
    have DO : Dp K F4 (.ref q4) (encNs (otOf r11 r9.toNat)) := .tup (.of (by rw [← hF4]; exact upd_same)) dpa_of_ints
    generalize upd H3 q4 (.tup ((otOf r11 r9.toNat).map V.int)) = H4 at w4 ⊢
    clear da3 w3
    have hs4 := same_l (e3.trans e4) hs2
    have DN4 := dp_mono (e3.trans e4) DN
    have e04 := ((e1.trans e2).trans e3).trans e4
    -- wardens
    refine ⟨Nat.zero_le _, fun D5 hD5 => ?_⟩
    have w5 := w4.own hD5 (.lst [])
    refine ⟨_, rfl, _, rfl, .inl ⟨_, _, rfl, rfl, row_ix (w5.l hs4) R12 rfl ⟨r12, rfl, by omega, by omega, ?_⟩⟩⟩
    refine for_range (lo := 0) (n := r12.toNat) (fun i σ H' => ∃ (acc : List V) (F6 : Hp) (v7 v8 : Option V), σ = [some (.ref p), some (.int 5), some (.bl isp), some (.ref q), some (.ref q1), some (.ref q4), some (.ref D5), v7, v8, none, none, none, none] ∧ Same F4 F6 ∧ Wd F H F6 H' [(D5, .lst acc)] ∧ DpAll K F6 acc ((wsOf r13 r11 R i).map encW))
      ⟨[], F4, none, none, rfl, .refl F4, w5, .nil⟩ ?_ ?_
    · rintro i σ H6 hi ⟨acc, F6, v7, v8, rfl, e6, w6, da6⟩
      have hs6 := w6.l (same_l e6 hs4)
      have hi2 : i = 0 ∨ i = 1 := by omega
      obtain ⟨A14, _, _⟩ := R14 (14 + 2 * i) (by omega) (by omega)
      obtain ⟨A15, _, _⟩ := R14 (15 + 2 * i) (by omega) (by omega)
      refine ⟨_, rfl, _, rfl, .inl ⟨_, _, rfl, rfl, _, rfl, .inl ⟨_, _, rfl, rfl, .inl ⟨by decide, by decide⟩, .inl ⟨_, _, rfl, rfl, row_ix hs6 A14 (by omega) ?_⟩⟩⟩⟩
      refine ⟨_, rfl, .inl ⟨rfl, _, .of w6.at_⟩, _, rfl, _, rfl, .inl ⟨_, _, rfl, rfl, row_ix hs6 R13 rfl (.inl ⟨_, _, rfl, rfl, _, rfl, _, rfl, _, rfl, .inl ⟨_, _, rfl, rfl, row_ix hs6 R11 rfl (.inl ⟨_, _, rfl, rfl, .inl ⟨_, _, rfl, rfl, .inl ⟨by omega, by omega⟩, .inl ⟨_, _, rfl, rfl, ?_⟩⟩⟩)⟩⟩)⟩⟩
      refine ⟨_, rfl, _, rfl, .inl ⟨_, _, rfl, rfl, _, rfl, _, rfl, .inl ⟨_, _, rfl, rfl, _, rfl, .inl ⟨_, _, rfl, rfl, .inl ⟨by decide, by decide⟩, .inl ⟨_, _, rfl, rfl, row_ix hs6 A15 (by omega) (.inl ⟨_, _, rfl, rfl, by show 3 ≤ sizeLine; decide, fun q7 hq7 => ?_⟩)⟩⟩⟩⟩⟩
      obtain ⟨w7, e7⟩ := w6.fix hq7 (.tup [.int (1 + r13 + (0 + (i : Int)) * (r11 + 1)), .int (R.getD (14 + 2 * i) 0), .int (R.getD (14 + 2 * i) 0 + 1 + R.getD (15 + 2 * i) 0)])
      have hal : acc.length = i := by rw [dpa_len da6]; simp [wsOf]
      refine ⟨D5, acc, _, rfl, rfl, w7.at_, small' (by omega), ?_⟩
      refine ⟨acc ++ [.ref q7], _, _, _, rfl, e6.trans e7, w7.set _, ?_⟩
      have ew : (wsOf r13 r11 R (i + 1)).map encW = (wsOf r13 r11 R i).map encW ++ [encW (wOf r13 r11 R i)] := by
        unfold wsOf
        rw [List.range_succ]
        simp
      rw [ew]
      exact dpa_snoc (dpa_mono e7 da6) (.tup (.of upd_same) (.cons (.int _) (.cons (.int _) (.cons (.int _) .nil))))
    rintro σ H6 ⟨acc, F6, v7, v8, rfl, e6, w6, da6⟩
    have WO : WsOk (wsOf r13 r11 R r12.toNat) := wsOf_ok ⟨b13, c13⟩ ⟨b11, c11⟩ (by omega) fun j h1 h2 => (R14 j h1 h2).2
    have NO : NsOk (nsOf r10 r11 r8.toNat) := nsOf_ok ⟨b10, c10⟩ ⟨b11, c11⟩ (by omega)
    have OO : NsOk (otOf r11 r9.toNat) := otOf_ok ⟨b11, c11⟩ (by omega)
    generalize wsOf r13 r11 R r12.toNat = ws at da6 WO
    generalize nsOf r10 r11 r8.toNat = ns at DN4 NO
    generalize otOf r11 r9.toNat = os at DO OO
    have hs6 := same_l e6 hs4
    have hq6 := same_l (e04.trans e6) hq
    have DN6 := dp_mono e6 DN4
    have DO6 := dp_mono e6 DO
    -- first, second
    obtain ⟨x1, hx1⟩ : ∃ x, xs[r6.toNat]? = some x := ⟨_, List.getElem?_eq_getElem (by omega)⟩
    obtain ⟨x2, hx2⟩ : ∃ x, xs[r7.toNat]? = some x := ⟨_, List.getElem?_eq_getElem (by omega)⟩
    have X1 := hxn x1 (List.mem_of_getElem? hx1)
    have X2 := hxn x2 (List.mem_of_getElem? hx2)
    refine ⟨_, rfl, _, rfl, _, rfl, .inl ⟨_, _, rfl, rfl, row_ix (w6.l hs6) R6 rfl (str_ix (w6.l hq6) b6 hx1 ?_)⟩⟩
    refine ⟨_, rfl, _, rfl, _, rfl, .inl ⟨_, _, rfl, rfl, row_ix (w6.l hs6) R7 rfl (str_ix (w6.l hq6) b7 hx2 ?_)⟩⟩
    refine ⟨_, rfl, isp, rfl, iteB (fun hisp => ?_) (fun hisp => ?_)⟩
    · -- a picture
      subst hisp
      refine ⟨_, rfl, _, rfl, .inl ⟨_, _, rfl, rfl, row_ix (w6.l hs6) R18 rfl (.inl ⟨_, _, rfl, rfl, r18 + 1, rfl, by omega, by omega, fun D7 hD7 => ?_⟩)⟩⟩
      refine lc_wdR (K := K) (lo := 0) (n := (r18 + 1).toNat) ((capsOf r19 (r18 + 1).toNat).map PyData.int) (by simp [capsOf]) w6 hD7 (by omega) ?_ ?_
      · intro i d F7 H7 acc7 Q7 hi hd e7 w7 kk
        obtain ⟨x, hx, rfl⟩ := item_map hd
        obtain ⟨_, rfl⟩ := range_at hx
        have hs7 := w7.l (same_l e7 hs6)
        refine ⟨rfl, _, rfl, _, rfl, .inl ⟨_, _, rfl, rfl, row_ix hs7 R19 rfl ⟨_, rfl, .inl ⟨_, _, rfl, rfl, .inl ⟨by decide, by decide⟩, .inl ⟨_, _, rfl, rfl, .inl ⟨_, rfl, _, _, rfl, rfl, (by show (0 : Int) < 41; decide), ?_⟩⟩⟩⟩⟩⟩
        exact kk _ F7 H7 (.refl w7.fh) (.int _)
      intro vs7 F7 H7 e7 w7 da7
      have ev7 := dpa_ints da7
      subst ev7
      have CO : (capsOf r19 (r18 + 1).toNat) ≠ [] ∧ (∀ c ∈ capsOf r19 (r18 + 1).toNat, NumOk c) ∧ (capsOf r19 (r18 + 1).toNat).length ≤ 100 := by
        have hl : (capsOf r19 (r18 + 1).toNat).length = (r18 + 1).toNat := by simp [capsOf]
        refine ⟨fun z => ?_, fun c hc => ?_, by omega⟩
        · rw [z] at hl
          have : ([] : List Int).length = 0 := rfl
          omega
        · obtain ⟨i, _, rfl⟩ := List.mem_map.mp hc
          exact ⟨Int.emod_nonneg _ (by decide), Int.lt_trans (Int.emod_lt_of_pos _ (by decide)) (by decide)⟩
      generalize capsOf r19 (r18 + 1).toNat = caps at w7 CO ⊢
      refine ⟨D7, _, rfl, .inl ⟨.of w7.at_, fun q8 hq8 => ?_⟩⟩
      obtain ⟨w8, e8⟩ := w7.drop.fix hq8 (.tup (caps.map V.int))
      generalize hF8 : upd F7 q8 (.tup (caps.map V.int)) = F8 at w8 e8
      have DC : Dp K F8 (.ref q8) (encNs caps) := .tup (.of (by rw [← hF8]; exact upd_same)) dpa_of_ints
      generalize upd H7 q8 (.tup (caps.map V.int)) = H8 at w8 ⊢
      clear da7 w7
      have e68 := e7.trans e8
      -- the end of it
      have fin : ∀ (D9 : Addr) (F9 H9 : Hp) (vs9 : List V) (names : List (Str × List Int)) (v7' : Option V), Same F8 F9 → Wd F H F9 H9 [(D9, .lst vs9), (D5, .lst acc)] → DpAll K F9 vs9 (names.map encName) → (∀ p ∈ names, NameOk p.1 ∧ NsOk p.2) → (names.map (·.1)).Pairwise (fun x y => tl x < tl y) → names.length ≤ 100 →
          tRet (tTup (tCons (tC (.str wPicture)) (tCons (tVar 11) (tCons (tCB (rTupOf K) (tCons (tVar 12) tNil)) (tCons (tCB (rTupOf K) (tCons (tVar 6) tNil)) tNil))))) { nx := fun _ _ => False, rt := Q } [some (.ref p), some (.int 5), some (.bl true), some (.ref q), some (.ref q1), some (.ref q4), some (.ref D5), v7', v8, some (.str x1), some (.str x2), some (.ref q8), some (.ref D9)] H9 := by
        intro D9 F9 H9 vs9 names v7' e9 w9 da9 nm1 nm2 nm3
        refine ⟨_, rfl, _, rfl, D9, _, rfl, .inl ⟨.of w9.at_, fun qa hqa => ?_⟩⟩
        obtain ⟨wa, ea⟩ := w9.drop.fix hqa (.tup vs9)
        refine ⟨_, rfl, D5, _, rfl, .inl ⟨.of wa.at_, fun qb hqb => ?_⟩⟩
        obtain ⟨wb, eb⟩ := wa.drop.fix hqb (.tup acc)
        refine ⟨by show 4 ≤ sizeLine; decide, fun qc hqc => ?_⟩
        obtain ⟨wc, ec⟩ := wb.fix hqc (.tup [.str wPicture, .ref q8, .ref qa, .ref qb])
        refine k _ _ _ (.picture caps names ws) wc.done ?_ ⟨CO.1, CO.2.1, CO.2.2, nm1, nm2, nm3, WO⟩ rfl
        refine .tup (.of upd_same) (.cons (.str _) (.cons (dp_mono (((e9.trans ea).trans eb).trans ec) DC) (.cons (dp_mono (eb.trans ec) (.tup (.of upd_same) (dpa_mono ea da9))) (.cons (dp_mono ec (.tup (.of upd_same) (dpa_mono (((e68.trans e9).trans ea).trans eb) da6))) .nil))))
      refine ⟨Nat.zero_le _, fun D9 hD9 => ?_⟩
      have w9 := w8.own hD9 (.lst [])
      have hs8 := same_l e68 hs6
      have DN8 := dp_mono e68 DN6
      have DO8 := dp_mono e68 DO6
      refine ⟨_, rfl, _, rfl, .inl ⟨_, _, rfl, rfl, row_ix (w9.l hs8) R8 rfl (.inl ⟨_, _, rfl, rfl, _, rfl, iteD (fun c1 => ?_) (fun c1 => ?_)⟩)⟩⟩
      · -- one name
        refine ⟨_, rfl, _, rfl, by show 2 ≤ sizeLine; decide, fun qd hqd => ?_⟩
        obtain ⟨wd, ed⟩ := w9.drop.fix hqd (.tup [.str x1, .ref q1])
        refine ⟨by show 1 ≤ sizeLine; decide, fun De hDe => ?_⟩
        have we := wd.own hDe (.lst [.ref qd])
        have one : ∀ p ∈ [(x1, ns)], NameOk p.1 ∧ NsOk p.2 := fun p hp => by rw [List.mem_singleton.mp hp]; exact ⟨X1, NO⟩
        have D1 : DpAll K (upd F8 qd (.tup [.str x1, .ref q1])) [.ref qd] ([(x1, ns)].map encName) := .cons (.tup (.of upd_same) (.cons (.str _) (.cons (dp_mono ed DN8) .nil))) .nil
        refine ⟨_, rfl, _, rfl, .inl ⟨_, _, rfl, rfl, row_ix (we.l (same_l ed hs8)) R8 rfl (.inl ⟨_, _, rfl, rfl, _, rfl, iteD (fun c2 => ?_) (fun c2 => ?_)⟩)⟩⟩
        · refine ⟨_, rfl, _, rfl, .inl ⟨rfl, _, rfl, iteND (fun c3 => ?_) (fun c3 => ?_)⟩⟩
          · -- two names
            have hne : x1 ≠ x2 := fun z => c3 (by rw [z])
            refine ⟨_, rfl, _, rfl, by show 2 ≤ sizeLine; decide, fun qf hqf => ?_⟩
            obtain ⟨wf, ef⟩ := we.drop.fix hqf (.tup [.str x1, .ref q1])
            refine ⟨_, rfl, _, rfl, by show 2 ≤ sizeLine; decide, fun qg hqg => ?_⟩
            obtain ⟨wg, eg⟩ := wf.fix hqg (.tup [.str x2, .ref q4])
            refine ⟨by show 2 ≤ sizeLine; decide, fun Dh hDh => ?_⟩
            have wh := wg.own hDh (.lst [.ref qf, .ref qg])
            generalize hFg : upd (upd (upd F8 qd (.tup [.str x1, .ref q1])) qf (.tup [.str x1, .ref q1])) qg (.tup [.str x2, .ref q4]) = Fg at *
            have Df : Dp K Fg (.ref qf) (encName (x1, ns)) := .tup (.of (eg _ _ upd_same)) (.cons (.str _) (.cons (dp_mono ((ed.trans ef).trans eg) DN8) .nil))
            have Dg : Dp K Fg (.ref qg) (encName (x2, os)) := .tup (.of (by rw [← hFg]; exact upd_same)) (.cons (.str _) (.cons (dp_mono ((ed.trans ef).trans eg) DO8) .nil))
            have e8g : Same F8 Fg := (ed.trans ef).trans eg
            have two : ∀ p ∈ [(x1, ns), (x2, os)], NameOk p.1 ∧ NsOk p.2 := fun p hp => by
              simp only [List.mem_cons, List.not_mem_nil, or_false] at hp
              rcases hp with rfl | rfl
              · exact ⟨X1, NO⟩
              · exact ⟨X2, OO⟩
            refine ⟨Dh, _, [encName (x1, ns), encName (x2, os)], rfl, .of wh.at_, .cons (wh.d Df) (.cons (wh.d Dg) .nil), ?_, ?_, ?_, fun Di hDi => ?_⟩
            · refine fun d hd d' hd' => ?_
              have al : ∀ a b : Str × List Int, PySem.W.alike (encName a) (encName b) = true := fun a b => by
                show PySem.W.alike (.tuple [.str a.1, .tuple (a.2.map .int)]) (.tuple [.str b.1, .tuple (b.2.map .int)]) = true
                rw [PySem.W.alike, PySem.W.alikeAll, PySem.W.alikeAll, PySem.W.alikeAll, PySem.W.alike, PySem.W.alike, PySem.W.alike_ints]
                rfl
              simp only [List.mem_cons, List.not_mem_nil, or_false] at hd hd'
              rcases hd with rfl | rfl <;> rcases hd' with rfl | rfl <;> exact al _ _
            · refine .inl fun d hd => ?_
              simp only [List.mem_cons, List.not_mem_nil, or_false] at hd
              rcases hd with rfl | rfl
              · exact ⟨_, _, rfl⟩
              · exact ⟨_, _, rfl⟩
            · intro d hd
              simp only [List.mem_cons, List.not_mem_nil, or_false] at hd
              rcases hd with rfl | rfl
              · exact Nat.le_trans (depth_name _) (by decide)
              · exact Nat.le_trans (depth_name _) (by decide)
            · rw [sorted_names hne]
              have wi := wh.drop.own hDi (.lst ((if tl x2 < tl x1 then [(V.ref qg, encName (x2, os)), (V.ref qf, encName (x1, ns))] else [(V.ref qf, encName (x1, ns)), (V.ref qg, encName (x2, os))]).map (·.1)))
              by_cases cc : tl x2 < tl x1
              · rw [if_pos cc] at wi ⊢
                exact fin Di Fg _ _ [(x2, os), (x1, ns)] _ e8g wi (.cons Dg (.cons Df .nil)) (fun p hp => two p (by simp only [List.mem_cons, List.not_mem_nil, or_false] at hp ⊢; exact hp.symm)) (by simpa using cc) (by show 2 ≤ 100; decide)
              · rw [if_neg cc] at wi ⊢
                exact fin Di Fg _ _ [(x1, ns), (x2, os)] _ e8g wi (.cons Df (.cons Dg .nil)) two (by simpa using lt_of_not hne cc) (by show 2 ≤ 100; decide)
          · exact fin De _ _ _ [(x1, ns)] _ ed we D1 one (by simp) (by show 1 ≤ 100; decide)
        · exact iteF (fin De _ _ _ [(x1, ns)] _ ed we D1 one (by simp) (by show 1 ≤ 100; decide))
      · -- no name
        refine ⟨_, rfl, _, rfl, .inl ⟨_, _, rfl, rfl, row_ix (w9.l hs8) R8 rfl (.inl ⟨_, _, rfl, rfl, _, rfl, iteNo (by omega) (iteF ?_)⟩)⟩⟩
        exact fin D9 F8 _ _ [] _ (.refl F8) w9 .nil (fun _ h => by cases h) (by simp) (by decide)
    · subst hisp
      -- put
      refine ⟨_, rfl, _, rfl, row_ix (w6.l hs6) R5 rfl (.inl ⟨_, _, rfl, rfl, _, rfl, iteD (fun c1 => ?_) (fun c1 => ?_)⟩)⟩
      · refine ⟨_, rfl, _, rfl, _, rfl, D5, _, rfl, .inl ⟨.of w6.at_, fun qx hqx => ⟨by show 4 ≤ sizeLine; decide, fun qa hqa => ?_⟩⟩⟩
        obtain ⟨w7, e7⟩ := w6.drop.fix hqx (.tup acc)
        obtain ⟨wa, ea⟩ := w7.fix hqa (.tup [.str wPut, .str x1, .ref q1, .ref qx])
        exact k _ _ _ (.put x1 ns ws) wa.done (.tup (.of upd_same) (.cons (.str _) (.cons (.str _) (.cons (dp_mono (e7.trans ea) DN6) (.cons (dp_mono ea (.tup (.of upd_same) (dpa_mono e7 da6))) .nil))))) ⟨X1, NO, WO⟩ rfl
      refine ⟨_, rfl, _, rfl, row_ix (w6.l hs6) R5 rfl (.inl ⟨rfl, _, rfl, iteD (fun c2 => ?_) (fun c2 => ?_)⟩)⟩
      · refine ⟨_, rfl, by show 2 ≤ sizeLine; decide, fun qa hqa => ?_⟩
        obtain ⟨wa, ea⟩ := w6.drop.fix hqa (.tup [.str wErase, .str x1])
        exact k _ _ _ (.erase x1) wa.done (.tup (.of upd_same) (.cons (.str _) (.cons (.str _) .nil))) X1 rfl
      refine ⟨_, rfl, _, rfl, row_ix (w6.l hs6) R5 rfl (.inl ⟨rfl, _, rfl, iteD (fun c3 => ?_) (fun c3 => ?_)⟩)⟩
      · refine ⟨_, rfl, D5, _, rfl, .inl ⟨.of w6.at_, fun qx hqx => ⟨by show 2 ≤ sizeLine; decide, fun qa hqa => ?_⟩⟩⟩
        obtain ⟨w7, e7⟩ := w6.drop.fix hqx (.tup acc)
        obtain ⟨wa, ea⟩ := w7.fix hqa (.tup [.str wDeal, .ref qx])
        exact k _ _ _ (.deal ws) wa.done (.tup (.of upd_same) (.cons (.str _) (.cons (dp_mono ea (.tup (.of upd_same) (dpa_mono e7 da6))) .nil))) WO rfl
      · refine ⟨_, rfl, _, rfl, .inl ⟨_, _, rfl, rfl, row_ix (w6.l hs6) R18 rfl ⟨_, rfl, _, rfl, .inl ⟨_, _, rfl, rfl, row_ix (w6.l hs6) R19 rfl ⟨_, rfl, D5, _, rfl, .inl ⟨.of w6.at_, fun qx hqx => ⟨by show 4 ≤ sizeLine; decide, fun qa hqa => ?_⟩⟩⟩⟩⟩⟩⟩
        obtain ⟨w7, e7⟩ := w6.drop.fix hqx (.tup acc)
        obtain ⟨wa, ea⟩ := w7.fix hqa (.tup [.str wCap, .int r18, .int r19, .ref qx])
        exact k _ _ _ (.cap r18 r19 ws) wa.done (.tup (.of upd_same) (.cons (.str _) (.cons (.int _) (.cons (.int _) (.cons (dp_mono ea (.tup (.of upd_same) (dpa_mono e7 da6))) .nil))))) ⟨⟨b18, by omega⟩, ⟨b19, by omega⟩, WO⟩ rfl

end
end Q

set_option Elab.async false
set_option linter.all false
set_option maxRecDepth 100000
set_option maxHeartbeats 8000000
namespace Q
open PySem PySem.Spec PyProof.Rows L2 TL PW Rc
section
variable {P : Program} {w : World} {K : PySem.W.Frag} {mg : Str → Option Value} {base : Heap} {A : Ad}
/-! ### the world -/
def fuV : Option Int → V
  | none => .non
  | some f => .int f
def wf (sv dv : V) (l : Addr) (wr : Int) (fu : V) (kept : Int) : List (Str × V) := [("seats", sv), ("disks", dv), ("log", .ref l), ("writes", .int wr), ("fuse", fu), ("kept", .int kept)]
theorem lk_here {k : Str} {v : V} {r : List (Str × V)} : List.lookup k ((k, v) :: r) = some v := by
  have e : (k == k) = true := beq_self_eq_true k
  simp only [List.lookup, e]
theorem lk_past {k g : Str} {v : V} {r : List (Str × V)} (h : (k == g) = false) : List.lookup k ((g, v) :: r) = List.lookup k r := by
  simp only [List.lookup, h]
theorem put_here {f : Str} {v x : V} {r : List (Str × V)} : putF f v ((f, x) :: r) = (f, v) :: r := if_pos rfl
theorem put_past {f g : Str} {v x : V} {r : List (Str × V)} (h : ¬ g = f) : putF f v ((g, x) :: r) = (g, x) :: putF f v r := if_neg h
section
variable (sv dv : V) (l : Addr) (wr : Int) (fu : V) (kept : Int)
theorem wf_log : (wf sv dv l wr fu kept).lookup ("log" : Str) = some (.ref l) := (lk_past (by decide +kernel)).trans ((lk_past (by decide +kernel)).trans lk_here)
theorem wf_writes : (wf sv dv l wr fu kept).lookup ("writes" : Str) = some (.int wr) := (lk_past (by decide +kernel)).trans ((lk_past (by decide +kernel)).trans ((lk_past (by decide +kernel)).trans lk_here))
theorem wf_fuse : (wf sv dv l wr fu kept).lookup ("fuse" : Str) = some fu := (lk_past (by decide +kernel)).trans ((lk_past (by decide +kernel)).trans ((lk_past (by decide +kernel)).trans ((lk_past (by decide +kernel)).trans lk_here)))
theorem wf_kept : (wf sv dv l wr fu kept).lookup ("kept" : Str) = some (.int kept) := (lk_past (by decide +kernel)).trans ((lk_past (by decide +kernel)).trans ((lk_past (by decide +kernel)).trans ((lk_past (by decide +kernel)).trans ((lk_past (by decide +kernel)).trans lk_here))))
theorem wf_no {m : Str} (h1 : (m == "seats") = false) (h2 : (m == "disks") = false) (h3 : (m == "log") = false) (h4 : (m == "writes") = false) (h5 : (m == "fuse") = false) (h6 : (m == "kept") = false) : (wf sv dv l wr fu kept).lookup m = none :=
  (lk_past h1).trans ((lk_past h2).trans ((lk_past h3).trans ((lk_past h4).trans ((lk_past h5).trans ((lk_past h6).trans rfl)))))
theorem wf_put_writes (y : Int) : putF "writes" (.int y) (wf sv dv l wr fu kept) = wf sv dv l y fu kept := (put_past (by decide +kernel)).trans (congrArg _ ((put_past (by decide +kernel)).trans (congrArg _ ((put_past (by decide +kernel)).trans (congrArg _ put_here)))))
theorem wf_put_fuse (y : V) : putF "fuse" y (wf sv dv l wr fu kept) = wf sv dv l wr y kept := (put_past (by decide +kernel)).trans (congrArg _ ((put_past (by decide +kernel)).trans (congrArg _ ((put_past (by decide +kernel)).trans (congrArg _ ((put_past (by decide +kernel)).trans (congrArg _ put_here)))))))
theorem wf_put_kept (y : Int) : putF "kept" (.int y) (wf sv dv l wr fu kept) = wf sv dv l wr fu y := (put_past (by decide +kernel)).trans (congrArg _ ((put_past (by decide +kernel)).trans (congrArg _ ((put_past (by decide +kernel)).trans (congrArg _ ((put_past (by decide +kernel)).trans (congrArg _ ((put_past (by decide +kernel)).trans (congrArg _ put_here)))))))))
theorem wf_few : (wf sv dv l wr fu kept).length < 1000 := by show 6 < 1000; decide
end
theorem wf_new (sv dv : V) (l : Addr) : putF "kept" (.int 0) (putF "fuse" .non (putF "writes" (.int 0) (putF "log" (.ref l) (putF "disks" dv (putF "seats" sv []))))) = wf sv dv l 0 .non 0 := by
  have e1 : putF "disks" dv (putF "seats" sv []) = ([("seats", sv), ("disks", dv)] : List (Str × V)) := (put_past (by decide +kernel)).trans rfl
  have e2 : putF "log" (.ref l) [(("seats" : Str), sv), ("disks", dv)] = ([("seats", sv), ("disks", dv), ("log", .ref l)] : List (Str × V)) := (put_past (by decide +kernel)).trans (congrArg _ ((put_past (by decide +kernel)).trans rfl))
  have e3 : putF "writes" (.int 0) [(("seats" : Str), sv), ("disks", dv), ("log", .ref l)] = ([("seats", sv), ("disks", dv), ("log", .ref l), ("writes", .int 0)] : List (Str × V)) := (put_past (by decide +kernel)).trans (congrArg _ ((put_past (by decide +kernel)).trans (congrArg _ ((put_past (by decide +kernel)).trans rfl))))
  have e4 : putF "fuse" .non [(("seats" : Str), sv), ("disks", dv), ("log", .ref l), ("writes", .int 0)] = ([("seats", sv), ("disks", dv), ("log", .ref l), ("writes", .int 0), ("fuse", .non)] : List (Str × V)) := (put_past (by decide +kernel)).trans (congrArg _ ((put_past (by decide +kernel)).trans (congrArg _ ((put_past (by decide +kernel)).trans (congrArg _ ((put_past (by decide +kernel)).trans rfl))))))
  rw [e1, e2, e3, e4]
  exact (put_past (by decide +kernel)).trans (congrArg _ ((put_past (by decide +kernel)).trans (congrArg _ ((put_past (by decide +kernel)).trans (congrArg _ ((put_past (by decide +kernel)).trans (congrArg _ ((put_past (by decide +kernel)).trans rfl))))))))
/-- World(n): a new world; p its address, l its log's -/
def spWorld (A : Ad) : Sp := fun vs H Q _ => ∃ (p dx : Addr) (n : Int), vs = [.ref p, .int n] ∧ 0 ≤ n ∧ n ≤ 100 ∧ H p = some (.ins A.A_World dx []) ∧
  ∀ (H' : Hp) (l : Addr) (dv : V), (∀ b o, H b = some o → b ≠ p → H' b = some o) → H l = none → l ≠ p → H' l = some (.lst []) → H' p = some (.ins A.A_World dx (wf (.int n) dv l 0 .non 0)) → Q .non H'
theorem ok_World_init (T : Txt K mg A) : FnOk P w K mg base CX0 1 A.a_World_init A.d_World_init ["self", "seats"] (spWorld A) := by
  refine T.F_World_init.ok sc_World_init (fun vs H Q E h => ?_) (fun cdv A' outer s H vs Q E hr h => ?_)
  · obtain ⟨p, dx, n, rfl, _⟩ := h; rfl
  · obtain ⟨p, dx, n, rfl, n0, n1, hp, k⟩ := h
    refine ⟨_, pss_cons (ps_fld (pv 0) (pv 1) rfl)
  (pss_cons (ps_fld (pv 0) (pe_lc (own := [("seat", 2)]) rfl sc_World_init.nd (pi_range1 rfl T.n_range (pa_cons (pv 1) pa_nil)) (blkOk_by (own := [("seat", 2)]) (N := ["self", "seats", "seat"]) (sc := defScope s_World_init) (by decide +kernel)) (fun _ _ _ _ _ => pg_name (i := 2) sc_World_init.nd rfl (Or.inl rfl)) (fun _ _ _ _ _ => pts_nil) (fun _ _ _ _ _ => pe_lst (pa_nil))) rfl)
  (pss_cons (ps_fld (pv 0) (pe_lst (pa_nil)) rfl)
  (pss_cons (ps_fld (pv 0) (pe_int) rfl)
  (pss_cons (ps_fld (pv 0) (pe_non) rfl)
  (pss_one (ps_fld (pv 0) (pe_int) rfl)))))), ?_⟩
    refine ⟨_, rfl, _, rfl, p, _, dx, _, rfl, hp, T.cl_World, T.o_World_seats, (by show 0 < 1000; decide), ?_⟩
    have s1 : Same H (upd H p (.ins A.A_World dx (putF "seats" (.int n) []))) → True := fun _ => trivial
    -- self.disks = [[] for seat in range(seats)]
    refine ⟨_, rfl, n, rfl, by omega, by omega, fun D hD => ?_⟩
    have hDp : D ≠ p := fun z => by rw [z, upd_same] at hD; cases hD
    refine lc_range (lo := 0) (n := n.toNat) (fun i H' => ∃ acc, acc.length = i ∧ H' D = some (.lst acc) ∧ H' p = some (.ins A.A_World dx (putF "seats" (.int n) [])) ∧ ∀ b o, H b = some o → b ≠ p → H' b = some o)
      ⟨[], rfl, upd_same, by rw [upd_ne (Ne.symm hDp), upd_same], fun b o e hb => ?_⟩ ?_ ?_
    · have hbD : b ≠ D := fun z => by rw [upd_ne hDp] at hD; rw [z, hD] at e; cases e
      rw [upd_ne hbD, upd_ne hb]
      exact e
    · rintro i H1 hi ⟨acc, ha, h1, h2, h3⟩
      refine ⟨rfl, ?_⟩
      refine ⟨Nat.zero_le _, fun q hq => ⟨acc, ?_, small' (by omega), acc ++ [.ref q], by simp [ha], upd_same, ?_, fun b o e hb => ?_⟩⟩
      · rw [upd_ne (ne_of_none h1 hq)]; exact h1
      · rw [upd_ne (Ne.symm hDp), upd_ne (ne_of_none h2 hq)]; exact h2
      · have e1 := h3 b o e hb
        have hbD : b ≠ D := fun z => by rw [upd_ne hDp] at hD; rw [z, hD] at e; cases e
        rw [upd_ne hbD, upd_ne (ne_of_none e1 hq)]
        exact e1
    · rintro H1 ⟨acc, ha, h1, h2, h3⟩
      refine ⟨_, rfl, p, _, dx, _, rfl, h2, T.cl_World, T.o_World_disks, (by show 1 < 1000; decide), ?_⟩
      refine ⟨Nat.zero_le _, fun l hl => ?_⟩
      have hlp : l ≠ p := fun z => by rw [z, upd_same] at hl; cases hl
      refine ⟨_, rfl, p, _, dx, _, rfl, (by rw [upd_ne (Ne.symm hlp)]; exact upd_same), T.cl_World, T.o_World_log, (by rw [show putF "disks" (.ref D) (putF "seats" (.int n) []) = [(("seats" : Str), V.int n), ("disks", .ref D)] from (put_past (by decide +kernel)).trans rfl]; show 2 < 1000; decide), ?_⟩
      have few : ∀ (f : Str) (v : V) (fs : List (Str × V)) (m : Nat), fs.length ≤ m → (putF f v fs).length ≤ m + 1 := by
        intro f v fs
        induction fs with
        | nil => intro m hm; show 1 ≤ m + 1; omega
        | cons a r ih =>
          intro m hm
          cases m with
          | zero => simp at hm
          | succ m =>
            obtain ⟨g, x⟩ := a
            by_cases hg : g = f
            · subst hg; rw [put_here]; simp at hm ⊢; omega
            · rw [put_past hg]
              have := ih m (by simpa using hm)
              simp; omega
      have f1 := few "seats" (.int n) [] 0 (Nat.le_refl _)
      have f2 := few "disks" (.ref D) _ _ f1
      have f3 := few "log" (.ref l) _ _ f2
      have f4 := few "writes" (.int 0) _ _ f3
      have f5 := few "fuse" .non _ _ f4
      refine ⟨_, rfl, p, _, dx, _, rfl, upd_same, T.cl_World, T.o_World_writes, by omega, ?_⟩
      refine ⟨_, rfl, p, _, dx, _, rfl, upd_same, T.cl_World, T.o_World_fuse, by omega, ?_⟩
      refine ⟨_, rfl, p, _, dx, _, rfl, upd_same, T.cl_World, T.o_World_kept, by omega, ?_⟩
      have hl1 : H l = none := by
        rw [upd_ne hlp] at hl
        cases e : H l with
        | none => rfl
        | some o => rw [h3 l o e hlp] at hl; cases hl
      refine k _ l (.ref D) (fun b o e hb => ?_) hl1 hlp ?_ ?_
      · have hbl : b ≠ l := fun z => by rw [z, hl1] at e; cases e
        rw [upd_ne hb, upd_ne hb, upd_ne hb, upd_ne hb, upd_ne hbl, upd_ne hb]
        exact h3 b o e hb
      · rw [upd_ne hlp, upd_ne hlp, upd_ne hlp, upd_ne hlp, upd_same]
      · rw [upd_same, wf_new]
/-- what a method needs of a world at p -/
def WAt (A : Ad) (H : Hp) (p dx : Addr) (sv dv : V) (l : Addr) (wr : Int) (fu : V) (kept : Int) : Prop := H p = some (.ins A.A_World dx (wf sv dv l wr fu kept))
def spCutAfter (A : Ad) : Sp := fun vs H Q _ => ∃ (p dx : Addr) (sv dv : V) (l : Addr) (wr : Int) (fu : V) (kept f g : Int), vs = [.ref p, .int f, .int g] ∧ WAt A H p dx sv dv l wr fu kept ∧ Q .non (upd H p (.ins A.A_World dx (wf sv dv l wr (.int f) g)))
theorem ok_World_cut_after (T : Txt K mg A) : FnOk P w K mg base CX0 1 A.a_World_cut_after A.d_World_cut_after ["self", "writes", "kept"] (spCutAfter A) := by
  refine T.F_World_cut_after.ok sc_World_cut_after (fun vs H Q E h => ?_) (fun cdv A' outer s H vs Q E hr h => ?_)
  · obtain ⟨p, dx, sv, dv, l, wr, fu, kept, f, g, rfl, _⟩ := h; rfl
  · obtain ⟨p, dx, sv, dv, l, wr, fu, kept, f, g, rfl, hw, k⟩ := h
    refine ⟨_, pss_cons (ps_fld (pv 0) (pv 1) rfl)
  (pss_one (ps_fld (pv 0) (pv 2) rfl)), ?_⟩
    refine ⟨_, rfl, _, rfl, p, _, dx, _, rfl, hw, T.cl_World, T.o_World_fuse, wf_few .., ?_⟩
    refine ⟨_, rfl, _, rfl, p, _, dx, _, rfl, upd_same, T.cl_World, T.o_World_kept, (by rw [wf_put_fuse]; exact wf_few ..), ?_⟩
    rw [upd_upd, wf_put_fuse, wf_put_kept]
    exact k
def spTear : Sp := fun vs H Q _ => ∃ (old new : Str) (g : Int), vs = [.str old, .str new, .int g] ∧ old.length ≤ 1000000 ∧ new.length ≤ 1000000 ∧ Q (.str (cutS new none (some g) ++ cutS old (some g) none)) H
theorem ok_tear (T : Txt K mg A) : FnOk P w K mg base CX0 1 A.a_tear A.d_tear ["old", "new", "kept"] spTear := by
  refine T.F_tear.ok sc_tear (fun vs H Q E h => ?_) (fun cdv A' outer s H vs Q E hr h => ?_)
  · obtain ⟨a, b, c, rfl, _⟩ := h; rfl
  · obtain ⟨old, new, g, rfl, h1, h2, k⟩ := h
    refine ⟨_, pss_one (ps_ret (pe_op (op_addK (K := K) rfl) (pe_slice (sl_K (K := K) rfl) (pv 1) po_none (po_some (pv 2))) (pe_slice (sl_K (K := K) rfl) (pv 0) (po_some (pv 2)) po_none))), ?_⟩
    have l1 := cutS_length new none (some g)
    have l2 := cutS_length old (some g) none
    exact ⟨_, rfl, _, rfl, _, rfl, .inl ⟨new, rfl, small h2, _, rfl, _, rfl, _, rfl, .inl ⟨old, rfl, small h1, .inr (.inl ⟨_, _, rfl, rfl, Nat.le_trans (by omega) (show 2000000 ≤ sizeLine by decide), k⟩)⟩⟩⟩
/-- what a write leaves -/
def storedS (fu : Option Int) (kept : Int) (old new : Str) : Str := if fu = some 0 ∧ kept < new.length then cutS new none (some kept) ++ cutS old (some kept) none else new
def spStored (A : Ad) : Sp := fun vs H Q _ => ∃ (p dx : Addr) (sv dv : V) (l : Addr) (wr : Int) (fu : Option Int) (kept : Int) (old new : Str), vs = [.ref p, .str old, .str new] ∧ WAt A H p dx sv dv l wr (fuV fu) kept ∧ old.length ≤ 1000000 ∧ new.length ≤ 1000000 ∧ Q (.str (storedS fu kept old new)) H
theorem ok_World__stored (T : Txt K mg A) : FnOk P w K mg base CX0 2 A.a_World__stored A.d_World__stored ["self", "old", "new"] (spStored A) := by
  refine T.F_World__stored.ok sc_World__stored (fun vs H Q E h => ?_) (fun cdv A' outer s H vs Q E hr h => ?_)
  · obtain ⟨p, dx, sv, dv, l, wr, fu, kept, f, g, rfl, _⟩ := h; rfl
  · obtain ⟨p, dx, sv, dv, l, wr, fu, kept, old, new, rfl, hw, h1, h2, k⟩ := h
    have hu64 := hu64_of hr
    refine ⟨_, pss_cons (ps_if (PW.pt (pw_or (pt_cmpR (op_neK (K := K) rfl hu64) (pe_fldK (K := K) rfl (pv 0) rfl) (pe_int) (nomark _)) (pw_or1 (pt_cmpR (op_geK (K := K) rfl) (pe_fldK (K := K) rfl (pv 0) rfl) (pe_callB (call_lenK (K := K) rfl) (by rfl) T.n_len (by decide +kernel) (pa_cons (pv 2) pa_nil)) (nomark _))))) (pss_one (ps_ret (pv 2))) (pss_nil))
  (pss_one (ps_ret (pe_call (ok_tear T) (hr.mono (by decide)) rfl T.g_tear T.F_tear.kp T.b_tear .nil pass0 (pa_cons (pv 1) (pa_cons (pv 2) (pa_cons (pe_fldK (K := K) rfl (pv 0) rfl) pa_nil)))))), ?_⟩
    have hsc : scal (fuV fu) (.int 0) = true := by cases fu <;> rfl
    refine ⟨_, rfl, p, _, dx, _, _, rfl, hw, T.cl_World, T.o_World_fuse, wf_fuse .., .inl ⟨hsc, _, rfl, iteND (fun c => ?_) (fun c => ?_)⟩⟩
    · have e : storedS fu kept old new = new := if_neg fun z => c (by rw [z.1]; rfl)
      rw [e] at k
      exact ⟨_, rfl, k⟩
    · have hf : fu = some 0 := by
        cases fu with
        | none => cases c
        | some f => have := V.int.inj c; rw [this]
      refine ⟨_, rfl, p, _, dx, _, _, rfl, hw, T.cl_World, T.o_World_kept, wf_kept .., _, rfl, _, _, rfl, ⟨small h2, rfl⟩, .inl ⟨_, _, rfl, rfl, _, rfl, iteD (fun c2 => ?_) (fun c2 => ?_)⟩⟩
      · have e : storedS fu kept old new = new := if_neg fun z => by have := z.2; omega
        rw [e] at k
        exact ⟨_, rfl, k⟩
      · have e : storedS fu kept old new = cutS new none (some kept) ++ cutS old (some kept) none := if_pos ⟨hf, by omega⟩
        rw [e] at k
        exact ⟨_, rfl, _, rfl, _, rfl, p, _, dx, _, _, rfl, hw, T.cl_World, T.o_World_kept, wf_kept .., old, new, kept, rfl, h1, h2, k⟩
/-- the fuse behind a write -/
def burnt : Option Int → Option Int
  | none => none
  | some f => if 0 < f then some (f - 1) else none
def spCount (A : Ad) : Sp := fun vs H Q E => ∃ (p dx : Addr) (sv dv : V) (l : Addr) (wr : Int) (fu : Option Int) (kept : Int), vs = [.ref p] ∧ WAt A H p dx sv dv l wr (fuV fu) kept ∧ (∀ f, fu = some f → 0 ≤ f) ∧
  (fu ≠ some 0 → Q .non (upd H p (.ins A.A_World dx (wf sv dv l (wr + 1) (fuV (burnt fu)) kept)))) ∧ (fu = some 0 → E (.ref A.A_PowerCut) none (upd H p (.ins A.A_World dx (wf sv dv l (wr + 1) .non kept))))
theorem ok_World__count_write (T : Txt K mg A) : FnOk P w K mg base (L2.CX P w) 1 A.a_World__count_write A.d_World__count_write ["self"] (spCount A) := by
  refine T.F_World__count_write.okX sc_World__count_write (fun vs H Q E h => ?_) (fun cdv A' outer s H vs Q E hr h => ?_)
  · obtain ⟨p, dx, sv, dv, l, wr, fu, kept, rfl, _⟩ := h; rfl
  · obtain ⟨p, dx, sv, dv, l, wr, fu, kept, rfl, hw, h0, kN, kE⟩ := h
    refine ⟨_, pss_cons (ps_fldaug (pv 0) (pe_int) in_add)
  (pss_cons (ps_if (pt_cmp (pc_isN (pe_fldK (K := K) rfl (pv 0) rfl))) (pss_one (ps_retN)) (pss_nil))
  (pss_cons (ps_if (pt_cmpR (op_gtK (K := K) rfl) (pe_fldK (K := K) rfl (pv 0) rfl) (pe_int) (nomark _)) (pss_cons (ps_fldaug (pv 0) (pe_int) in_sub)
    (pss_one (ps_retN))) (pss_nil))
  (pss_cons (ps_fld (pv 0) (pe_non) rfl)
  (pss_one (ps_raise rfl (takes_of rfl rfl rfl rfl) (pmk_own PySem.F.excBase_ValueError T.x_PowerCut T.g_PowerCut T.k_PowerCut (raises_own T.xb_PowerCut T.xt_PowerCut) (by exact rfl))))))), ?_⟩
    -- self.writes += 1
    refine ⟨_, rfl, p, _, dx, _, _, rfl, hw, T.cl_World, T.o_World_writes, wf_writes .., _, _, rfl, rfl, _, _, hw, wf_few .., ?_⟩
    have hw1 : WAt A (upd H p (.ins A.A_World dx (putF "writes" (.int (wr + 1)) (wf sv dv l wr (fuV fu) kept)))) p dx sv dv l (wr + 1) (fuV fu) kept := by
      rw [wf_put_writes]; exact upd_same
    refine ⟨_, rfl, p, _, dx, _, _, rfl, hw1, T.cl_World, T.o_World_fuse, wf_fuse .., _, rfl, ?_⟩
    cases fu with
    | none =>
      refine iteYes rfl ?_
      have := kN (by simp)
      rw [wf_put_writes]
      exact this
    | some f =>
      have f0 := h0 f rfl
      refine iteNo (fun z => by cases z) ?_
      refine ⟨_, rfl, p, _, dx, _, _, rfl, hw1, T.cl_World, T.o_World_fuse, wf_fuse .., .inl ⟨_, _, rfl, rfl, _, rfl, iteD (fun c => ?_) (fun c => ?_)⟩⟩
      · refine ⟨_, rfl, p, _, dx, _, _, rfl, hw1, T.cl_World, T.o_World_fuse, wf_fuse .., _, _, rfl, rfl, _, _, hw1, wf_few .., ?_⟩
        have := kN (by intro z; have := Option.some.inj z; omega)
        rw [wf_put_fuse, upd_upd]
        have e : burnt (some f) = some (f - 1) := if_pos c
        rw [e] at this
        exact this
      · have e0 : f = 0 := by omega
        subst e0
        refine ⟨_, rfl, p, _, dx, _, rfl, hw1, T.cl_World, T.o_World_fuse, wf_few .., ?_⟩
        have := kE rfl
        rw [wf_put_fuse, upd_upd]
        exact this
/-- the log behind a write at the place i -/
def logAfter (ls : List Str) (i : Nat) (fu : Option Int) (kept : Int) (text : Str) : List Str := (if i = ls.length then ls ++ [Str.empty] else ls).set i (storedS fu kept ((if i = ls.length then ls ++ [Str.empty] else ls).getD i Str.empty) text)
def spWriteLog (K : PySem.W.Frag) (A : Ad) : Sp := fun vs H Q E => ∃ (p dx : Addr) (sv dv : V) (l : Addr) (wr : Int) (fu : Option Int) (kept : Int) (i : Nat) (text : Str) (ls : List Str), vs = [.ref p, .int (i : Int), .str text] ∧ WAt A H p dx sv dv l wr (fuV fu) kept ∧ H l = some (.lst (ls.map V.str)) ∧ (∀ f, fu = some f → 0 ≤ f) ∧
  i ≤ ls.length ∧ ls.length ≤ 1000 ∧ (∀ x ∈ ls, x.length ≤ 1000000) ∧ text.length ≤ 1000000 ∧
  (fu ≠ some 0 → Q .non (upd (upd H l (.lst ((logAfter ls i fu kept text).map V.str))) p (.ins A.A_World dx (wf sv dv l (wr + 1) (fuV (burnt fu)) kept)))) ∧
  (fu = some 0 → E (.ref A.A_PowerCut) none (upd (upd H l (.lst ((logAfter ls i fu kept text).map V.str))) p (.ins A.A_World dx (wf sv dv l (wr + 1) .non kept))))
theorem getD_at {α : Type} {l : List α} {i : Nat} {d : α} (h : i < l.length) : l[i]? = some (l.getD i d) := by
  rw [List.getElem?_eq_getElem h, List.getD_eq_getElem?_getD, List.getElem?_eq_getElem h]; rfl
theorem ok_World_write_log (T : Txt K mg A) : FnOk P w K mg base (L2.CX P w) 3 A.a_World_write_log A.d_World_write_log ["self", "index", "text"] (spWriteLog K A) := by
  refine T.F_World_write_log.okX sc_World_write_log (fun vs H Q E h => ?_) (fun cdv A' outer s H vs Q E hr h => ?_)
  · obtain ⟨p, dx, sv, dv, l, wr, fu, kept, i, text, ls, rfl, _⟩ := h; rfl
  · obtain ⟨p, dx, sv, dv, l, wr, fu, kept, i, text, ls, rfl, hw, hl, h0, hi, hz, hls, ht, kN, kE⟩ := h
    have hu64 := hu64_of hr
    refine ⟨_, pss_cons (ps_if (pt_cmpR (op_eqK (K := K) rfl hu64) (pv 1) (pe_callB (call_lenK (K := K) rfl) (by rfl) T.n_len (by decide +kernel) (pa_cons (pe_fldK (K := K) rfl (pv 0) rfl) pa_nil)) (nomark _)) (pss_one (ps_expr (pe_bm PySem.F.plainAttrs_list PySem.F.slot_list_append PySem.F.type_list_append mt_append (pe_fldK (K := K) rfl (pv 0) rfl) (pa_cons (pe_str) pa_nil)))) (pss_nil))
  (pss_cons (ps_asg (pe_meth (pv 0) T.cl_World T.m_World__stored (ok_World__stored T) (hr.mono (by decide)) T.b_World__stored .nil pass0 (pa_cons (pe_ix (ix_K (K := K) rfl) (pe_fldK (K := K) rfl (pv 0) rfl) (pv 1) (fun _ _ => rfl)) (pa_cons (pv 2) pa_nil))) (pg_sub (pe_fldK (K := K) rfl (pv 0) rfl) (pv 1) set_list))
  (pss_one (ps_expr (pe_meth0 (pv 0) T.cl_World T.m_World__count_write (ok_World__count_write T) (hr.mono (by decide)) T.b_World__count_write .nil (passes_call (takes_of rfl rfl rfl rfl) (fun _ _ _ _ h => h)))))), ?_⟩
    have npl : p ≠ l := ne_of hw hl (by intro z; cases z)
    have noS : (wf sv dv l wr (fuV fu) kept).lookup ("_stored" : Str) = none := wf_no _ _ _ _ _ _ (by decide +kernel) (by decide +kernel) (by decide +kernel) (by decide +kernel) (by decide +kernel) (by decide +kernel)
    have noC : (wf sv dv l wr (fuV fu) kept).lookup ("_count_write" : Str) = none := wf_no _ _ _ _ _ _ (by decide +kernel) (by decide +kernel) (by decide +kernel) (by decide +kernel) (by decide +kernel) (by decide +kernel)
    -- the two last statements, from a log that is long enough
    have key : ∀ (ls1 : List Str) (H1 : Hp), (if i = ls.length then ls ++ [Str.empty] else ls) = ls1 → i < ls1.length → (∀ x ∈ ls1, x.length ≤ 1000000) → WAt A H1 p dx sv dv l wr (fuV fu) kept → H1 l = some (.lst (ls1.map V.str)) → (∀ o, upd H1 l o = upd H l o) → True := fun _ _ _ _ _ _ _ _ => trivial
    refine ⟨_, rfl, _, rfl, p, _, dx, _, _, rfl, hw, T.cl_World, T.o_World_log, wf_log .., _, _, rfl, .inl ⟨_, .of hl, rfl⟩, .inl ⟨rfl, _, rfl, iteD (fun c => ?_) (fun c => ?_)⟩⟩
    · have ci : i = ls.length := by have := V.int.inj c; rw [List.length_map] at this; omega
      refine ⟨_, rfl, p, _, dx, _, _, rfl, hw, T.cl_World, T.o_World_log, wf_log .., .inl ⟨rfl, _, .of hl⟩, l, _, _, rfl, rfl, hl, small' (by rw [List.length_map]; omega), ?_⟩
      have hl1 : ∀ o, upd H l o l = some o := fun o => upd_same
      have hw1 : ∀ o, WAt A (upd H l o) p dx sv dv l wr (fuV fu) kept := fun o => by unfold WAt; rw [upd_ne npl]; exact hw
      have e1 : ls.map V.str ++ [.str (Str.ofString "")] = (ls ++ [Str.empty]).map V.str := by rw [List.map_append]; rfl
      rw [e1]
      have hat : ((ls ++ [Str.empty]).map V.str)[i]? = some (.str ((ls ++ [Str.empty]).getD i Str.empty)) := by
        rw [List.getElem?_map, getD_at (d := Str.empty) (by rw [List.length_append]; simp; omega)]; rfl
      have ho : ((ls ++ [Str.empty]).getD i Str.empty).length ≤ 1000000 := by
        rw [ci, List.getD_eq_getElem?_getD, List.getElem?_append_right (Nat.le_refl _), Nat.sub_self]
        exact Nat.zero_le _
      refine ⟨_, rfl, p, dx, _, rfl, hw1 _, noS, _, rfl, p, _, dx, _, _, rfl, hw1 _, T.cl_World, T.o_World_log, wf_log .., _, rfl, .inl ⟨l, _, _, _, rfl, rfl, .of upd_same, atI_nat hat, _, rfl, p, dx, sv, dv, l, wr, fu, kept, _, text, rfl, hw1 _, ho, ht, ?_⟩⟩
      refine ⟨_, rfl, p, _, dx, _, _, rfl, hw1 _, T.cl_World, T.o_World_log, wf_log .., _, rfl, l, _, _, i, rfl, rfl, upd_same, ?_, ?_⟩
      · unfold ixN
        rw [if_pos (by omega), if_pos (by rw [List.length_map, List.length_append]; simp; omega), Int.toNat_natCast]
      rw [upd_upd]
      have e2 : ((ls ++ [Str.empty]).map V.str).set i (.str (storedS fu kept ((ls ++ [Str.empty]).getD i Str.empty) text)) = (logAfter ls i fu kept text).map V.str := by
        unfold logAfter
        rw [if_pos ci, List.map_set]
      rw [e2]
      exact ⟨_, rfl, p, dx, _, rfl, hw1 _, noC, p, dx, sv, dv, l, wr, fu, kept, rfl, hw1 _, h0, kN, kE⟩
    · have ci : i ≠ ls.length := fun z => c (by rw [z, List.length_map])
      have hil : i < ls.length := by omega
      have hw1 : ∀ o, WAt A (upd H l o) p dx sv dv l wr (fuV fu) kept := fun o => by unfold WAt; rw [upd_ne npl]; exact hw
      have hat : (ls.map V.str)[i]? = some (.str (ls.getD i Str.empty)) := by
        rw [List.getElem?_map, getD_at (d := Str.empty) hil]; rfl
      have ho : (ls.getD i Str.empty).length ≤ 1000000 := hls _ (List.mem_of_getElem? (getD_at (d := Str.empty) hil))
      refine ⟨_, rfl, p, dx, _, rfl, hw, noS, _, rfl, p, _, dx, _, _, rfl, hw, T.cl_World, T.o_World_log, wf_log .., _, rfl, .inl ⟨l, _, _, _, rfl, rfl, .of hl, atI_nat hat, _, rfl, p, dx, sv, dv, l, wr, fu, kept, _, text, rfl, hw, ho, ht, ?_⟩⟩
      refine ⟨_, rfl, p, _, dx, _, _, rfl, hw, T.cl_World, T.o_World_log, wf_log .., _, rfl, l, _, _, i, rfl, rfl, hl, ?_, ?_⟩
      · unfold ixN
        rw [if_pos (by omega), if_pos (by rw [List.length_map]; omega), Int.toNat_natCast]
      have e2 : (ls.map V.str).set i (.str (storedS fu kept (ls.getD i Str.empty) text)) = (logAfter ls i fu kept text).map V.str := by
        unfold logAfter
        rw [if_neg ci, List.map_set]
      rw [e2]
      exact ⟨_, rfl, p, dx, _, rfl, hw1 _, noC, p, dx, sv, dv, l, wr, fu, kept, rfl, hw1 _, h0, kN, kE⟩
/-- _law_write: 'cut' or 'done' -/
def spLawWrite (K : PySem.W.Frag) (A : Ad) : Sp := fun vs H Q _ => ∃ (p dx : Addr) (sv dv : V) (l : Addr) (wr : Int) (fu : Option Int) (kept : Int) (i : Nat) (text : Str) (ls : List Str), vs = [.ref p, .int (i : Int), .str text] ∧ WAt A H p dx sv dv l wr (fuV fu) kept ∧ H l = some (.lst (ls.map V.str)) ∧ (∀ f, fu = some f → 0 ≤ f) ∧
  i ≤ ls.length ∧ ls.length ≤ 1000 ∧ (∀ x ∈ ls, x.length ≤ 1000000) ∧ text.length ≤ 1000000 ∧
  Q (.str (if fu = some 0 then "cut" else "done")) (upd (upd H l (.lst ((logAfter ls i fu kept text).map V.str))) p (.ins A.A_World dx (wf sv dv l (wr + 1) (fuV (burnt fu)) kept)))

end
end Q

set_option Elab.async false
set_option linter.all false
set_option maxRecDepth 100000
set_option maxHeartbeats 8000000
namespace Q
open PySem PySem.Spec PyProof.Rows L2 TL PW Rc
section
variable {P : Program} {w : World} {K : PySem.W.Frag} {mg : Str → Option Value} {base : Heap} {A : Ad}
theorem ok_L_write (T : Txt K mg A) : FnOk P w K mg base CX0 4 A.a_L_write A.d_L_write ["_law_world", "_law_index", "_law_text"] (spLawWrite K A) := by
  refine T.F_L_write.ok sc_L_write (fun vs H Q E h => ?_) (fun cdv A' outer s H vs Q E hr h => ?_)
  · obtain ⟨p, dx, sv, dv, l, wr, fu, kept, i, text, ls, rfl, _⟩ := h; rfl
  · obtain ⟨p, dx, sv, dv, l, wr, fu, kept, i, text, ls, rfl, hw, hl, h0, hi, hz, hls, ht, k⟩ := h
    have noW : (wf sv dv l wr (fuV fu) kept).lookup ("write_log" : Str) = none := wf_no _ _ _ _ _ _ (by decide +kernel) (by decide +kernel) (by decide +kernel) (by decide +kernel) (by decide +kernel) (by decide +kernel)
    refine ⟨_, pss_cons (ps_try_only rfl rfl ⟨rfl, by decide, .inl T.g_PowerCut⟩ takes0 (fun W pn xe tk _ => pss_one (ps_set (i := 3) sc_L_write.nd rfl (Or.inl rfl) (PW.pe_methZ (pv 0) T.cl_World T.m_World_write_log (ok_World_write_log T) (hr.mono (by decide)) T.b_World_write_log (fun σ => passAt tk σ) (pa_cons (pv 1) (pa_cons (pv 2) pa_nil))))) (fun a oe cls d pn _ _ => pss_one (ps_ret (pe_str))))
  (pss_cons (ps_if (pt_cmp (pc_isN (pv 3))) (pss_one (ps_ret (pe_str))) (pss_nil))
  (pss_one (ps_ret (pe_str)))), ?_⟩
    refine ⟨_, rfl, p, dx, _, rfl, hw, noW, _, rfl, _, rfl, p, dx, sv, dv, l, wr, fu, kept, i, text, ls, rfl, hw, hl, h0, hi, hz, hls, ht, fun hf => ?_, fun hf => ?_⟩
    · rw [if_neg hf] at k
      refine ⟨_, rfl, _, rfl, ?_⟩
      refine iteYes rfl ?_
      exact k
    · subst hf
      rw [if_pos rfl] at k
      exact ⟨true, T.xe_PowerCut, (fun a ha _ => k), (fun q => nomatch q)⟩

end
end Q

set_option Elab.async false
set_option linter.all false
set_option maxRecDepth 100000
set_option maxHeartbeats 8000000
namespace Q
open PySem PySem.Spec PyProof.Rows L2 TL PW Rc
section
variable {P : Program} {w : World} {K : PySem.W.Frag} {mg : Str → Option Value} {base : Heap} {A : Ad}
theorem al_ints {n : Nat} {ns : List Int} (h : ns.length ≤ 1000000) : AL (n + 1) (encNs ns) := .tup (fun d hd => by
  obtain ⟨i, _, rfl⟩ := List.mem_map.mp hd
  exact .int i) (by rw [List.length_map]; exact h)
theorem al_name {n : Nat} {p : Str × List Int} (h : p.2.length ≤ 1000000) : AL (n + 2) (encName p) := .tup (fun d hd => by
  simp only [List.mem_cons, List.not_mem_nil, or_false] at hd
  rcases hd with rfl | rfl
  · exact .str _
  · exact al_ints h) (by show 2 ≤ 1000000; decide)
theorem al_ward {n : Nat} (u : Int × Int × Int) : AL (n + 1) (encW u) := .tup (fun d hd => by
  simp only [List.mem_cons, List.not_mem_nil, or_false] at hd
  rcases hd with rfl | rfl | rfl <;> exact .int _) (by show 3 ≤ 1000000; decide)
theorem al_wards {n : Nat} {ws : List (Int × Int × Int)} (h : ws.length ≤ 1000000) : AL (n + 2) (encWs ws) := .tup (fun d hd => by
  obtain ⟨i, _, rfl⟩ := List.mem_map.mp hd
  exact al_ward i) (by rw [List.length_map]; exact h)
theorem al_rec {r : Rec} (h : RecOk r) : AL 4 (encR r) := by
  have hw := (RecOk.ws h).few
  cases r with
  | picture caps names ws =>
    refine .tup (fun d hd => ?_) (by show 4 ≤ 1000000; decide)
    simp only [headD, List.cons_append, List.nil_append, List.mem_cons, List.not_mem_nil, or_false] at hd
    rcases hd with rfl | rfl | rfl | rfl
    · exact .str _
    · exact al_ints (Nat.le_trans h.2.2.1 (by decide))
    · refine .tup (fun d hd => ?_) (by rw [List.length_map]; exact Nat.le_trans h.2.2.2.2.2.1 (by decide))
      obtain ⟨p, hp, rfl⟩ := List.mem_map.mp hd
      exact al_name (Nat.le_trans (h.2.2.2.1 p hp).2.few (by decide))
    · exact al_wards (Nat.le_trans hw (by decide))
  | put n ns ws =>
    refine .tup (fun d hd => ?_) (by show 4 ≤ 1000000; decide)
    simp only [headD, List.cons_append, List.nil_append, List.mem_cons, List.not_mem_nil, or_false] at hd
    rcases hd with rfl | rfl | rfl | rfl
    · exact .str _
    · exact .str _
    · exact al_ints (Nat.le_trans h.2.1.few (by decide))
    · exact al_wards (Nat.le_trans hw (by decide))
  | erase n =>
    refine .tup (fun d hd => ?_) (by show 2 ≤ 1000000; decide)
    simp only [List.mem_cons, List.not_mem_nil, or_false] at hd
    rcases hd with rfl | rfl <;> exact .str _
  | deal ws =>
    refine .tup (fun d hd => ?_) (by show 2 ≤ 1000000; decide)
    simp only [headD, List.cons_append, List.nil_append, List.mem_cons, List.not_mem_nil, or_false] at hd
    rcases hd with rfl | rfl
    · exact .str _
    · exact al_wards (Nat.le_trans hw (by decide))
  | cap a b ws =>
    refine .tup (fun d hd => ?_) (by show 4 ≤ 1000000; decide)
    simp only [headD, List.cons_append, List.nil_append, List.mem_cons, List.not_mem_nil, or_false] at hd
    rcases hd with rfl | rfl | rfl | rfl
    · exact .str _
    · exact .int _
    · exact .int _
    · exact al_wards (Nat.le_trans hw (by decide))
theorem tyx_lst {K : PySem.W.Frag} {H : Hp} {a : Addr} {xs : List V} (h : SqL K H a xs) : TyX K H (.ref a) (.type "list") := by
  rcases h with (h | ⟨o, h⟩) | ⟨o, its, n, h, hc, _⟩
  · exact .base (.lst h)
  · exact .base (.frz h)
  · exact .kList h hc
def spCounts (K : PySem.W.Frag) (A : Ad) : Sp := fun vs H Q _ => ∃ (p dx : Addr) (sv dv : V) (l : Addr) (wr : Int) (fu : V) (kept : Int) (S Rr : Addr) (ls : List Str) (os : List (Option Rec)) (vr : List V) (recs : List Rec) (whole : Nat),
  vs = [.ref p, .ref S, .ref Rr, .int (whole : Int)] ∧ WAt A H p dx sv dv l wr fu kept ∧ H S = some (.lst (ls.map V.str)) ∧ H Rr = some (.lst vr) ∧ DpAll K H vr (recs.map encR) ∧ (∀ r ∈ recs, RecOk r) ∧ LogAt K H l ls os ∧
  countN os os.length = (recs, whole) ∧ ls.length ≤ 1000 ∧ (∀ x ∈ ls, Asc x) ∧ recs.length ≤ 1000 ∧ ∀ H', Same H H' → Q (.bl true) H'
theorem ok_L_counts (T : Txt K mg A) : FnOk P w K mg base CX0 9 A.a_L_counts A.d_L_counts ["_law_world", "_law_strings", "_law_records", "_law_whole"] (spCounts K A) := by
  refine T.F_L_counts.ok sc_L_counts (fun vs H Q E h => ?_) (fun cdv A' outer s H vs Q E hr h => ?_)
  · obtain ⟨p, dx, sv, dv, l, wr, fu, kept, S, Rr, ls, os, vr, recs, whole, rfl, _⟩ := h; rfl
  · obtain ⟨p, dx, sv, dv, l, wr, fu, kept, S, Rr, ls, os, vr, recs, whole, rfl, hw, hS, hR, da, hok, hlog, hc, hz, hasc, hrn, k⟩ := h
    have hu64 := hu64_of hr
    refine ⟨_, pss_cons (ps_set (i := 4) sc_L_counts.nd rfl (Or.inl rfl) (pe_call (ok_log_end T) (hr.mono (by decide)) rfl T.g_log_end T.F_log_end.kp T.b_log_end .nil pass0 (pa_cons (pe_fldK (K := K) rfl (pv 0) rfl) pa_nil)))
  (pss_cons (ps_if (PW.pt (pw_or (pt_not (pt_val (pe_call (ok_L_is_integer T) (hr.mono (by decide)) rfl T.g_L_is_integer T.F_L_is_integer.kp T.b_L_is_integer .nil pass0 (pa_cons (pv 4) pa_nil)))) (pw_or1 (pt_cmpR (op_neK (K := K) rfl hu64) (pv 4) (pv 3) (nomark _))))) (pss_one (ps_ret (pe_bl))) (pss_nil))
  (pss_cons (ps_set (i := 5) sc_L_counts.nd rfl (Or.inl rfl) (pe_call (ok_read_log T) (hr.mono (by decide)) rfl T.g_read_log T.F_read_log.kp T.b_read_log .nil pass0 (pa_cons (pe_fldK (K := K) rfl (pv 0) rfl) pa_nil)))
  (pss_cons (ps_if (PW.pt (pw_or (pt_not (pt_val (pe_callB (call_isiK1 (K := K) rfl) (by rfl) T.n_isinstance (by decide +kernel) (pa_cons (pv 5) (pa_cons (pe_bltn (v := .ty "list") (by rfl) T.n_list (by decide +kernel) rfl) pa_nil))))) (pw_or1 (pt_not (pt_val (pe_call (ok_L_alikeN T 5) (hr.mono (by decide)) rfl T.g_L_alike T.F_L_alike.kp T.b_L_alike .nil pass0 (pa_cons (pe_callTy (call_tupleK (K := K) rfl) (by rfl) T.n_tuple (by decide +kernel) (pa_cons (pv 5) pa_nil)) (pa_cons (pe_callTy (call_tupleK (K := K) rfl) (by rfl) T.n_tuple (by decide +kernel) (pa_cons (pv 2) pa_nil)) pa_nil)))))))) (pss_one (ps_ret (pe_bl))) (pss_nil))
  (pss_one (ps_ret (pe_and (pe_callB (call_isiK1 (K := K) rfl) (by rfl) T.n_isinstance (by decide +kernel) (pa_cons (pe_fldK (K := K) rfl (pv 0) rfl) (pa_cons (pe_bltn (v := .ty "list") (by rfl) T.n_list (by decide +kernel) rfl) pa_nil))) (pe_one (pe_cmpR (op_eqK (K := K) rfl hu64) (pe_fldK (K := K) rfl (pv 0) rfl) (pv 1) (nomark _))))))))), ?_⟩
    refine ⟨_, rfl, p, _, dx, _, _, rfl, hw, T.cl_World, T.o_World_log, wf_log .., l, ls, os, rfl, hlog, hz, fun H1 s1 => ?_⟩
    rw [hc]
    have w1 := s1 _ _ hw
    have log1 : LogAt K H1 l ls os := ⟨same_l s1 hlog.1, hlog.2⟩
    refine ⟨_, rfl, whole, rfl, fun H2 s2 => ⟨true, rfl, iteF ⟨_, rfl, _, rfl, .inl ⟨rfl, _, rfl, iteNS rfl ?_⟩⟩⟩⟩
    have e2 := s1.trans s2
    have log2 : LogAt K H2 l ls os := ⟨same_l e2 hlog.1, hlog.2⟩
    refine ⟨_, rfl, p, _, dx, _, _, rfl, e2 _ _ hw, T.cl_World, T.o_World_log, wf_log .., H2, l, ls, os, rfl, log2, hz, .refl _, fun v F3 H3 st D => ?_⟩
    rw [hc] at D
    obtain ⟨q, xs, rfl, hq, dq⟩ := dp_list D
    have e3 := e2.trans st.hh
    have hq3 := same_l st.fh hq
    have dq3 : DpAll K H3 xs (recs.map encR) := dpa_mono st.fh dq
    refine ⟨_, rfl, .ref q, .ty "list", _, _, true, rfl, .ty "list", tyx_lst hq3, kit_ty (by decide +kernel), true, rfl, iteF ?_⟩
    refine ⟨_, rfl, _, _, rfl, .inl ⟨hq3, fun t1 ht1 => ?_⟩⟩
    have g1 : Same H3 (upd H3 t1 (.tup xs)) := same_new ht1
    refine ⟨_, rfl, _, _, rfl, .inl ⟨same_l g1 (.of (e3 _ _ hR)), fun t2 ht2 => ?_⟩⟩
    have g2 : Same (upd H3 t1 (.tup xs)) (upd (upd H3 t1 (.tup xs)) t2 (.tup vr)) := same_new ht2
    refine ⟨_, _, .tuple (recs.map encR), rfl, .tup (.of (g2 _ _ upd_same)) (dpa_mono (g1.trans g2) dq3), .tup (.of upd_same) (dpa_mono (e3.trans (g1.trans g2)) da), .tup (fun d hd => ?_) (by rw [List.length_map]; omega), fun H4 s4 => ?_⟩
    · obtain ⟨r, hr', rfl⟩ := List.mem_map.mp hd
      exact al_rec (hok r hr')
    · have e4 := e3.trans ((g1.trans g2).trans s4)
      refine ⟨true, rfl, iteF ?_⟩
      refine ⟨_, rfl, p, _, dx, _, _, rfl, e4 _ _ hw, T.cl_World, T.o_World_log, wf_log .., _, .ty "list", _, _, true, rfl, .ty "list", tyx_lst (same_l e4 hlog.1), kit_ty (by decide +kernel), true, rfl, iteT ?_⟩
      refine ⟨_, rfl, p, _, dx, _, _, rfl, e4 _ _ hw, T.cl_World, T.o_World_log, wf_log .., _, rfl, eqD_strs (same_l e4 hlog.1) (.of (e4 _ _ hS)) hasc hasc ?_⟩
      rw [decide_eq_true rfl]
      exact k H4 e4

end
end Q

set_option Elab.async false
set_option linter.all false
set_option maxRecDepth 100000
set_option maxHeartbeats 8000000
namespace Q
open PySem PySem.Spec PyProof.Rows L2 TL PW Rc
section
variable {P : Program} {w : World} {K : PySem.W.Frag} {mg : Str → Option Value} {base : Heap} {A : Ad}
/-! ### torn strings -/
theorem cut_front {x : Str} {k : Int} (h : 0 ≤ k) : tl (cutS x none (some k)) = (tl x).take k.toNat := by
  unfold cutS
  rw [tl_mk]
  have e : HT.sIx x.length x.length (some k) = min k.toNat x.length := by
    have e1 : (if k < 0 then (k + (x.length : Int)).toNat else min k.toNat x.length) = min k.toNat x.length := if_neg (by omega)
    exact e1
  have e2 : HT.sIx x.length 0 none = 0 := HT.sIx_none _ _
  rw [e, e2, List.drop_zero, Nat.sub_zero]
  show (tl x).take (min k.toNat x.length) = _
  rw [len_tl, List.take_eq_take_min]
  rw [← List.take_eq_take_min, Nat.min_comm, List.take_eq_take_min, Nat.min_comm (tl x).length, Nat.min_assoc, Nat.min_self, ← List.take_eq_take_min]
theorem cut_back {x : Str} {k : Int} (h : 0 ≤ k) : (tl (cutS x (some k) none)).length ≤ (tl x).length - k.toNat := by
  unfold cutS
  rw [tl_mk, List.length_take, List.length_drop]
  have e : HT.sIx x.length 0 (some k) = min k.toNat x.length := by
    have e1 : (if k < 0 then (k + (x.length : Int)).toNat else min k.toNat x.length) = min k.toNat x.length := if_neg (by omega)
    exact e1
  have e2 : HT.sIx x.length x.length none = x.length := HT.sIx_none _ _
  have e3 : x.cps.toList.length = (tl x).length := rfl
  rw [e, e2, e3, len_tl]
  omega
theorem asc_recText {r : Rec} (h : RecOk r) : Asc (recText r) := by
  refine asc_app (asc_join (asc_lit " " (by decide)) fun p hp => ?_) (asc_lit ";" (by decide))
  by_cases her : isErase r = true
  · cases r with
    | erase n =>
      simp only [words, List.mem_cons, List.not_mem_nil, or_false] at hp
      rcases hp with rfl | rfl
      · exact asc_lit "erase" (by decide)
      · exact asc_name h
    | _ => cases her
  · rw [words_head (by simpa using her)] at hp
    rcases List.mem_append.mp hp with hp | hp
    · rcases List.mem_append.mp hp with hp | hp
      · exact asc_head h p hp
      · rw [List.mem_singleton.mp hp]; exact asc_lit "/" (by decide)
    · obtain ⟨u, hu, rfl⟩ := List.mem_map.mp hp
      obtain ⟨a, b, c⟩ := (RecOk.ws h).num u hu
      exact asc_app (asc_app (asc_app (asc_app (asc_num a.1) (asc_lit ":" (by decide))) (asc_num b.1)) (asc_lit "," (by decide))) (asc_num c.1)
theorem recText_two {r : Rec} : 2 ≤ (recText r).length := by
  have key : ∀ (S p : List Nat) (ps : List (List Nat)), p.length ≤ (joinL S (p :: ps)).length := by
    intro S p ps
    cases ps with
    | nil => exact Nat.le_refl _
    | cons q ps => show p.length ≤ (p ++ (S ++ joinL S (q :: ps))).length; rw [List.length_append]; omega
  have hw : ∃ (w : Str) (l : List Str), words r = w :: l ∧ 1 ≤ (tl w).length := by
    cases r with
    | erase n => exact ⟨wErase, _, rfl, by rw [ofS_tl]; decide⟩
    | picture a b c => exact ⟨wPicture, _, rfl, by rw [ofS_tl]; decide⟩
    | put a b c => exact ⟨wPut, _, rfl, by rw [ofS_tl]; decide⟩
    | deal a => exact ⟨wDeal, _, rfl, by rw [ofS_tl]; decide⟩
    | cap a b c => exact ⟨wCap, _, rfl, by rw [ofS_tl]; decide⟩
  obtain ⟨w, l, e, h1⟩ := hw
  rw [len_tl]
  unfold recText
  rw [tl_append, List.length_append, tl_joinT, e, List.map_cons]
  have := key (tl space) (tl w) (l.map tl)
  have e2 : (tl semi).length = 1 := by rw [ofS_tl]; decide
  omega
theorem torn_free {r : Rec} (h : RecOk r) {k : Int} (h0 : 0 ≤ k) (hk : k < ((recText r).length : Int)) : 59 ∉ tl (cutS (recText r) none (some k)) := by
  rw [cut_front h0]
  have hl := hk
  rw [len_tl] at hl
  unfold recText at hl ⊢
  rw [tl_append] at hl ⊢
  have e2 : (tl semi).length = 1 := by rw [ofS_tl]; decide
  rw [List.length_append] at hl
  rw [List.take_append_of_le_length (by omega)]
  exact fun z => body_free h (List.mem_of_mem_take z)
theorem torn_ok {r : Rec} (h : RecOk r) {k : Int} {old : Str} (h0 : 0 ≤ k) (hk : k < ((recText r).length : Int)) (ho : 59 ∉ tl old) (ha : Asc old) (hl : old.length ≤ 210001) :
    59 ∉ tl (cutS (recText r) none (some k) ++ cutS old (some k) none) ∧ Asc (cutS (recText r) none (some k) ++ cutS old (some k) none) ∧ (cutS (recText r) none (some k) ++ cutS old (some k) none).length ≤ 210001 := by
  refine ⟨free_app (torn_free h h0 hk) fun z => ho (cut_sub z), asc_app (fun c hc => asc_recText h c (cut_sub hc)) (fun c hc => ha c (cut_sub hc)), ?_⟩
  have hr := recText_len h
  have c1 := cut_len (x := recText r) h0
  have c2 := cut_back (x := old) h0
  rw [slen_app, len_tl, len_tl]
  rw [len_tl] at hl hk hr
  omega
theorem logAfter_at {pre : List Str} {tn : Option Str} {fu : Option Int} {kept : Int} {text : Str} : logAfter (pre ++ tn.toList) pre.length fu kept text = pre ++ [storedS fu kept (tn.getD Str.empty) text] := by
  cases tn with
  | none =>
    unfold logAfter
    rw [Option.toList_none, List.append_nil, if_pos rfl, List.set_append_right _ _ (Nat.le_refl _), Nat.sub_self]
    have e : (pre ++ [Str.empty]).getD pre.length Str.empty = Str.empty := by rw [List.getD_eq_getElem?_getD, List.getElem?_append_right (Nat.le_refl _), Nat.sub_self]; rfl
    rw [e]
    rfl
  | some o =>
    unfold logAfter
    have e0 : ¬ pre.length = (pre ++ (some o).toList).length := by simp
    rw [if_neg e0, List.set_append_right _ _ (Nat.le_refl _), Nat.sub_self]
    have e : (pre ++ (some o).toList).getD pre.length Str.empty = o := by rw [List.getD_eq_getElem?_getD, List.getElem?_append_right (Nat.le_refl _), Nat.sub_self]; rfl
    rw [e]
    rfl
theorem stored_torn {fu : Option Int} {kept : Int} {old text : Str} (h : fu = some 0 ∧ kept < text.length) : storedS fu kept old text = cutS text none (some kept) ++ cutS old (some kept) none := if_pos h
theorem stored_whole {fu : Option Int} {kept : Int} {old text : Str} (h : ¬ (fu = some 0 ∧ kept < text.length)) : storedS fu kept old text = text := if_neg h
/-- what stands between two statements of the law's loop -/
structure LS (K : PySem.W.Frag) (A : Ad) (H0 : Hp) (q p dx l S : Addr) (sv dv : V) (xs : List Str) (F H : Hp) (Rr : Addr) (vr : List V) (rs : List Rec) (ls lsS : List Str) (wr : Int) (fu : Option Int) (kept : Int) : Prop where
  w : Wd H0 H0 F H [(S, .lst (lsS.map V.str)), (Rr, .lst vr), (l, .lst (ls.map V.str)), (p, .ins A.A_World dx (wf sv dv l wr (fuV fu) kept))]
  qx : SqL K F q (xs.map V.str)
  da : DpAll K F vr ((lastRun rs).map encR)
  ok : ∀ r ∈ rs, RecOk r
  h0 : ∀ r, rs[0]? = some r → r.isPic = true
  f0 : ∀ f, fu = some f → 0 ≤ f
theorem LS.step {K : PySem.W.Frag} {A : Ad} {H0 : Hp} {q p dx l S : Addr} {sv dv : V} {xs : List Str} {F H F' H' : Hp} {Rr : Addr} {vr : List V} {rs : List Rec} {ls lsS : List Str} {wr : Int} {fu : Option Int} {kept : Int}
    (L : LS K A H0 q p dx l S sv dv xs F H Rr vr rs ls lsS wr fu kept) (s : Step F H F' H') : LS K A H0 q p dx l S sv dv xs F' H' Rr vr rs ls lsS wr fu kept :=
  ⟨L.w.step s, same_l s.ff L.qx, dpa_mono s.ff L.da, L.ok, L.h0, L.f0⟩
theorem LS.same {K : PySem.W.Frag} {A : Ad} {H0 : Hp} {q p dx l S : Addr} {sv dv : V} {xs : List Str} {F H H' : Hp} {Rr : Addr} {vr : List V} {rs : List Rec} {ls lsS : List Str} {wr : Int} {fu : Option Int} {kept : Int}
    (L : LS K A H0 q p dx l S sv dv xs F H Rr vr rs ls lsS wr fu kept) (s : Same H H') : LS K A H0 q p dx l S sv dv xs F H' Rr vr rs ls lsS wr fu kept := L.step (.same L.w.fh s)
theorem LS.wat {K : PySem.W.Frag} {A : Ad} {H0 : Hp} {q p dx l S : Addr} {sv dv : V} {xs : List Str} {F H : Hp} {Rr : Addr} {vr : List V} {rs : List Rec} {ls lsS : List Str} {wr : Int} {fu : Option Int} {kept : Int}
    (L : LS K A H0 q p dx l S sv dv xs F H Rr vr rs ls lsS wr fu kept) : WAt A H p dx sv dv l wr (fuV fu) kept := (L.w.mt _ (.tail _ (.tail _ (.tail _ (.head _))))).2.1
theorem LS.lat {K : PySem.W.Frag} {A : Ad} {H0 : Hp} {q p dx l S : Addr} {sv dv : V} {xs : List Str} {F H : Hp} {Rr : Addr} {vr : List V} {rs : List Rec} {ls lsS : List Str} {wr : Int} {fu : Option Int} {kept : Int}
    (L : LS K A H0 q p dx l S sv dv xs F H Rr vr rs ls lsS wr fu kept) : H l = some (.lst (ls.map V.str)) := (L.w.mt _ (.tail _ (.tail _ (.head _)))).2.1
theorem LS.rat {K : PySem.W.Frag} {A : Ad} {H0 : Hp} {q p dx l S : Addr} {sv dv : V} {xs : List Str} {F H : Hp} {Rr : Addr} {vr : List V} {rs : List Rec} {ls lsS : List Str} {wr : Int} {fu : Option Int} {kept : Int}
    (L : LS K A H0 q p dx l S sv dv xs F H Rr vr rs ls lsS wr fu kept) : H Rr = some (.lst vr) := (L.w.mt _ (.tail _ (.head _))).2.1
theorem LS.sat {K : PySem.W.Frag} {A : Ad} {H0 : Hp} {q p dx l S : Addr} {sv dv : V} {xs : List Str} {F H : Hp} {Rr : Addr} {vr : List V} {rs : List Rec} {ls lsS : List Str} {wr : Int} {fu : Option Int} {kept : Int}
    (L : LS K A H0 q p dx l S sv dv xs F H Rr vr rs ls lsS wr fu kept) : H S = some (.lst (lsS.map V.str)) := (L.w.mt _ (.head _)).2.1
/-- the torn string at the end -/
def TnOk (tn : Option Str) : Prop := ∀ x, tn = some x → 59 ∉ tl x ∧ Asc x ∧ x.length ≤ 210001
theorem strings_ok {rs : List Rec} {tn : Option Str} (ok : ∀ r ∈ rs, RecOk r) (ht : TnOk tn) : ∀ x ∈ rs.map recText ++ tn.toList, Asc x ∧ x.length ≤ 210001 := fun x hx => by
  rcases List.mem_append.mp hx with hx | hx
  · obtain ⟨r, hr, rfl⟩ := List.mem_map.mp hx
    exact ⟨asc_recText (ok r hr), recText_len (ok r hr)⟩
  · cases tn with
    | none => cases hx
    | some o =>
      rw [Option.toList_some, List.mem_singleton] at hx
      subst hx
      exact (ht _ rfl).2
theorem lastRun_len (rs : List Rec) : (lastRun rs).length ≤ rs.length := by
  have key : ∀ (l acc : List Rec), (l.foldl (fun acc r => if r.isPic = true then [r] else acc ++ [r]) acc).length ≤ acc.length + l.length := by
    intro l
    induction l with
    | nil => intro acc; exact Nat.le_refl _
    | cons r l ih =>
      intro acc
      refine Nat.le_trans (ih _) ?_
      dsimp only
      split
      · simp; omega
      · simp; omega
  have := key rs []
  unfold lastRun
  simpa using this
theorem lastRun_mem {rs : List Rec} : ∀ r ∈ lastRun rs, r ∈ rs := by
  have key : ∀ (l acc : List Rec) (r : Rec), r ∈ l.foldl (fun acc r => if r.isPic = true then [r] else acc ++ [r]) acc → r ∈ acc ∨ r ∈ l := by
    intro l
    induction l with
    | nil => intro acc r h; exact .inl h
    | cons a l ih =>
      intro acc r h
      rcases ih _ r h with h | h
      · dsimp only at h
        split at h
        · rw [List.mem_singleton] at h; exact .inr (by simp [h])
        · rcases List.mem_append.mp h with h | h
          · exact .inl h
          · rw [List.mem_singleton] at h; exact .inr (by simp [h])
      · exact .inr (by simp [h])
  intro r h
  rcases key rs [] r h with h | h
  · cases h
  · exact h
/-- the check behind each write -/
theorem LS.counts {K : PySem.W.Frag} {A : Ad} {H0 : Hp} {q p dx l S : Addr} {sv dv : V} {xs : List Str} {F H : Hp} {Rr : Addr} {vr : List V} {rs : List Rec} {tn : Option Str} {wr : Int} {fu : Option Int} {kept : Int} {Q : VK} {E : XK}
    (L : LS K A H0 q p dx l S sv dv xs F H Rr vr rs (rs.map recText ++ tn.toList) (rs.map recText ++ tn.toList) wr fu kept) (ht : TnOk tn) (hn : rs.length ≤ 900) (k : ∀ H', Same H H' → Q (.bl true) H') :
    spCounts K A [.ref p, .ref S, .ref Rr, .int (rs.length : Int)] H Q E := by
  have hl : (rs.map recText ++ tn.toList).length = rs.length + tn.toList.length := by rw [List.length_append, List.length_map]
  have h1 : tn.toList.length ≤ 1 := by cases tn <;> simp
  have so := strings_ok L.ok ht
  refine ⟨p, dx, sv, dv, l, wr, fuV fu, kept, S, Rr, rs.map recText ++ tn.toList, rs.map some ++ List.replicate tn.toList.length none, vr, lastRun rs, rs.length, rfl, L.wat, L.sat, L.rat, dpa_mono L.w.fh L.da, fun r hr => L.ok r (lastRun_mem r hr), ⟨.of L.lat, ?_, ?_⟩, ?_, ?_, fun x hx => (so x hx).1, ?_, k⟩
  · rw [hl, List.length_append, List.length_map, List.length_replicate]
  · intro i x o hx ho
    refine ⟨?_, Nat.le_trans (so x (List.mem_of_getElem? hx)).2 (by decide)⟩
    by_cases c : i < rs.length
    · rw [List.getElem?_append_left (by rw [List.length_map]; exact c), List.getElem?_map, List.getElem?_eq_getElem c] at hx ho
      cases hx
      cases ho
      exact ⟨rfl, L.ok _ (List.getElem_mem c)⟩
    · rw [List.getElem?_append_right (by rw [List.length_map]; omega), List.length_map] at hx ho
      rw [List.getElem?_replicate] at ho
      split at ho
      · cases ho
        have := List.mem_of_getElem? hx
        cases tn with
        | none => cases this
        | some z =>
          rw [Option.toList_some, List.mem_singleton] at this
          subst this
          exact (ht _ rfl).1
      · cases ho
  · rw [List.length_append, List.length_map, List.length_replicate]
    exact count_whole L.h0
  · rw [hl]; omega
  · exact Nat.le_trans (lastRun_len rs) (by omega)

end
end Q

set_option Elab.async false
set_option linter.all false
set_option maxRecDepth 100000
set_option maxHeartbeats 8000000
namespace Q
open PySem PySem.Spec PyProof.Rows L2 TL PW Rc
section
variable {P : Program} {w : World} {K : PySem.W.Frag} {mg : Str → Option Value} {base : Heap} {A : Ad}
/-! ### the law -/
def spLaw (K : PySem.W.Frag) : Sp := fun vs H Q _ => ∃ (a : Addr) (ns : List Int), vs = [.ref a] ∧ SqL K H a (ns.map V.int) ∧ ns.length ≤ 63 ∧ ∀ H', Q (.bl true) H'
theorem tNil_i {σ : L2.St} {H : Hp} {k : List V → Hp → Prop} (h : k [] H) : tNil σ H k := h
theorem tCons_i {ta : TE} {tr : TA} {σ : L2.St} {H : Hp} {k : List V → Hp → Prop} (h : ta σ H fun x H1 => tr σ H1 fun xs H2 => k (x :: xs) H2) : tCons ta tr σ H k := h
theorem tC_i {v : V} {σ : L2.St} {H : Hp} {Q : VK} (h : Q v H) : tC v σ H Q := h
theorem orV {ta tb : TE} {σ : L2.St} {H : Hp} {Q : VK} (b1 b2 : Bool) (h1 : ∀ R : VK, R (.bl b1) H → ta σ H R) (h2 : ∀ R : VK, R (.bl b2) H → tb σ H R) (q : Q (.bl (b1 || b2)) H) : tOrV ta tb σ H Q := by
  refine h1 _ ⟨b1, rfl, ?_⟩
  cases b1 with
  | true => exact iteT q
  | false => exact iteF (h2 _ q)
section
variable {K : PySem.W.Frag} {A : Ad} {H0 : Hp} {q p dx l S : Addr} {sv dv : V} {xs : List Str} {F H : Hp} {Rr : Addr} {vr : List V} {rs : List Rec} {ls lsS : List Str} {wr : Int} {fu : Option Int} {kept : Int}
theorem LS.fix (L : LS K A H0 q p dx l S sv dv xs F H Rr vr rs ls lsS wr fu kept) {t : Addr} (h : H t = none) (o : HO) : LS K A H0 q p dx l S sv dv xs (upd F t o) (upd H t o) Rr vr rs ls lsS wr fu kept ∧ Same F (upd F t o) :=
  ⟨L.step ((Wd.start L.w.fh).fix h o).1.done, ((Wd.start L.w.fh).fix h o).2⟩
theorem LS.setW (L : LS K A H0 q p dx l S sv dv xs F H Rr vr rs ls lsS wr fu kept) (wr' : Int) {fu' : Option Int} (kept' : Int) (h : ∀ f, fu' = some f → 0 ≤ f) :
    LS K A H0 q p dx l S sv dv xs F (upd H p (.ins A.A_World dx (wf sv dv l wr' (fuV fu') kept'))) Rr vr rs ls lsS wr' fu' kept' := ⟨(L.w.roll.roll.roll.set _).roll, L.qx, L.da, L.ok, L.h0, h⟩
theorem LS.setL (L : LS K A H0 q p dx l S sv dv xs F H Rr vr rs ls lsS wr fu kept) (ls' : List Str) : LS K A H0 q p dx l S sv dv xs F (upd H l (.lst (ls'.map V.str))) Rr vr rs ls' lsS wr fu kept := ⟨(L.w.roll.roll.set _).roll.roll, L.qx, L.da, L.ok, L.h0, L.f0⟩
theorem LS.setS (L : LS K A H0 q p dx l S sv dv xs F H Rr vr rs ls lsS wr fu kept) (ls' : List Str) : LS K A H0 q p dx l S sv dv xs F (upd H S (.lst (ls'.map V.str))) Rr vr rs ls ls' wr fu kept := ⟨L.w.set _, L.qx, L.da, L.ok, L.h0, L.f0⟩
end
theorem burnt_pos {fu : Option Int} (h : ∀ f, fu = some f → 0 ≤ f) : ∀ f, burnt fu = some f → 0 ≤ f := by
  intro f e
  cases fu with
  | none => cases e
  | some g =>
    unfold burnt at e
    dsimp only at e
    split at e
    · have := Option.some.inj e; omega
    · cases e
theorem set_at {pre : List Str} {old x : Str} : ((pre ++ [old]).map V.str).set pre.length (.str x) = (pre ++ [x]).map V.str := by
  rw [List.map_append, List.set_append_right _ _ (by rw [List.length_map]; exact Nat.le_refl _), List.length_map, Nat.sub_self, List.map_append]
  rfl
theorem ix_at {pre : List Str} {old : Str} {n : Nat} (h : pre.length = n) : ixN ((pre ++ [old]).map V.str).length (n : Int) = some n := by
  unfold ixN
  rw [if_pos (by omega), if_pos (by rw [List.length_map, List.length_append]; simp; omega), Int.toNat_natCast]
theorem get_at {pre : List Str} {old : Str} {n : Nat} (h : pre.length = n) : ((pre ++ [old]).map V.str)[n]? = some (.str old) := by
  rw [List.getElem?_map, List.getElem?_append_right (by omega), h, Nat.sub_self]
  rfl
def dueS (fu : Option Int) : Str := if fu = some 0 then "cut" else "done"
/-- the loop's word -/
def LI (K : PySem.W.Frag) (A : Ad) (H0 : Hp) (a q p dx l S : Addr) (sv dv : V) (xs : List Str) (i : Nat) (σ : L2.St) (H : Hp) : Prop :=
  ∃ (F : Hp) (Rr : Addr) (vr : List V) (rs : List Rec) (tn : Option Str) (wr : Int) (fu : Option Int) (kept : Int) (v8 v9 v10 v11 v12 v13 : Option V),
    σ = [some (.ref a), some (.ref q), some (.ref p), some (.ref S), some (.ref Rr), some (.int (rs.length : Int)), some (fuV fu), some (.int kept), v8, v9, v10, v11, v12, v13] ∧
    LS K A H0 q p dx l S sv dv xs F H Rr vr rs (rs.map recText ++ tn.toList) (rs.map recText ++ tn.toList) wr fu kept ∧ TnOk tn ∧ rs.length ≤ i ∧ 0 ≤ kept
theorem ok_law (T : Txt K mg A) : FnOk P w K mg base CX0 20 A.a_law A.d_law ["_law_script"] (spLaw K) := by
  suffices G : FnOk P w K mg base CX0 10 A.a_law A.d_law ["_law_script"] (spLaw K) from G.mono (by decide)
  refine T.F_law.ok sc_law (fun vs H Q E h => ?_) (fun cdv A' outer s H vs Q E hr h => ?_)
  · obtain ⟨a, ns, rfl, _⟩ := h; rfl
  · obtain ⟨a, ns, rfl, hs, hn, k⟩ := h
    have hu64 := hu64_of hr
    have w := Wd.start (Same.refl H)
    refine ⟨_, pss_cons (ps_set (i := 1) sc_law.nd rfl (Or.inl rfl) (pe_call (ok_L_names T) (hr.mono (by decide)) rfl T.g_L_names T.F_L_names.kp T.b_L_names .nil pass0 (pa_cons (pe_call (ok_L_cell T) (hr.mono (by decide)) rfl T.g_L_cell T.F_L_cell.kp T.b_L_cell .nil pass0 (pa_cons (pv 0) (pa_cons (pe_int) pa_nil))) pa_nil)))
  (pss_cons (ps_set (i := 2) sc_law.nd rfl (Or.inl rfl) (pe_make T.M_World (ok_World_init T) (hr.mono (by decide)) rfl T.g_World T.b_World_init .nil pass0 (pa_cons (pe_op (op_addK (K := K) rfl) (pe_ix (ix_K (K := K) rfl) (pe_call (ok_L_draws T) (hr.mono (by decide)) rfl T.g_L_draws T.F_L_draws.kp T.b_L_draws .nil pass0 (pa_cons (pe_call (ok_L_cell T) (hr.mono (by decide)) rfl T.g_L_cell T.F_L_cell.kp T.b_L_cell .nil pass0 (pa_cons (pv 0) (pa_cons (pe_int) pa_nil))) (pa_cons (pe_lst (pa_cons (pe_int) pa_nil)) pa_nil))) (pe_int) (fun _ _ => rfl)) (pe_int)) pa_nil)))
  (pss_cons (ps_set (i := 3) sc_law.nd rfl (Or.inl rfl) (pe_lst (pa_nil)))
  (pss_cons (ps_set (i := 4) sc_law.nd rfl (Or.inl rfl) (pe_lst (pa_nil)))
  (pss_cons (ps_set (i := 5) sc_law.nd rfl (Or.inl rfl) (pe_int))
  (pss_cons (ps_set (i := 6) sc_law.nd rfl (Or.inl rfl) (pe_non))
  (pss_cons (ps_set (i := 7) sc_law.nd rfl (Or.inl rfl) (pe_int))
  (pss_cons (ps_if (pt_not (pt_val (pe_call (ok_L_counts T) (hr.mono (by decide)) rfl T.g_L_counts T.F_L_counts.kp T.b_L_counts .nil pass0 (pa_cons (pv 2) (pa_cons (pv 3) (pa_cons (pv 4) (pa_cons (pv 5) pa_nil))))))) (pss_one (ps_ret (pe_bl))) (pss_nil))
  (pss_cons (ps_for PassesOwn.never rfl (pi_range1 rfl T.n_range (pa_cons (pe_callB (call_min2 rfl) (by rfl) T.n_min (by decide +kernel) (pa_cons (pe_int) (pa_cons (pe_callB (call_max2 rfl) (by rfl) T.n_max (by decide +kernel) (pa_cons (pe_int) (pa_cons (pe_op op_sub (pe_callB (call_lenK (K := K) rfl) (by rfl) T.n_len (by decide +kernel) (pa_cons (pv 0) pa_nil)) (pe_int)) pa_nil))) pa_nil))) pa_nil)) (pg_name (i := 8) sc_law.nd rfl (Or.inl rfl)) (pss_cons (ps_set (i := 9) sc_law.nd rfl (Or.inl rfl) (pe_call (ok_L_draws T) (hr.mono (by decide)) rfl T.g_L_draws T.F_L_draws.kp T.b_L_draws .nil pass0 (pa_cons (pe_op (op_addK (K := K) rfl) (pe_call (ok_L_cell T) (hr.mono (by decide)) rfl T.g_L_cell T.F_L_cell.kp T.b_L_cell .nil pass0 (pa_cons (pv 0) (pa_cons (pe_op (op_addK (K := K) rfl) (pe_int) (pv 8)) pa_nil))) (pe_op op_mulU (pe_int) (pv 8))) (pa_cons (pe_op (op_addK (K := K) rfl) (pe_lst (pa_cons (pe_int) (pa_cons (pe_int) (pa_cons (pe_int) (pa_cons (pe_int) (pa_cons (pe_int) pa_nil)))))) (pe_call0 (ok_L_sizes T) (hr.mono (by decide)) rfl T.g_L_sizes T.F_L_sizes.kp T.b_L_sizes .nil pass0)) pa_nil))))
    (pss_cons (ps_set (i := 10) sc_law.nd rfl (Or.inl rfl) (pe_call (ok_L_small T) (hr.mono (by decide)) rfl T.g_L_small T.F_L_small.kp T.b_L_small .nil pass0 (pa_cons (pv 9) (pa_cons (pe_int) (pa_cons (pe_or (pe_cmpR (op_eqK (K := K) rfl hu64) (pe_ix (ix_K (K := K) rfl) (pv 9) (pe_int) (fun _ _ => rfl)) (pe_int) (nomark _)) (pe_one (pe_cmpR (op_eqK (K := K) rfl hu64) (pe_callB (call_lenK (K := K) rfl) (by rfl) T.n_len (by decide +kernel) (pa_cons (pv 4) pa_nil)) (pe_int) (nomark _)))) (pa_cons (pv 1) pa_nil))))))
    (pss_cons (ps_set (i := 11) sc_law.nd rfl (Or.inl rfl) (pe_call (ok_L_text_of T) (hr.mono (by decide)) rfl T.g_L_text_of T.F_L_text_of.kp T.b_L_text_of .nil pass0 (pa_cons (pv 10) pa_nil)))
    (pss_cons (ps_set (i := 12) sc_law.nd rfl (Or.inl rfl) (pe_call (ok_record_text T) (hr.mono (by decide)) rfl T.g_record_text T.F_record_text.kp T.b_record_text .nil pass0 (pa_cons (pv 10) pa_nil)))
    (pss_cons (ps_if (PW.pt (pw_or (pt_not (pt_val (pe_callB (call_isiK1 (K := K) rfl) (by rfl) T.n_isinstance (by decide +kernel) (pa_cons (pv 12) (pa_cons (pe_bltn (v := .ty "str") (by rfl) T.n_str (by decide +kernel) rfl) pa_nil))))) (pw_or1 (pt_cmpR (op_neK (K := K) rfl hu64) (pv 12) (pv 11) (nomark _))))) (pss_one (ps_ret (pe_bl))) (pss_nil))
    (Evl.pss_cut (ps_if (pt_cmpR (op_ltK (K := K) rfl) (pe_ix (ix_K (K := K) rfl) (pv 9) (pe_int) (fun _ _ => rfl)) (pe_int) (nomark _)) (pss_cons (ps_set (i := 6) sc_law.nd rfl (Or.inl rfl) (pe_ix (ix_K (K := K) rfl) (pe_tup (pa_cons (pe_int) (pa_cons (pe_int) (pa_cons (pe_int) pa_nil)))) (pe_ix (ix_K (K := K) rfl) (pv 9) (pe_int) (fun _ _ => rfl)) (fun _ _ => rfl)))
      (pss_cons (ps_set (i := 7) sc_law.nd rfl (Or.inl rfl) (pe_ix (ix_K (K := K) rfl) (pv 9) (pe_int) (fun _ _ => rfl)))
      (Evl.pss_cut (ps_if (pt_cmpR (op_eqK (K := K) rfl hu64) (pe_ix (ix_K (K := K) rfl) (pv 9) (pe_int) (fun _ _ => rfl)) (pe_int) (nomark _)) (pss_one (ps_set (i := 7) sc_law.nd rfl (Or.inl rfl) (pe_op (op_addK (K := K) rfl) (pe_op op_sub (pe_callB (call_lenK (K := K) rfl) (by rfl) T.n_len (by decide +kernel) (pa_cons (pv 11) pa_nil)) (pe_int)) (pe_ix (ix_K (K := K) rfl) (pv 9) (pe_int) (fun _ _ => rfl))))) (pss_nil))
      (pss_one (ps_expr (pe_meth (pv 2) T.cl_World T.m_World_cut_after (ok_World_cut_after T) (hr.mono (by decide)) T.b_World_cut_after .nil pass0 (pa_cons (pv 6) (pa_cons (pv 7) pa_nil)))))))) (pss_nil))
    (Evl.pss_cut (ps_if (pt_cmpR (op_eqK (K := K) rfl hu64) (pv 5) (pe_callB (call_lenK (K := K) rfl) (by rfl) T.n_len (by decide +kernel) (pa_cons (pv 3) pa_nil)) (nomark _)) (pss_one (ps_expr (pe_bm PySem.F.plainAttrs_list PySem.F.slot_list_append PySem.F.type_list_append mt_append (pv 3) (pa_cons (pe_str) pa_nil)))) (pss_nil))
    (pss_cons (ps_set (i := 13) sc_law.nd rfl (Or.inl rfl) (pe_str))
    (Evl.pss_cut (ps_if (PW.pt (pw_and (pt_cmp (pc_notN (pv 6))) (pw_and1 (pt_cmpR (op_eqK (K := K) rfl hu64) (pv 6) (pe_int) (nomark _))))) (pss_one (ps_set (i := 13) sc_law.nd rfl (Or.inl rfl) (pe_str))) (pss_nil))
    (pss_cons (ps_if (pt_cmpR (op_neK (K := K) rfl hu64) (pe_call (ok_L_write T) (hr.mono (by decide)) rfl T.g_L_write T.F_L_write.kp T.b_L_write .nil pass0 (pa_cons (pv 2) (pa_cons (pv 5) (pa_cons (pv 11) pa_nil)))) (pv 13) (nomark _)) (pss_one (ps_ret (pe_bl))) (pss_nil))
    (Evl.pss_cut (ps_if (PW.pt (pw_and (pt_cmpR (op_eqK (K := K) rfl hu64) (pv 13) (pe_str) (nomark _)) (pw_and1 (pt_cmpR (op_ltK (K := K) rfl) (pv 7) (pe_callB (call_lenK (K := K) rfl) (by rfl) T.n_len (by decide +kernel) (pa_cons (pv 11) pa_nil)) (nomark _))))) (pss_one (ps_asg (pe_op (op_addK (K := K) rfl) (pe_slice (sl_K (K := K) rfl) (pv 11) po_none (po_some (pv 7))) (pe_slice (sl_K (K := K) rfl) (pe_ix (ix_K (K := K) rfl) (pv 3) (pv 5) (fun _ _ => rfl)) (po_some (pv 7)) po_none)) (pg_sub (pv 3) (pv 5) set_list))) (pss_cons (ps_asg (pv 11) (pg_sub (pv 3) (pv 5) set_list))
      (pss_cons (ps_set (i := 5) sc_law.nd rfl (Or.inl rfl) (pe_op (op_addK (K := K) rfl) (pv 5) (pe_int)))
      (pss_cons (ps_if (pt_cmpR (op_eqK (K := K) rfl hu64) (pe_ix (ix_K (K := K) rfl) (pv 10) (pe_int) (fun _ _ => rfl)) (pe_str) (nomark _)) (pss_one (ps_set (i := 4) sc_law.nd rfl (Or.inl rfl) (pe_lst (pa_nil)))) (pss_nil))
      (pss_one (ps_expr (pe_bm PySem.F.plainAttrs_list PySem.F.slot_list_append PySem.F.type_list_append mt_append (pv 4) (pa_cons (pv 10) pa_nil))))))))
    (Evl.pss_cut (ps_if (pt_cmp (pc_notN (pv 6))) (pss_one (ps_set (i := 6) sc_law.nd rfl (Or.inl rfl) (pe_op op_sub (pv 6) (pe_int)))) (pss_nil))
    (Evl.pss_cut (ps_if (pt_cmpR (op_eqK (K := K) rfl hu64) (pv 13) (pe_str) (nomark _)) (pss_one (ps_set (i := 6) sc_law.nd rfl (Or.inl rfl) (pe_non))) (pss_nil))
    (pss_one (ps_if (pt_not (pt_val (pe_call (ok_L_counts T) (hr.mono (by decide)) rfl T.g_L_counts T.F_L_counts.kp T.b_L_counts .nil pass0 (pa_cons (pv 2) (pa_cons (pv 3) (pa_cons (pv 4) (pa_cons (pv 5) pa_nil))))))) (pss_one (ps_ret (pe_bl))) (pss_nil)))))))))))))))))
  (pss_one (ps_ret (pe_bl))))))))))), ?_⟩
    -- the names
    refine ⟨_, rfl, a, ns, 0, rfl, hs, by decide, fun H1 s1 => ?_⟩
    have w1 := w.same s1
    refine ⟨H, _, rfl, w1.fh, fun q F2 H2 xs st2 hx4 hxn hq => ?_⟩
    have w2 := w1.step st2
    -- the world
    refine ⟨_, rfl, a, ns, 0, rfl, w2.hh.seq hs, by decide, fun H3 s3 => ?_⟩
    have w3 := w2.same s3
    refine ⟨by show 1 ≤ sizeLine; decide, fun p4 h4 => ?_⟩
    obtain ⟨w4, e4⟩ := w3.fix h4 (.lst ([4].map V.int))
    refine ⟨_, _, p4, [4], rfl, .of upd_same, by decide, by decide, w4.fh, fun q5 F5 H5 ds st5 dr5 hq5 => ?_⟩
    have w5 := w4.step st5
    obtain ⟨d, hd, d0, d4⟩ := drawn_at dr5 (i := 0) (s := 4) rfl
    refine row_ix (j := 0) (same_l w5.fh hq5) hd rfl ?_
    refine .inl ⟨_, _, rfl, rfl, fun p dx hp hdx hne => ?_⟩
    have wp := w5.own hdx (.own p)
    have hp' : upd H5 dx (.own p) p = none := by rw [upd_ne (Ne.symm hne)]; exact hp
    have wp2 := wp.own hp' (.ins A.A_World dx [])
    refine ⟨p, dx, _, rfl, by omega, by omega, upd_same, fun H6 l dv keep hl hlp el ep => ⟨rfl, ?_⟩⟩
    have w6 : Wd H H F5 H6 [(l, .lst []), (p, .ins A.A_World dx (wf (.int (d + 1)) dv l 0 .non 0))] := (wp2.swap.drop.perm (.refl _)).made keep hl hlp el ep
    -- the lists
    refine ⟨Nat.zero_le _, fun S hS => ?_⟩
    have w7 := w6.own hS (.lst [])
    refine ⟨Nat.zero_le _, fun Rr hRr => ?_⟩
    have w8 := w7.own hRr (.lst [])
    have L : LS K A H q p dx l S (.int (d + 1)) dv xs F5 _ Rr [] [] [] [] 0 none 0 := ⟨w8.swap, same_l (e4.trans st5.ff) hq, .nil, (fun r h => nomatch h), (fun r h => nomatch h), (fun f h => nomatch h)⟩
    have t0 : TnOk none := fun x h => nomatch h
    refine ⟨_, rfl, _, rfl, _, rfl, _, rfl, tNil_i ?_⟩
    refine LS.counts (rs := []) (tn := none) L t0 (by decide) fun H9 s9 => ?_
    refine ⟨true, rfl, iteF ?_⟩
    have L9 := L.same s9
    have hs9 := L9.w.hh.seq hs
    refine ⟨_, rfl, _, _, rfl, .inl ⟨_, hs9, rfl⟩, _, _, rfl, rfl, _, _, rfl, _, _, rfl, ?_⟩
    rw [List.length_map]
    generalize hj : (if (if (ns.length : Int) - 1 > 3 then (ns.length : Int) - 1 else 3) < 10 then (if (ns.length : Int) - 1 > 3 then (ns.length : Int) - 1 else 3) else 10) = j
    have hj10 : 0 ≤ j ∧ j ≤ 10 := by rw [← hj]; split <;> (try split) <;> omega
    refine ⟨j, rfl, by omega, by omega, for_range (lo := 0) (n := j.toNat) (LI K A H a q p dx l S (.int (d + 1)) dv xs) ?_ ?_ ?_⟩
    · exact ⟨F5, Rr, [], [], none, 0, none, 0, none, none, none, none, none, none, rfl, L9, t0, Nat.le_refl _, Int.le_refl _⟩
    · rintro i σ H1 hi ⟨F, Rr, vr, rs, tn, wr, fu, kept, v8, v9, v10, v11, v12, v13, rfl, L, ht, hrs, hk0⟩
      have z : (0 : Int) + (i : Int) = (i : Int) := Int.zero_add _
      -- the row
      refine ⟨_, rfl, _, rfl, .inl ⟨_, _, rfl, rfl, a, ns, _, rfl, L.w.hh.seq hs, by omega, fun H2 s2 => ?_⟩⟩
      have L2 := L.same s2
      refine ⟨_, rfl, .inl ⟨_, _, rfl, rfl, .inl ⟨by decide, by decide⟩, .inl ⟨_, _, rfl, rfl, ?_⟩⟩⟩
      refine ⟨by show 5 ≤ sizeLine; decide, fun p2 hp2 => ?_⟩
      obtain ⟨L3, g3⟩ := L2.fix hp2 (.lst (([6, 6, 2, 90, 4] : List Int).map V.int))
      refine ⟨_, rfl, L3.w.fh, fun q3 F4 H4 st4 hq4 => ?_⟩
      have L4 := L3.step st4
      refine .inr (.inr (.inl ⟨p2, q3, _, _, rfl, rfl, L4.w.fh _ _ (st4.ff _ _ upd_same), L4.w.fh _ _ hq4, by show 5 + 15 ≤ sizeLine; decide, fun p4 hp4 => ?_⟩))
      obtain ⟨L5, g5⟩ := L4.fix hp4 (.lst (szRow.map V.int))
      refine ⟨_, _, p4, szRow, rfl, .of upd_same, by decide, by decide, L5.w.fh, fun q6 F6 H6 R st6 dr hq6 => ?_⟩
      have L6 := L5.step st6
      obtain ⟨r0, R0, b0, c0⟩ := drawn_at dr (i := 0) (s := 6) rfl
      obtain ⟨r1, R1, b1, c1⟩ := drawn_at dr (i := 1) (s := 6) rfl
      obtain ⟨r2, R2, b2, c2⟩ := drawn_at dr (i := 2) (s := 2) rfl
      obtain ⟨r3, R3, b3, c3⟩ := drawn_at dr (i := 3) (s := 90) rfl
      obtain ⟨r4, R4, b4, c4⟩ := drawn_at dr (i := 4) (s := 4) rfl
      -- the record
      refine ⟨_, rfl, tCons_i (tC_i (tCons_i ?_))⟩
      refine orV (decide (r0 = 0)) (decide (vr.length = 0)) (fun R' h' => ⟨_, rfl, row_ix (same_l L6.w.fh hq6) R0 rfl (.inl ⟨rfl, by rw [show decide (V.int r0 = V.int 0) = decide (r0 = 0) from decide_eq_decide.mpr ⟨V.int.inj, congrArg _⟩]; exact h'⟩)⟩) (fun R' h' => ⟨_, rfl, _, _, rfl, .inl ⟨_, .of L6.rat, rfl⟩, .inl ⟨rfl, by rw [show decide (V.int (vr.length : Int) = V.int 0) = decide (vr.length = 0) from decide_eq_decide.mpr ⟨fun e => by have := V.int.inj e; omega, fun e => by rw [e]; rfl⟩]; exact h'⟩⟩) ?_
      refine ⟨_, rfl, F6, q6, R, _, q, xs, rfl, hq6, dr, L6.qx, hx4, hxn, L6.w.fh, fun v F7 H7 r st7 Dr okr pic => ?_⟩
      have L7 := L6.step st7
      have D7 := dp_mono L7.w.fh Dr
      -- the texts
      refine ⟨_, rfl, v, r, rfl, D7, okr, fun H8 s8 => ?_⟩
      have L8 := L7.same s8
      refine ⟨_, rfl, v, r, rfl, dp_mono s8 D7, okr, fun H9 s9 => ?_⟩
      have L9 := L8.same s9
      refine ⟨_, rfl, .str _, .ty "str", _, _, true, rfl, .ty "str", .base (.str _), kit_ty (by decide +kernel), true, rfl, iteF ?_⟩
      refine ⟨_, rfl, _, rfl, .inl ⟨rfl, _, rfl, iteNS rfl ?_⟩⟩
      have hpic : rs = [] → r.isPic = true := fun e => by
        have hv : vr.length = 0 := by rw [dpa_len L.da, e]; rfl
        rw [pic, hv]
        simp
      have hq9 : SqL K H9 q6 (R.map V.int) := same_l (st7.ff.trans L9.w.fh) hq6
      have tl2 := recText_two (r := r)
      have len := recText_len okr
      -- the cut ahead
      refine ⟨fun σ' H' => ∃ (F' : Hp) (fu' : Option Int) (kept' : Int) (u8 u9 u12 u13 : Option V), σ' = [some (.ref a), some (.ref q), some (.ref p), some (.ref S), some (.ref Rr), some (.int (rs.length : Int)), some (fuV fu'), some (.int kept'), u8, u9, some v, some (.str (recText r)), u12, u13] ∧
        LS K A H q p dx l S (.int (d + 1)) dv xs F' H' Rr vr rs (rs.map recText ++ tn.toList) (rs.map recText ++ tn.toList) wr fu' kept' ∧ 0 ≤ kept' ∧ Dp K F' v (encR r), ?_, ?_⟩
      · refine ⟨_, rfl, row_ix hq9 R1 rfl (.inl ⟨_, _, rfl, rfl, _, rfl, iteD (fun c => ?_) (fun c => ?_)⟩)⟩
        · refine ⟨by show 3 ≤ sizeLine; decide, fun pt hpt => ?_⟩
          obtain ⟨L10, g10⟩ := L9.fix hpt (.tup [.int 0, .int 0, .int 1])
          have hq10 := same_l (same_new (o := .tup [.int 0, .int 0, .int 1]) hpt) hq9
          obtain ⟨f, hf, f0⟩ : ∃ f : Int, atI [V.int 0, .int 0, .int 1] r1 = some (.int f) ∧ 0 ≤ f := by
            have : r1 = 0 ∨ r1 = 1 ∨ r1 = 2 := by omega
            rcases this with rfl | rfl | rfl
            · exact ⟨0, atI_nat (j := 0) rfl, by decide⟩
            · exact ⟨0, atI_nat (j := 1) rfl, by decide⟩
            · exact ⟨1, atI_nat (j := 2) rfl, by decide⟩
          refine ⟨_, rfl, row_ix hq10 R1 rfl (.inr (.inl ⟨pt, _, _, _, rfl, rfl, .of upd_same, hf, ?_⟩))⟩
          refine ⟨_, rfl, row_ix hq10 R3 rfl ?_⟩
          refine ⟨fun σ' H' => ∃ (kept' : Int) (u8 u9 u12 u13 : Option V), σ' = [some (.ref a), some (.ref q), some (.ref p), some (.ref S), some (.ref Rr), some (.int (rs.length : Int)), some (.int f), some (.int kept'), u8, u9, some v, some (.str (recText r)), u12, u13] ∧ H' = upd H9 pt (.tup [.int 0, .int 0, .int 1]) ∧ 0 ≤ kept', ?_, ?_⟩
          · refine ⟨_, rfl, row_ix hq10 R2 rfl (.inl ⟨rfl, _, rfl, iteD (fun c => ?_) (fun c => ?_)⟩)⟩
            · refine ⟨_, rfl, _, _, rfl, ⟨small (by omega), rfl⟩, _, _, rfl, rfl, _, rfl, row_ix hq10 R4 rfl (.inl ⟨_, _, rfl, rfl, ?_⟩)⟩
              exact ⟨_, _, _, _, _, rfl, rfl, by omega⟩
            · exact ⟨_, _, _, _, _, rfl, rfl, b3⟩
          · rintro σ' H' ⟨kept', u8, u9, u12, u13, rfl, rfl, k0⟩
            have noC : (wf (.int (d + 1)) dv l wr (fuV fu) kept).lookup ("cut_after" : Str) = none := wf_no _ _ _ _ _ _ (by decide +kernel) (by decide +kernel) (by decide +kernel) (by decide +kernel) (by decide +kernel) (by decide +kernel)
            refine ⟨_, rfl, p, dx, _, rfl, L10.wat, noC, _, rfl, _, rfl, p, dx, _, dv, l, wr, fuV fu, kept, f, kept', rfl, L10.wat, ?_⟩
            exact ⟨_, some f, kept', _, _, _, _, rfl, L10.setW (fu' := some f) wr kept' (fun g e => by cases e; exact f0), k0, dp_mono g10 Dr⟩
        · exact ⟨_, fu, kept, _, _, _, _, rfl, L9, hk0, Dr⟩
      · clear hk0 L2 L3 L4 L5 L6 L7 L8 L9 D7 Dr
        rintro σ' H' ⟨F', fu, kept, u8, u9, u12, u13, rfl, L, k0, Dv⟩
        have hpl : (rs.map recText).length = rs.length := List.length_map ..
        have htl : tn.toList.length ≤ 1 := by cases tn <;> simp
        have so := strings_ok L.ok ht
        -- room for one more string
        refine ⟨fun σ' H' => ∃ (u8 u9 u12 u13 : Option V), σ' = [some (.ref a), some (.ref q), some (.ref p), some (.ref S), some (.ref Rr), some (.int (rs.length : Int)), some (fuV fu), some (.int kept), u8, u9, some v, some (.str (recText r)), u12, u13] ∧
          LS K A H q p dx l S (.int (d + 1)) dv xs F' H' Rr vr rs (rs.map recText ++ tn.toList) (rs.map recText ++ [tn.getD Str.empty]) wr fu kept, ?_, ?_⟩
        · refine ⟨_, rfl, _, rfl, _, _, rfl, .inl ⟨_, .of L.sat, rfl⟩, .inl ⟨rfl, _, rfl, iteD (fun c => ?_) (fun c => ?_)⟩⟩
          · have c := V.int.inj c
            have e : tn = none := by
              cases tn with
              | none => rfl
              | some o => rw [List.length_map, List.length_append, hpl] at c; simp at c; omega
            subst e
            refine ⟨_, rfl, .inl ⟨rfl, _, .of L.sat⟩, S, _, _, rfl, rfl, L.sat, small' (by rw [List.length_map, List.length_append, hpl]; simp; omega), ?_⟩
            have eS : List.map V.str (rs.map recText ++ (none : Option Str).toList) ++ [V.str (Str.ofString "")] = (rs.map recText ++ [Str.empty]).map V.str := by rw [Option.toList_none, List.append_nil, List.map_append]; rfl
            rw [eS]
            exact ⟨_, _, _, _, rfl, L.setS _⟩
          · have e : ∃ o, tn = some o := by
              cases tn with
              | none => exact absurd (by rw [List.length_map, List.length_append, hpl]; simp) c
              | some o => exact ⟨o, rfl⟩
            obtain ⟨o, rfl⟩ := e
            exact ⟨_, _, _, _, rfl, L⟩
        clear L
        rintro σ' H' ⟨u8, u9, u12, u13, rfl, L⟩
        -- what is due
        refine ⟨fun σ' H'' => ∃ (u8 u9 u12 : Option V), σ' = [some (.ref a), some (.ref q), some (.ref p), some (.ref S), some (.ref Rr), some (.int (rs.length : Int)), some (fuV fu), some (.int kept), u8, u9, some v, some (.str (recText r)), u12, some (.str (dueS fu))] ∧ H'' = H', ?_, ?_⟩
        · unfold gName
          dsimp only
          unfold tIfS
          refine andB (fu.isSome) (decide (fu = some 0)) (fun R' r' => ⟨_, rfl, _, rfl, by cases fu <;> exact r'⟩) (fun e R' r' => ⟨_, rfl, .inl ⟨by cases fu <;> rfl, _, rfl, ?_⟩⟩) ?_
          · cases fu with
            | none => cases e
            | some f => rw [show decide (fuV (some f) = V.int 0) = decide (some f = some 0) from decide_eq_decide.mpr ⟨fun e => by rw [V.int.inj e], fun e => by rw [Option.some.inj e]; rfl⟩]; exact r'
          · refine iteB (fun c => ?_) (fun c => ?_)
            · have e : fu = some 0 := by simpa using (Bool.and_eq_true_iff.mp c).2
              exact ⟨_, _, _, by unfold dueS; rw [if_pos e]; rfl, rfl⟩
            · have e : fu ≠ some 0 := fun e => by rw [e] at c; cases c
              exact ⟨_, _, _, by unfold dueS; rw [if_neg e]; rfl, rfl⟩
        clear u8 u9 u12 u13
        rintro σ' H'' ⟨u8, u9, u12, rfl, rfl⟩
        -- the write
        have la : logAfter (rs.map recText ++ tn.toList) rs.length fu kept (recText r) = rs.map recText ++ [storedS fu kept (tn.getD Str.empty) (recText r)] := by
          have := logAfter_at (pre := rs.map recText) (tn := tn) (fu := fu) (kept := kept) (text := recText r)
          rwa [hpl] at this
        refine ⟨_, rfl, _, rfl, _, rfl, p, dx, _, dv, l, wr, fu, kept, rs.length, recText r, rs.map recText ++ tn.toList, rfl, L.wat, L.lat, L.f0, by rw [List.length_append, hpl]; omega, by rw [List.length_append, hpl]; omega, fun x hx => Nat.le_trans (so x hx).2 (by decide), Nat.le_trans len (by decide), ?_⟩
        refine ⟨_, rfl, .inl ⟨rfl, _, rfl, iteNS rfl ?_⟩⟩
        rw [la]
        have LB := (L.setL (rs.map recText ++ [storedS fu kept (tn.getD Str.empty) (recText r)])).setW (wr + 1) kept (burnt_pos L.f0)
        have fu0 := L.f0
        have hold : 59 ∉ tl (tn.getD Str.empty) ∧ Asc (tn.getD Str.empty) ∧ (tn.getD Str.empty).length ≤ 210001 := by
          cases tn with
          | none => exact ⟨fun z => (nomatch z), (fun c z => nomatch z), Nat.zero_le _⟩
          | some o => exact ht o rfl
        clear L
        generalize upd (upd H'' l (.lst ((rs.map recText ++ [storedS fu kept (tn.getD Str.empty) (recText r)]).map V.str))) p (.ins A.A_World dx (wf (.int (d + 1)) dv l (wr + 1) (fuV (burnt fu)) kept)) = HB at LB ⊢
        -- the strings
        refine ⟨fun σ' H' => ∃ (F' : Hp) (Rr : Addr) (vr : List V) (rs2 : List Rec) (tn2 : Option Str) (u8 u9 u10 u11 u12 : Option V), σ' = [some (.ref a), some (.ref q), some (.ref p), some (.ref S), some (.ref Rr), some (.int (rs2.length : Int)), some (fuV fu), some (.int kept), u8, u9, u10, u11, u12, some (.str (dueS fu))] ∧
          LS K A H q p dx l S (.int (d + 1)) dv xs F' H' Rr vr rs2 (rs2.map recText ++ tn2.toList) (rs2.map recText ++ tn2.toList) (wr + 1) (burnt fu) kept ∧ TnOk tn2 ∧ rs2.length ≤ i + 1, ?_, ?_⟩
        · have hlen : (tn.getD Str.empty).length ≤ 210001 := hold.2.2
          unfold gName
          dsimp only
          unfold tIfS
          refine andB (decide (fu = some 0)) (decide (kept < ((recText r).length : Int))) (fun R' r' => ⟨_, rfl, .inl ⟨rfl, _, rfl, ?_⟩⟩) (fun e R' r' => ⟨_, rfl, _, rfl, _, _, rfl, ⟨small (by omega), rfl⟩, .inl ⟨_, _, rfl, rfl, _, rfl, r'⟩⟩) ?_
          · have e : decide (V.str (dueS fu) = V.str (Str.ofString "cut")) = decide (fu = some 0) := by
              unfold dueS
              by_cases c : fu = some 0
              · rw [if_pos c, decide_eq_true c, decide_eq_true rfl]
              · rw [if_neg c, decide_eq_false c]; decide +kernel
            rw [e]
            exact r'
          refine iteB (fun c => ?_) (fun c => ?_)
          · have c' : fu = some 0 ∧ kept < ((recText r).length : Int) := by simpa using c
            rw [stored_torn c'] at LB
            have tok := torn_ok okr k0 c'.2 hold.1 hold.2.1 hold.2.2
            have l1 := cutS_length (recText r) none (some kept)
            have l2 := cutS_length (tn.getD Str.empty) (some kept) none
            refine ⟨_, rfl, _, rfl, _, rfl, .inl ⟨_, rfl, small (by omega), _, rfl, _, rfl, .inl ⟨S, _, _, _, rfl, rfl, .of LB.sat, atI_nat (get_at hpl), _, rfl, _, rfl, .inl ⟨_, rfl, small (by omega), .inr (.inl ⟨_, _, rfl, rfl, small (by omega), ?_⟩)⟩⟩⟩⟩
            refine ⟨_, rfl, _, rfl, S, _, _, rs.length, rfl, rfl, LB.sat, ix_at hpl, ?_⟩
            have e := set_at (pre := rs.map recText) (old := tn.getD Str.empty) (x := cutS (recText r) none (some kept) ++ cutS (tn.getD Str.empty) (some kept) none)
            rw [hpl] at e
            rw [e]
            exact ⟨F', Rr, vr, rs, some _, _, _, _, _, _, rfl, LB.setS _, (fun x hx => by cases hx; exact tok), by omega⟩
          · have c' : ¬ (fu = some 0 ∧ kept < ((recText r).length : Int)) := fun z => by simp [z] at c
            rw [stored_whole c'] at LB
            refine ⟨_, rfl, _, rfl, _, rfl, S, _, _, rs.length, rfl, rfl, LB.sat, ix_at hpl, ?_⟩
            have e := set_at (pre := rs.map recText) (old := tn.getD Str.empty) (x := recText r)
            rw [hpl] at e
            rw [e]
            have LC := LB.setS (rs.map recText ++ [recText r])
            have eS : rs.map recText ++ [recText r] = (rs ++ [r]).map recText ++ (none : Option Str).toList := by rw [Option.toList_none, List.append_nil, List.map_append]; rfl
            rw [eS] at LC ⊢
            have okn : ∀ x ∈ rs ++ [r], RecOk x := fun x hx => by
              rcases List.mem_append.mp hx with hx | hx
              · exact LC.ok x hx
              · rw [List.mem_singleton.mp hx]; exact okr
            have h0n : ∀ x, (rs ++ [r])[0]? = some x → x.isPic = true := fun x hx => by
              cases hrs' : rs with
              | nil => rw [hrs'] at hx; cases hx; exact hpic hrs'
              | cons y t => exact LC.h0 x (by rw [hrs'] at hx ⊢; exact hx)
            have ell : ((rs ++ [r]).length : Int) = (rs.length : Int) + 1 := by rw [List.length_append]; rfl
            refine ⟨_, rfl, .inl ⟨_, _, rfl, rfl, ?_⟩⟩
            obtain ⟨qv, x0, xv, rfl, hqv, hx0⟩ := rec0_at Dv
            -- the records
            refine ⟨_, rfl, .inr (.inl ⟨qv, _, 0, _, rfl, rfl, same_t LC.w.fh hqv, atI_nat (j := 0) rfl, .inl ⟨rfl, _, rfl, iteD (fun c => ?_) (fun c => ?_)⟩⟩)⟩
            · have pc : r.isPic = true := hx0.mp (V.str.inj c)
              refine ⟨Nat.zero_le _, fun R2 hR2 => ?_⟩
              have w5 := ((LC.w.own hR2 (.lst [])).roll.roll.drop.roll.roll.set (.lst [.ref qv])).swap
              refine ⟨_, rfl, .inl ⟨rfl, _, .of upd_same⟩, _, rfl, R2, _, _, rfl, rfl, upd_same, by show 0 < sizeLine; decide, ?_⟩
              exact ⟨F', R2, [.ref qv], rs ++ [r], none, _, _, _, _, _, by rw [ell]; rfl, ⟨w5, LC.qx, by rw [lastRun_snoc, if_pos pc]; exact dpa_one Dv, okn, h0n, LC.f0⟩, (fun x hx => nomatch hx), by rw [List.length_append]; simp; omega⟩
            · have pc : ¬ r.isPic = true := fun z => c (by rw [hx0.mpr z])
              have w5 := (LC.w.swap.set (.lst (vr ++ [.ref qv]))).swap
              have hvl : vr.length ≤ 10 := by rw [dpa_len LC.da, List.length_map]; exact Nat.le_trans (lastRun_len rs) (by omega)
              refine ⟨_, rfl, .inl ⟨rfl, _, .of LC.rat⟩, _, rfl, Rr, _, _, rfl, rfl, LC.rat, small' (by omega), ?_⟩
              exact ⟨F', Rr, vr ++ [.ref qv], rs ++ [r], none, _, _, _, _, _, by rw [ell]; rfl, ⟨w5, LC.qx, by rw [lastRun_snoc, if_neg pc, List.map_append]; exact dpa_snoc LC.da Dv, okn, h0n, LC.f0⟩, (fun x hx => nomatch hx), by rw [List.length_append]; simp; omega⟩
        clear LB
        rintro σ' H1 ⟨F', Rr, vr, rs, tn, u8, u9, u10, u11, u12, rfl, L, ht, hrs⟩
        refine ⟨fun σ' H' => ∃ (fu' : Option Int), σ' = [some (.ref a), some (.ref q), some (.ref p), some (.ref S), some (.ref Rr), some (.int (rs.length : Int)), some (fuV fu'), some (.int kept), u8, u9, u10, u11, u12, some (.str (dueS fu))] ∧ H' = H1 ∧ (fu ≠ some 0 → fu' = burnt fu), ?_, ?_⟩
        · cases fu with
          | none => exact ⟨_, rfl, _, rfl, iteNS rfl ⟨none, rfl, rfl, fun _ => rfl⟩⟩
          | some f =>
            refine ⟨_, rfl, _, rfl, iteNY (fun z => nomatch z) ⟨_, rfl, _, _, rfl, rfl, some (f - 1), rfl, rfl, fun h => ?_⟩⟩
            have := fu0 f rfl
            exact (if_pos (show 0 < f from by have : f ≠ 0 := fun z => h (by rw [z]); omega)).symm
        rintro σ' H2 ⟨fu', rfl, rfl, hfu⟩
        refine ⟨fun σ' H' => σ' = [some (.ref a), some (.ref q), some (.ref p), some (.ref S), some (.ref Rr), some (.int (rs.length : Int)), some (fuV (burnt fu)), some (.int kept), u8, u9, u10, u11, u12, some (.str (dueS fu))] ∧ H' = H2, ?_, ?_⟩
        · refine ⟨_, rfl, .inl ⟨rfl, _, rfl, ?_⟩⟩
          by_cases c : fu = some 0
          · refine iteYes (by unfold dueS; rw [if_pos c]) ?_
            rw [c, show burnt (some 0) = none from by decide]
            exact ⟨rfl, rfl⟩
          · refine iteNo (by unfold dueS; rw [if_neg c]; decide +kernel) ?_
            rw [hfu c]
            exact ⟨rfl, rfl⟩
        rintro σ' H1 ⟨rfl, rfl⟩
        refine ⟨_, rfl, _, rfl, _, rfl, _, rfl, tNil_i ?_⟩
        refine LS.counts L ht (by omega) fun H9 s9 => ?_
        refine ⟨true, rfl, iteF ?_⟩
        exact ⟨_, _, _, _, _, _, _, _, _, _, _, _, _, _, rfl, L.same s9, ht, hrs, k0⟩
    · rintro σ H1 _
      exact k H1

end
end Q

set_option Elab.async false
set_option linter.all false
set_option maxRecDepth 100000
set_option maxHeartbeats 8000000
namespace Q
open PySem PySem.Spec PyProof.Rows L2 TL PW Rc
theorem all_mk {P : Program} {w : World} {K : PySem.W.Frag} {h : Heap} {mg : Str → Option Value} {fa f_L_draws f_L_names f_World_init f_L_cell f_number_of f_read_list f_is_name f_is_rising f_read_named f_read_cap f_read_picture f_read_head f_read_warden f_read_wardens f_read_record f_counted f_log_end f_read_log f_L_is_integer f_L_alike f_L_counts f_L_small f_L_join f_L_text_of f_warden_text f_list_text f_named_text f_head_words f_record_text f_World_cut_after f_tear f_World__stored f_World__count_write f_World_write_log f_L_write f_L_sizes f_law C_World C_PowerCut C_PoolError : Addr} (X : K.In h) (G : h.Ns mainGlobals mg) (hfa : mg "law" = some (.ref fa))
    {od_L_draws an_L_draws od_L_names an_L_names od_World_init an_World_init od_L_cell an_L_cell od_number_of an_number_of od_read_list an_read_list od_is_name an_is_name od_is_rising an_is_rising od_read_named an_read_named od_read_cap an_read_cap od_read_picture an_read_picture od_read_head an_read_head od_read_warden an_read_warden od_read_wardens an_read_wardens od_read_record an_read_record od_counted an_counted od_log_end an_log_end od_read_log an_read_log od_L_is_integer an_L_is_integer od_L_alike an_L_alike od_L_counts an_L_counts od_L_small an_L_small od_L_join an_L_join od_L_text_of an_L_text_of od_warden_text an_warden_text od_list_text an_list_text od_named_text an_named_text od_head_words an_head_words od_record_text an_record_text od_World_cut_after an_World_cut_after od_tear an_tear od_World__stored an_World__stored od_World__count_write an_World__count_write od_World_write_log an_World_write_log od_L_write an_L_write od_L_sizes an_L_sizes od_law an_law : Option Addr} {sl_L_draws sl_L_names sl_World_init sl_L_cell sl_number_of sl_read_list sl_is_name sl_is_rising sl_read_named sl_read_cap sl_read_picture sl_read_head sl_read_warden sl_read_wardens sl_read_record sl_counted sl_log_end sl_read_log sl_L_is_integer sl_L_alike sl_L_counts sl_L_small sl_L_join sl_L_text_of sl_warden_text sl_list_text sl_named_text sl_head_words sl_record_text sl_World_cut_after sl_tear sl_World__stored sl_World__count_write sl_World_write_log sl_L_write sl_L_sizes sl_law : Array (Option Value)} {oc_L_draws kV_L_draws dc_L_draws pm_L_draws cd_L_draws ct_L_draws oc_L_names kV_L_names dc_L_names pm_L_names cd_L_names ct_L_names oc_World_init kV_World_init dc_World_init pm_World_init cd_World_init ct_World_init oc_L_cell kV_L_cell dc_L_cell pm_L_cell cd_L_cell ct_L_cell oc_number_of kV_number_of dc_number_of pm_number_of cd_number_of ct_number_of oc_read_list kV_read_list dc_read_list pm_read_list cd_read_list ct_read_list oc_is_name kV_is_name dc_is_name pm_is_name cd_is_name ct_is_name oc_is_rising kV_is_rising dc_is_rising pm_is_rising cd_is_rising ct_is_rising oc_read_named kV_read_named dc_read_named pm_read_named cd_read_named ct_read_named oc_read_cap kV_read_cap dc_read_cap pm_read_cap cd_read_cap ct_read_cap oc_read_picture kV_read_picture dc_read_picture pm_read_picture cd_read_picture ct_read_picture oc_read_head kV_read_head dc_read_head pm_read_head cd_read_head ct_read_head oc_read_warden kV_read_warden dc_read_warden pm_read_warden cd_read_warden ct_read_warden oc_read_wardens kV_read_wardens dc_read_wardens pm_read_wardens cd_read_wardens ct_read_wardens oc_read_record kV_read_record dc_read_record pm_read_record cd_read_record ct_read_record oc_counted kV_counted dc_counted pm_counted cd_counted ct_counted oc_log_end kV_log_end dc_log_end pm_log_end cd_log_end ct_log_end oc_read_log kV_read_log dc_read_log pm_read_log cd_read_log ct_read_log oc_L_is_integer kV_L_is_integer dc_L_is_integer pm_L_is_integer cd_L_is_integer ct_L_is_integer oc_L_alike kV_L_alike dc_L_alike pm_L_alike cd_L_alike ct_L_alike oc_L_counts kV_L_counts dc_L_counts pm_L_counts cd_L_counts ct_L_counts oc_L_small kV_L_small dc_L_small pm_L_small cd_L_small ct_L_small oc_L_join kV_L_join dc_L_join pm_L_join cd_L_join ct_L_join oc_L_text_of kV_L_text_of dc_L_text_of pm_L_text_of cd_L_text_of ct_L_text_of oc_warden_text kV_warden_text dc_warden_text pm_warden_text cd_warden_text ct_warden_text oc_list_text kV_list_text dc_list_text pm_list_text cd_list_text ct_list_text oc_named_text kV_named_text dc_named_text pm_named_text cd_named_text ct_named_text oc_head_words kV_head_words dc_head_words pm_head_words cd_head_words ct_head_words oc_record_text kV_record_text dc_record_text pm_record_text cd_record_text ct_record_text oc_World_cut_after kV_World_cut_after dc_World_cut_after pm_World_cut_after cd_World_cut_after ct_World_cut_after oc_tear kV_tear dc_tear pm_tear cd_tear ct_tear oc_World__stored kV_World__stored dc_World__stored pm_World__stored cd_World__stored ct_World__stored oc_World__count_write kV_World__count_write dc_World__count_write pm_World__count_write cd_World__count_write ct_World__count_write oc_World_write_log kV_World_write_log dc_World_write_log pm_World_write_log cd_World_write_log ct_World_write_log oc_L_write kV_L_write dc_L_write pm_L_write cd_L_write ct_L_write oc_L_sizes kV_L_sizes dc_L_sizes pm_L_sizes cd_L_sizes ct_L_sizes oc_law kV_law dc_law pm_law cd_law ct_law : Value}
    (A_World : PySem.W.nsIn K mainGlobals "World" = some (some (.ref C_World)))
    (A_PowerCut : PySem.W.nsIn K mainGlobals "PowerCut" = some (some (.ref C_PowerCut)))
    (A_PoolError : PySem.W.nsIn K mainGlobals "PoolError" = some (some (.ref C_PoolError)))
    (a_L_draws : PySem.W.nsIn K mainGlobals "_law_draws" = some (some (.ref f_L_draws)))
    (l_L_draws : K.lookup f_L_draws = some ⟨oc_L_draws, od_L_draws, .func (PySem.W.fnOf "_law_draws" "_law_draws" (defArgs s_L_draws) (defBody s_L_draws) (defScope s_L_draws) .none kV_L_draws dc_L_draws pm_L_draws an_L_draws cd_L_draws ct_L_draws), sl_L_draws⟩)
    (c_L_draws : PySem.W.codeIn K cd_L_draws "_law_draws" = true)
    (k_L_draws : PySem.W.keepIn K (.ref f_L_draws) = true)
    (a_L_names : PySem.W.nsIn K mainGlobals "_law_names" = some (some (.ref f_L_names)))
    (l_L_names : K.lookup f_L_names = some ⟨oc_L_names, od_L_names, .func (PySem.W.fnOf "_law_names" "_law_names" (defArgs s_L_names) (defBody s_L_names) (defScope s_L_names) .none kV_L_names dc_L_names pm_L_names an_L_names cd_L_names ct_L_names), sl_L_names⟩)
    (c_L_names : PySem.W.codeIn K cd_L_names "_law_names" = true)
    (k_L_names : PySem.W.keepIn K (.ref f_L_names) = true)
    (a_World_init : PySem.W.findIn K (.ref C_World) "__init__" = some (some (.ref f_World_init)))
    (i_World_init : PySem.W.isFn K (.ref f_World_init) = true)
    (l_World_init : K.lookup f_World_init = some ⟨oc_World_init, od_World_init, .func (PySem.W.fnOf "__init__" "World.__init__" (defArgs s_World_init) (defBody s_World_init) (defScope s_World_init) .none kV_World_init dc_World_init pm_World_init an_World_init cd_World_init ct_World_init), sl_World_init⟩)
    (c_World_init : PySem.W.codeIn K cd_World_init "World.__init__" = true)
    (k_World_init : PySem.W.keepIn K (.ref f_World_init) = true)
    (a_L_cell : PySem.W.nsIn K mainGlobals "_law_cell" = some (some (.ref f_L_cell)))
    (l_L_cell : K.lookup f_L_cell = some ⟨oc_L_cell, od_L_cell, .func (PySem.W.fnOf "_law_cell" "_law_cell" (defArgs s_L_cell) (defBody s_L_cell) (defScope s_L_cell) .none kV_L_cell dc_L_cell pm_L_cell an_L_cell cd_L_cell ct_L_cell), sl_L_cell⟩)
    (c_L_cell : PySem.W.codeIn K cd_L_cell "_law_cell" = true)
    (k_L_cell : PySem.W.keepIn K (.ref f_L_cell) = true)
    (a_number_of : PySem.W.nsIn K mainGlobals "number_of" = some (some (.ref f_number_of)))
    (l_number_of : K.lookup f_number_of = some ⟨oc_number_of, od_number_of, .func (PySem.W.fnOf "number_of" "number_of" (defArgs s_number_of) (defBody s_number_of) (defScope s_number_of) .none kV_number_of dc_number_of pm_number_of an_number_of cd_number_of ct_number_of), sl_number_of⟩)
    (c_number_of : PySem.W.codeIn K cd_number_of "number_of" = true)
    (k_number_of : PySem.W.keepIn K (.ref f_number_of) = true)
    (a_read_list : PySem.W.nsIn K mainGlobals "read_list" = some (some (.ref f_read_list)))
    (l_read_list : K.lookup f_read_list = some ⟨oc_read_list, od_read_list, .func (PySem.W.fnOf "read_list" "read_list" (defArgs s_read_list) (defBody s_read_list) (defScope s_read_list) .none kV_read_list dc_read_list pm_read_list an_read_list cd_read_list ct_read_list), sl_read_list⟩)
    (c_read_list : PySem.W.codeIn K cd_read_list "read_list" = true)
    (k_read_list : PySem.W.keepIn K (.ref f_read_list) = true)
    (a_is_name : PySem.W.nsIn K mainGlobals "is_name" = some (some (.ref f_is_name)))
    (l_is_name : K.lookup f_is_name = some ⟨oc_is_name, od_is_name, .func (PySem.W.fnOf "is_name" "is_name" (defArgs s_is_name) (defBody s_is_name) (defScope s_is_name) .none kV_is_name dc_is_name pm_is_name an_is_name cd_is_name ct_is_name), sl_is_name⟩)
    (c_is_name : PySem.W.codeIn K cd_is_name "is_name" = true)
    (k_is_name : PySem.W.keepIn K (.ref f_is_name) = true)
    (a_is_rising : PySem.W.nsIn K mainGlobals "is_rising" = some (some (.ref f_is_rising)))
    (l_is_rising : K.lookup f_is_rising = some ⟨oc_is_rising, od_is_rising, .func (PySem.W.fnOf "is_rising" "is_rising" (defArgs s_is_rising) (defBody s_is_rising) (defScope s_is_rising) .none kV_is_rising dc_is_rising pm_is_rising an_is_rising cd_is_rising ct_is_rising), sl_is_rising⟩)
    (c_is_rising : PySem.W.codeIn K cd_is_rising "is_rising" = true)
    (k_is_rising : PySem.W.keepIn K (.ref f_is_rising) = true)
    (a_read_named : PySem.W.nsIn K mainGlobals "read_named" = some (some (.ref f_read_named)))
    (l_read_named : K.lookup f_read_named = some ⟨oc_read_named, od_read_named, .func (PySem.W.fnOf "read_named" "read_named" (defArgs s_read_named) (defBody s_read_named) (defScope s_read_named) .none kV_read_named dc_read_named pm_read_named an_read_named cd_read_named ct_read_named), sl_read_named⟩)
    (c_read_named : PySem.W.codeIn K cd_read_named "read_named" = true)
    (k_read_named : PySem.W.keepIn K (.ref f_read_named) = true)
    (a_read_cap : PySem.W.nsIn K mainGlobals "read_cap" = some (some (.ref f_read_cap)))
    (l_read_cap : K.lookup f_read_cap = some ⟨oc_read_cap, od_read_cap, .func (PySem.W.fnOf "read_cap" "read_cap" (defArgs s_read_cap) (defBody s_read_cap) (defScope s_read_cap) .none kV_read_cap dc_read_cap pm_read_cap an_read_cap cd_read_cap ct_read_cap), sl_read_cap⟩)
    (c_read_cap : PySem.W.codeIn K cd_read_cap "read_cap" = true)
    (k_read_cap : PySem.W.keepIn K (.ref f_read_cap) = true)
    (a_read_picture : PySem.W.nsIn K mainGlobals "read_picture" = some (some (.ref f_read_picture)))
    (l_read_picture : K.lookup f_read_picture = some ⟨oc_read_picture, od_read_picture, .func (PySem.W.fnOf "read_picture" "read_picture" (defArgs s_read_picture) (defBody s_read_picture) (defScope s_read_picture) .none kV_read_picture dc_read_picture pm_read_picture an_read_picture cd_read_picture ct_read_picture), sl_read_picture⟩)
    (c_read_picture : PySem.W.codeIn K cd_read_picture "read_picture" = true)
    (k_read_picture : PySem.W.keepIn K (.ref f_read_picture) = true)
    (a_read_head : PySem.W.nsIn K mainGlobals "read_head" = some (some (.ref f_read_head)))
    (l_read_head : K.lookup f_read_head = some ⟨oc_read_head, od_read_head, .func (PySem.W.fnOf "read_head" "read_head" (defArgs s_read_head) (defBody s_read_head) (defScope s_read_head) .none kV_read_head dc_read_head pm_read_head an_read_head cd_read_head ct_read_head), sl_read_head⟩)
    (c_read_head : PySem.W.codeIn K cd_read_head "read_head" = true)
    (k_read_head : PySem.W.keepIn K (.ref f_read_head) = true)
    (a_read_warden : PySem.W.nsIn K mainGlobals "read_warden" = some (some (.ref f_read_warden)))
    (l_read_warden : K.lookup f_read_warden = some ⟨oc_read_warden, od_read_warden, .func (PySem.W.fnOf "read_warden" "read_warden" (defArgs s_read_warden) (defBody s_read_warden) (defScope s_read_warden) .none kV_read_warden dc_read_warden pm_read_warden an_read_warden cd_read_warden ct_read_warden), sl_read_warden⟩)
    (c_read_warden : PySem.W.codeIn K cd_read_warden "read_warden" = true)
    (k_read_warden : PySem.W.keepIn K (.ref f_read_warden) = true)
    (a_read_wardens : PySem.W.nsIn K mainGlobals "read_wardens" = some (some (.ref f_read_wardens)))
    (l_read_wardens : K.lookup f_read_wardens = some ⟨oc_read_wardens, od_read_wardens, .func (PySem.W.fnOf "read_wardens" "read_wardens" (defArgs s_read_wardens) (defBody s_read_wardens) (defScope s_read_wardens) .none kV_read_wardens dc_read_wardens pm_read_wardens an_read_wardens cd_read_wardens ct_read_wardens), sl_read_wardens⟩)
    (c_read_wardens : PySem.W.codeIn K cd_read_wardens "read_wardens" = true)
    (k_read_wardens : PySem.W.keepIn K (.ref f_read_wardens) = true)
    (a_read_record : PySem.W.nsIn K mainGlobals "read_record" = some (some (.ref f_read_record)))
    (l_read_record : K.lookup f_read_record = some ⟨oc_read_record, od_read_record, .func (PySem.W.fnOf "read_record" "read_record" (defArgs s_read_record) (defBody s_read_record) (defScope s_read_record) .none kV_read_record dc_read_record pm_read_record an_read_record cd_read_record ct_read_record), sl_read_record⟩)
    (c_read_record : PySem.W.codeIn K cd_read_record "read_record" = true)
    (k_read_record : PySem.W.keepIn K (.ref f_read_record) = true)
    (a_counted : PySem.W.nsIn K mainGlobals "counted" = some (some (.ref f_counted)))
    (l_counted : K.lookup f_counted = some ⟨oc_counted, od_counted, .func (PySem.W.fnOf "counted" "counted" (defArgs s_counted) (defBody s_counted) (defScope s_counted) .none kV_counted dc_counted pm_counted an_counted cd_counted ct_counted), sl_counted⟩)
    (c_counted : PySem.W.codeIn K cd_counted "counted" = true)
    (k_counted : PySem.W.keepIn K (.ref f_counted) = true)
    (a_log_end : PySem.W.nsIn K mainGlobals "log_end" = some (some (.ref f_log_end)))
    (l_log_end : K.lookup f_log_end = some ⟨oc_log_end, od_log_end, .func (PySem.W.fnOf "log_end" "log_end" (defArgs s_log_end) (defBody s_log_end) (defScope s_log_end) .none kV_log_end dc_log_end pm_log_end an_log_end cd_log_end ct_log_end), sl_log_end⟩)
    (c_log_end : PySem.W.codeIn K cd_log_end "log_end" = true)
    (k_log_end : PySem.W.keepIn K (.ref f_log_end) = true)
    (a_read_log : PySem.W.nsIn K mainGlobals "read_log" = some (some (.ref f_read_log)))
    (l_read_log : K.lookup f_read_log = some ⟨oc_read_log, od_read_log, .func (PySem.W.fnOf "read_log" "read_log" (defArgs s_read_log) (defBody s_read_log) (defScope s_read_log) .none kV_read_log dc_read_log pm_read_log an_read_log cd_read_log ct_read_log), sl_read_log⟩)
    (c_read_log : PySem.W.codeIn K cd_read_log "read_log" = true)
    (k_read_log : PySem.W.keepIn K (.ref f_read_log) = true)
    (a_L_is_integer : PySem.W.nsIn K mainGlobals "_law_is_integer" = some (some (.ref f_L_is_integer)))
    (l_L_is_integer : K.lookup f_L_is_integer = some ⟨oc_L_is_integer, od_L_is_integer, .func (PySem.W.fnOf "_law_is_integer" "_law_is_integer" (defArgs s_L_is_integer) (defBody s_L_is_integer) (defScope s_L_is_integer) .none kV_L_is_integer dc_L_is_integer pm_L_is_integer an_L_is_integer cd_L_is_integer ct_L_is_integer), sl_L_is_integer⟩)
    (c_L_is_integer : PySem.W.codeIn K cd_L_is_integer "_law_is_integer" = true)
    (k_L_is_integer : PySem.W.keepIn K (.ref f_L_is_integer) = true)
    (a_L_alike : PySem.W.nsIn K mainGlobals "_law_alike" = some (some (.ref f_L_alike)))
    (l_L_alike : K.lookup f_L_alike = some ⟨oc_L_alike, od_L_alike, .func (PySem.W.fnOf "_law_alike" "_law_alike" (defArgs s_L_alike) (defBody s_L_alike) (defScope s_L_alike) .none kV_L_alike dc_L_alike pm_L_alike an_L_alike cd_L_alike ct_L_alike), sl_L_alike⟩)
    (c_L_alike : PySem.W.codeIn K cd_L_alike "_law_alike" = true)
    (k_L_alike : PySem.W.keepIn K (.ref f_L_alike) = true)
    (a_L_counts : PySem.W.nsIn K mainGlobals "_law_counts" = some (some (.ref f_L_counts)))
    (l_L_counts : K.lookup f_L_counts = some ⟨oc_L_counts, od_L_counts, .func (PySem.W.fnOf "_law_counts" "_law_counts" (defArgs s_L_counts) (defBody s_L_counts) (defScope s_L_counts) .none kV_L_counts dc_L_counts pm_L_counts an_L_counts cd_L_counts ct_L_counts), sl_L_counts⟩)
    (c_L_counts : PySem.W.codeIn K cd_L_counts "_law_counts" = true)
    (k_L_counts : PySem.W.keepIn K (.ref f_L_counts) = true)
    (a_L_small : PySem.W.nsIn K mainGlobals "_law_small" = some (some (.ref f_L_small)))
    (l_L_small : K.lookup f_L_small = some ⟨oc_L_small, od_L_small, .func (PySem.W.fnOf "_law_small" "_law_small" (defArgs s_L_small) (defBody s_L_small) (defScope s_L_small) .none kV_L_small dc_L_small pm_L_small an_L_small cd_L_small ct_L_small), sl_L_small⟩)
    (c_L_small : PySem.W.codeIn K cd_L_small "_law_small" = true)
    (k_L_small : PySem.W.keepIn K (.ref f_L_small) = true)
    (a_L_join : PySem.W.nsIn K mainGlobals "_law_join" = some (some (.ref f_L_join)))
    (l_L_join : K.lookup f_L_join = some ⟨oc_L_join, od_L_join, .func (PySem.W.fnOf "_law_join" "_law_join" (defArgs s_L_join) (defBody s_L_join) (defScope s_L_join) .none kV_L_join dc_L_join pm_L_join an_L_join cd_L_join ct_L_join), sl_L_join⟩)
    (c_L_join : PySem.W.codeIn K cd_L_join "_law_join" = true)
    (k_L_join : PySem.W.keepIn K (.ref f_L_join) = true)
    (a_L_text_of : PySem.W.nsIn K mainGlobals "_law_text_of" = some (some (.ref f_L_text_of)))
    (l_L_text_of : K.lookup f_L_text_of = some ⟨oc_L_text_of, od_L_text_of, .func (PySem.W.fnOf "_law_text_of" "_law_text_of" (defArgs s_L_text_of) (defBody s_L_text_of) (defScope s_L_text_of) .none kV_L_text_of dc_L_text_of pm_L_text_of an_L_text_of cd_L_text_of ct_L_text_of), sl_L_text_of⟩)
    (c_L_text_of : PySem.W.codeIn K cd_L_text_of "_law_text_of" = true)
    (k_L_text_of : PySem.W.keepIn K (.ref f_L_text_of) = true)
    (a_warden_text : PySem.W.nsIn K mainGlobals "warden_text" = some (some (.ref f_warden_text)))
    (l_warden_text : K.lookup f_warden_text = some ⟨oc_warden_text, od_warden_text, .func (PySem.W.fnOf "warden_text" "warden_text" (defArgs s_warden_text) (defBody s_warden_text) (defScope s_warden_text) .none kV_warden_text dc_warden_text pm_warden_text an_warden_text cd_warden_text ct_warden_text), sl_warden_text⟩)
    (c_warden_text : PySem.W.codeIn K cd_warden_text "warden_text" = true)
    (k_warden_text : PySem.W.keepIn K (.ref f_warden_text) = true)
    (a_list_text : PySem.W.nsIn K mainGlobals "list_text" = some (some (.ref f_list_text)))
    (l_list_text : K.lookup f_list_text = some ⟨oc_list_text, od_list_text, .func (PySem.W.fnOf "list_text" "list_text" (defArgs s_list_text) (defBody s_list_text) (defScope s_list_text) .none kV_list_text dc_list_text pm_list_text an_list_text cd_list_text ct_list_text), sl_list_text⟩)
    (c_list_text : PySem.W.codeIn K cd_list_text "list_text" = true)
    (k_list_text : PySem.W.keepIn K (.ref f_list_text) = true)
    (a_named_text : PySem.W.nsIn K mainGlobals "named_text" = some (some (.ref f_named_text)))
    (l_named_text : K.lookup f_named_text = some ⟨oc_named_text, od_named_text, .func (PySem.W.fnOf "named_text" "named_text" (defArgs s_named_text) (defBody s_named_text) (defScope s_named_text) .none kV_named_text dc_named_text pm_named_text an_named_text cd_named_text ct_named_text), sl_named_text⟩)
    (c_named_text : PySem.W.codeIn K cd_named_text "named_text" = true)
    (k_named_text : PySem.W.keepIn K (.ref f_named_text) = true)
    (a_head_words : PySem.W.nsIn K mainGlobals "head_words" = some (some (.ref f_head_words)))
    (l_head_words : K.lookup f_head_words = some ⟨oc_head_words, od_head_words, .func (PySem.W.fnOf "head_words" "head_words" (defArgs s_head_words) (defBody s_head_words) (defScope s_head_words) .none kV_head_words dc_head_words pm_head_words an_head_words cd_head_words ct_head_words), sl_head_words⟩)
    (c_head_words : PySem.W.codeIn K cd_head_words "head_words" = true)
    (k_head_words : PySem.W.keepIn K (.ref f_head_words) = true)
    (a_record_text : PySem.W.nsIn K mainGlobals "record_text" = some (some (.ref f_record_text)))
    (l_record_text : K.lookup f_record_text = some ⟨oc_record_text, od_record_text, .func (PySem.W.fnOf "record_text" "record_text" (defArgs s_record_text) (defBody s_record_text) (defScope s_record_text) .none kV_record_text dc_record_text pm_record_text an_record_text cd_record_text ct_record_text), sl_record_text⟩)
    (c_record_text : PySem.W.codeIn K cd_record_text "record_text" = true)
    (k_record_text : PySem.W.keepIn K (.ref f_record_text) = true)
    (a_World_cut_after : PySem.W.findIn K (.ref C_World) "cut_after" = some (some (.ref f_World_cut_after)))
    (i_World_cut_after : PySem.W.isFn K (.ref f_World_cut_after) = true)
    (l_World_cut_after : K.lookup f_World_cut_after = some ⟨oc_World_cut_after, od_World_cut_after, .func (PySem.W.fnOf "cut_after" "World.cut_after" (defArgs s_World_cut_after) (defBody s_World_cut_after) (defScope s_World_cut_after) .none kV_World_cut_after dc_World_cut_after pm_World_cut_after an_World_cut_after cd_World_cut_after ct_World_cut_after), sl_World_cut_after⟩)
    (c_World_cut_after : PySem.W.codeIn K cd_World_cut_after "World.cut_after" = true)
    (k_World_cut_after : PySem.W.keepIn K (.ref f_World_cut_after) = true)
    (a_tear : PySem.W.nsIn K mainGlobals "tear" = some (some (.ref f_tear)))
    (l_tear : K.lookup f_tear = some ⟨oc_tear, od_tear, .func (PySem.W.fnOf "tear" "tear" (defArgs s_tear) (defBody s_tear) (defScope s_tear) .none kV_tear dc_tear pm_tear an_tear cd_tear ct_tear), sl_tear⟩)
    (c_tear : PySem.W.codeIn K cd_tear "tear" = true)
    (k_tear : PySem.W.keepIn K (.ref f_tear) = true)
    (a_World__stored : PySem.W.findIn K (.ref C_World) "_stored" = some (some (.ref f_World__stored)))
    (i_World__stored : PySem.W.isFn K (.ref f_World__stored) = true)
    (l_World__stored : K.lookup f_World__stored = some ⟨oc_World__stored, od_World__stored, .func (PySem.W.fnOf "_stored" "World._stored" (defArgs s_World__stored) (defBody s_World__stored) (defScope s_World__stored) .none kV_World__stored dc_World__stored pm_World__stored an_World__stored cd_World__stored ct_World__stored), sl_World__stored⟩)
    (c_World__stored : PySem.W.codeIn K cd_World__stored "World._stored" = true)
    (k_World__stored : PySem.W.keepIn K (.ref f_World__stored) = true)
    (a_World__count_write : PySem.W.findIn K (.ref C_World) "_count_write" = some (some (.ref f_World__count_write)))
    (i_World__count_write : PySem.W.isFn K (.ref f_World__count_write) = true)
    (l_World__count_write : K.lookup f_World__count_write = some ⟨oc_World__count_write, od_World__count_write, .func (PySem.W.fnOf "_count_write" "World._count_write" (defArgs s_World__count_write) (defBody s_World__count_write) (defScope s_World__count_write) .none kV_World__count_write dc_World__count_write pm_World__count_write an_World__count_write cd_World__count_write ct_World__count_write), sl_World__count_write⟩)
    (c_World__count_write : PySem.W.codeIn K cd_World__count_write "World._count_write" = true)
    (k_World__count_write : PySem.W.keepIn K (.ref f_World__count_write) = true)
    (a_World_write_log : PySem.W.findIn K (.ref C_World) "write_log" = some (some (.ref f_World_write_log)))
    (i_World_write_log : PySem.W.isFn K (.ref f_World_write_log) = true)
    (l_World_write_log : K.lookup f_World_write_log = some ⟨oc_World_write_log, od_World_write_log, .func (PySem.W.fnOf "write_log" "World.write_log" (defArgs s_World_write_log) (defBody s_World_write_log) (defScope s_World_write_log) .none kV_World_write_log dc_World_write_log pm_World_write_log an_World_write_log cd_World_write_log ct_World_write_log), sl_World_write_log⟩)
    (c_World_write_log : PySem.W.codeIn K cd_World_write_log "World.write_log" = true)
    (k_World_write_log : PySem.W.keepIn K (.ref f_World_write_log) = true)
    (a_L_write : PySem.W.nsIn K mainGlobals "_law_write" = some (some (.ref f_L_write)))
    (l_L_write : K.lookup f_L_write = some ⟨oc_L_write, od_L_write, .func (PySem.W.fnOf "_law_write" "_law_write" (defArgs s_L_write) (defBody s_L_write) (defScope s_L_write) .none kV_L_write dc_L_write pm_L_write an_L_write cd_L_write ct_L_write), sl_L_write⟩)
    (c_L_write : PySem.W.codeIn K cd_L_write "_law_write" = true)
    (k_L_write : PySem.W.keepIn K (.ref f_L_write) = true)
    (a_L_sizes : PySem.W.nsIn K mainGlobals "_law_sizes" = some (some (.ref f_L_sizes)))
    (l_L_sizes : K.lookup f_L_sizes = some ⟨oc_L_sizes, od_L_sizes, .func (PySem.W.fnOf "_law_sizes" "_law_sizes" (defArgs s_L_sizes) (defBody s_L_sizes) (defScope s_L_sizes) .none kV_L_sizes dc_L_sizes pm_L_sizes an_L_sizes cd_L_sizes ct_L_sizes), sl_L_sizes⟩)
    (c_L_sizes : PySem.W.codeIn K cd_L_sizes "_law_sizes" = true)
    (k_L_sizes : PySem.W.keepIn K (.ref f_L_sizes) = true)
    (a_law : PySem.W.nsIn K mainGlobals "law" = some (some (.ref f_law)))
    (l_law : K.lookup f_law = some ⟨oc_law, od_law, .func (PySem.W.fnOf "law" "law" (defArgs s_law) (defBody s_law) (defScope s_law) .none kV_law dc_law pm_law an_law cd_law ct_law), sl_law⟩)
    (c_law : PySem.W.codeIn K cd_law "law" = true)
    (k_law : PySem.W.keepIn K (.ref f_law) = true)
    (pg_World : PySem.W.plainGet K C_World Str.empty = true)
    (hd_World : PySem.W.hasDictIn K C_World = true)
    (po_World : PySem.W.plainOver K C_World = true)
    (sa_World : PySem.W.findIn K (.ref C_World) "__setattr__" = some (some (.builtin "object.__setattr__")))
    (mk_World : PySem.W.makesIn K C_World = true)
    (kc_World : PySem.W.keepIn K (.ref C_World) = true)
    (o_World_seats : PySem.W.findIn K (.ref C_World) "seats" = some none)
    (o_World_disks : PySem.W.findIn K (.ref C_World) "disks" = some none)
    (o_World_log : PySem.W.findIn K (.ref C_World) "log" = some none)
    (o_World_writes : PySem.W.findIn K (.ref C_World) "writes" = some none)
    (o_World_fuse : PySem.W.findIn K (.ref C_World) "fuse" = some none)
    (o_World_kept : PySem.W.findIn K (.ref C_World) "kept" = some none)
    (x_PowerCut : PySem.W.excIn K C_PowerCut [.type "ValueError", .type "Exception", .type "BaseException", .type "object"] "ValueError.__new__" = true)
    (xk_PowerCut : PySem.W.keepIn K (.ref C_PowerCut) = true)
    (xb_PowerCut : PySem.W.subIn K (.ref C_PowerCut) (.type "BaseException") = some true)
    (xt_PowerCut : PySem.W.typeIn K (.ref C_PowerCut) = some (.type "type"))
    (xi_PowerCut : PySem.W.isClsIn K C_PowerCut = true)
    (xs_PowerCut : PySem.W.subIn K (.ref C_PowerCut) (.ref C_PowerCut) = some true)
    (x_PoolError : PySem.W.excIn K C_PoolError [.type "ValueError", .type "Exception", .type "BaseException", .type "object"] "ValueError.__new__" = true)
    (xk_PoolError : PySem.W.keepIn K (.ref C_PoolError) = true)
    (xb_PoolError : PySem.W.subIn K (.ref C_PoolError) (.type "BaseException") = some true)
    (xt_PoolError : PySem.W.typeIn K (.ref C_PoolError) = some (.type "type"))
    (xi_PoolError : PySem.W.isClsIn K C_PoolError = true)
    (xs_PoolError : PySem.W.subIn K (.ref C_PoolError) (.ref C_PoolError) = some true)
    (n_abs : PySem.W.nsIn K mainGlobals "abs" = some none)
    (n_range : PySem.W.nsIn K mainGlobals "range" = some none)
    (n_int : PySem.W.nsIn K mainGlobals "int" = some none)
    (n_len : PySem.W.nsIn K mainGlobals "len" = some none)
    (n_tuple : PySem.W.nsIn K mainGlobals "tuple" = some none)
    (n_isinstance : PySem.W.nsIn K mainGlobals "isinstance" = some none)
    (n_bool : PySem.W.nsIn K mainGlobals "bool" = some none)
    (n_str : PySem.W.nsIn K mainGlobals "str" = some none)
    (n_list : PySem.W.nsIn K mainGlobals "list" = some none)
    (n_sorted : PySem.W.nsIn K mainGlobals "sorted" = some none)
    (n_min : PySem.W.nsIn K mainGlobals "min" = some none)
    (n_max : PySem.W.nsIn K mainGlobals "max" = some none) :
    ∃ fd : FuncData, (∀ (s : Shared) (v : Value), BindsTo s fd ⟨[v], []⟩ [("_law_script", v)]) ∧ ∀ base : Heap, K.In base → base.Ns mainGlobals mg → FnOk P w K mg base CX0 20 fa fd ["_law_script"] (spLaw K) := by
  have e := hfa.symm.trans (PySem.W.mg_of X G a_law)
  cases e
  have F_L_draws := fun_mk (st := s_L_draws) l_L_draws c_L_draws k_L_draws
  have F_L_names := fun_mk (st := s_L_names) l_L_names c_L_names k_L_names
  have F_World_init := fun_mk (st := s_World_init) l_World_init c_World_init k_World_init
  have F_L_cell := fun_mk (st := s_L_cell) l_L_cell c_L_cell k_L_cell
  have F_number_of := fun_mk (st := s_number_of) l_number_of c_number_of k_number_of
  have F_read_list := fun_mk (st := s_read_list) l_read_list c_read_list k_read_list
  have F_is_name := fun_mk (st := s_is_name) l_is_name c_is_name k_is_name
  have F_is_rising := fun_mk (st := s_is_rising) l_is_rising c_is_rising k_is_rising
  have F_read_named := fun_mk (st := s_read_named) l_read_named c_read_named k_read_named
  have F_read_cap := fun_mk (st := s_read_cap) l_read_cap c_read_cap k_read_cap
  have F_read_picture := fun_mk (st := s_read_picture) l_read_picture c_read_picture k_read_picture
  have F_read_head := fun_mk (st := s_read_head) l_read_head c_read_head k_read_head
  have F_read_warden := fun_mk (st := s_read_warden) l_read_warden c_read_warden k_read_warden
  have F_read_wardens := fun_mk (st := s_read_wardens) l_read_wardens c_read_wardens k_read_wardens
  have F_read_record := fun_mk (st := s_read_record) l_read_record c_read_record k_read_record
  have F_counted := fun_mk (st := s_counted) l_counted c_counted k_counted
  have F_log_end := fun_mk (st := s_log_end) l_log_end c_log_end k_log_end
  have F_read_log := fun_mk (st := s_read_log) l_read_log c_read_log k_read_log
  have F_L_is_integer := fun_mk (st := s_L_is_integer) l_L_is_integer c_L_is_integer k_L_is_integer
  have F_L_alike := fun_mk (st := s_L_alike) l_L_alike c_L_alike k_L_alike
  have F_L_counts := fun_mk (st := s_L_counts) l_L_counts c_L_counts k_L_counts
  have F_L_small := fun_mk (st := s_L_small) l_L_small c_L_small k_L_small
  have F_L_join := fun_mk (st := s_L_join) l_L_join c_L_join k_L_join
  have F_L_text_of := fun_mk (st := s_L_text_of) l_L_text_of c_L_text_of k_L_text_of
  have F_warden_text := fun_mk (st := s_warden_text) l_warden_text c_warden_text k_warden_text
  have F_list_text := fun_mk (st := s_list_text) l_list_text c_list_text k_list_text
  have F_named_text := fun_mk (st := s_named_text) l_named_text c_named_text k_named_text
  have F_head_words := fun_mk (st := s_head_words) l_head_words c_head_words k_head_words
  have F_record_text := fun_mk (st := s_record_text) l_record_text c_record_text k_record_text
  have F_World_cut_after := fun_mk (st := s_World_cut_after) l_World_cut_after c_World_cut_after k_World_cut_after
  have F_tear := fun_mk (st := s_tear) l_tear c_tear k_tear
  have F_World__stored := fun_mk (st := s_World__stored) l_World__stored c_World__stored k_World__stored
  have F_World__count_write := fun_mk (st := s_World__count_write) l_World__count_write c_World__count_write k_World__count_write
  have F_World_write_log := fun_mk (st := s_World_write_log) l_World_write_log c_World_write_log k_World_write_log
  have F_L_write := fun_mk (st := s_L_write) l_L_write c_L_write k_L_write
  have F_L_sizes := fun_mk (st := s_L_sizes) l_L_sizes c_L_sizes k_L_sizes
  have F_law := fun_mk (st := s_law) l_law c_law k_law
  have T : Txt K mg { a_L_draws := f_L_draws, d_L_draws := _, a_L_names := f_L_names, d_L_names := _, a_World_init := f_World_init, d_World_init := _, a_L_cell := f_L_cell, d_L_cell := _, a_number_of := f_number_of, d_number_of := _, a_read_list := f_read_list, d_read_list := _, a_is_name := f_is_name, d_is_name := _, a_is_rising := f_is_rising, d_is_rising := _, a_read_named := f_read_named, d_read_named := _, a_read_cap := f_read_cap, d_read_cap := _, a_read_picture := f_read_picture, d_read_picture := _, a_read_head := f_read_head, d_read_head := _, a_read_warden := f_read_warden, d_read_warden := _, a_read_wardens := f_read_wardens, d_read_wardens := _, a_read_record := f_read_record, d_read_record := _, a_counted := f_counted, d_counted := _, a_log_end := f_log_end, d_log_end := _, a_read_log := f_read_log, d_read_log := _, a_L_is_integer := f_L_is_integer, d_L_is_integer := _, a_L_alike := f_L_alike, d_L_alike := _, a_L_counts := f_L_counts, d_L_counts := _, a_L_small := f_L_small, d_L_small := _, a_L_join := f_L_join, d_L_join := _, a_L_text_of := f_L_text_of, d_L_text_of := _, a_warden_text := f_warden_text, d_warden_text := _, a_list_text := f_list_text, d_list_text := _, a_named_text := f_named_text, d_named_text := _, a_head_words := f_head_words, d_head_words := _, a_record_text := f_record_text, d_record_text := _, a_World_cut_after := f_World_cut_after, d_World_cut_after := _, a_tear := f_tear, d_tear := _, a_World__stored := f_World__stored, d_World__stored := _, a_World__count_write := f_World__count_write, d_World__count_write := _, a_World_write_log := f_World_write_log, d_World_write_log := _, a_L_write := f_L_write, d_L_write := _, a_L_sizes := f_L_sizes, d_L_sizes := _, a_law := fa, d_law := _, A_World := C_World, A_PowerCut := C_PowerCut, A_PoolError := C_PoolError } := {
    F_L_draws := F_L_draws
    b_L_draws := F_L_draws.binds (ps := ["_law_cell_here", "_law_sizes_here"]) fun _ _ _ _ _ _ us hl => match us, hl with | [_, _], _ => rfl
    g_L_draws := PySem.W.mg_of X G a_L_draws
    F_L_names := F_L_names
    b_L_names := F_L_names.binds (ps := ["_law_cell_here"]) fun _ _ _ _ _ _ us hl => match us, hl with | [_], _ => rfl
    g_L_names := PySem.W.mg_of X G a_L_names
    F_World_init := F_World_init
    b_World_init := F_World_init.binds (ps := ["self", "seats"]) fun _ _ _ _ _ _ us hl => match us, hl with | [_, _], _ => rfl
    M_World := ⟨mk_World, a_World_init, i_World_init, kc_World⟩
    F_L_cell := F_L_cell
    b_L_cell := F_L_cell.binds (ps := ["_law_script", "_law_k"]) fun _ _ _ _ _ _ us hl => match us, hl with | [_, _], _ => rfl
    g_L_cell := PySem.W.mg_of X G a_L_cell
    F_number_of := F_number_of
    b_number_of := F_number_of.binds (ps := ["text"]) fun _ _ _ _ _ _ us hl => match us, hl with | [_], _ => rfl
    g_number_of := PySem.W.mg_of X G a_number_of
    F_read_list := F_read_list
    b_read_list := F_read_list.binds (ps := ["text"]) fun _ _ _ _ _ _ us hl => match us, hl with | [_], _ => rfl
    g_read_list := PySem.W.mg_of X G a_read_list
    F_is_name := F_is_name
    b_is_name := F_is_name.binds (ps := ["text"]) fun _ _ _ _ _ _ us hl => match us, hl with | [_], _ => rfl
    g_is_name := PySem.W.mg_of X G a_is_name
    F_is_rising := F_is_rising
    b_is_rising := F_is_rising.binds (ps := ["numbers"]) fun _ _ _ _ _ _ us hl => match us, hl with | [_], _ => rfl
    g_is_rising := PySem.W.mg_of X G a_is_rising
    F_read_named := F_read_named
    b_read_named := F_read_named.binds (ps := ["word"]) fun _ _ _ _ _ _ us hl => match us, hl with | [_], _ => rfl
    g_read_named := PySem.W.mg_of X G a_read_named
    F_read_cap := F_read_cap
    b_read_cap := F_read_cap.binds (ps := ["words"]) fun _ _ _ _ _ _ us hl => match us, hl with | [_], _ => rfl
    g_read_cap := PySem.W.mg_of X G a_read_cap
    F_read_picture := F_read_picture
    b_read_picture := F_read_picture.binds (ps := ["words"]) fun _ _ _ _ _ _ us hl => match us, hl with | [_], _ => rfl
    g_read_picture := PySem.W.mg_of X G a_read_picture
    F_read_head := F_read_head
    b_read_head := F_read_head.binds (ps := ["words"]) fun _ _ _ _ _ _ us hl => match us, hl with | [_], _ => rfl
    g_read_head := PySem.W.mg_of X G a_read_head
    F_read_warden := F_read_warden
    b_read_warden := F_read_warden.binds (ps := ["word"]) fun _ _ _ _ _ _ us hl => match us, hl with | [_], _ => rfl
    g_read_warden := PySem.W.mg_of X G a_read_warden
    F_read_wardens := F_read_wardens
    b_read_wardens := F_read_wardens.binds (ps := ["words"]) fun _ _ _ _ _ _ us hl => match us, hl with | [_], _ => rfl
    g_read_wardens := PySem.W.mg_of X G a_read_wardens
    F_read_record := F_read_record
    b_read_record := F_read_record.binds (ps := ["text"]) fun _ _ _ _ _ _ us hl => match us, hl with | [_], _ => rfl
    g_read_record := PySem.W.mg_of X G a_read_record
    F_counted := F_counted
    b_counted := F_counted.binds (ps := ["log"]) fun _ _ _ _ _ _ us hl => match us, hl with | [_], _ => rfl
    g_counted := PySem.W.mg_of X G a_counted
    F_log_end := F_log_end
    b_log_end := F_log_end.binds (ps := ["log"]) fun _ _ _ _ _ _ us hl => match us, hl with | [_], _ => rfl
    g_log_end := PySem.W.mg_of X G a_log_end
    F_read_log := F_read_log
    b_read_log := F_read_log.binds (ps := ["log"]) fun _ _ _ _ _ _ us hl => match us, hl with | [_], _ => rfl
    g_read_log := PySem.W.mg_of X G a_read_log
    F_L_is_integer := F_L_is_integer
    b_L_is_integer := F_L_is_integer.binds (ps := ["_law_actual"]) fun _ _ _ _ _ _ us hl => match us, hl with | [_], _ => rfl
    g_L_is_integer := PySem.W.mg_of X G a_L_is_integer
    F_L_alike := F_L_alike
    b_L_alike := F_L_alike.binds (ps := ["_law_actual", "_law_due"]) fun _ _ _ _ _ _ us hl => match us, hl with | [_, _], _ => rfl
    g_L_alike := PySem.W.mg_of X G a_L_alike
    F_L_counts := F_L_counts
    b_L_counts := F_L_counts.binds (ps := ["_law_world", "_law_strings", "_law_records", "_law_whole"]) fun _ _ _ _ _ _ us hl => match us, hl with | [_, _, _, _], _ => rfl
    g_L_counts := PySem.W.mg_of X G a_L_counts
    F_L_small := F_L_small
    b_L_small := F_L_small.binds (ps := ["_law_row", "_law_k", "_law_is_picture", "_law_names_here"]) fun _ _ _ _ _ _ us hl => match us, hl with | [_, _, _, _], _ => rfl
    g_L_small := PySem.W.mg_of X G a_L_small
    F_L_join := F_L_join
    b_L_join := F_L_join.binds (ps := ["_law_numbers"]) fun _ _ _ _ _ _ us hl => match us, hl with | [_], _ => rfl
    g_L_join := PySem.W.mg_of X G a_L_join
    F_L_text_of := F_L_text_of
    b_L_text_of := F_L_text_of.binds (ps := ["_law_record"]) fun _ _ _ _ _ _ us hl => match us, hl with | [_], _ => rfl
    g_L_text_of := PySem.W.mg_of X G a_L_text_of
    F_warden_text := F_warden_text
    b_warden_text := F_warden_text.binds (ps := ["entries"]) fun _ _ _ _ _ _ us hl => match us, hl with | [_], _ => rfl
    g_warden_text := PySem.W.mg_of X G a_warden_text
    F_list_text := F_list_text
    b_list_text := F_list_text.binds (ps := ["numbers"]) fun _ _ _ _ _ _ us hl => match us, hl with | [_], _ => rfl
    g_list_text := PySem.W.mg_of X G a_list_text
    F_named_text := F_named_text
    b_named_text := F_named_text.binds (ps := ["name", "numbers"]) fun _ _ _ _ _ _ us hl => match us, hl with | [_, _], _ => rfl
    g_named_text := PySem.W.mg_of X G a_named_text
    F_head_words := F_head_words
    b_head_words := F_head_words.binds (ps := ["record"]) fun _ _ _ _ _ _ us hl => match us, hl with | [_], _ => rfl
    g_head_words := PySem.W.mg_of X G a_head_words
    F_record_text := F_record_text
    b_record_text := F_record_text.binds (ps := ["record"]) fun _ _ _ _ _ _ us hl => match us, hl with | [_], _ => rfl
    g_record_text := PySem.W.mg_of X G a_record_text
    F_World_cut_after := F_World_cut_after
    b_World_cut_after := F_World_cut_after.binds (ps := ["self", "writes", "kept"]) fun _ _ _ _ _ _ us hl => match us, hl with | [_, _, _], _ => rfl
    m_World_cut_after := ⟨a_World_cut_after, i_World_cut_after, k_World_cut_after⟩
    F_tear := F_tear
    b_tear := F_tear.binds (ps := ["old", "new", "kept"]) fun _ _ _ _ _ _ us hl => match us, hl with | [_, _, _], _ => rfl
    g_tear := PySem.W.mg_of X G a_tear
    F_World__stored := F_World__stored
    b_World__stored := F_World__stored.binds (ps := ["self", "old", "new"]) fun _ _ _ _ _ _ us hl => match us, hl with | [_, _, _], _ => rfl
    m_World__stored := ⟨a_World__stored, i_World__stored, k_World__stored⟩
    F_World__count_write := F_World__count_write
    b_World__count_write := F_World__count_write.binds (ps := ["self"]) fun _ _ _ _ _ _ us hl => match us, hl with | [_], _ => rfl
    m_World__count_write := ⟨a_World__count_write, i_World__count_write, k_World__count_write⟩
    F_World_write_log := F_World_write_log
    b_World_write_log := F_World_write_log.binds (ps := ["self", "index", "text"]) fun _ _ _ _ _ _ us hl => match us, hl with | [_, _, _], _ => rfl
    m_World_write_log := ⟨a_World_write_log, i_World_write_log, k_World_write_log⟩
    F_L_write := F_L_write
    b_L_write := F_L_write.binds (ps := ["_law_world", "_law_index", "_law_text"]) fun _ _ _ _ _ _ us hl => match us, hl with | [_, _, _], _ => rfl
    g_L_write := PySem.W.mg_of X G a_L_write
    F_L_sizes := F_L_sizes
    b_L_sizes := F_L_sizes.binds (ps := []) fun _ _ _ _ _ _ us hl => match us, hl with | [], _ => rfl
    g_L_sizes := PySem.W.mg_of X G a_L_sizes
    F_law := F_law
    b_law := F_law.binds (ps := ["_law_script"]) fun _ _ _ _ _ _ us hl => match us, hl with | [_], _ => rfl
    g_law := PySem.W.mg_of X G a_law
    cl_World := ⟨pg_World, hd_World, po_World, sa_World⟩
    g_World := PySem.W.mg_of X G A_World
    o_World_seats := o_World_seats
    o_World_disks := o_World_disks
    o_World_log := o_World_log
    o_World_writes := o_World_writes
    o_World_fuse := o_World_fuse
    o_World_kept := o_World_kept
    g_PowerCut := PySem.W.mg_of X G A_PowerCut
    x_PowerCut := x_PowerCut
    k_PowerCut := xk_PowerCut
    xb_PowerCut := xb_PowerCut
    xt_PowerCut := xt_PowerCut
    xe_PowerCut := PW.exm_self xb_PowerCut xi_PowerCut xt_PowerCut xs_PowerCut
    g_PoolError := PySem.W.mg_of X G A_PoolError
    x_PoolError := x_PoolError
    k_PoolError := xk_PoolError
    xb_PoolError := xb_PoolError
    xt_PoolError := xt_PoolError
    xe_PoolError := PW.exm_self xb_PoolError xi_PoolError xt_PoolError xs_PoolError
    n_abs := PySem.W.mg_none_of X G n_abs
    n_range := PySem.W.mg_none_of X G n_range
    n_int := PySem.W.mg_none_of X G n_int
    n_len := PySem.W.mg_none_of X G n_len
    n_tuple := PySem.W.mg_none_of X G n_tuple
    n_isinstance := PySem.W.mg_none_of X G n_isinstance
    n_bool := PySem.W.mg_none_of X G n_bool
    n_str := PySem.W.mg_none_of X G n_str
    n_list := PySem.W.mg_none_of X G n_list
    n_sorted := PySem.W.mg_none_of X G n_sorted
    n_min := PySem.W.mg_none_of X G n_min
    n_max := PySem.W.mg_none_of X G n_max }
  exact ⟨_, fun s v => .of_eq rfl, fun base _ _ => ok_law T⟩
theorem walk {l : PySem.W.OpenLaw} {q : Program} {loose : List Str} {XP : (Str → Option Value) → Heap → Prop} {YP : World → Heap → Prop} {d : DefRec} {K : Params → PySem.W.Frag} (hn : l.most = some 63) (hdf : d.params.defaults = [])
    (hY : ∀ (w : World) (h : Heap), YP w h → (K w.params).In h)
    (F : ∀ (w : World) (mg : Str → Option Value) (fa : Addr) (h : Heap), (K w.params).In h → h.Ns mainGlobals mg → mg d.name = some (.ref fa) →
      ∃ fd : FuncData, (∀ (s : Shared) (u : Value), BindsTo s fd ⟨[u], []⟩ [("_law_script", u)]) ∧ ∀ base : Heap, (K w.params).In base → base.Ns mainGlobals mg → FnOk l.prog w (K w.params) mg base CX0 20 fa fd ["_law_script"] (spLaw (K w.params))) :
    PySem.W.WalkO q loose XP YP l.row.toRowW d [] (fun f vs => PySem.call f vs) :=
  L2.walk_of (n := 63) (k := 20) (x := "_law_script") (CX := fun _ => CX0) (sp := fun w => spLaw (K w.params)) hn (by decide) hdf ⟨rfl, by decide, by decide⟩ hY F (fun _ _ a ns hl _ hS => ⟨a, ns, rfl, hS, hl, fun _ => rfl⟩) fun _ _ _ _ _ z => z
end Q
open PySem PySem.W PyProof.Rows
set_option maxRecDepth 100000 in
set_option maxHeartbeats 0 in
theorem PySem.Challenge.cw_pairwarden_k63_whole_log_survives_cuts_holds : PySem.Challenge.rw_pairwarden_k63_whole_log_survives_cuts.Holds := by
  w_on; o_law; k_head; (case hw => w_witness2)
  k_fill
  refine Q.walk (l := PySem.Challenge.rw_pairwarden_k63_whole_log_survives_cuts) rfl rfl (fun w h Y => PySem.W.kIn_of Y) ?F
  case F =>
    intro w mg fa h KX G hmg
    refine' Q.all_mk KX G hmg ?A_World ?A_PowerCut ?A_PoolError ?a_L_draws ?l_L_draws ?c_L_draws ?k_L_draws ?a_L_names ?l_L_names ?c_L_names ?k_L_names ?a_World_init ?i_World_init ?l_World_init ?c_World_init ?k_World_init ?a_L_cell ?l_L_cell ?c_L_cell ?k_L_cell ?a_number_of ?l_number_of ?c_number_of ?k_number_of ?a_read_list ?l_read_list ?c_read_list ?k_read_list ?a_is_name ?l_is_name ?c_is_name ?k_is_name ?a_is_rising ?l_is_rising ?c_is_rising ?k_is_rising ?a_read_named ?l_read_named ?c_read_named ?k_read_named ?a_read_cap ?l_read_cap ?c_read_cap ?k_read_cap ?a_read_picture ?l_read_picture ?c_read_picture ?k_read_picture ?a_read_head ?l_read_head ?c_read_head ?k_read_head ?a_read_warden ?l_read_warden ?c_read_warden ?k_read_warden ?a_read_wardens ?l_read_wardens ?c_read_wardens ?k_read_wardens ?a_read_record ?l_read_record ?c_read_record ?k_read_record ?a_counted ?l_counted ?c_counted ?k_counted ?a_log_end ?l_log_end ?c_log_end ?k_log_end ?a_read_log ?l_read_log ?c_read_log ?k_read_log ?a_L_is_integer ?l_L_is_integer ?c_L_is_integer ?k_L_is_integer ?a_L_alike ?l_L_alike ?c_L_alike ?k_L_alike ?a_L_counts ?l_L_counts ?c_L_counts ?k_L_counts ?a_L_small ?l_L_small ?c_L_small ?k_L_small ?a_L_join ?l_L_join ?c_L_join ?k_L_join ?a_L_text_of ?l_L_text_of ?c_L_text_of ?k_L_text_of ?a_warden_text ?l_warden_text ?c_warden_text ?k_warden_text ?a_list_text ?l_list_text ?c_list_text ?k_list_text ?a_named_text ?l_named_text ?c_named_text ?k_named_text ?a_head_words ?l_head_words ?c_head_words ?k_head_words ?a_record_text ?l_record_text ?c_record_text ?k_record_text ?a_World_cut_after ?i_World_cut_after ?l_World_cut_after ?c_World_cut_after ?k_World_cut_after ?a_tear ?l_tear ?c_tear ?k_tear ?a_World__stored ?i_World__stored ?l_World__stored ?c_World__stored ?k_World__stored ?a_World__count_write ?i_World__count_write ?l_World__count_write ?c_World__count_write ?k_World__count_write ?a_World_write_log ?i_World_write_log ?l_World_write_log ?c_World_write_log ?k_World_write_log ?a_L_write ?l_L_write ?c_L_write ?k_L_write ?a_L_sizes ?l_L_sizes ?c_L_sizes ?k_L_sizes ?a_law ?l_law ?c_law ?k_law ?pg_World ?hd_World ?po_World ?sa_World ?mk_World ?kc_World ?o_World_seats ?o_World_disks ?o_World_log ?o_World_writes ?o_World_fuse ?o_World_kept ?x_PowerCut ?xk_PowerCut ?xb_PowerCut ?xt_PowerCut ?xi_PowerCut ?xs_PowerCut ?x_PoolError ?xk_PoolError ?xb_PoolError ?xt_PoolError ?xi_PoolError ?xs_PoolError ?n_abs ?n_range ?n_int ?n_len ?n_tuple ?n_isinstance ?n_bool ?n_str ?n_list ?n_sorted ?n_min ?n_max
    (case A_World => k_is)
    (case A_PowerCut => k_is)
    (case A_PoolError => k_is)
    (case a_L_draws => k_is)
    (case l_L_draws => k_is)
    (case c_L_draws => k_is)
    (case k_L_draws => k_is)
    (case a_L_names => k_is)
    (case l_L_names => k_is)
    (case c_L_names => k_is)
    (case k_L_names => k_is)
    (case a_World_init => k_is)
    (case i_World_init => k_is)
    (case l_World_init => k_is)
    (case c_World_init => k_is)
    (case k_World_init => k_is)
    (case a_L_cell => k_is)
    (case l_L_cell => k_is)
    (case c_L_cell => k_is)
    (case k_L_cell => k_is)
    (case a_number_of => k_is)
    (case l_number_of => k_is)
    (case c_number_of => k_is)
    (case k_number_of => k_is)
    (case a_read_list => k_is)
    (case l_read_list => k_is)
    (case c_read_list => k_is)
    (case k_read_list => k_is)
    (case a_is_name => k_is)
    (case l_is_name => k_is)
    (case c_is_name => k_is)
    (case k_is_name => k_is)
    (case a_is_rising => k_is)
    (case l_is_rising => k_is)
    (case c_is_rising => k_is)
    (case k_is_rising => k_is)
    (case a_read_named => k_is)
    (case l_read_named => k_is)
    (case c_read_named => k_is)
    (case k_read_named => k_is)
    (case a_read_cap => k_is)
    (case l_read_cap => k_is)
    (case c_read_cap => k_is)
    (case k_read_cap => k_is)
    (case a_read_picture => k_is)
    (case l_read_picture => k_is)
    (case c_read_picture => k_is)
    (case k_read_picture => k_is)
    (case a_read_head => k_is)
    (case l_read_head => k_is)
    (case c_read_head => k_is)
    (case k_read_head => k_is)
    (case a_read_warden => k_is)
    (case l_read_warden => k_is)
    (case c_read_warden => k_is)
    (case k_read_warden => k_is)
    (case a_read_wardens => k_is)
    (case l_read_wardens => k_is)
    (case c_read_wardens => k_is)
    (case k_read_wardens => k_is)
    (case a_read_record => k_is)
    (case l_read_record => k_is)
    (case c_read_record => k_is)
    (case k_read_record => k_is)
    (case a_counted => k_is)
    (case l_counted => k_is)
    (case c_counted => k_is)
    (case k_counted => k_is)
    (case a_log_end => k_is)
    (case l_log_end => k_is)
    (case c_log_end => k_is)
    (case k_log_end => k_is)
    (case a_read_log => k_is)
    (case l_read_log => k_is)
    (case c_read_log => k_is)
    (case k_read_log => k_is)
    (case a_L_is_integer => k_is)
    (case l_L_is_integer => k_is)
    (case c_L_is_integer => k_is)
    (case k_L_is_integer => k_is)
    (case a_L_alike => k_is)
    (case l_L_alike => k_is)
    (case c_L_alike => k_is)
    (case k_L_alike => k_is)
    (case a_L_counts => k_is)
    (case l_L_counts => k_is)
    (case c_L_counts => k_is)
    (case k_L_counts => k_is)
    (case a_L_small => k_is)
    (case l_L_small => k_is)
    (case c_L_small => k_is)
    (case k_L_small => k_is)
    (case a_L_join => k_is)
    (case l_L_join => k_is)
    (case c_L_join => k_is)
    (case k_L_join => k_is)
    (case a_L_text_of => k_is)
    (case l_L_text_of => k_is)
    (case c_L_text_of => k_is)
    (case k_L_text_of => k_is)
    (case a_warden_text => k_is)
    (case l_warden_text => k_is)
    (case c_warden_text => k_is)
    (case k_warden_text => k_is)
    (case a_list_text => k_is)
    (case l_list_text => k_is)
    (case c_list_text => k_is)
    (case k_list_text => k_is)
    (case a_named_text => k_is)
    (case l_named_text => k_is)
    (case c_named_text => k_is)
    (case k_named_text => k_is)
    (case a_head_words => k_is)
    (case l_head_words => k_is)
    (case c_head_words => k_is)
    (case k_head_words => k_is)
    (case a_record_text => k_is)
    (case l_record_text => k_is)
    (case c_record_text => k_is)
    (case k_record_text => k_is)
    (case a_World_cut_after => k_is)
    (case i_World_cut_after => k_is)
    (case l_World_cut_after => k_is)
    (case c_World_cut_after => k_is)
    (case k_World_cut_after => k_is)
    (case a_tear => k_is)
    (case l_tear => k_is)
    (case c_tear => k_is)
    (case k_tear => k_is)
    (case a_World__stored => k_is)
    (case i_World__stored => k_is)
    (case l_World__stored => k_is)
    (case c_World__stored => k_is)
    (case k_World__stored => k_is)
    (case a_World__count_write => k_is)
    (case i_World__count_write => k_is)
    (case l_World__count_write => k_is)
    (case c_World__count_write => k_is)
    (case k_World__count_write => k_is)
    (case a_World_write_log => k_is)
    (case i_World_write_log => k_is)
    (case l_World_write_log => k_is)
    (case c_World_write_log => k_is)
    (case k_World_write_log => k_is)
    (case a_L_write => k_is)
    (case l_L_write => k_is)
    (case c_L_write => k_is)
    (case k_L_write => k_is)
    (case a_L_sizes => k_is)
    (case l_L_sizes => k_is)
    (case c_L_sizes => k_is)
    (case k_L_sizes => k_is)
    (case a_law => k_is)
    (case l_law => k_is)
    (case c_law => k_is)
    (case k_law => k_is)
    (case pg_World => k_is)
    (case hd_World => k_is)
    (case po_World => k_is)
    (case sa_World => k_is)
    (case mk_World => k_is)
    (case kc_World => k_is)
    (case o_World_seats => k_is)
    (case o_World_disks => k_is)
    (case o_World_log => k_is)
    (case o_World_writes => k_is)
    (case o_World_fuse => k_is)
    (case o_World_kept => k_is)
    (case x_PowerCut => k_exc)
    (case xk_PowerCut => k_is)
    (case xb_PowerCut => k_is)
    (case xt_PowerCut => k_is)
    (case xi_PowerCut => k_is)
    (case xs_PowerCut => first | rfl | k_is)
    (case x_PoolError => k_exc)
    (case xk_PoolError => k_is)
    (case xb_PoolError => k_is)
    (case xt_PoolError => k_is)
    (case xi_PoolError => k_is)
    (case xs_PoolError => first | rfl | k_is)
    (case n_abs => k_is)
    (case n_range => k_is)
    (case n_int => k_is)
    (case n_len => k_is)
    (case n_tuple => k_is)
    (case n_isinstance => k_is)
    (case n_bool => k_is)
    (case n_str => k_is)
    (case n_list => k_is)
    (case n_sorted => k_is)
    (case n_min => k_is)
    (case n_max => k_is)
