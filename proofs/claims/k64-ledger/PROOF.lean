import PyProof.Rows.All
import Wide.All
import OpenK.AllK
import Wide.FinOn
import HandS.ForMost
import HandS.ForExc
import HandS.FStr
import HandS.TupAny
import HandS.Deep
import HandS.IsInst
import HandS.More
import HandS.SortInts
import HandS.Evl
import KE.SortData
import HandS.WordsDict
import HandS.Small
import HandS.ExcIs
import HandS.HotCalls
import HandS.TryOnly
import KE.IntTextLaws
import PySem.Challenge.RW_pairwarden_k64_whole_ledger
set_option Elab.async false
set_option linter.all false
set_option maxRecDepth 100000
set_option maxHeartbeats 4000000
/-! PW0: operators as unions, the worlds of a body (frozen part, own lists), data as a whole. -/
namespace PW
open PySem PySem.Spec PyProof.Rows L2

/-! ### operators as unions -/
section
variable {X : Cx}
def rAddU (K : PySem.W.Frag) : R2 := fun x y H Q => rI0 (fun i j => .int (i + j)) x y H Q ∨ (∃ i j : Str, x = .str i ∧ y = .str j ∧ i.length + j.length ≤ sizeLine ∧ Q (.str (i ++ j)) H) ∨ rCat x y H Q ∨ rCatA K x y H Q
theorem op_addU : OpR X (binaryOp .Add) (rAddU X.K) := op_add.or (op_add_str.or (op_cat.or op_catA))
def rMulU : R2 := fun x y H Q => rI CMul (fun i j => .int (i * j)) x y H Q ∨ rRep x y H Q
theorem op_mulU : OpR X (binaryOp .Mult) rMulU := op_mul.or op_rep
def rEqU (K : PySem.W.Frag) : R2 := fun x y H Q => rEq x y H Q ∨ rEqD K x y H Q
theorem op_eqU (hu : X.A.units + 64 < cLine) : OpR X (compareOp .Eq) (rEqU X.K) := op_eq.or (op_eqD hu)
def rNeU (K : PySem.W.Frag) : R2 := fun x y H Q => rNe x y H Q ∨ rNeD K x y H Q
theorem op_neU (hu : X.A.units + 64 < cLine) : OpR X (compareOp .NotEq) (rNeU X.K) := op_ne.or (op_neD hu)
def rLtU (K : PySem.W.Frag) : R2 := fun x y H Q => rI0 (fun i j => .bl (decide (i < j))) x y H Q ∨ (∃ i j : Str, x = .str i ∧ y = .str j ∧ Q (.bl (decide (i.cps.toList < j.cps.toList))) H)
theorem op_ltU : OpR X (compareOp .Lt) (rLtU X.K) := op_lt.or op_lt_str
def rLeU (K : PySem.W.Frag) : R2 := fun x y H Q => rI0 (fun i j => .bl (decide (i ≤ j))) x y H Q ∨ (∃ i j : Str, x = .str i ∧ y = .str j ∧ Q (.bl (!decide (j.cps.toList < i.cps.toList))) H)
theorem op_leU : OpR X (compareOp .LtE) (rLeU X.K) := op_le.or op_le_str
def rGtU (K : PySem.W.Frag) : R2 := fun x y H Q => rI0 (fun i j => .bl (decide (j < i))) x y H Q ∨ (∃ i j : Str, x = .str i ∧ y = .str j ∧ Q (.bl (decide (j.cps.toList < i.cps.toList))) H)
theorem op_gtU : OpR X (compareOp .Gt) (rGtU X.K) := op_gt.or op_gt_str
def rGeU (K : PySem.W.Frag) : R2 := fun x y H Q => rI0 (fun i j => .bl (decide (j ≤ i))) x y H Q ∨ (∃ i j : Str, x = .str i ∧ y = .str j ∧ Q (.bl (!decide (i.cps.toList < j.cps.toList))) H)
theorem op_geU : OpR X (compareOp .GtE) (rGeU X.K) := op_ge.or op_ge_str
def rInU (K : PySem.W.Frag) : R2 := fun x y H Q => rIn K false x y H Q ∨ (∃ (c : Nat) (z : Str), x = .str ⟨#[c]⟩ ∧ y = .str z ∧ Q (.bl (decide (c ∈ z.cps.toList))) H) ∨ rNoneIn K false x y H Q ∨ rInD K x y H Q
def rNotInU (K : PySem.W.Frag) : R2 := fun x y H Q => rIn K true x y H Q ∨ (∃ (c : Nat) (z : Str), x = .str ⟨#[c]⟩ ∧ y = .str z ∧ Q (.bl (!decide (c ∈ z.cps.toList))) H) ∨ rNoneIn K true x y H Q ∨ rNotInD K x y H Q
theorem op_inU (hu : X.A.units + 65 < cLine) : OpR X (compareOp .In) (rInU X.K) := op_in_seq.or (op_in_sign.or ((op_noneIn (by omega)).or (op_inD hu)))
theorem op_notInU (hu : X.A.units + 65 < cLine) : OpR X (compareOp .NotIn) (rNotInU X.K) := op_notIn_seq.or (op_notIn_sign.or ((op_noneNotIn (by omega)).or (op_notInD hu)))
def rSlU (K : PySem.W.Frag) : V → Option Int → Option Int → Hp → VK → Prop := fun x lo hi H Q => rSlS x lo hi H Q ∨ rSlL K x lo hi H Q ∨ rSlA K x lo hi H Q
theorem sl_U : SlR X (rSlU X.K) := sl_str.or (sl_list.or sl_tupA)
def rIntU : List V → Hp → VK → Prop := fun xs H Q => (∃ i, xs = [.int i] ∧ Q (.int i) H) ∨ (∃ (a : Str) (n : Int), xs = [.str a] ∧ PySem.intText? a = some n ∧ a.length ≤ 640 ∧ Q (.int n) H)
theorem call_intU : CallR X (.type "int") rIntU := by
  intro pins s σ H xs us Q I r h
  rcases h with ⟨i, e, q⟩ | h
  · exact call_int1 pins s σ H xs us Q I r (.inl ⟨i, e, q⟩)
  · exact call_int_str pins s σ H xs us Q I r h
end

/-! ### data as a whole, kept -/
theorem same_rd {H H' : Hp} {a : Addr} {u : HO} (e : Same H H') (h : Rd H a u) : Rd H' a u := by
  rcases h with h | ⟨o, h⟩
  · exact Or.inl (e a _ h)
  · exact Or.inr ⟨o, e a _ h⟩
theorem same_l {K : PySem.W.Frag} {H H' : Hp} {a : Addr} {xs : List V} (e : Same H H') (h : SqL K H a xs) : SqL K H' a xs := by
  rcases h with h | h
  · exact Or.inl (same_rd e h)
  · exact Or.inr h
theorem same_t {K : PySem.W.Frag} {H H' : Hp} {a : Addr} {xs : List V} (e : Same H H') (h : SqT K H a xs) : SqT K H' a xs := by
  rcases h with h | h
  · exact Or.inl (same_rd e h)
  · exact Or.inr h
mutual
theorem dp_mono {K : PySem.W.Frag} {H H' : Hp} (e : Same H H') : ∀ {v : V} {d : PyData}, Dp K H v d → Dp K H' v d
  | _, _, .non => .non
  | _, _, .bl b => .bl b
  | _, _, .int i => .int i
  | _, _, .str x => .str x
  | _, _, .lst h a => .lst (same_l e h) (dpa_mono e a)
  | _, _, .tup h a => .tup (same_t e h) (dpa_mono e a)
theorem dpa_mono {K : PySem.W.Frag} {H H' : Hp} (e : Same H H') : ∀ {vs : List V} {ds : List PyData}, DpAll K H vs ds → DpAll K H' vs ds
  | _, _, .nil => .nil
  | _, _, .cons h a => .cons (dp_mono e h) (dpa_mono e a)
end
section
variable {K : PySem.W.Frag} {H H' F F' : Hp} {v : V} {vs ws : List V} {d : PyData} {ds es : List PyData} {p : Addr}
theorem dpa_len (h : DpAll K H vs ds) : vs.length = ds.length := by
  induction ds generalizing vs with
  | nil => cases h; rfl
  | cons d ds ih => cases h with | cons a b => rw [List.length_cons, List.length_cons, ih b]
theorem dpa_get {i : Nat} (h : DpAll K H vs ds) (e : vs[i]? = some v) : ∃ d, ds[i]? = some d ∧ Dp K H v d := by
  induction ds generalizing vs i with
  | nil => cases h; simp at e
  | cons d ds ih =>
    cases h with
    | cons a b =>
      cases i with
      | zero => simp at e; subst e; exact ⟨d, by simp, a⟩
      | succ i =>
        obtain ⟨d', h1, h2⟩ := ih b (i := i) (by simpa using e)
        exact ⟨d', by simpa using h1, h2⟩
theorem dpa_at {i : Nat} (h : DpAll K H vs ds) (e : ds[i]? = some d) : ∃ v, vs[i]? = some v ∧ Dp K H v d := by
  have hl := dpa_len h
  have hi : i < vs.length := by rw [hl]; exact (List.getElem?_eq_some_iff.mp e).1
  obtain ⟨d', h1, h2⟩ := dpa_get h (List.getElem?_eq_getElem hi)
  rw [e] at h1
  cases h1
  exact ⟨_, List.getElem?_eq_getElem hi, h2⟩
theorem dpa_app (h : DpAll K H vs ds) (h' : DpAll K H ws es) : DpAll K H (vs ++ ws) (ds ++ es) := by
  induction ds generalizing vs with
  | nil => cases h; exact h'
  | cons d ds ih => cases h with | cons a b => exact .cons a (ih b)
theorem dpa_one (h : Dp K H v d) : DpAll K H [v] [d] := .cons h .nil
theorem dpa_snoc (h : DpAll K H vs ds) (h' : Dp K H v d) : DpAll K H (vs ++ [v]) (ds ++ [d]) := dpa_app h (dpa_one h')
theorem dp_int {i : Int} (h : Dp K H v (.int i)) : v = .int i := by cases h; rfl
theorem dp_bool {b : Bool} (h : Dp K H v (.bool b)) : v = .bl b := by cases h; rfl
theorem dp_str {x : Str} (h : Dp K H v (.str x)) : v = .str x := by cases h; rfl
theorem dp_none (h : Dp K H v .none) : v = .non := by cases h; rfl
theorem dp_list (h : Dp K H v (.list ds)) : ∃ a xs, v = .ref a ∧ SqL K H a xs ∧ DpAll K H xs ds := by cases h with | lst h a => exact ⟨_, _, rfl, h, a⟩
theorem dp_tup (h : Dp K H v (.tuple ds)) : ∃ a xs, v = .ref a ∧ SqT K H a xs ∧ DpAll K H xs ds := by cases h with | tup h a => exact ⟨_, _, rfl, h, a⟩
theorem dpa_ints {ns : List Int} (h : DpAll K H vs (ns.map PyData.int)) : vs = ns.map V.int := by
  induction ns generalizing vs with
  | nil => cases h; rfl
  | cons n ns ih => cases h with | cons a b => rw [dp_int a, ih b]; rfl
theorem dpa_strs {ns : List Str} (h : DpAll K H vs (ns.map PyData.str)) : vs = ns.map V.str := by
  induction ns generalizing vs with
  | nil => cases h; rfl
  | cons n ns ih => cases h with | cons a b => rw [dp_str a, ih b]; rfl
theorem dpa_of_ints {ns : List Int} : DpAll K H (ns.map V.int) (ns.map PyData.int) := by
  induction ns with
  | nil => exact .nil
  | cons n ns ih => exact .cons (.int n) ih
theorem dpa_of_strs {ns : List Str} : DpAll K H (ns.map V.str) (ns.map PyData.str) := by
  induction ns with
  | nil => exact .nil
  | cons n ns ih => exact .cons (.str n) ih
end

/-! ### worlds: F the part that stays as it is, H the heap, F0 H0 those at the entry, M the lists that are one's own -/
structure Step (F H F' H' : Hp) : Prop where
  ff : Same F F'
  fh : Same F' H'
  hh : Same H H'
  sep : ∀ b, F b = none → H b ≠ none → F' b = none
structure Wd (F0 H0 F H : Hp) (M : List (Addr × HO)) : Prop where
  ff : Same F0 F
  fh : Same F H
  hh : Same H0 H
  sep : ∀ b, F0 b = none → H0 b ≠ none → F b = none
  mt : ∀ m ∈ M, F m.1 = none ∧ H m.1 = some m.2 ∧ H0 m.1 = none
  nd : (M.map (·.1)).Nodup
section
variable {K : PySem.W.Frag} {F0 H0 F H F' H' F2 H2 : Hp} {M : List (Addr × HO)} {p : Addr} {o o' : HO}
theorem Step.refl (e : Same F H) : Step F H F H := ⟨.refl F, e, .refl H, fun _ h _ => h⟩
theorem Step.trans (a : Step F H F' H') (b : Step F' H' F2 H2) : Step F H F2 H2 :=
  ⟨a.ff.trans b.ff, b.fh, a.hh.trans b.hh, fun c h1 h2 => b.sep c (a.sep c h1 h2) fun z => by
    cases q : H c with
    | none => exact h2 q
    | some o => rw [a.hh c o q] at z; cases z⟩
theorem Wd.start (e : Same F H) : Wd F H F H [] := ⟨.refl F, e, .refl H, fun _ h _ => h, fun _ h => by simp at h, List.nodup_nil⟩
theorem Wd.done (w : Wd F0 H0 F H M) : Step F0 H0 F H := ⟨w.ff, w.fh, w.hh, w.sep⟩
theorem Wd.step (w : Wd F0 H0 F H M) (s : Step F H F' H') : Wd F0 H0 F' H' M := by
  refine ⟨w.ff.trans s.ff, s.fh, w.hh.trans s.hh, fun b h1 h2 => s.sep b (w.sep b h1 h2) fun z => ?_, fun m hm => ?_, w.nd⟩
  · cases q : H0 b with
    | none => exact h2 q
    | some o => rw [w.hh b o q] at z; cases z
  · obtain ⟨a, b, c⟩ := w.mt m hm
    exact ⟨s.sep _ a (by rw [b]; simp), s.hh _ _ b, c⟩
theorem Wd.free (w : Wd F0 H0 F H M) (h : H p = none) : F p = none ∧ H0 p = none ∧ ∀ m ∈ M, m.1 ≠ p := by
  refine ⟨w.fh.free h, w.hh.free h, fun m hm z => ?_⟩
  obtain ⟨_, b, _⟩ := w.mt m hm
  rw [z, h] at b
  cases b
theorem same_new (h : H p = none) : Same H (upd H p o) := fun b u e => by rw [upd_ne (ne_of_none e h)]; exact e
theorem same_upd (e : Same F H) : Same (upd F p o) (upd H p o) := fun b u h => by
  unfold upd at h ⊢
  split
  · rename_i hb; rw [if_pos hb] at h; exact h
  · rename_i hb; rw [if_neg hb] at h; exact e b u h
/-- a new object that will not change: it joins the frozen part -/
theorem Wd.fix (w : Wd F0 H0 F H M) (h : H p = none) (o : HO) : Wd F0 H0 (upd F p o) (upd H p o) M ∧ Same F (upd F p o) := by
  obtain ⟨f, h0, hm⟩ := w.free h
  refine ⟨⟨w.ff.trans (same_new f), same_upd w.fh, w.hh.trans (same_new h), fun b h1 h2 => ?_, fun m hm' => ?_, w.nd⟩, same_new f⟩
  · have : b ≠ p := fun z => h2 (by rw [z]; exact h0)
    rw [upd_ne this]
    exact w.sep b h1 h2
  · obtain ⟨a, b, c⟩ := w.mt m hm'
    rw [upd_ne (hm m hm'), upd_ne (hm m hm')]
    exact ⟨a, b, c⟩
/-- a new list of one's own -/
theorem Wd.own (w : Wd F0 H0 F H M) (h : H p = none) (o : HO) : Wd F0 H0 F (upd H p o) ((p, o) :: M) := by
  obtain ⟨f, h0, hm⟩ := w.free h
  refine ⟨w.ff, w.fh.trans (same_new h), w.hh.trans (same_new h), w.sep, fun m hm' => ?_, ?_⟩
  · rcases List.mem_cons.mp hm' with rfl | hm'
    · exact ⟨f, upd_same, h0⟩
    · obtain ⟨a, b, c⟩ := w.mt m hm'
      rw [upd_ne (hm m hm')]
      exact ⟨a, b, c⟩
  · rw [List.map_cons, List.nodup_cons]
    refine ⟨fun z => ?_, w.nd⟩
    obtain ⟨m, hm', e⟩ := List.mem_map.mp z
    exact hm m hm' e
theorem Wd.at_ (w : Wd F0 H0 F H ((p, o) :: M)) : H p = some o := (w.mt _ List.mem_cons_self).2.1
theorem Wd.set (w : Wd F0 H0 F H ((p, o) :: M)) (o' : HO) : Wd F0 H0 F (upd H p o') ((p, o') :: M) := by
  obtain ⟨f, hp, h0⟩ := w.mt _ List.mem_cons_self
  have nd := w.nd
  rw [List.map_cons, List.nodup_cons] at nd
  refine ⟨w.ff, fun b u e => ?_, fun b u e => ?_, w.sep, fun m hm => ?_, w.nd⟩
  · rw [upd_ne (ne_of_none e f)]
    exact w.fh b u e
  · rw [upd_ne (ne_of_none e h0)]
    exact w.hh b u e
  · rcases List.mem_cons.mp hm with rfl | hm
    · exact ⟨f, upd_same, h0⟩
    · obtain ⟨a, b, c⟩ := w.mt m (List.mem_cons_of_mem _ hm)
      have : m.1 ≠ p := fun z => nd.1 (z ▸ List.mem_map_of_mem (f := (·.1)) hm)
      rw [upd_ne this]
      exact ⟨a, b, c⟩
theorem Wd.swap {q : Addr} {u : HO} (w : Wd F0 H0 F H ((p, o) :: (q, u) :: M)) : Wd F0 H0 F H ((q, u) :: (p, o) :: M) := by
  refine ⟨w.ff, w.fh, w.hh, w.sep, fun m hm => w.mt m ?_, ?_⟩
  · simp only [List.mem_cons] at hm ⊢
    rcases hm with h | h | h
    · exact .inr (.inl h)
    · exact .inl h
    · exact .inr (.inr h)
  · have nd := w.nd
    simp only [List.map_cons, List.nodup_cons, List.mem_cons, not_or] at nd ⊢
    exact ⟨⟨fun z => nd.1.1 z.symm, nd.2.1⟩, nd.1.2, nd.2.2⟩
theorem Wd.drop (w : Wd F0 H0 F H ((p, o) :: M)) : Wd F0 H0 F H M := by
  have nd := w.nd
  rw [List.map_cons, List.nodup_cons] at nd
  exact ⟨w.ff, w.fh, w.hh, w.sep, fun m hm => w.mt m (List.mem_cons_of_mem _ hm), nd.2⟩
/-- a list of one's own changes no more -/
theorem Wd.freeze (w : Wd F0 H0 F H ((p, o) :: M)) : Wd F0 H0 (upd F p o) H M ∧ Same F (upd F p o) := by
  obtain ⟨f, hp, h0⟩ := w.mt _ List.mem_cons_self
  have nd := w.nd
  rw [List.map_cons, List.nodup_cons] at nd
  refine ⟨⟨w.ff.trans (same_new f), fun b u e => ?_, w.hh, fun b h1 h2 => ?_, fun m hm => ?_, nd.2⟩, same_new f⟩
  · by_cases hb : b = p
    · subst hb; rw [upd_same] at e; cases e; exact hp
    · rw [upd_ne hb] at e; exact w.fh b u e
  · have : b ≠ p := fun z => h2 (by rw [z]; exact h0)
    rw [upd_ne this]
    exact w.sep b h1 h2
  · obtain ⟨a, b, c⟩ := w.mt m (List.mem_cons_of_mem _ hm)
    have : m.1 ≠ p := fun z => nd.1 (z ▸ List.mem_map_of_mem (f := (·.1)) hm)
    rw [upd_ne this]
    exact ⟨a, b, c⟩
end
/-! ### an exception class meets itself -/
theorem exm_self {K : PySem.W.Frag} {S : Addr} (h1 : PySem.W.subIn K (.ref S) (.type "BaseException") = some true) (h2 : PySem.W.isClsIn K S = true) (h3 : PySem.W.typeIn K (.ref S) = some (.type "type")) (h4 : PySem.W.subIn K (.ref S) (.ref S) = some true) :
    PySem.W.exmOne K (.ref S) (.ref S) = some true := by
  have e1 : (PySem.W.subIn K (.ref S) (.type "BaseException") == some true) = true := by rw [h1] <;> rfl
  have e2 : ((PySem.W.clsIn K S).isSome && PySem.W.typeIn K (.ref S) == some (.type "type")) = true := by
    have h2' : (PySem.W.clsIn K S).isSome = true := h2
    rw [h2', h3] <;> rfl
  show (if (PySem.W.subIn K (.ref S) (.type "BaseException") == some true) = true then (if ((PySem.W.clsIn K S).isSome && PySem.W.typeIn K (.ref S) == some (.type "type")) = true then PySem.W.subIn K (.ref S) (.ref S) else none) else none) = some true
  rw [if_pos e1, if_pos e2]
  exact h4
end PW

set_option Elab.async false
set_option linter.all false
set_option maxRecDepth 100000
set_option maxHeartbeats 4000000
/-! PW1: comprehensions and loops over worlds. -/
namespace PW
open PySem PySem.Spec PyProof.Rows L2

theorem hu65_of {A : Around} {k : Nat} (hr : Room k A) : A.units + 65 < cLine := by have := hr.un; omega
theorem hu64_of {A : Around} {k : Nat} (hr : Room k A) : A.units + 64 < cLine := by have := hr.un; omega
theorem iteYes {c A B : Prop} [Decidable c] (h : c) (x : A) : if decide c = true then A else B := by rw [decide_eq_true h]; exact iteT x
theorem iteNo {c A B : Prop} [Decidable c] (h : ¬ c) (x : B) : if decide c = true then A else B := by rw [decide_eq_false h]; exact iteF x
theorem iteNY {c A B : Prop} [Decidable c] (h : ¬ c) (x : A) : if (!decide c) = true then A else B := by rw [decide_eq_false h]; exact iteT x
theorem iteD {c A B : Prop} [Decidable c] (h1 : c → A) (h2 : ¬ c → B) : if decide c = true then A else B := by
  by_cases h : c
  · exact iteYes h (h1 h)
  · exact iteNo h (h2 h)
theorem iteND {c A B : Prop} [Decidable c] (h1 : ¬ c → A) (h2 : c → B) : if (!decide c) = true then A else B := by
  by_cases h : c
  · exact iteNS h (h2 h)
  · exact iteNY h (h1 h)
theorem iteB {b : Bool} {A B : Prop} (h1 : b = true → A) (h2 : b = false → B) : if b = true then A else B := by
  cases b with
  | true => exact iteT (h1 rfl)
  | false => exact iteF (h2 rfl)
theorem small {n : Nat} (h : n ≤ 1000000) : n ≤ sizeLine := Nat.le_trans h (by decide)
theorem small' {n : Nat} (h : n ≤ 1000000) : n < sizeLine := Nat.lt_of_le_of_lt h (by decide)
theorem take_more {α : Type} {l : List α} {i : Nat} {x : α} (h : l[i]? = some x) : l.take (i + 1) = l.take i ++ [x] := by
  rw [List.take_succ, h]; rfl
section
variable {K : PySem.W.Frag} {F0 H0 F H F' H' F1 H1 F2 H2 : Hp} {M : List (Addr × HO)} {p : Addr} {o o' : HO}
theorem Wd.same (w : Wd F0 H0 F H M) (e : Same H H') : Wd F0 H0 F H' M :=
  ⟨w.ff, w.fh.trans e, w.hh.trans e, w.sep, fun m hm => by
    obtain ⟨a, b, c⟩ := w.mt m hm
    exact ⟨a, e _ _ b, c⟩, w.nd⟩
theorem Step.same (e : Same F H) (e2 : Same H H') : Step F H F H' := ⟨.refl F, e.trans e2, e2, fun _ h _ => h⟩
theorem Wd.l (w : Wd F0 H0 F H M) {a : Addr} {xs : List V} (h : SqL K F a xs) : SqL K H a xs := same_l w.fh h
theorem Wd.t (w : Wd F0 H0 F H M) {a : Addr} {xs : List V} (h : SqT K F a xs) : SqT K H a xs := same_t w.fh h
theorem Wd.d (w : Wd F0 H0 F H M) {v : V} {d : PyData} (h : Dp K F v d) : Dp K H v d := dp_mono w.fh h

/-! ### comprehensions: the new list at D, its items data -/
theorem lc_wdL {a : Addr} {xs : List V} {g : TG} {te : TE} {vs : List Nat} {σ : L2.St} {D : Addr} {Qd : Hp → Prop} (ds : List PyData) (hl : ds.length = xs.length) (w : Wd F0 H0 F1 H1 M) (hD : H1 D = none) (hx : SqL K F1 a xs) (hz : xs.length ≤ 1000000)
    (hs : ∀ (i : Nat) (x : V) (d : PyData) (F H : Hp) (acc : List V) (Q : VK), xs[i]? = some x → ds[i]? = some d → Same F1 F → Wd F0 H0 F H ((D, .lst acc) :: M) → (∀ y F4 H4, Step F H F4 H4 → Dp K F4 y d → Q y H4) → g x (wipe σ vs) H fun σ2 H2 => wipe σ2 vs = wipe σ vs ∧ te σ2 H2 Q)
    (hd : ∀ vs' F' H', Same F1 F' → Wd F0 H0 F' H' ((D, .lst vs') :: M) → DpAll K F' vs' ds → Qd H') :
    ∃ W : Nat → Nat → Hp → Prop, (∃ m, W 0 m (upd H1 D (.lst []))) ∧ ∀ i m H, W i m H →
      ((Itl K a).stop i H ∧ Qd H) ∨ ((Itl K a).go i H ∧ ∃ Nx : Hp → Prop, (∀ H', Nx H' → ∃ m', m' < m ∧ W (i + 1) m' H') ∧ ∀ x H', (Itl K a).yld i H x H' → g x (wipe σ vs) H' fun σ2 H2 => wipe σ2 vs = wipe σ vs ∧ tYes σ2 H2 fun b H3 =>
        if b = true then te σ2 H3 fun y H4 => ∃ acc, H4 D = some (.lst acc) ∧ acc.length < sizeLine ∧ Nx (upd H4 D (.lst (acc ++ [y]))) else Nx H3) := by
  refine lc_list (xs := xs) (fun i H => ∃ acc F, Same F1 F ∧ Wd F0 H0 F H ((D, .lst acc) :: M) ∧ DpAll K F acc (ds.take i)) ⟨[], F1, .refl F1, w.own hD _, .nil⟩ (fun i H _ ⟨acc, F, e, w', _⟩ => w'.l (same_l e hx)) (fun i x H hi ⟨acc, F, e, w', da⟩ => ?_) (fun H ⟨acc, F, e, w', da⟩ => ?_)
  · have hil : i < ds.length := by rw [hl]; exact (List.getElem?_eq_some_iff.mp hi).1
    have hdi := List.getElem?_eq_getElem hil
    refine hs i x _ F H acc _ hi hdi e w' fun y F4 H4 st dy => ?_
    have w4 := w'.step st
    refine ⟨acc, w4.at_, ?_, acc ++ [y], F4, e.trans st.ff, w4.set _, ?_⟩
    · have := dpa_len da
      rw [List.length_take] at this
      exact small' (by omega)
    · rw [take_more hdi]
      exact dpa_snoc (dpa_mono st.ff da) dy
  · rw [← hl, List.take_length] at da
    exact hd acc F H e w' da
theorem lc_wdT {a : Addr} {xs : List V} {g : TG} {te : TE} {vs : List Nat} {σ : L2.St} {D : Addr} {Qd : Hp → Prop} (ds : List PyData) (hl : ds.length = xs.length) (w : Wd F0 H0 F1 H1 M) (hD : H1 D = none) (hx : SqT K F1 a xs) (hz : xs.length ≤ 1000000)
    (hs : ∀ (i : Nat) (x : V) (d : PyData) (F H : Hp) (acc : List V) (Q : VK), xs[i]? = some x → ds[i]? = some d → Same F1 F → Wd F0 H0 F H ((D, .lst acc) :: M) → (∀ y F4 H4, Step F H F4 H4 → Dp K F4 y d → Q y H4) → g x (wipe σ vs) H fun σ2 H2 => wipe σ2 vs = wipe σ vs ∧ te σ2 H2 Q)
    (hd : ∀ vs' F' H', Same F1 F' → Wd F0 H0 F' H' ((D, .lst vs') :: M) → DpAll K F' vs' ds → Qd H') :
    ∃ W : Nat → Nat → Hp → Prop, (∃ m, W 0 m (upd H1 D (.lst []))) ∧ ∀ i m H, W i m H →
      ((Itt K a).stop i H ∧ Qd H) ∨ ((Itt K a).go i H ∧ ∃ Nx : Hp → Prop, (∀ H', Nx H' → ∃ m', m' < m ∧ W (i + 1) m' H') ∧ ∀ x H', (Itt K a).yld i H x H' → g x (wipe σ vs) H' fun σ2 H2 => wipe σ2 vs = wipe σ vs ∧ tYes σ2 H2 fun b H3 =>
        if b = true then te σ2 H3 fun y H4 => ∃ acc, H4 D = some (.lst acc) ∧ acc.length < sizeLine ∧ Nx (upd H4 D (.lst (acc ++ [y]))) else Nx H3) := by
  refine lc_tup (xs := xs) (fun i H => ∃ acc F, Same F1 F ∧ Wd F0 H0 F H ((D, .lst acc) :: M) ∧ DpAll K F acc (ds.take i)) ⟨[], F1, .refl F1, w.own hD _, .nil⟩ (fun i H _ ⟨acc, F, e, w', _⟩ => w'.t (same_t e hx)) (fun i x H hi ⟨acc, F, e, w', da⟩ => ?_) (fun H ⟨acc, F, e, w', da⟩ => ?_)
  · have hil : i < ds.length := by rw [hl]; exact (List.getElem?_eq_some_iff.mp hi).1
    have hdi := List.getElem?_eq_getElem hil
    refine hs i x _ F H acc _ hi hdi e w' fun y F4 H4 st dy => ?_
    have w4 := w'.step st
    refine ⟨acc, w4.at_, ?_, acc ++ [y], F4, e.trans st.ff, w4.set _, ?_⟩
    · have := dpa_len da
      rw [List.length_take] at this
      exact small' (by omega)
    · rw [take_more hdi]
      exact dpa_snoc (dpa_mono st.ff da) dy
  · rw [← hl, List.take_length] at da
    exact hd acc F H e w' da
end
/-- for c in s -/
theorem for_str {z : Str} {g : TG} {tb : TS} {D : Ends} {σ : L2.St} {H : Hp} (Pv : Nat → L2.St → Hp → Prop) (h0 : Pv 0 σ H)
    (hs : ∀ (i : Nat) (c : Nat) σ H, z.cps.toList[i]? = some c → Pv i σ H → g (.str ⟨#[c]⟩) σ H fun σ2 H2 => tb { D with nx := Pv (i + 1), ct := Pv (i + 1), bk := D.nx } σ2 H2) (hd : ∀ σ H, Pv z.cps.toList.length σ H → D.nx σ H) :
    ∃ W : Nat → Nat → L2.St → Hp → Prop, (∃ m, W 0 m σ H) ∧ ∀ i m σ H, W i m σ H →
      ((Its z).stop i H ∧ D.nx σ H) ∨ ((Its z).go i H ∧ ∃ N : L2.St → Hp → Prop, (∀ σ' H', N σ' H' → ∃ m', m' < m ∧ W (i + 1) m' σ' H') ∧ ∀ x H', (Its z).yld i H x H' → g x σ H' fun σ2 H2 => tb { D with nx := N, ct := N, bk := D.nx } σ2 H2) := by
  have hz : z.cps.size = z.cps.toList.length := by simp
  refine ⟨fun i m σ H => m = z.cps.toList.length - i ∧ i ≤ z.cps.toList.length ∧ Pv i σ H, ⟨z.cps.toList.length, by simp, Nat.zero_le _, h0⟩, ?_⟩
  rintro i m σ H ⟨rfl, hi, p⟩
  by_cases hlt : i < z.cps.toList.length
  · refine .inr ⟨by show i < z.cps.size; omega, Pv (i + 1), fun σ' H' p' => ⟨z.cps.toList.length - (i + 1), by omega, rfl, hlt, p'⟩, fun x H' y => ?_⟩
    obtain ⟨e, c, hc, ev⟩ := y
    subst e ev
    exact hs i c σ _ (by rw [← hc]; simp) p
  · have e : i = z.cps.toList.length := by omega
    subst e
    exact .inl ⟨by show z.cps.size ≤ _; omega, hd σ H p⟩
section
variable {K : PySem.W.Frag} {F0 H0 F H F' H' F1 H1 F2 H2 : Hp} {M : List (Addr × HO)} {p : Addr} {o o' : HO}
theorem lc_wdR {lo : Int} {n : Nat} {g : TG} {te : TE} {vs : List Nat} {σ : L2.St} {D : Addr} {Qd : Hp → Prop} (ds : List PyData) (hl : ds.length = n) (w : Wd F0 H0 F1 H1 M) (hD : H1 D = none) (hz : n ≤ 1000000)
    (hs : ∀ (i : Nat) (d : PyData) (F H : Hp) (acc : List V) (Q : VK), i < n → ds[i]? = some d → Same F1 F → Wd F0 H0 F H ((D, .lst acc) :: M) → (∀ y F4 H4, Step F H F4 H4 → Dp K F4 y d → Q y H4) → g (.int (lo + i)) (wipe σ vs) H fun σ2 H2 => wipe σ2 vs = wipe σ vs ∧ te σ2 H2 Q)
    (hd : ∀ vs' F' H', Same F1 F' → Wd F0 H0 F' H' ((D, .lst vs') :: M) → DpAll K F' vs' ds → Qd H') :
    ∃ W : Nat → Nat → Hp → Prop, (∃ m, W 0 m (upd H1 D (.lst []))) ∧ ∀ i m H, W i m H →
      ((Itr lo n).stop i H ∧ Qd H) ∨ ((Itr lo n).go i H ∧ ∃ Nx : Hp → Prop, (∀ H', Nx H' → ∃ m', m' < m ∧ W (i + 1) m' H') ∧ ∀ x H', (Itr lo n).yld i H x H' → g x (wipe σ vs) H' fun σ2 H2 => wipe σ2 vs = wipe σ vs ∧ tYes σ2 H2 fun b H3 =>
        if b = true then te σ2 H3 fun y H4 => ∃ acc, H4 D = some (.lst acc) ∧ acc.length < sizeLine ∧ Nx (upd H4 D (.lst (acc ++ [y]))) else Nx H3) := by
  refine lc_range (fun i H => ∃ acc F, Same F1 F ∧ Wd F0 H0 F H ((D, .lst acc) :: M) ∧ DpAll K F acc (ds.take i)) ⟨[], F1, .refl F1, w.own hD _, .nil⟩ (fun i H hi ⟨acc, F, e, w', da⟩ => ?_) (fun H ⟨acc, F, e, w', da⟩ => ?_)
  · have hil : i < ds.length := by rw [hl]; exact hi
    have hdi := List.getElem?_eq_getElem hil
    refine hs i _ F H acc _ hi hdi e w' fun y F4 H4 st dy => ?_
    have w4 := w'.step st
    refine ⟨acc, w4.at_, ?_, acc ++ [y], F4, e.trans st.ff, w4.set _, ?_⟩
    · have := dpa_len da
      rw [List.length_take] at this
      exact small' (by omega)
    · rw [take_more hdi]
      exact dpa_snoc (dpa_mono st.ff da) dy
  · rw [← hl, List.take_length] at da
    exact hd acc F H e w' da
end
def tJoined (ts : List TE) : TE := fun σ H Q => tJs ts Str.empty σ H fun out H1 => Q (.str out) H1
theorem pe_joinedN {X : Cx} {v1 v2 : Expr} {rest : List Expr} {ts : List TE} {pos : Pos} (h : PJ X (v1 :: v2 :: rest) ts) : PE X (.JoinedStr (v1 :: v2 :: rest) pos) (tJoined ts) := pe_joined h
theorem cutV_tail (x : V) (r : List V) : cutV (x :: r) (some 1) none = r := by
  have e1 : HT.sIx (x :: r).length 0 (some ((1 : Nat) : Int)) = 1 := by rw [HT.sIx_nat]; simp
  have e2 : HT.sIx (x :: r).length (x :: r).length none = r.length + 1 := HT.sIx_none _ _
  show ((x :: r).drop (HT.sIx (x :: r).length 0 (some ((1 : Nat) : Int)))).take (HT.sIx (x :: r).length (x :: r).length none - HT.sIx (x :: r).length 0 (some ((1 : Nat) : Int))) = r
  rw [e1, e2]
  show r.take (r.length + 1 - 1) = r
  rw [Nat.add_sub_cancel, List.take_length]
theorem cutV_front {xs ys : List V} {n : Nat} (h : xs.length = n) : cutV (xs ++ ys) none (some (n : Int)) = xs := by
  have e1 : HT.sIx (xs ++ ys).length 0 none = 0 := HT.sIx_none _ _
  have e2 : HT.sIx (xs ++ ys).length (xs ++ ys).length (some (n : Int)) = n := by rw [HT.sIx_nat, List.length_append]; omega
  unfold cutV
  rw [e1, e2, Nat.sub_zero, List.drop_zero, ← h, List.take_left]
theorem cutV_back {xs ys : List V} {n : Nat} (h : xs.length = n) : cutV (xs ++ ys) (some (n : Int)) none = ys := by
  have e1 : HT.sIx (xs ++ ys).length 0 (some (n : Int)) = n := by rw [HT.sIx_nat, List.length_append]; omega
  have e2 : HT.sIx (xs ++ ys).length (xs ++ ys).length none = (xs ++ ys).length := HT.sIx_none _ _
  unfold cutV
  rw [e1, e2, ← h, List.drop_left, List.length_append, Nat.add_sub_cancel_left, List.take_length]
/-- a chain's two tests, both told -/
theorem andB {t u : TT} {σ : L2.St} {H : Hp} {Q : Bool → Hp → Prop} (b1 b2 : Bool) (h1 : ∀ R : Bool → Hp → Prop, R b1 H → t σ H R) (h2 : b1 = true → ∀ R : Bool → Hp → Prop, R b2 H → u σ H R) (q : Q (b1 && b2) H) : tAnd t u σ H Q := by
  refine h1 _ ?_
  cases b1 with
  | true => exact iteT (h2 rfl _ q)
  | false => exact iteF q
theorem orB {t u : TT} {σ : L2.St} {H : Hp} {Q : Bool → Hp → Prop} (b1 b2 : Bool) (h1 : ∀ R : Bool → Hp → Prop, R b1 H → t σ H R) (h2 : b1 = false → ∀ R : Bool → Hp → Prop, R b2 H → u σ H R) (q : Q (b1 || b2) H) : tOr t u σ H Q := by
  refine h1 _ ?_
  cases b1 with
  | true => exact iteT q
  | false => exact iteF (h2 rfl _ q)
/-! ### the same rules, K told apart (within a comprehension's block) -/
section
variable {X : Cx} {K : PySem.W.Frag}
theorem op_addK (h : X.K = K) : OpR X (binaryOp .Add) (rAddU K) := h ▸ op_addU
theorem op_eqK (h : X.K = K) (hu : X.A.units + 64 < cLine) : OpR X (compareOp .Eq) (rEqU K) := h ▸ op_eqU hu
theorem op_neK (h : X.K = K) (hu : X.A.units + 64 < cLine) : OpR X (compareOp .NotEq) (rNeU K) := h ▸ op_neU hu
theorem op_ltK (h : X.K = K) : OpR X (compareOp .Lt) (rLtU K) := h ▸ op_ltU
theorem op_leK (h : X.K = K) : OpR X (compareOp .LtE) (rLeU K) := h ▸ op_leU
theorem op_gtK (h : X.K = K) : OpR X (compareOp .Gt) (rGtU K) := h ▸ op_gtU
theorem op_geK (h : X.K = K) : OpR X (compareOp .GtE) (rGeU K) := h ▸ op_geU
theorem op_inK (h : X.K = K) (hu : X.A.units + 65 < cLine) : OpR X (compareOp .In) (rInU K) := h ▸ op_inU hu
theorem op_notInK (h : X.K = K) (hu : X.A.units + 65 < cLine) : OpR X (compareOp .NotIn) (rNotInU K) := h ▸ op_notInU hu
theorem sl_K (h : X.K = K) : SlR X (rSlU K) := h ▸ sl_U
theorem ix_K (h : X.K = K) : IxR X (rIx K) := h ▸ ix_seq
def rLn (K : PySem.W.Frag) : List V → Hp → VK → Prop := fun xs H Q => ∃ x n, xs = [x] ∧ LenV K x H n ∧ Q (.int n) H
theorem call_lenK (h : X.K = K) : CallR X (.builtin "len") (rLn K) := h ▸ call_len
def rTupOf (K : PySem.W.Frag) : List V → Hp → VK → Prop := fun xs H Q => ∃ p ys, xs = [.ref p] ∧ ((SqL K H p ys ∧ ∀ l, H l = none → Q (.ref l) (upd H l (.tup ys))) ∨ (SqT K H p ys ∧ Q (.ref p) H))
theorem call_tupleK (h : X.K = K) : CallR X (.type "tuple") (rTupOf K) := h ▸ call_tuple_of
def rListOf (K : PySem.W.Frag) : List V → Hp → VK → Prop := fun xs H Q => ∃ p ys, xs = [.ref p] ∧ (SqL K H p ys ∨ SqT K H p ys) ∧ ∀ l, H l = none → Q (.ref l) (upd H l (.lst ys))
theorem call_listK (h : X.K = K) : CallR X (.type "list") (rListOf K) := h ▸ call_list_of
theorem cr_sumK (h : X.K = K) (hc : X.calm = true) : CallR X (.builtin "sum") (rSum K) := h ▸ cr_sum hc
theorem call_isiK1 (h : X.K = K) : CallR X (.builtin "isinstance") (rIsi K) := h ▸ call_isi
theorem cr_sortedK (h : X.K = K) : CallR X (.builtin "sorted") (rSortedI K) := h ▸ cr_sortedI
theorem pi_listK {tg l : Expr} {tl : TE} (h : X.K = K) (hl : PE X l tl) : PI X tg l (iList K tl) := h ▸ pi_list hl
theorem pi_tupK {tg l : Expr} {tl : TE} (h : X.K = K) (hl : PE X l tl) : PI X tg l (iTup K tl) := h ▸ pi_tup hl
theorem pg_tupK {es : List Expr} {k : Nat} {t : TGs} {n : Nat} {pos : Pos} (h : X.K = K) (hc : X.calm = true) (hg : PGs X es t)
    (hn : (assignEach es X.env).length = n := by rfl) (hst : (assignEach es X.env).findIdx? (·.1) = none := by rfl) : PG X (.Tuple es k pos) (gTup K n t) := h ▸ pg_tup hc hg hn hst
theorem pe_fldK {e : Expr} {ta : TE} {f : Str} {pos : Pos} (h : X.K = K) (he : PE X e ta) (hb : attributeBase e f X.env (eval e X.env) = eval e X.env) : PE X (.Attribute e f pos) (tFld K ta f) := h ▸ pe_fld he hb
end
end PW

set_option Elab.async false
set_option linter.all false
set_option maxRecDepth 100000
set_option maxHeartbeats 4000000
/-! PW2: sorted(xs) of data of any kind. -/
namespace PW
open PySem PySem.Spec PyProof.Rows L2
def sortD (xs : List V) (ds : List PyData) : List (V × PyData) := (xs.zip ds).mergeSort (PySem.W.dataLe false (·.2))
def rSortedD (K : PySem.W.Frag) : List V → Hp → VK → Prop := fun vs H Q => ∃ (a : Addr) (xs : List V) (ds : List PyData), vs = [.ref a] ∧ SqL K H a xs ∧ DpAll K H xs ds ∧ PySem.W.AllAlike ds ∧ PySem.W.Sortable ds ∧ (∀ d ∈ ds, d.depth ≤ 60) ∧
  ∀ p, H p = none → Q (.ref p) (upd H p (.lst ((sortD xs ds).map (·.1))))
theorem each_rel : ∀ {its : List Value} {xs : List V} {ds : List PyData}, Vals xs its → xs.length = ds.length → PySem.W.EachIs (fun v (b : V × PyData) => RelV b.1 v) its (xs.zip ds)
  | _, _, [], .nil, _ => .nil
  | _, _, _ :: _, .nil, h => by simp at h
  | _, _, [], .cons _ _, h => by simp at h
  | _, _, _ :: _, .cons r t, h => .cons r (each_rel t (by simpa using h))
theorem each_reads {h : Heap} : ∀ {its : List Value} {xs : List V} {ds : List PyData} {as : List Addr}, ReadsAll h its ds as → xs.length = ds.length → PySem.W.EachIs (fun v (b : V × PyData) => ∃ as, Reads h v b.2 as) its (xs.zip ds)
  | _, [], [], _, r, _ => by cases r; exact .nil
  | _, [], _ :: _, _, _, h => by simp at h
  | _, _ :: _, [], _, _, h => by simp at h
  | _, _ :: xs, _ :: ds, _, r, h => by
    cases r with
    | cons r1 r2 => exact .cons ⟨_, r1⟩ (each_reads r2 (by simpa using h))
theorem zip_snd : ∀ {xs : List V} {ds : List PyData}, xs.length = ds.length → (xs.zip ds).map (·.2) = ds
  | [], [], _ => rfl
  | [], _ :: _, h => by simp at h
  | _ :: _, [], h => by simp at h
  | _ :: xs, _ :: ds, h => by
    show _ :: (xs.zip ds).map (·.2) = _
    rw [zip_snd (by simpa using h)]
theorem zip_fst : ∀ {xs : List V} {ds : List PyData}, xs.length = ds.length → (xs.zip ds).map (·.1) = xs
  | [], [], _ => rfl
  | [], _ :: _, h => by simp at h
  | _ :: _, [], h => by simp at h
  | _ :: xs, _ :: ds, h => by
    show _ :: (xs.zip ds).map (·.1) = _
    rw [zip_fst (by simpa using h)]
theorem vals_each : ∀ {out : List Value} {l : List (V × PyData)}, PySem.W.EachIs (fun v (b : V × PyData) => RelV b.1 v) out l → Vals (l.map (·.1)) out
  | _, _, .nil => .nil
  | _, _, .cons r t => .cons r (vals_each t)
theorem cr_sortedD {X : Cx} (hu : X.A.units + 64 < cLine) : CallR X (.builtin "sorted") (rSortedD X.K) := by
  intro pins s σ H vs us Q I r h
  obtain ⟨a, xs, ds, rfl, hs, da, hal, hso, hdp, q⟩ := h
  obtain ⟨its, rv, hl, hz⟩ := I.list hs
  rw [Vals.ref1 r]
  have hlen := dpa_len da
  obtain ⟨as, hra⟩ := Dp.readsAll I ds _ its da rv
  have hmap : (xs.zip ds).map (·.2) = ds := zip_snd hlen
  refine PySem.W.sorted_data (bs := xs.zip ds) (enc := (·.2)) (R := fun v (b : V × PyData) => RelV b.1 v) hl.isList (each_rel rv hlen) (each_reads hra hlen) (by rw [hmap]; exact hal) (by rw [hmap]; exact hso) (by rw [List.length_zip]; omega) (fun b hb => ?_) fun out ho eo => ?_
  · have : b.2 ∈ ds := by rw [← hmap]; exact List.mem_map_of_mem (f := (·.2)) hb
    have := hdp _ this
    omega
  · obtain ⟨ep, he'⟩ := PyProof.Rows.sortedAll_at s.heap its out.toArray
    have hlen2 : ((sortD xs ds).map (·.1)).length ≤ sizeLine := by
      unfold sortD
      rw [List.length_map, List.length_mergeSort, List.length_zip]
      omega
    exact ⟨.ref _, upd H (s.heap.objs.size + 1) (.lst ((sortD xs ds).map (·.1))), I.laid (t' := s.toks) (fun _ _ => PyProof.Rows.sortedAll_old) (Nat.le_succ _) ⟨hlen2, out, ep, vals_each eo, he'⟩, rfl, q _ (I.hok.fresh (Nat.le_succ _))⟩
theorem cr_sortedDK {X : Cx} {K : PySem.W.Frag} (h : X.K = K) (hu : X.A.units + 64 < cLine) : CallR X (.builtin "sorted") (rSortedD K) := h ▸ cr_sortedD hu
/-- what comes out: the same pairs in another order, each not above the next -/
theorem sortD_perm (xs : List V) (ds : List PyData) : (sortD xs ds).Perm (xs.zip ds) := List.mergeSort_perm _ _
theorem dpa_pairs {K : PySem.W.Frag} {H : Hp} : ∀ {l : List (V × PyData)}, (∀ b ∈ l, Dp K H b.1 b.2) → DpAll K H (l.map (·.1)) (l.map (·.2))
  | [], _ => .nil
  | b :: l, h => .cons (h b (by simp)) (dpa_pairs fun c hc => h c (List.mem_cons_of_mem _ hc))
theorem pairs_dpa {K : PySem.W.Frag} {H : Hp} : ∀ {xs : List V} {ds : List PyData}, DpAll K H xs ds → ∀ b ∈ xs.zip ds, Dp K H b.1 b.2
  | _, _, .nil, b, hb => by simp at hb
  | _, _, .cons h t, b, hb => by
    rcases List.mem_cons.mp (by simpa using hb) with rfl | hb
    · exact h
    · exact pairs_dpa t b hb
theorem sortD_dpa {K : PySem.W.Frag} {H : Hp} {xs : List V} {ds : List PyData} (da : DpAll K H xs ds) : DpAll K H ((sortD xs ds).map (·.1)) ((sortD xs ds).map (·.2)) :=
  dpa_pairs fun b hb => pairs_dpa da b ((sortD_perm xs ds).mem_iff.mp hb)
/-- o.m(e, ..) within a try: what it raises is wished for at the slots as they stand -/
def tMethZ (C : Addr) (sp : Sp) (E : L2.St → XK) (m : Str) (ta : TE) (t : TA) : TE := fun σ H Q => ta σ H fun x H1 => ∃ a dx fs, x = .ref a ∧ H1 a = some (.ins C dx fs) ∧ fs.lookup m = none ∧ t σ H1 fun vs H2 => sp (x :: vs) H2 Q (E σ)
theorem pe_methZ {X : Cx} {CX : CXT} {k : Nat} {f C : Addr} {fd : FuncData} {ps : List Str} {sp : Sp} {E : L2.St → XK} {m : Str} {pos apos : Pos} {e o : Expr} {es : List Expr} {ta : TE} {t : TA} {pl : Sem Bool} (he : PE X o ta) (c : Cls X.K C) (hm : Meth X.K C m f)
    (F : FnOk X.prog X.w X.K X.mg X.base CX k f fd ps sp) (hr : Room k X.A) (hb : Binds X.K fd ps []) (hx : ∀ σ, PassesAt CX X σ (E σ)) (ha : PA X (e :: es) t)
    (hst : starEach (e :: es) X.env = (false, eval e X.env) :: starEach es X.env := by rfl) (hpl : (backTo pos (starEach es X.env)).any (·.1) = false := by rfl)
    (ht : eval (.Call (.Attribute o m apos) (e :: es) [] pos) X.env = (do
      let ov ← eval o X.env
      standAt apos.atName
      let (f, first) ← holding [ov] (getMethod ov m pl)
      callWith pos f first (backTo pos (starEach (e :: es) X.env)) (backToKw pos (keywordEach [] X.env))) := by rfl) :
    PE X (.Call (.Attribute o m apos) (e :: es) [] pos) (tMethZ C sp E m ta t) := by
  refine ⟨fun pins s σ H Q I h => ?_⟩
  refine PySem.W.methodCall_KW (pl := pl) (thn (he.run pins s σ H _ I h) fun u s1 ⟨x, H1, I1, rx, a, dx, fs, ex, ea, l, q⟩ => ?_) ht
  subst ex
  obtain rfl : u = Value.ref a := rx
  refine getmeth_ok I1 ea c hm l ?_
  refine PySem.W.callWith_K (first := [.ref a]) (h₀ := X.base) I.ok.mod.kin hm.kp (thn (ha.run pos pins s1 σ H1 _ I1 q) fun us s2 ⟨vs, H2, I2, r, q2⟩ => ⟨I2.kIn, ?_⟩) hst hpl
  exact run_fnS (us := .ref a :: us) (vs := .ref a :: vs) F hr hb (hx σ) I2 (.cons rfl r) q2
/-! ### a made object, turning the own part -/
theorem Wd.perm {F0 H0 F H : Hp} {M M' : List (Addr × HO)} (w : Wd F0 H0 F H M) (h : M.Perm M') : Wd F0 H0 F H M' :=
  ⟨w.ff, w.fh, w.hh, w.sep, fun m hm => w.mt m (h.mem_iff.mpr hm), (h.map _).nodup_iff.mp w.nd⟩
theorem Wd.roll {F0 H0 F H : Hp} {x : Addr × HO} {M : List (Addr × HO)} (w : Wd F0 H0 F H (x :: M)) : Wd F0 H0 F H (M ++ [x]) := w.perm (List.perm_append_comm (l₁ := [x]) (l₂ := M))
theorem Wd.made {F0 H0 F H H' : Hp} {M : List (Addr × HO)} {p l : Addr} {o ol op : HO} (w : Wd F0 H0 F H ((p, o) :: M)) (keep : ∀ b u, H b = some u → b ≠ p → H' b = some u) (hl : H l = none) (hlp : l ≠ p) (e1 : H' l = some ol) (e2 : H' p = some op) :
    Wd F0 H0 F H' ((l, ol) :: (p, op) :: M) := by
  obtain ⟨f, hp, h0⟩ := w.mt _ List.mem_cons_self
  have nd := w.nd
  obtain ⟨fl, hl0, hm⟩ := w.free hl
  refine ⟨w.ff, fun b u e => keep b u (w.fh b u e) (ne_of_none e f), fun b u e => keep b u (w.hh b u e) (ne_of_none e h0), w.sep, fun m hm' => ?_, ?_⟩
  · rcases List.mem_cons.mp hm' with rfl | hm'
    · exact ⟨fl, e1, hl0⟩
    · rcases List.mem_cons.mp hm' with rfl | hm'
      · exact ⟨f, e2, h0⟩
      · obtain ⟨a, b, c⟩ := w.mt m (List.mem_cons_of_mem _ hm')
        rw [List.map_cons, List.nodup_cons] at nd
        exact ⟨a, keep _ _ b (fun z => nd.1 (z ▸ List.mem_map_of_mem (f := (·.1)) hm')), c⟩
  · rw [List.map_cons, List.map_cons] at *
    rw [List.nodup_cons]
    refine ⟨fun z => ?_, by simpa using nd⟩
    rcases List.mem_cons.mp z with z | z
    · exact hlp z
    · obtain ⟨m, hm', e⟩ := List.mem_map.mp z
      exact hm m (List.mem_cons_of_mem _ hm') e
end PW

set_option Elab.async false
set_option linter.all false
set_option maxRecDepth 100000
set_option maxHeartbeats 4000000
/-! PW3: dicts as maps. -/
namespace PW
open PySem PySem.Spec PyProof.Rows L2
theorem valV_drop (k j : Key) : ∀ kvs : List (Key × V), valV (dropK kvs k) j = if j = k then none else valV kvs j
  | [] => by show valV [] j = _; rw [valV_nil]; split <;> rfl
  | p :: r => by
    have ih := valV_drop k j r
    by_cases h : p.1 = k
    · rw [dropK_pos h, ih]
      by_cases e : j = k
      · rw [if_pos e, if_pos e]
      · rw [if_neg e, if_neg e, valV_neg (fun z => e (z.symm.trans h))]
    · rw [dropK_neg h]
      by_cases e : p.1 = j
      · rw [valV_pos e, if_neg (fun z => h (e.trans z)), valV_pos e]
      · rw [valV_neg e, valV_neg e, ih]
theorem mem_keys (k : Key) : ∀ kvs : List (Key × V), k ∈ kvs.map (·.1) ↔ (valV kvs k).isSome = true
  | [] => by simp [valV_nil]
  | p :: r => by
    rw [List.map_cons, List.mem_cons]
    by_cases e : p.1 = k
    · rw [valV_pos e]; exact ⟨fun _ => rfl, fun _ => .inl e.symm⟩
    · rw [valV_neg e, ← mem_keys k r]
      exact ⟨fun h => h.resolve_left fun z => e z.symm, .inr⟩
theorem nodup_put {kvs : List (Key × V)} {k : Key} {v : V} (h : (kvs.map (·.1)).Nodup) : ((putK kvs k v).map (·.1)).Nodup := by
  cases q : valV kvs k with
  | none => exact nd_putK v h q
  | some x =>
    unfold putK
    rw [valV_any, q]
    rw [if_pos (show (some x).isSome = true from rfl), List.map_map]
    have e : ((fun kv : Key × V => kv.1) ∘ fun kv => if kv.1 = k then (kv.1, v) else kv) = fun kv => kv.1 := by
      funext kv
      show (if kv.1 = k then (kv.1, v) else kv).1 = kv.1
      split <;> rfl
    rw [e]
    exact h
theorem nodup_drop {kvs : List (Key × V)} {k : Key} (h : (kvs.map (·.1)).Nodup) : ((dropK kvs k).map (·.1)).Nodup := h.sublist (List.filter_sublist.map _)
/-- a dict as a map: its keys by e, its values by R -/
structure DRep {α β : Type} (e : α → Key) (R : V → β → Prop) (kvs : List (Key × V)) (g : α → Option β) : Prop where
  nd : (kvs.map (·.1)).Nodup
  here : ∀ x b, g x = some b → ∃ v, valV kvs (e x) = some v ∧ R v b
  gone : ∀ x, g x = none → valV kvs (e x) = none
  key : ∀ k ∈ kvs.map (·.1), ∃ x, k = e x
section
variable {α β : Type} [DecidableEq α] {e : α → Key} {R R' : V → β → Prop} {kvs kvs' : List (Key × V)} {g : α → Option β}
theorem DRep.nil : DRep e R [] (fun _ => none) := ⟨List.nodup_nil, (fun x b h => nomatch h), fun x _ => rfl, fun k h => nomatch h⟩
theorem DRep.mono (d : DRep e R kvs g) (h : ∀ v b, R v b → R' v b) : DRep e R' kvs g := ⟨d.nd, fun x b hx => by obtain ⟨v, h1, h2⟩ := d.here x b hx; exact ⟨v, h1, h _ _ h2⟩, d.gone, d.key⟩
theorem DRep.put (d : DRep e R kvs g) (inj : ∀ x y, e x = e y → x = y) {v : V} {x : α} {b : β} (r : R v b) : DRep e R (putK kvs (e x) v) (fun y => if y = x then some b else g y) := by
  refine ⟨nodup_put d.nd, fun y c h => ?_, fun y h => ?_, fun k hk => ?_⟩
  · rw [valV_put]
    by_cases q : y = x
    · rw [if_pos q] at h; cases h
      rw [if_pos (by rw [q])]; exact ⟨v, rfl, r⟩
    · rw [if_neg q] at h
      rw [if_neg (fun z => q (inj _ _ z))]; exact d.here y c h
  · rw [valV_put]
    by_cases q : y = x
    · rw [if_pos q] at h; cases h
    · rw [if_neg q] at h
      rw [if_neg (fun z => q (inj _ _ z))]; exact d.gone y h
  · rw [mem_keys, valV_put] at hk
    by_cases q : k = e x
    · exact ⟨x, q⟩
    · rw [if_neg q, ← mem_keys] at hk
      exact d.key k hk
theorem DRep.drop (d : DRep e R kvs g) (inj : ∀ x y, e x = e y → x = y) (x : α) : DRep e R (dropK kvs (e x)) (fun y => if y = x then none else g y) := by
  refine ⟨nodup_drop d.nd, fun y c h => ?_, fun y h => ?_, fun k hk => ?_⟩
  · by_cases q : y = x
    · rw [if_pos q] at h; cases h
    · rw [if_neg q] at h
      rw [valV_drop, if_neg (fun z => q (inj _ _ z))]; exact d.here y c h
  · rw [valV_drop]
    by_cases q : y = x
    · rw [if_pos (by rw [q])]
    · rw [if_neg q] at h
      rw [if_neg (fun z => q (inj _ _ z))]; exact d.gone y h
  · rw [mem_keys, valV_drop] at hk
    by_cases q : k = e x
    · exact ⟨x, q⟩
    · rw [if_neg q, ← mem_keys] at hk
      exact d.key k hk
theorem DRep.mem (d : DRep e R kvs g) (x : α) : e x ∈ kvs.map (·.1) ↔ (g x).isSome = true := by
  rw [mem_keys]
  cases q : g x with
  | none => rw [d.gone x q]; exact ⟨(fun h => nomatch h), (fun h => nomatch h)⟩
  | some b => obtain ⟨v, h, _⟩ := d.here x b q; rw [h]; exact ⟨fun _ => rfl, fun _ => rfl⟩
theorem DRep.perm (d : DRep e R kvs g) (d' : DRep e R' kvs' g) : (kvs.map (·.1)).Perm (kvs'.map (·.1)) := by
  refine (List.perm_ext_iff_of_nodup d.nd d'.nd).mpr fun k => ⟨fun h => ?_, fun h => ?_⟩
  · obtain ⟨x, rfl⟩ := d.key k h
    exact (d'.mem x).mpr ((d.mem x).mp h)
  · obtain ⟨x, rfl⟩ := d'.key k h
    exact (d.mem x).mpr ((d'.mem x).mp h)
theorem DRep.len (d : DRep e R kvs g) (d' : DRep e R' kvs' g) : kvs.length = kvs'.length := by
  have := (d.perm d').length_eq
  rwa [List.length_map, List.length_map] at this
theorem DRep.keys (d : DRep e R kvs g) (inj : ∀ x y, e x = e y → x = y) : ∃ ks : List α, kvs.map (·.1) = ks.map e ∧ ks.Nodup ∧ ∀ x, x ∈ ks ↔ (g x).isSome = true := by
  have key : ∀ l : List Key, (∀ k ∈ l, ∃ x, k = e x) → ∃ ks : List α, l = ks.map e := by
    intro l
    induction l with
    | nil => intro _; exact ⟨[], rfl⟩
    | cons k l ih =>
      intro h
      obtain ⟨x, rfl⟩ := h k (by simp)
      obtain ⟨ks, rfl⟩ := ih fun j hj => h j (by simp [hj])
      exact ⟨x :: ks, rfl⟩
  obtain ⟨ks, hks⟩ := key _ d.key
  refine ⟨ks, hks, ?_, fun x => ?_⟩
  · have := d.nd
    rw [hks] at this
    exact (List.pairwise_map.mp this).imp fun h z => h (by rw [z])
  · rw [← d.mem x, hks]
    exact ⟨fun h => List.mem_map_of_mem h, fun h => by obtain ⟨y, hy, q⟩ := List.mem_map.mp h; rwa [← inj _ _ q]⟩
theorem DRep.congr (d : DRep e R kvs g) {g' : α → Option β} (h : ∀ x, g x = g' x) : DRep e R kvs g' := by
  have : g = g' := funext h
  rwa [← this]
end
/-! ### an object of one's own in the middle -/
theorem hu1_of {u : Nat} (h : u + 64 < cLine) : u + 1 < cLine := by omega
theorem Wd.setM {F0 H0 F H : Hp} {L M : List (Addr × HO)} {p : Addr} {o : HO} (w : Wd F0 H0 F H (L ++ (p, o) :: M)) (o' : HO) : Wd F0 H0 F (upd H p o') (L ++ (p, o') :: M) :=
  ((w.perm (List.perm_middle (l₁ := L) (l₂ := M) (a := (p, o)))).set o').perm (List.perm_middle (l₁ := L) (l₂ := M) (a := (p, o'))).symm
theorem Wd.atM {F0 H0 F H : Hp} {L M : List (Addr × HO)} {p : Addr} {o : HO} (w : Wd F0 H0 F H (L ++ (p, o) :: M)) : H p = some o := (w.mt _ (List.mem_append.mpr (.inr (.head _)))).2.1
theorem pass_E0 {X : Cx} : Passes (L2.CX X.prog X.w) X E0 := passes_call (W := fun _ _ _ _ => False) takes0 fun _ _ _ _ h => h
end PW

set_option Elab.async false
set_option linter.all false
set_option maxRecDepth 100000
set_option maxHeartbeats 4000000
/-! PW4: a caught exception that is asked for its class, here or in a def that it is handed to. -/
namespace PW
open PySem PySem.Spec PyProof.Rows L2
/-- the caught object is an instance of the own class at D, without a dict -/
def IsE (D : Addr) (p : Addr × Obj) : Prop := Zc (.ref D) none p.2 ∧ ∃ vs, p.2.data = .fields vs
theorem inst_pin {X : Cx} {pins : List (Addr × Obj)} {σ : L2.St} {H : Hp} {s : Shared} {p : Addr × Obj} {D : Addr} (I : Inv X pins σ H s) (hp : p ∈ X.pn) (h : IsE D p) : PySem.W.InstAt s.heap p.1 p.2 D none := by
  obtain ⟨hget, _⟩ := I.pin p (List.mem_append.mpr (.inl hp))
  obtain ⟨pa, oe⟩ := p
  obtain ⟨⟨z1, z2⟩, vs, z3⟩ := h
  obtain ⟨oc, od, oda, osl⟩ := oe
  dsimp only at z1 z2 z3 hget ⊢
  subst z1 z2 z3
  exact ⟨hget, rfl, rfl, trivial⟩
/-- isinstance(e, c) of the caught e -/
def rIsC (K : PySem.W.Frag) (a : Addr) (cls : Value) (d : Option Addr) : List V → Hp → VK → Prop := fun xs H Q =>
  ∃ (D : Addr) (c : V) (u : Value) (b : Bool), cls = .ref D ∧ d = none ∧ ExcC K D ∧ xs = [.ref a, c] ∧ ClsV c u ∧ PySem.W.kitOne K (.ref D) u = some b ∧ Q (.bl b) H
theorem call_isC {X : Cx} {a : Addr} {oe : Obj} {cls : Value} {d : Option Addr} (hp : (a, oe) ∈ X.pn) (hz : Zc cls d oe) (hf : ∃ vs, oe.data = .fields vs) : CallR X (.builtin "isinstance") (rIsC X.K a cls d) := by
  intro pins s σ H xs us Q I r h
  obtain ⟨D, c, u, b, rfl, rfl, C, rfl, k, e, q⟩ := h
  have hE : IsE D (a, oe) := ⟨hz, hf⟩
  obtain ⟨u1, u2, rfl, r1, r2⟩ := vals2 r
  cases (show u1 = Value.ref a from r1)
  have e2 := k.eq r2
  subst e2
  exact PySem.W.kia_one (PySem.W.handS_kitx_exc C.hg C.hk C.hs C.hd C.ha C.hn C.ht C.hm) I.kIn (inst_pin I hp hE) e (fun z => nomatch z) fun tk => ⟨.bl b, H, I.kept (t' := tk) fun _ _ z => z, rfl, q⟩
/-- isinstance(e, (c1, c2, ..)) of the caught e -/
def rIsCT (K : PySem.W.Frag) (a : Addr) (cls : Value) (d : Option Addr) : List V → Hp → VK → Prop := fun xs H Q =>
  ∃ (D tp : Addr) (cs : List V) (us : List Value) (b : Bool), cls = .ref D ∧ d = none ∧ ExcC K D ∧ xs = [.ref a, .ref tp] ∧ H tp = some (.tup cs) ∧ Paired ClsV cs us ∧ PySem.W.kitAny K (.ref D) us = some b ∧ Q (.bl b) H
theorem call_isCT {X : Cx} {a : Addr} {oe : Obj} {cls : Value} {d : Option Addr} (hp : (a, oe) ∈ X.pn) (hz : Zc cls d oe) (hf : ∃ vs, oe.data = .fields vs) : CallR X (.builtin "isinstance") (rIsCT X.K a cls d) := by
  intro pins s σ H xs us Q I r h
  obtain ⟨D, tp, cs, ws, b, rfl, rfl, C, rfl, hT, k, e, q⟩ := h
  have hE : IsE D (a, oe) := ⟨hz, hf⟩
  obtain ⟨u1, u2, rfl, r1, r2⟩ := vals2 r
  cases (show u1 = Value.ref a from r1)
  cases (show u2 = Value.ref tp from r2)
  obtain ⟨_, its, rv, o, h1, h2, n, h3⟩ := (show ObjOk X.prog X.w H s.heap tp (.tup cs) from I.hok tp _ hT)
  have e3 := ClsV.all k rv
  subst e3
  obtain ⟨oc, od, dt, sl⟩ := o
  simp only at h2 h3
  subst h2 h3
  exact PySem.W.kia_tup (PySem.W.handS_kitx_exc C.hg C.hk C.hs C.hd C.ha C.hn C.ht C.hm) I.kIn (inst_pin I hp hE) h1 e (fun z => nomatch z) fun tk => ⟨.bl b, H, I.kept (t' := tk) fun _ _ z => z, rfl, q⟩
theorem exm_sub {K : PySem.W.Frag} {S C : Addr} (h1 : PySem.W.subIn K (.ref C) (.type "BaseException") = some true) (h2 : PySem.W.isClsIn K C = true) (h3 : PySem.W.typeIn K (.ref C) = some (.type "type")) (h4 : PySem.W.subIn K (.ref S) (.ref C) = some true) :
    PySem.W.exmOne K (.ref S) (.ref C) = some true := by
  have e1 : (PySem.W.subIn K (.ref C) (.type "BaseException") == some true) = true := by rw [h1] <;> rfl
  have e2 : ((PySem.W.clsIn K C).isSome && PySem.W.typeIn K (.ref C) == some (.type "type")) = true := by
    have h2' : (PySem.W.clsIn K C).isSome = true := h2
    rw [h2', h3] <;> rfl
  show (if (PySem.W.subIn K (.ref C) (.type "BaseException") == some true) = true then (if ((PySem.W.clsIn K C).isSome && PySem.W.typeIn K (.ref C) == some (.type "type")) = true then PySem.W.subIn K (.ref S) (.ref C) else none) else none) = some true
  rw [if_pos e1, if_pos e2]
  exact h4
theorem call_isCK {X : Cx} {K : PySem.W.Frag} {a : Addr} {oe : Obj} {cls : Value} {d : Option Addr} (e : X.K = K) (hp : (a, oe) ∈ X.pn) (hz : Zc cls d oe) (hf : ∃ vs, oe.data = .fields vs) : CallR X (.builtin "isinstance") (rIsC K a cls d) := e ▸ call_isC hp hz hf
theorem call_isCTK {X : Cx} {K : PySem.W.Frag} {a : Addr} {oe : Obj} {cls : Value} {d : Option Addr} (e : X.K = K) (hp : (a, oe) ∈ X.pn) (hz : Zc cls d oe) (hf : ∃ vs, oe.data = .fields vs) : CallR X (.builtin "isinstance") (rIsCT K a cls d) := e ▸ call_isCT hp hz hf
theorem room_suite {X : Cx} {k : Nat} {a : Addr} {pn : List (Addr × Obj)} (hr : Room k X.A) : L2H.RoomH k (X.suite a pn).A := ⟨hr.dp, hr.un⟩
/-- a def that is called while p's exception is handled, with p in sight; it lets no exception out -/
structure FnE (P : Program) (w : World) (K : PySem.W.Frag) (mg : Str → Option Value) (base : Heap) (k : Nat) (f : Addr) (fd : FuncData) (ps : List Str) (sp : Addr → Value → Option Addr → Sp) : Prop where
  len : ∀ a cls d vs H Q E, sp a cls d vs H Q E → vs.length = ps.length
  run : ∀ (A : Around) (outer : List Env) (s : Shared) (H : Hp) (args : Args) (us : List Value) (vs : List V) (Q : VK) (p : Addr × Obj) (cls : Value) (d : Option Addr), Zc cls d p.2 → (∃ vs, p.2.data = .fields vs) → L2H.RoomH k A → L2H.PinOk outer H s p → Env0 P w K mg base A outer s H → BindsTo s fd args (ps.zip us) → Vals vs us → sp p.1 cls d vs H Q E0 →
    codeAny (model P w) A (.call (.ref f) args) (CR CX0 outer P w H s Q E0) s
section
variable {P : Program} {w : World} {K : PySem.W.Frag} {mg : Str → Option Value} {base : Heap}
theorem Fun.okE {x qual : Str} {st : Stmt} {f : Addr} {fd : FuncData} {N ps : List Str} {k : Nat} {sp : Addr → Value → Option Addr → Sp} (F : Fun K x qual st f fd) (S : FnScope N ps (defScope st)) (len : ∀ a cls d vs H Q E, sp a cls d vs H Q E → vs.length = ps.length)
    (hbody : ∀ (cdv : Value) (A : Around) (outer : List Env) (s : Shared) (H : Hp) (vs : List V) (Q : VK) (p : Addr × Obj) (cls : Value) (d : Option Addr), Zc cls d p.2 → (∃ vs, p.2.data = .fields vs) → L2H.RoomH k (A.deeper (envOfC qual (defScope st) s.heap.objs.size f cdv)) → sp p.1 cls d vs H Q E0 →
      ∃ t, PSs (L2H.cxH CX0 P w K mg base N qual (defScope st) f cdv A outer s H E0 p) (defBody st) t ∧ t { nx := fun _ H' => Q .non H', rt := Q } (start N vs) H) : FnE P w K mg base (k + 1) f fd ps sp := by
  obtain ⟨oc, od, kV, doc, pm, an, cdv, ct, osl, rfl, lk, hcd⟩ := F.ex
  refine ⟨len, fun A outer s H args us vs Q p cls d hz hf room pin e0 bnd rv hs => ?_⟩
  have hlen := len _ _ _ _ _ _ _ hs
  have hKs : K.In s.heap := e0.mod.kin.keeps fun b o e => (e0.bs b o e).1
  have hlim : s.heap.NoLimit := e0.mod.nolimit.keeps fun b o e => (e0.bs b o e).1
  refine codeAny_call_function room.depth (hKs _ _ lk) rfl S.co S.gen rfl (PySem.W.codeRec_of hKs hcd) (bnd _ _ _ _ ?_)
  refine wpAny_newFunctionEnv_cells S.kind (fun y hy => ?_) fun env he s1 x => ?_
  · rcases S.par y.1 (List.of_mem_zip hy).1 with q | q
    · exact .inl q
    · exact .inr ⟨q, PySem.W.cellsFrom_some _ _ _ (.inl q)⟩
  subst he
  refine ⟨hlim.keeps x.toInCall.keep, codeAny_func ?_⟩
  obtain ⟨t, ht, hq⟩ := hbody cdv A outer s H vs Q p cls d hz hf (room.deeper _) hs
  have J := L2H.inv_startH (CX := CX0) (E := E0) S pin e0 hlen rv x
  refine wpAny_mono (ht.run [] s1 (L2.start N vs) H _ J hq) (fun fl s' hfl => ?_) fun e s' he => he
  cases fl with
  | ret u =>
    obtain ⟨v, σ', H', I', rv', q⟩ := hfl
    exact ⟨v, H', I'.os, I'.bare, I'.base, I'.hok, rv', q⟩
  | next =>
    obtain ⟨σ', H', I', q⟩ := hfl
    exact ⟨.non, H', I'.os, I'.bare, I'.base, I'.hok, rfl, q⟩
  | brk =>
    obtain ⟨_, _, _, q⟩ := hfl
    exact q.elim
  | cont =>
    obtain ⟨_, _, _, q⟩ := hfl
    exact q.elim
end
/-- f(e), e the caught exception -/
def tCallE (sp : Addr → Value → Option Addr → Sp) (a : Addr) (cls : Value) (d : Option Addr) (t : TA) : TE := fun σ H Q => t σ H fun vs H1 => sp a cls d vs H1 Q E0
section
variable {X : Cx} {k : Nat} {f : Addr} {fd : FuncData} {ps : List Str} {sp : Addr → Value → Option Addr → Sp} {x : Str} {q pos : Pos} {e : Expr} {es : List Expr} {t : TA} {a : Addr} {oe : Obj} {cls : Value} {d : Option Addr}
theorem pe_callE (F : FnE X.prog X.w X.K X.mg X.base k f fd ps sp) (room : L2H.RoomH k X.A) (hp : (a, oe) ∈ X.pn) (hz : Zc cls d oe) (hf : ∃ vs, oe.data = .fields vs) (hg : Gl X x) (hm : X.mg x = some (.ref f)) (hk : PySem.W.keepIn X.K (.ref f) = true) (hb : Binds X.K fd ps []) (ha : PA X (e :: es) t)
    (hdb : (x == ("__debug__" : Str)) = false := by decide) (he : starEach (e :: es) X.env = (false, eval e X.env) :: starEach es X.env := by rfl) (hpl : (backTo pos (starEach es X.env)).any (·.1) = false := by rfl) :
    PE X (.Call (.Name x q) (e :: es) [] pos) (tCallE sp a cls d t) := by
  refine ⟨fun pins s σ H Q I h => ?_⟩
  refine wpAny_Call_Name_kw (ld_glob I hg hm ?_ hdb)
  refine PySem.W.callWith_K (h₀ := X.base) I.ok.mod.kin hk (thn (ha.run pos pins s σ H _ I h) fun us s1 hus => ?_) he hpl
  obtain ⟨vs, H1, I1, rv, hs⟩ := hus
  refine ⟨I1.kIn, ?_⟩
  have hl : us.length = ps.length := rv.length.symm.trans (F.len _ _ _ _ _ _ _ hs)
  have b := hb s1 us I1.kIn (by rw [List.append_nil]; exact hl)
  rw [List.append_nil] at b
  obtain ⟨a1, a2, a3, a4, a5⟩ := I1.pin (a, oe) (List.mem_append_left _ hp)
  have pin : L2H.PinOk X.stack H1 s1 (a, oe) := ⟨a1, a2, fun hm => (List.mem_cons.mp (I1.stkSub a hm)).elim a3 a4, a5⟩
  refine wpAny_call (codeAny_mono (F.run X.A X.stack s1 H1 ⟨us, []⟩ us vs Q (a, oe) cls d hz hf room pin I1.env0 b rv hs) fun r s' hr => ?_)
  cases r with
  | error _ => exact hr.elim
  | ok fl =>
    cases fl with
    | ret _ => exact I1.after hr
    | next => exact hr.elim
    | brk => exact hr.elim
    | cont => exact hr.elim
/-- C(e, ..) within a try: what __init__ raises is wished for at the slots -/
def tMakeZ (C : Addr) (sp : Sp) (E : L2.St → XK) (t : TA) : TE := fun σ H Q => t σ H fun vs H1 => ∀ x dx, H1 x = none → H1 dx = none → dx ≠ x →
  sp (.ref x :: vs) (upd (upd H1 dx (.own x)) x (.ins C dx [])) (fun v H2 => v = .non ∧ Q (.ref x) H2) (E σ)
theorem pe_makeZ {C : Addr} {CX : CXT} {E : L2.St → XK} {sp : Sp} (M : Mk X.K C f) (F : FnOk X.prog X.w X.K X.mg X.base CX k f fd ps sp) (room : Room (k + 1) X.A) (hg : Gl X x) (hm : X.mg x = some (.ref C)) (hb : Binds X.K fd ps []) (hx : ∀ σ, PassesAt CX X σ (E σ)) (ha : PA X (e :: es) t)
    (hdb : (x == ("__debug__" : Str)) = false := by decide) (he : starEach (e :: es) X.env = (false, eval e X.env) :: starEach es X.env := by rfl) (hpl : (backTo pos (starEach es X.env)).any (·.1) = false := by rfl) :
    PE X (.Call (.Name x q) (e :: es) [] pos) (tMakeZ C sp E t) := by
  refine ⟨fun pins s σ H Q I h => ?_⟩
  refine wpAny_Call_Name_kw (ld_glob I hg hm ?_ hdb)
  refine PySem.W.callWith_K (h₀ := X.base) I.ok.mod.kin M.kp (thn (ha.run pos pins s σ H _ I h) fun us s1 hus => ?_) he hpl
  obtain ⟨vs, H1, I1, rv, hs⟩ := hus
  refine ⟨I1.kIn, ?_⟩
  have goal := hs (s1.heap.objs.size + 1) s1.heap.objs.size (I1.hok.fresh (Nat.le_succ _)) (I1.hok.fresh (Nat.le_refl _)) (Nat.ne_of_lt (Nat.lt_succ_self _))
  have J := Inv.made (C := C) I1
  have rv2 : Vals (V.ref (s1.heap.objs.size + 1) :: vs) (Value.ref (s1.heap.objs.size + 1) :: us) := .cons rfl rv
  have hlen : (Value.ref (s1.heap.objs.size + 1) :: us).length = ps.length := rv2.length.symm.trans (F.len _ _ _ _ goal)
  have b := hb _ (Value.ref (s1.heap.objs.size + 1) :: us) J.kIn (by rw [List.append_nil]; exact hlen)
  rw [List.append_nil] at b
  refine wpAny_call (make_map (f := f) I1.kIn M.makes M.init (beq_iff_eq.mp M.fn) (codeAny_mono (F.run _ X.stack _ _ ⟨Value.ref (s1.heap.objs.size + 1) :: us, []⟩ _ _ _ (E σ) (room.make C us []) (J.env0.make C us []) b rv2 goal) fun r s' hr => ?_))
  cases r with
  | error er => exact hx σ pins _ _ er s' J hr
  | ok fl =>
    cases fl with
    | ret u =>
      obtain ⟨v, H', I3, rv3, ev, q3⟩ := J.after hr
      subst ev
      exact ⟨rv3, ⟨V.ref (s1.heap.objs.size + 1), H', I3, rfl, q3⟩⟩
    | next => exact hr.elim
    | brk => exact hr.elim
    | cont => exact hr.elim
end
/-- for k in d, d locked -/
theorem for_keys {d : Addr} {o : Obj} {kvs : List (Key × V)} {g : TG} {tb : TS} {D : Ends} {σ : L2.St} {H : Hp} (Pv : Nat → L2.St → Hp → Prop) (h0 : Pv 0 σ H) (hl : ∀ i σ H, Pv i σ H → H d = some (.frz o (.dK kvs)))
    (hs : ∀ (i : Nat) (k : Key) (v : V) σ H, kvs[i]? = some (k, v) → Pv i σ H → g (kV k) σ H fun σ2 H2 => tb { D with nx := Pv (i + 1), ct := Pv (i + 1), bk := D.nx } σ2 H2) (hd : ∀ σ H, Pv kvs.length σ H → D.nx σ H) :
    ∃ W : Nat → Nat → L2.St → Hp → Prop, (∃ m, W 0 m σ H) ∧ ∀ i m σ H, W i m σ H →
      ((Itk d o kvs).stop i H ∧ D.nx σ H) ∨ ((Itk d o kvs).go i H ∧ ∃ N : L2.St → Hp → Prop, (∀ σ' H', N σ' H' → ∃ m', m' < m ∧ W (i + 1) m' σ' H') ∧ ∀ x H', (Itk d o kvs).yld i H x H' → g x σ H' fun σ2 H2 => tb { D with nx := N, ct := N, bk := D.nx } σ2 H2) := by
  refine ⟨fun i m σ H => m = kvs.length - i ∧ i ≤ kvs.length ∧ Pv i σ H, ⟨kvs.length, by simp, Nat.zero_le _, h0⟩, ?_⟩
  rintro i m σ H ⟨rfl, hi, p⟩
  by_cases hlt : i < kvs.length
  · refine .inr ⟨⟨hl _ _ _ p, hlt⟩, Pv (i + 1), fun σ' H' p' => ⟨kvs.length - (i + 1), by omega, rfl, hlt, p'⟩, fun x H' y => ?_⟩
    obtain ⟨e, k, v, hk, ev⟩ := y
    subst e ev
    exact hs i k v σ _ hk p
  · have e : i = kvs.length := by omega
    subst e
    exact .inl ⟨⟨hl _ _ _ p, Nat.le_refl _⟩, hd σ H p⟩
theorem dget_frz {H : Hp} {a : Addr} {od : Obj} {kvs : List (Key × V)} {k : Key} {v : V} (h : H a = some (.frz od (.dK kvs))) (hv : valV kvs k = some v) : DGet H a (kV k) (some v) := .inl ⟨kvs, k, .inr ⟨od, h⟩, rfl, hv.symm⟩
/-! ### the own part, in another order, or a part of it -/
open Classical in
noncomputable def cn {α : Type} (l : List α) (a : α) : Nat := l.count a
open Classical in
noncomputable def c1 {α : Type} (x a : α) : Nat := if x = a then 1 else 0
theorem cn_nil {α : Type} (a : α) : cn ([] : List α) a = 0 := rfl
theorem cn_cons {α : Type} (x : α) (l : List α) (a : α) : cn (x :: l) a = cn l a + c1 x a := by
  classical
  unfold cn c1
  rw [List.count_cons]
  congr 1
  by_cases h : x = a
  · simp [h]
  · simp [h]
theorem cn_app {α : Type} (l m : List α) (a : α) : cn (l ++ m) a = cn l a + cn m a := by classical exact List.count_append
open Classical in
theorem perm_cn {α : Type} {l m : List α} (h : ∀ a, cn l a = cn m a) : l.Perm m := List.perm_iff_count.mpr h
theorem Wd.re {F0 H0 F H : Hp} {M M' : List (Addr × HO)} (w : Wd F0 H0 F H M) (h : ∀ a, cn M a = cn M' a) : Wd F0 H0 F H M' := w.perm (perm_cn h)
theorem Wd.sub {F0 H0 F H : Hp} {M M' : List (Addr × HO)} (w : Wd F0 H0 F H M) (h : M'.Sublist M) : Wd F0 H0 F H M' :=
  ⟨w.ff, w.fh, w.hh, w.sep, fun m hm => w.mt m (h.subset hm), w.nd.sublist (h.map _)⟩
/-- a new object that will not change, the frozen part by a name -/
theorem Wd.fixE {F0 H0 F H : Hp} {M : List (Addr × HO)} {p : Addr} (w : Wd F0 H0 F H M) (h : H p = none) (o : HO) : ∃ F', Wd F0 H0 F' (upd H p o) M ∧ Same F F' ∧ F' p = some o :=
  ⟨_, (w.fix h o).1, (w.fix h o).2, upd_same⟩
end PW

set_option Elab.async false
set_option linter.all false
set_option maxRecDepth 100000
set_option maxHeartbeats 4000000
/-! M63: records and their texts, plain Lean. -/
namespace Rc
open PySem PySem.Spec PyProof.Rows L2 TL

/-! ### numbers -/
def numS (i : Int) : Str := Str.ofString (toString i)
def NumOk (i : Int) : Prop := 0 ≤ i ∧ i < 1000000000
theorem tl_numS {i : Int} (h : 0 ≤ i) : tl (numS i) = numL i.toNat := by
  obtain ⟨n, rfl⟩ := Int.eq_ofNat_of_zero_le h
  show tl (Str.ofString (toString ((n : Nat) : Int))) = numL ((n : Int)).toNat
  rw [tl_num, Int.toNat_natCast]
theorem numS_len {i : Int} (h : NumOk i) : (tl (numS i)).length ≤ 9 := by
  rw [tl_numS h.1]
  exact numL_len (by decide) (by have := h.2; have := h.1; omega)
theorem numS_ne {i : Int} (h : 0 ≤ i) : tl (numS i) ≠ [] := by rw [tl_numS h]; exact numL_ne _
theorem numS_digits {i : Int} (h : 0 ≤ i) : NumText.AllDigits (tl (numS i)) := by rw [tl_numS h]; exact numL_digits _
theorem numS_free {i : Int} {s : Nat} (h : 0 ≤ i) (hs : s < 48 ∨ 57 < s) : s ∉ tl (numS i) := by rw [tl_numS h]; exact numL_free hs
theorem numL_head : ∀ (n : Nat), 1 < (numL n).length → (numL n)[0]? ≠ some 48 := by
  intro n
  induction n using Nat.strongRecOn with
  | _ n ih =>
    intro hl
    by_cases h : n < 10
    · rw [numL_lt h] at hl
      simp at hl
    · have e := numL_step (n := n) (by omega)
      have hne := numL_ne (n / 10)
      have h0 : (numL n)[0]? = (numL (n / 10))[0]? := by
        rw [e, List.getElem?_append_left]
        exact List.length_pos_iff.mpr hne
      rw [h0]
      by_cases h2 : n / 10 < 10
      · rw [numL_lt h2]
        show some (48 + n / 10) ≠ some 48
        intro z
        have := Option.some.inj z
        omega
      · refine ih (n / 10) (by omega) ?_
        rw [numL_step (n := n / 10) (by omega), List.length_append]
        have := List.length_pos_iff.mpr (numL_ne (n / 10 / 10))
        simp
        omega
theorem numS_head {i : Int} (h : 0 ≤ i) (hl : 1 < (tl (numS i)).length) : (tl (numS i))[0]? ≠ some 48 := by
  rw [tl_numS h] at hl ⊢
  exact numL_head _ hl
theorem numS_text {i : Int} (h : NumOk i) : PySem.intText? (numS i) = some i := by
  have e := PySem.intText_digits (x := numS i) (numS_digits h.1) (numS_ne h.1) (by rw [len_tl]; exact Nat.le_trans (numS_len h) (by decide))
  rw [e]
  show some (((NumText.digitsVal (tl (numS i)) : Nat)) : Int) = some i
  rw [tl_numS h.1, numL_val, Int.toNat_of_nonneg h.1]
theorem numS_log {i : Int} (h : NumOk i) : i.natAbs.log2 < 1920 := by
  have h1 : i.natAbs < 2 ^ 30 := by have := h.1; have := h.2; omega
  by_cases h0 : i.natAbs = 0
  · rw [h0]; decide
  · exact Nat.lt_trans ((Nat.log2_lt h0).mpr h1) (by decide)

/-! ### texts -/
theorem str_eq {x y : Str} (h : tl x = tl y) : x = y := ext_tl h
theorem app_assoc (x y z : Str) : x ++ y ++ z = x ++ (y ++ z) := str_eq (by rw [tl_append, tl_append, tl_append, tl_append, List.append_assoc])
theorem mem_joinL {S : List Nat} {s : Nat} : ∀ {ps : List (List Nat)}, s ∈ joinL S ps → s ∈ S ∨ ∃ p ∈ ps, s ∈ p
  | [], h => by cases h
  | [p], h => .inr ⟨p, by simp, h⟩
  | p :: q :: r, h => by
    have h : s ∈ p ++ (S ++ joinL S (q :: r)) := h
    rcases List.mem_append.mp h with h | h
    · exact .inr ⟨p, by simp, h⟩
    · rcases List.mem_append.mp h with h | h
      · exact .inl h
      · rcases mem_joinL h with h | ⟨p', h1, h2⟩
        · exact .inl h
        · exact .inr ⟨p', List.mem_cons_of_mem _ h1, h2⟩
theorem tl_joinT (y : Str) (ps : List Str) : tl (Txt.join y ps) = joinL (tl y) (ps.map tl) := by rw [join_eq, tl_join]
theorem free_join {y : Str} {ps : List Str} {s : Nat} (h1 : s ∉ tl y) (h2 : ∀ p ∈ ps, s ∉ tl p) : s ∉ tl (Txt.join y ps) := by
  rw [tl_joinT]
  intro h
  rcases mem_joinL h with h | ⟨p, hp, h⟩
  · exact h1 h
  · obtain ⟨q, hq, rfl⟩ := List.mem_map.mp hp
    exact h2 q hq h
theorem free_app {x y : Str} {s : Nat} (h1 : s ∉ tl x) (h2 : s ∉ tl y) : s ∉ tl (x ++ y) := by
  rw [tl_append]
  intro h
  rcases List.mem_append.mp h with h | h
  · exact h1 h
  · exact h2 h
/-- signs all below 128 -/
def Asc (x : Str) : Prop := ∀ c ∈ tl x, c < 128
theorem asc_app {x y : Str} (h1 : Asc x) (h2 : Asc y) : Asc (x ++ y) := fun c h => by
  rw [tl_append] at h
  exact (List.mem_append.mp h).elim (h1 c) (h2 c)
theorem asc_join {y : Str} {ps : List Str} (h1 : Asc y) (h2 : ∀ p ∈ ps, Asc p) : Asc (Txt.join y ps) := fun c h => by
  rw [tl_joinT] at h
  rcases mem_joinL h with h | ⟨p, hp, h⟩
  · exact h1 c h
  · obtain ⟨q, hq, rfl⟩ := List.mem_map.mp hp
    exact h2 q hq c h
theorem asc_ok {x : Str} (h : Asc x) : PyData.strOk x = true := by
  unfold PyData.strOk
  rw [Array.all_eq_true]
  intro i hi
  have := h x.cps[i] (by simp [tl])
  simp
  omega
theorem asc_num {i : Int} (h : 0 ≤ i) : Asc (numS i) := fun c hc => by
  have := numS_digits h c hc
  omega

/-! ### slices at the ends -/
theorem cut_last (x : Str) (c : Nat) : cutS (x ++ ⟨#[c]⟩) (some (-1)) none = ⟨#[c]⟩ := by
  refine str_eq ?_
  have hl : (x ++ (⟨#[c]⟩ : Str)).length = (tl x).length + 1 := by rw [len_tl, tl_append]; simp
  unfold cutS
  rw [tl_mk, hl]
  show List.take ((tl x).length + 1 - HT.sIx ((tl x).length + 1) 0 (some (-1))) (List.drop (HT.sIx ((tl x).length + 1) 0 (some (-1))) (tl (x ++ ⟨#[c]⟩))) = [c]
  have e : HT.sIx ((tl x).length + 1) 0 (some (-1)) = (tl x).length := by
    have e0 : (if (-1 : Int) < 0 then ((-1 : Int) + (((tl x).length + 1 : Nat) : Int)).toNat else min (-1 : Int).toNat ((tl x).length + 1)) = ((-1 : Int) + (((tl x).length + 1 : Nat) : Int)).toNat := if_pos (by decide)
    exact e0.trans (by omega)
  rw [e, tl_append, List.drop_left]
  have : (tl x).length + 1 - (tl x).length = 1 := by omega
  rw [this]
  rfl
theorem cut_init (x : Str) (c : Nat) : cutS (x ++ ⟨#[c]⟩) none (some (-1)) = x := by
  refine str_eq ?_
  have hl : (x ++ (⟨#[c]⟩ : Str)).length = (tl x).length + 1 := by rw [len_tl, tl_append]; simp
  unfold cutS
  rw [tl_mk, hl]
  show List.take (HT.sIx ((tl x).length + 1) ((tl x).length + 1) (some (-1)) - 0) (List.drop 0 (tl (x ++ ⟨#[c]⟩))) = tl x
  have e : HT.sIx ((tl x).length + 1) ((tl x).length + 1) (some (-1)) = (tl x).length := by
    have e0 : (if (-1 : Int) < 0 then ((-1 : Int) + (((tl x).length + 1 : Nat) : Int)).toNat else min (-1 : Int).toNat ((tl x).length + 1)) = ((-1 : Int) + (((tl x).length + 1 : Nat) : Int)).toNat := if_pos (by decide)
    exact e0.trans (by omega)
  rw [e, Nat.sub_zero, List.drop_zero, tl_append, List.take_left]
theorem cut_sub {x : Str} {lo hi : Option Int} {c : Nat} (h : c ∈ tl (cutS x lo hi)) : c ∈ tl x := by
  unfold cutS at h
  rw [tl_mk] at h
  exact List.mem_of_mem_drop (List.mem_of_mem_take h)
theorem cut_torn {x : Str} {c : Nat} (h : c ∉ tl x) (lo hi : Option Int) : cutS x lo hi ≠ ⟨#[c]⟩ := fun e => h (cut_sub (lo := lo) (hi := hi) (by rw [e]; simp [tl]))

/-! ### records -/
inductive Rec where
  | picture (caps : List Int) (names : List (Str × List Int)) (ws : List (Int × Int × Int))
  | put (name : Str) (ns : List Int) (ws : List (Int × Int × Int))
  | erase (name : Str)
  | deal (ws : List (Int × Int × Int))
  | cap (seat cap : Int) (ws : List (Int × Int × Int))
def Rec.isPic : Rec → Bool
  | .picture .. => true
  | _ => false
abbrev comma : Str := ","
abbrev eqS : Str := "="
abbrev colon : Str := ":"
abbrev space : Str := " "
abbrev stroke : Str := "/"
abbrev semi : Str := ";"
abbrev wPicture : Str := "picture"
abbrev wPut : Str := "put"
abbrev wErase : Str := "erase"
abbrev wDeal : Str := "deal"
abbrev wCap : Str := "cap"
def listW (ns : List Int) : Str := Txt.join comma (ns.map numS)
def nameW (p : Str × List Int) : Str := p.1 ++ eqS ++ listW p.2
def wardW (w : Int × Int × Int) : Str := numS w.1 ++ colon ++ numS w.2.1 ++ comma ++ numS w.2.2
/-- the words ahead of the stroke -/
def headW : Rec → List Str
  | .picture caps names _ => [wPicture, listW caps] ++ names.map nameW
  | .put n ns _ => [wPut, nameW (n, ns)]
  | .cap s c _ => [wCap, numS s, numS c]
  | .deal _ => [wDeal]
  | .erase n => [wErase, n]
def Rec.ws : Rec → List (Int × Int × Int)
  | .picture _ _ ws => ws
  | .put _ _ ws => ws
  | .cap _ _ ws => ws
  | .deal ws => ws
  | .erase _ => []
def words (r : Rec) : List Str := match r with
  | .erase n => [wErase, n]
  | r => headW r ++ [stroke] ++ r.ws.map wardW
def recText (r : Rec) : Str := Txt.join space (words r) ++ semi
def encNs (ns : List Int) : PyData := .tuple (ns.map PyData.int)
def encName (p : Str × List Int) : PyData := .tuple [.str p.1, encNs p.2]
def encW (w : Int × Int × Int) : PyData := .tuple [.int w.1, .int w.2.1, .int w.2.2]
def encWs (ws : List (Int × Int × Int)) : PyData := .tuple (ws.map encW)
def headD : Rec → List PyData
  | .picture caps names _ => [.str wPicture, encNs caps, .tuple (names.map encName)]
  | .put n ns _ => [.str wPut, .str n, encNs ns]
  | .cap s c _ => [.str wCap, .int s, .int c]
  | .deal _ => [.str wDeal]
  | .erase n => [.str wErase, .str n]
def encR (r : Rec) : PyData := match r with
  | .erase n => .tuple [.str wErase, .str n]
  | r => .tuple (headD r ++ [encWs r.ws])
/-! what a record may be -/
def NameOk (x : Str) : Prop := 1 ≤ (tl x).length ∧ (tl x).length ≤ 12 ∧ ∀ c ∈ tl x, (97 ≤ c ∧ c ≤ 122) ∨ (48 ≤ c ∧ c ≤ 57)
structure NsOk (ns : List Int) : Prop where
  num : ∀ n ∈ ns, NumOk n
  pos : ∀ n ∈ ns, 1 ≤ n
  up : ns.Pairwise (· < ·)
  few : ns.length ≤ 100
structure WsOk (ws : List (Int × Int × Int)) : Prop where
  num : ∀ w ∈ ws, NumOk w.1 ∧ NumOk w.2.1 ∧ NumOk w.2.2
  pos : ∀ w ∈ ws, 1 ≤ w.1 ∧ w.2.1 < w.2.2
  up : (ws.map (·.1)).Pairwise (· < ·)
  few : ws.length ≤ 100
def RecOk : Rec → Prop
  | .picture caps names ws => caps ≠ [] ∧ (∀ c ∈ caps, NumOk c) ∧ caps.length ≤ 100 ∧ (∀ p ∈ names, NameOk p.1 ∧ NsOk p.2) ∧ (names.map (·.1)).Pairwise (fun x y => tl x < tl y) ∧ names.length ≤ 100 ∧ WsOk ws
  | .put n ns ws => NameOk n ∧ NsOk ns ∧ WsOk ws
  | .erase n => NameOk n
  | .deal ws => WsOk ws
  | .cap s c ws => NumOk s ∧ NumOk c ∧ WsOk ws
theorem RecOk.ws {r : Rec} (h : RecOk r) : WsOk r.ws := by
  cases r with
  | picture caps names ws => exact h.2.2.2.2.2.2
  | put n ns ws => exact h.2.2
  | erase n => exact ⟨fun _ h => by simp [Rec.ws] at h, fun _ h => by simp [Rec.ws] at h, List.Pairwise.nil, by simp [Rec.ws]⟩
  | deal ws => exact h
  | cap s c ws => exact h.2.2

/-! ### which signs stand in a word -/
theorem ofS_tl (s : String) : tl (s : Str) = s.toList.map Char.toNat := tl_ofString s
theorem free_list {ns : List Int} (h : ∀ n ∈ ns, NumOk n) {s : Nat} (hs : s < 48 ∨ 57 < s) (hc : s ≠ 44) : s ∉ tl (listW ns) :=
  free_join (by rw [ofS_tl]; simpa using hc) fun p hp => by
    obtain ⟨n, hn, rfl⟩ := List.mem_map.mp hp
    exact numS_free (h n hn).1 hs
theorem name_free {x : Str} (h : NameOk x) {s : Nat} (hs : (s < 48 ∨ 57 < s) ∧ (s < 97 ∨ 122 < s)) : s ∉ tl x := fun hm => by
  have := h.2.2 s hm
  omega
theorem free_name {p : Str × List Int} (h1 : NameOk p.1) (h2 : NsOk p.2) {s : Nat} (hs : (s < 48 ∨ 57 < s) ∧ (s < 97 ∨ 122 < s)) (hc : s ≠ 44 ∧ s ≠ 61) : s ∉ tl (nameW p) :=
  free_app (free_app (name_free h1 hs) (by rw [ofS_tl]; simpa using hc.2)) (free_list h2.num hs.1 hc.1)
theorem free_ward {w : Int × Int × Int} (h : NumOk w.1 ∧ NumOk w.2.1 ∧ NumOk w.2.2) {s : Nat} (hs : s < 48 ∨ 57 < s) (hc : s ≠ 44 ∧ s ≠ 58) : s ∉ tl (wardW w) :=
  free_app (free_app (free_app (free_app (numS_free h.1.1 hs) (by rw [ofS_tl]; simpa using hc.2)) (numS_free h.2.1.1 hs)) (by rw [ofS_tl]; simpa using hc.1)) (numS_free h.2.2.1 hs)
/-- no word of a record has a space or a semicolon; no word but the stroke has a stroke -/
theorem head_free {r : Rec} (h : RecOk r) {s : Nat} (hs : s = 32 ∨ s = 59 ∨ s = 47) : ∀ w ∈ headW r, s ∉ tl w := by
  have lit : ∀ x : String, (∀ c ∈ x.toList.map Char.toNat, 97 ≤ c) → s ∉ tl (x : Str) := fun x hx hm => by
    rw [ofS_tl] at hm
    have := hx s hm
    omega
  have k1 : (s < 48 ∨ 57 < s) ∧ (s < 97 ∨ 122 < s) := by omega
  have k2 : s ≠ 44 ∧ s ≠ 61 := by omega
  cases r with
  | picture caps names ws =>
    obtain ⟨_, h2, _, h4, _⟩ := h
    intro w hw
    have hw : w ∈ [wPicture, listW caps] ++ names.map nameW := hw
    rcases List.mem_append.mp hw with hw | hw
    · simp only [List.mem_cons, List.not_mem_nil, or_false] at hw
      rcases hw with rfl | rfl
      · exact lit "picture" (by decide)
      · exact free_list h2 k1.1 k2.1
    · obtain ⟨p, hp, rfl⟩ := List.mem_map.mp hw
      exact free_name (h4 p hp).1 (h4 p hp).2 k1 k2
  | put n ns ws =>
    intro w hw
    have hw : w ∈ [wPut, nameW (n, ns)] := hw
    simp only [List.mem_cons, List.not_mem_nil, or_false] at hw
    rcases hw with rfl | rfl
    · exact lit "put" (by decide)
    · exact free_name h.1 h.2.1 k1 k2
  | erase n =>
    intro w hw
    have hw : w ∈ [wErase, n] := hw
    simp only [List.mem_cons, List.not_mem_nil, or_false] at hw
    rcases hw with rfl | rfl
    · exact lit "erase" (by decide)
    · exact name_free h k1
  | deal ws =>
    intro w hw
    have hw : w ∈ [wDeal] := hw
    simp only [List.mem_cons, List.not_mem_nil, or_false] at hw
    subst hw
    exact lit "deal" (by decide)
  | cap s' c ws =>
    intro w hw
    have hw : w ∈ [wCap, numS s', numS c] := hw
    simp only [List.mem_cons, List.not_mem_nil, or_false] at hw
    rcases hw with rfl | rfl | rfl
    · exact lit "cap" (by decide)
    · exact numS_free h.1.1 k1.1
    · exact numS_free h.2.1.1 k1.1
theorem words_free {r : Rec} (h : RecOk r) {s : Nat} (hs : s = 32 ∨ s = 59) : ∀ w ∈ words r, s ∉ tl w := by
  have key : ∀ w ∈ headW r ++ [stroke] ++ r.ws.map wardW, s ∉ tl w := fun w hw => by
    rcases List.mem_append.mp hw with hw | hw
    · rcases List.mem_append.mp hw with hw | hw
      · exact head_free h (by omega) w hw
      · rw [List.mem_singleton.mp hw, ofS_tl]
        simp
        omega
    · obtain ⟨p, hp, rfl⟩ := List.mem_map.mp hw
      exact free_ward (h.ws.num p hp) (by omega) (by omega)
  cases r with
  | erase n => exact head_free h (by omega)
  | _ => exact key
theorem words_ne (r : Rec) : words r ≠ [] := by cases r <;> simp [words, headW]
theorem body_free {r : Rec} (h : RecOk r) : 59 ∉ tl (Txt.join space (words r)) := free_join (by rw [ofS_tl]; decide) (words_free h (.inr rfl))
/-- the read-back of the words -/
theorem split_words {r : Rec} (h : RecOk r) : Txt.split (Txt.join space (words r)) space = words r :=
  split_join (s := 32) (S := []) (by rw [ofS_tl]; rfl) (by decide +kernel) (words_ne r) (words_free h (.inl rfl))
theorem split_list {ns : List Int} (h : ∀ n ∈ ns, NumOk n) (hne : ns ≠ []) : Txt.split (listW ns) comma = ns.map numS :=
  split_join (s := 44) (S := []) (by rw [ofS_tl]; rfl) (by decide +kernel) (by simpa using hne) fun p hp => by
    obtain ⟨n, hn, rfl⟩ := List.mem_map.mp hp
    exact numS_free (h n hn).1 (by omega)
theorem nameW_join (p : Str × List Int) : nameW p = Txt.join eqS [p.1, listW p.2] := by
  refine str_eq ?_
  rw [tl_joinT]
  show tl (p.1 ++ eqS ++ listW p.2) = tl p.1 ++ (tl eqS ++ tl (listW p.2))
  rw [tl_append, tl_append, List.append_assoc]
theorem split_name {p : Str × List Int} (h1 : NameOk p.1) (h2 : NsOk p.2) : Txt.split (nameW p) eqS = [p.1, listW p.2] := by
  rw [nameW_join]
  refine split_join (s := 61) (S := []) (by rw [ofS_tl]; rfl) (by decide +kernel) (by simp) fun q hq => ?_
  simp only [List.mem_cons, List.not_mem_nil, or_false] at hq
  rcases hq with rfl | rfl
  · exact name_free h1 (by omega)
  · exact free_list h2.num (by omega) (by omega)
theorem wardW_join (w : Int × Int × Int) : wardW w = Txt.join colon [numS w.1, listW [w.2.1, w.2.2]] := by
  refine str_eq ?_
  rw [tl_joinT]
  show tl (numS w.1 ++ colon ++ numS w.2.1 ++ comma ++ numS w.2.2) = tl (numS w.1) ++ (tl colon ++ tl (listW [w.2.1, w.2.2]))
  have e : tl (listW [w.2.1, w.2.2]) = tl (numS w.2.1) ++ (tl comma ++ tl (numS w.2.2)) := tl_joinT _ _
  rw [e, tl_append, tl_append, tl_append, tl_append]
  simp only [List.append_assoc]
theorem split_ward {w : Int × Int × Int} (h : NumOk w.1 ∧ NumOk w.2.1 ∧ NumOk w.2.2) : Txt.split (wardW w) colon = [numS w.1, listW [w.2.1, w.2.2]] := by
  rw [wardW_join]
  refine split_join (s := 58) (S := []) (by rw [ofS_tl]; rfl) (by decide +kernel) (by simp) fun q hq => ?_
  simp only [List.mem_cons, List.not_mem_nil, or_false] at hq
  rcases hq with rfl | rfl
  · exact numS_free h.1.1 (by omega)
  · refine free_list (fun n hn => ?_) (by omega) (by omega)
    simp only [List.mem_cons, List.not_mem_nil, or_false] at hn
    rcases hn with rfl | rfl
    · exact h.2.1
    · exact h.2.2
/-! ### the program's own way to write a record -/
theorem joinL_app {S : List Nat} : ∀ {a b : List (List Nat)}, a ≠ [] → b ≠ [] → joinL S (a ++ b) = joinL S a ++ (S ++ joinL S b)
  | [], _, h, _ => absurd rfl h
  | [p], b, _, hb => by
    cases b with
    | nil => exact absurd rfl hb
    | cons q r => rfl
  | p :: q :: a, b, _, hb => by
    show p ++ (S ++ joinL S ((q :: a) ++ b)) = p ++ (S ++ joinL S (q :: a)) ++ (S ++ joinL S b)
    rw [joinL_app (by simp) hb]
    simp only [List.append_assoc]
/-- the text of warden entries, a space ahead of each -/
def wardsT (ws : List (Int × Int × Int)) : Str := Txt.join Str.empty (ws.map fun w => space ++ wardW w)
theorem joinL_nil : ∀ ps : List (List Nat), joinL [] ps = ps.flatten
  | [] => rfl
  | [p] => by simp [joinL]
  | p :: q :: r => by
    show p ++ ([] ++ joinL [] (q :: r)) = _
    rw [joinL_nil (q :: r)]
    simp
theorem joinL_stroke {ps : List (List Nat)} {S s : List Nat} : joinL S (s :: ps) = s ++ (ps.map fun p => S ++ p).flatten := by
  induction ps generalizing s with
  | nil => simp [joinL]
  | cons p ps ih =>
    show s ++ (S ++ joinL S (p :: ps)) = _
    rw [ih]
    simp
theorem text_eq {r : Rec} (hn : ∀ n, r ≠ .erase n) : Txt.join space (headW r) ++ " /" ++ wardsT r.ws ++ semi = recText r := by
  have hw : words r = headW r ++ [stroke] ++ r.ws.map wardW := by
    cases r with
    | erase n => exact absurd rfl (hn n)
    | _ => rfl
  have hh : headW r ≠ [] := by cases r <;> simp [headW]
  refine str_eq ?_
  unfold recText
  rw [tl_append, tl_append, tl_append, tl_append, hw]
  congr 1
  rw [tl_joinT, tl_joinT]
  have e1 : (headW r ++ [stroke] ++ r.ws.map wardW).map tl = (headW r).map tl ++ (tl stroke :: (r.ws.map wardW).map tl) := by simp
  rw [e1, joinL_app (by simpa using hh) (by simp), joinL_stroke]
  have e2 : tl (wardsT r.ws) = (((r.ws.map wardW).map tl).map fun p => tl space ++ p).flatten := by
    unfold wardsT
    rw [tl_joinT]
    show joinL [] _ = _
    rw [joinL_nil]
    simp only [List.map_map]
    congr 1
    refine List.map_congr_left fun w _ => ?_
    show tl (space ++ wardW w) = tl space ++ tl (wardW w)
    rw [tl_append]
  rw [e2]
  have e3 : tl (" /" : Str) = tl space ++ tl stroke := by rw [ofS_tl, ofS_tl, ofS_tl]; rfl
  rw [e3]
  simp only [List.append_assoc]
theorem erase_eq (n : Str) : "erase " ++ n ++ semi = recText (.erase n) := by
  refine str_eq ?_
  unfold recText
  rw [tl_append, tl_append, tl_append, tl_joinT]
  show tl ("erase " : Str) ++ tl n ++ tl semi = tl wErase ++ (tl space ++ tl n) ++ tl semi
  have e3 : tl ("erase " : Str) = tl wErase ++ tl space := by rw [ofS_tl, ofS_tl, ofS_tl]; rfl
  rw [e3]
  simp only [List.append_assoc]

/-! ### lengths -/
theorem joinL_len {S : List Nat} {k : Nat} : ∀ {ps : List (List Nat)}, (∀ p ∈ ps, p.length ≤ k) → (joinL S ps).length ≤ ps.length * (k + S.length)
  | [], _ => Nat.zero_le _
  | [p], h => by
    have := h p (by simp)
    show p.length ≤ 1 * (k + S.length)
    omega
  | p :: q :: r, h => by
    have h1 := h p (by simp)
    have h2 := joinL_len (S := S) (ps := q :: r) fun x hx => h x (List.mem_cons_of_mem _ hx)
    show (p ++ (S ++ joinL S (q :: r))).length ≤ ((q :: r).length + 1) * (k + S.length)
    rw [List.length_append, List.length_append, Nat.add_mul]
    omega
theorem list_len {ns : List Int} (h : ∀ n ∈ ns, NumOk n) (hl : ns.length ≤ 100) : (tl (listW ns)).length ≤ 1000 := by
  unfold listW
  rw [tl_joinT]
  refine Nat.le_trans (joinL_len (k := 9) fun p hp => ?_) ?_
  · simp only [List.map_map, List.mem_map] at hp
    obtain ⟨n, hn, rfl⟩ := hp
    exact numS_len (h n hn)
  · have : (tl comma).length = 1 := by rw [ofS_tl]; rfl
    rw [this, List.length_map, List.length_map]
    omega
theorem name_len {p : Str × List Int} (h1 : NameOk p.1) (h2 : NsOk p.2) : (tl (nameW p)).length ≤ 1013 := by
  unfold nameW
  rw [tl_append, tl_append, List.length_append, List.length_append]
  have := h1.2.1
  have := list_len h2.num h2.few
  have : (tl eqS).length = 1 := by rw [ofS_tl]; rfl
  omega
theorem ward_len {w : Int × Int × Int} (h : NumOk w.1 ∧ NumOk w.2.1 ∧ NumOk w.2.2) : (tl (wardW w)).length ≤ 29 := by
  unfold wardW
  rw [tl_append, tl_append, tl_append, tl_append, List.length_append, List.length_append, List.length_append, List.length_append]
  have := numS_len h.1
  have := numS_len h.2.1
  have := numS_len h.2.2
  have : (tl comma).length = 1 := by rw [ofS_tl]; rfl
  have : (tl colon).length = 1 := by rw [ofS_tl]; rfl
  omega
theorem head_len {r : Rec} (h : RecOk r) : ∀ w ∈ headW r, (tl w).length ≤ 1013 := by
  intro w hw
  have lit : ∀ x : String, x.toList.length ≤ 1013 → (tl (x : Str)).length ≤ 1013 := fun x hx => by rw [ofS_tl, List.length_map]; exact hx
  cases r with
  | picture caps names ws =>
    obtain ⟨_, h2, h3, h4, _⟩ := h
    have hw : w ∈ [wPicture, listW caps] ++ names.map nameW := hw
    rcases List.mem_append.mp hw with hw | hw
    · simp only [List.mem_cons, List.not_mem_nil, or_false] at hw
      rcases hw with rfl | rfl
      · exact lit "picture" (by decide)
      · exact Nat.le_trans (list_len h2 h3) (by decide)
    · obtain ⟨p, hp, rfl⟩ := List.mem_map.mp hw
      exact name_len (h4 p hp).1 (h4 p hp).2
  | put n ns ws =>
    have hw : w ∈ [wPut, nameW (n, ns)] := hw
    simp only [List.mem_cons, List.not_mem_nil, or_false] at hw
    rcases hw with rfl | rfl
    · exact lit "put" (by decide)
    · exact name_len (p := (n, ns)) h.1 h.2.1
  | erase n =>
    have hw : w ∈ [wErase, n] := hw
    simp only [List.mem_cons, List.not_mem_nil, or_false] at hw
    rcases hw with rfl | rfl
    · exact lit "erase" (by decide)
    · exact Nat.le_trans h.2.1 (by decide)
  | deal ws =>
    have hw : w ∈ [wDeal] := hw
    simp only [List.mem_cons, List.not_mem_nil, or_false] at hw
    subst hw
    exact lit "deal" (by decide)
  | cap s' c ws =>
    have hw : w ∈ [wCap, numS s', numS c] := hw
    simp only [List.mem_cons, List.not_mem_nil, or_false] at hw
    rcases hw with rfl | rfl | rfl
    · exact lit "cap" (by decide)
    · exact Nat.le_trans (numS_len h.1) (by decide)
    · exact Nat.le_trans (numS_len h.2.1) (by decide)
theorem headW_few {r : Rec} (h : RecOk r) : (headW r).length ≤ 102 := by
  cases r with
  | picture caps names ws =>
    have := h.2.2.2.2.2.1
    show ([wPicture, listW caps] ++ names.map nameW).length ≤ 102
    rw [List.length_append, List.length_map]
    simp
    omega
  | _ => simp [headW]
theorem words_few {r : Rec} (h : RecOk r) : (words r).length ≤ 203 := by
  have h1 := headW_few h
  have h2 := h.ws.few
  have key : (headW r ++ [stroke] ++ r.ws.map wardW).length ≤ 203 := by
    rw [List.length_append, List.length_append, List.length_map]
    simp
    omega
  cases r with
  | erase n => simp [words]
  | _ => exact key
theorem words_len {r : Rec} (h : RecOk r) : ∀ w ∈ words r, (tl w).length ≤ 1013 := by
  have key : ∀ w ∈ headW r ++ [stroke] ++ r.ws.map wardW, (tl w).length ≤ 1013 := fun w hw => by
    rcases List.mem_append.mp hw with hw | hw
    · rcases List.mem_append.mp hw with hw | hw
      · exact head_len h w hw
      · rw [List.mem_singleton.mp hw, ofS_tl]
        decide
    · obtain ⟨p, hp, rfl⟩ := List.mem_map.mp hw
      exact Nat.le_trans (ward_len (h.ws.num p hp)) (by decide)
  cases r with
  | erase n => exact head_len h
  | _ => exact key
theorem text_len {r : Rec} (h : RecOk r) : (tl (Txt.join space (words r))).length ≤ 210000 := by
  rw [tl_joinT]
  refine Nat.le_trans (joinL_len (k := 1013) fun p hp => ?_) ?_
  · obtain ⟨w, hw, rfl⟩ := List.mem_map.mp hp
    exact words_len h w hw
  · have e : (tl space).length = 1 := by rw [ofS_tl]; rfl
    have := words_few h
    rw [List.length_map, e]
    omega
theorem recText_len {r : Rec} (h : RecOk r) : (recText r).length ≤ 210001 := by
  rw [len_tl]
  unfold recText
  rw [tl_append, List.length_append]
  have := text_len h
  have : (tl semi).length = 1 := by rw [ofS_tl]; rfl
  omega

/-! ### what a log's strings say -/
theorem take_more1 {α : Type} {l : List α} {i : Nat} {x : α} (h : l[i]? = some x) : l.take (i + 1) = l.take i ++ [x] := by
  rw [List.take_succ, h]; rfl
def Parses (x : Str) : Option Rec → Prop
  | none => 59 ∉ tl x
  | some r => x = recText r ∧ RecOk r
def encO : Option Rec → PyData
  | none => .none
  | some r => encR r
def cstep (s : List Rec × Nat) (i : Nat) : Option Rec → List Rec × Nat
  | none => s
  | some r => if r.isPic = true then ([r], i + 1) else if 0 < s.1.length ∧ s.2 = i then (s.1 ++ [r], i + 1) else s
def countN (os : List (Option Rec)) : Nat → List Rec × Nat
  | 0 => ([], 0)
  | i + 1 => match os[i]? with
    | some o => cstep (countN os i) i o
    | none => countN os i
theorem countN_succ {os : List (Option Rec)} {i : Nat} {o : Option Rec} (h : os[i]? = some o) : countN os (i + 1) = cstep (countN os i) i o := by
  rw [countN, h]
theorem countN_end (os : List (Option Rec)) : ∀ i, (countN os i).2 ≤ i ∧ (countN os i).1.length ≤ i
  | 0 => by simp [countN]
  | i + 1 => by
    have ih := countN_end os i
    cases h : os[i]? with
    | none =>
      have e : countN os (i + 1) = countN os i := by rw [countN, h]
      rw [e]; omega
    | some o =>
      rw [countN_succ h]
      cases o with
      | none =>
        have e : cstep (countN os i) i none = countN os i := rfl
        rw [e]; omega
      | some r =>
        unfold cstep
        by_cases c : r.isPic = true
        · simp [c]
        · by_cases c2 : 0 < (countN os i).1.length ∧ (countN os i).2 = i
          · simp only [c, if_neg, c2, if_pos]
            simp
            omega
          · simp [c, c2]
            omega
/-- the records from the last picture on -/
def lastRun (rs : List Rec) : List Rec := rs.foldl (fun acc r => if r.isPic = true then [r] else acc ++ [r]) []
theorem lastRun_snoc (rs : List Rec) (r : Rec) : lastRun (rs ++ [r]) = if r.isPic = true then [r] else lastRun rs ++ [r] := by
  unfold lastRun
  rw [List.foldl_append]
  rfl
theorem lastRun_ne : ∀ {rs : List Rec}, rs ≠ [] → lastRun rs ≠ [] := by
  intro rs h
  obtain ⟨l, a, rfl⟩ : ∃ l a, rs = l ++ [a] := ⟨rs.dropLast, rs.getLast h, (List.dropLast_concat_getLast h).symm⟩
  rw [lastRun_snoc]
  split <;> simp
/-- whole records one behind the other, the first a picture; behind them torn strings -/
theorem count_whole {rs : List Rec} {n : Nat} (h0 : ∀ r, rs[0]? = some r → r.isPic = true) :
    countN (rs.map some ++ List.replicate n none) (rs.length + n) = (lastRun rs, rs.length) := by
  have key : ∀ i, i ≤ rs.length → countN (rs.map some ++ List.replicate n none) i = (lastRun (rs.take i), i) := by
    intro i
    induction i with
    | zero => intro _; rfl
    | succ i ih =>
      intro hi
      have hri : rs[i]? = some rs[i] := List.getElem?_eq_getElem (by omega)
      have ho : (rs.map some ++ List.replicate n none)[i]? = some (some rs[i]) := by
        rw [List.getElem?_append_left (by rw [List.length_map]; omega), List.getElem?_map, hri]
        rfl
      rw [countN_succ ho, ih (by omega), take_more1 hri, lastRun_snoc]
      unfold cstep
      by_cases c : rs[i].isPic = true
      · simp only [c, if_pos]
      · have hi0 : 0 < i := by
          rcases Nat.eq_zero_or_pos i with z | z
          · subst z
            exact absurd (h0 _ hri) c
          · exact z
        have hne : rs.take i ≠ [] := by
          intro z
          have h3 : (rs.take i).length = 0 := by rw [z]; rfl
          rw [List.length_take] at h3
          omega
        have := List.length_pos_iff.mpr (lastRun_ne hne)
        simp only [c, if_neg, this, and_self, if_pos, Bool.false_eq_true, if_false, if_true]
  have key2 : ∀ k, k ≤ n → countN (rs.map some ++ List.replicate n none) (rs.length + k) = (lastRun rs, rs.length) := by
    intro k
    induction k with
    | zero =>
      intro _
      have := key rs.length (Nat.le_refl _)
      rw [List.take_length] at this
      exact this
    | succ k ih =>
      intro hk
      have ho : (rs.map some ++ List.replicate n none)[rs.length + k]? = some none := by
        rw [List.getElem?_append_right (by rw [List.length_map]; omega), List.length_map, List.getElem?_replicate]
        rw [if_pos (by omega)]
      show countN _ (rs.length + k + 1) = _
      rw [countN_succ ho, ih (by omega)]
      rfl
  exact key2 n (Nat.le_refl _)
end Rc

set_option Elab.async false
set_option linter.all false
set_option maxRecDepth 100000
set_option maxHeartbeats 4000000
/-! M64: the ledger's plain mathematics. -/
namespace Rc
open PySem PySem.Spec PyProof.Rows L2 TL
/-- what a ledger knows: the names' numbers, the numbers' wardens, the greatest number -/
structure FSt where
  caps : List Int
  names : Str → Option (List Int)
  wards : Int → Option (Int × Int)
  top : Int
/-- max as the program says it -/
def mx (a b : Int) : Int := if b > a then b else a
theorem mx_le {a b : Int} : a ≤ mx a b ∧ b ≤ mx a b := by unfold mx; split <;> omega
theorem mx_is {a b : Int} : mx a b = a ∨ mx a b = b := by unfold mx; split <;> simp
def FSt.forget (f : FSt) (x : Str) : FSt := { f with names := fun y => if y = x then none else f.names y, wards := fun i => if i ∈ (f.names x).getD [] then none else f.wards i }
def FSt.ward (f : FSt) (w : Int × Int × Int) : FSt := { f with wards := fun i => if i = w.1 then some w.2 else f.wards i, top := mx f.top w.1 }
def FSt.setWs (f : FSt) (ws : List (Int × Int × Int)) : FSt := ws.foldl FSt.ward f
def FSt.setName (f : FSt) (x : Str) (ns : List Int) : FSt := { f.forget x with names := fun y => if y = x then some ns else (f.forget x).names y, top := ns.foldl mx f.top }
def FSt.take (f : FSt) : Rec → FSt
  | .erase x => f.forget x
  | .put x ns ws => (f.setName x ns).setWs ws
  | .cap s c ws => ({ f with caps := f.caps.set s.toNat c } : FSt).setWs ws
  | .deal ws => f.setWs ws
  | .picture _ _ ws => f.setWs ws
def FSt.zero (caps : List Int) : FSt := ⟨caps, fun _ => none, fun _ => none, 0⟩
def ofPic (caps : List Int) (names : List (Str × List Int)) (ws : List (Int × Int × Int)) : FSt := (names.foldl (fun f p => f.setName p.1 p.2) (FSt.zero caps)).setWs ws
def replay : List Rec → FSt
  | .picture caps names ws :: rest => rest.foldl FSt.take (ofPic caps names ws)
  | _ => FSt.zero []
theorem setWs_caps (ws : List (Int × Int × Int)) : ∀ f : FSt, (f.setWs ws).caps = f.caps := by
  induction ws with
  | nil => intro f; rfl
  | cons w ws ih => intro f; exact ih (f.ward w)
theorem take_caps (f : FSt) (r : Rec) : (f.take r).caps.length = f.caps.length := by
  cases r with
  | picture caps names ws => exact congrArg List.length (setWs_caps ws f)
  | put n ns ws => exact congrArg List.length (setWs_caps ws (f.setName n ns))
  | erase n => rfl
  | deal ws => exact congrArg List.length (setWs_caps ws f)
  | cap s c ws => exact (congrArg List.length (setWs_caps ws _)).trans List.length_set
theorem setWs_names (ws : List (Int × Int × Int)) : ∀ f : FSt, (f.setWs ws).names = f.names := by
  induction ws with
  | nil => intro f; rfl
  | cons w ws ih => intro f; exact ih (f.ward w)
def NmOk (f : FSt) : Prop := ∀ x ns, f.names x = some ns → ns.length ≤ 100
theorem NmOk.forget {f : FSt} (h : NmOk f) (x : Str) : NmOk (f.forget x) := fun y ns e => by
  have e' : (if y = x then none else f.names y) = some ns := e
  split at e'
  · cases e'
  · exact h y ns e'
theorem NmOk.setName {f : FSt} (h : NmOk f) (x : Str) {ns : List Int} (hl : ns.length ≤ 100) : NmOk (f.setName x ns) := fun y ms e => by
  have e' : (if y = x then some ns else (f.forget x).names y) = some ms := e
  split at e'
  · cases e'; exact hl
  · exact h.forget x y ms e'
theorem NmOk.setWs {f : FSt} (h : NmOk f) (ws : List (Int × Int × Int)) : NmOk (f.setWs ws) := fun y ns e => by
  rw [setWs_names] at e; exact h y ns e
theorem NmOk.take {f : FSt} (h : NmOk f) {r : Rec} (ok : RecOk r) : NmOk (f.take r) := by
  cases r with
  | picture caps names ws => exact h.setWs ws
  | put n ns ws => exact (h.setName n ok.2.1.few).setWs ws
  | erase n => exact h.forget n
  | deal ws => exact h.setWs ws
  | cap s c ws => exact NmOk.setWs (f := { f with caps := f.caps.set s.toNat c }) h ws
/-- a row of records that a ledger can take -/
structure RowOk (caps : List Int) (rest : List Rec) : Prop where
  ok : ∀ r ∈ rest, RecOk r
  cap : ∀ s c ws, Rec.cap s c ws ∈ rest → s.toNat < caps.length
/-- the picture of what is there -/
structure PicOf (f : FSt) (names : List (Str × List Int)) (ws : List (Int × Int × Int)) : Prop where
  up1 : (names.map (·.1)).Pairwise (fun x y => tl x < tl y)
  mem1 : ∀ x ns, (x, ns) ∈ names ↔ f.names x = some ns
  up2 : (ws.map (·.1)).Pairwise (· < ·)
  mem2 : ∀ i u, (i, u) ∈ ws ↔ f.wards i = some u
theorem nodup_len {α : Type} [DecidableEq α] : ∀ {l m : List α}, l.Nodup → (∀ x ∈ l, x ∈ m) → l.length ≤ m.length
  | [], m, _, _ => Nat.zero_le _
  | x :: l, m, nd, h => by
    have hx : x ∈ m := h x (by simp)
    have nd' := List.nodup_cons.mp nd
    have ih := nodup_len (l := l) (m := m.erase x) nd'.2 fun y hy => (List.mem_erase_of_ne (fun e : y = x => nd'.1 (by rw [← e]; exact hy))).mpr (h y (by simp [hy]))
    rw [List.length_erase_of_mem hx] at ih
    have := List.length_pos_of_mem hx
    rw [List.length_cons]
    omega
theorem rising_strict : ∀ {l : List Str} {x : Str}, (x :: l).Nodup → risingS x l = true → (x :: l).Pairwise (fun a b => tl a < tl b)
  | [], x, _, _ => List.pairwise_singleton _ _
  | y :: l, x, nd, h => by
    have h' : (!Spec.ltCps (tl y) (tl x) && risingS y l) = true := h
    rw [Bool.and_eq_true, ltCps_eq] at h'
    have nd' := List.nodup_cons.mp nd
    have ih := rising_strict (l := l) (x := y) nd'.2 h'.2
    have hn : ¬ tl y < tl x := by simpa using h'.1
    have hxy : tl x < tl y := by
      have hne : tl x ≠ tl y := fun e => nd'.1 (by rw [str_eq e]; simp)
      rcases Decidable.em (tl x < tl y) with h | h
      · exact h
      · exact absurd (List.le_antisymm (List.not_lt.mp hn) (List.not_lt.mp h)) hne
    refine List.pairwise_cons.mpr ⟨fun z hz => ?_, ih⟩
    rcases List.mem_cons.mp hz with rfl | hz
    · exact hxy
    · exact List.lt_trans hxy ((List.pairwise_cons.mp ih).1 z hz)
theorem sorted_strict {l : List Str} (nd : l.Nodup) (h : sortedS l = true) : l.Pairwise (fun a b => tl a < tl b) := by
  cases l with
  | nil => exact List.Pairwise.nil
  | cons x l => exact rising_strict nd h
theorem le_strict {l : List Int} (nd : l.Nodup) (h : l.Pairwise (· ≤ ·)) : l.Pairwise (· < ·) := by
  induction l with
  | nil => exact List.Pairwise.nil
  | cons x l ih =>
    have h' := List.pairwise_cons.mp h
    have nd' := List.nodup_cons.mp nd
    exact List.pairwise_cons.mpr ⟨fun y hy => by
      have := h'.1 y hy
      have : x ≠ y := fun e => nd'.1 (e ▸ hy)
      omega, ih nd'.2 h'.2⟩
/-- two spots that differ by less than m fall apart -/
theorem spot_inj {a b r : Int} {m : Nat} (hm : 0 < m) (ha : 0 ≤ a ∧ a < m) (hb : 0 ≤ b ∧ b < m) (h : (a + r) % (m : Int) = (b + r) % (m : Int)) : a = b := by
  have e := Int.emod_emod_of_dvd (a + r) (Int.dvd_refl (m : Int))
  have h2 : ((a + r) - (b + r)) % (m : Int) = 0 := Int.emod_eq_emod_iff_emod_sub_eq_zero.mp h
  have h3 : (a + r) - (b + r) = a - b := by omega
  rw [h3] at h2
  obtain ⟨k, hk⟩ := Int.dvd_of_emod_eq_zero h2
  have hk0 : k = 0 := by
    rcases Int.lt_trichotomy k 0 with q | q | q
    · have : (m : Int) * k ≤ (m : Int) * (-1) := Int.mul_le_mul_of_nonneg_left (by omega) (by omega)
      omega
    · exact q
    · have : (m : Int) * 1 ≤ (m : Int) * k := Int.mul_le_mul_of_nonneg_left (by omega) (by omega)
      omega
  rw [hk0, Int.mul_zero] at hk
  omega
theorem mxf_spec : ∀ (l : List Int) (t : Int), t ≤ l.foldl mx t ∧ (∀ x ∈ l, x ≤ l.foldl mx t) ∧ (l.foldl mx t = t ∨ l.foldl mx t ∈ l)
  | [], t => ⟨Int.le_refl _, (fun x h => nomatch h), .inl rfl⟩
  | a :: l, t => by
    obtain ⟨h1, h2, h3⟩ := mxf_spec l (mx t a)
    have m1 := mx_le (a := t) (b := a)
    rw [List.foldl_cons]
    refine ⟨Int.le_trans m1.1 h1, fun x hx => ?_, ?_⟩
    · rcases List.mem_cons.mp hx with rfl | hx
      · exact Int.le_trans m1.2 h1
      · exact h2 x hx
    · rcases h3 with h3 | h3
      · rw [h3]
        rcases mx_is (a := t) (b := a) with e | e
        · exact .inl e
        · exact .inr (by rw [e]; simp)
      · exact .inr (by simp [h3])
/-- a fold of max takes no notice of what comes again later -/
theorem mxf_skip {l k : List Int} {t : Int} (h : ∀ x ∈ k, x ∈ l) : l.foldl mx (k.foldl mx t) = l.foldl mx t := by
  obtain ⟨a1, a2, a3⟩ := mxf_spec l t
  obtain ⟨b1, b2, b3⟩ := mxf_spec l (k.foldl mx t)
  obtain ⟨c1, c2, c3⟩ := mxf_spec k t
  refine Int.le_antisymm ?_ ?_
  · rcases b3 with e | e
    · rw [e]
      rcases c3 with e | e
      · rw [e]; exact a1
      · exact a2 _ (h _ e)
    · exact a2 _ e
  · rcases a3 with e | e
    · rw [e]; exact Int.le_trans c1 b1
    · exact b2 _ e
theorem setWs_top (ws : List (Int × Int × Int)) : ∀ f : FSt, (f.setWs ws).top = (ws.map (·.1)).foldl mx f.top := by
  induction ws with
  | nil => intro f; rfl
  | cons w ws ih => intro f; exact ih (f.ward w)
theorem setWs_same (ws : List (Int × Int × Int)) : ∀ f g : FSt, f.wards = g.wards → (f.setWs ws).wards = (g.setWs ws).wards := by
  induction ws with
  | nil => intro f g h; exact h
  | cons w ws ih =>
    intro f g h
    refine ih (f.ward w) (g.ward w) ?_
    show (fun i => if i = w.1 then some w.2 else f.wards i) = fun i => if i = w.1 then some w.2 else g.wards i
    rw [h]
theorem FSt.ext' {f g : FSt} (h1 : f.caps = g.caps) (h2 : f.names = g.names) (h3 : f.wards = g.wards) (h4 : f.top = g.top) : f = g := by
  cases f; cases g
  cases h1; cases h2; cases h3; cases h4
  rfl
/-- the model's put is the ledger's -/
theorem put_same {f : FSt} {x : Str} {ns : List Int} {ws : List (Int × Int × Int)} (h : ∀ i ∈ ns, ∃ u ∈ ws, u.1 = i) :
    ({ f.forget x with names := fun y => if y = x then some ns else (f.forget x).names y } : FSt).setWs ws = f.take (.put x ns ws) := by
  refine FSt.ext' ?_ ?_ ?_ ?_
  · show _ = ((f.setName x ns).setWs ws).caps
    rw [setWs_caps, setWs_caps]; rfl
  · show _ = ((f.setName x ns).setWs ws).names
    rw [setWs_names, setWs_names]; rfl
  · exact setWs_same ws _ (f.setName x ns) rfl
  · show _ = ((f.setName x ns).setWs ws).top
    rw [setWs_top, setWs_top]
    show (ws.map (·.1)).foldl mx f.top = (ws.map (·.1)).foldl mx (ns.foldl mx f.top)
    refine (mxf_skip fun i hi => ?_).symm
    obtain ⟨u, hu, e⟩ := h i hi
    exact List.mem_map.mpr ⟨u, hu, e⟩
end Rc

set_option Elab.async false
set_option linter.all false
set_option maxRecDepth 100000
set_option maxHeartbeats 4000000
/-! M65: what the law's loop keeps. -/
namespace Rc
open PySem PySem.Spec PyProof.Rows L2 TL
/-- few names, few numbers -/
def Few (f : FSt) (xs : List Str) (is : List Int) : Prop := xs.length < 64 ∧ (∀ x, (f.names x).isSome = true → x ∈ xs) ∧ is.length < 64 ∧ (∀ i, (f.wards i).isSome = true → i ∈ is) ∧ f.caps.length ≤ 1000
/-- a name whose numbers all have wardens, each once -/
def Held (f : FSt) (x : Str) : Prop := ∀ ns, f.names x = some ns → ns.length ≤ 100 ∧ ns.Nodup ∧ ∀ i ∈ ns, (f.wards i).isSome = true
/-- what a list of entries is to be -/
structure EntOk (f : FSt) (ns : List Int) (ws : List (Int × Int × Int)) : Prop where
  old : ∀ u ∈ ws, u.1 ∈ ns ∨ (f.wards u.1).isSome = true
  new : ∀ i ∈ ns, ∃ u ∈ ws, u.1 = i
  up : (ws.map (·.1)).Pairwise (· < ·)
  pair : ∀ u ∈ ws, 0 ≤ u.2.1 ∧ u.2.1 < u.2.2 ∧ u.2.2 < 100
  few : ws.length ≤ 5 + ns.length
def TopOf (f : FSt) (t : Int) : Prop := 0 ≤ t ∧ (t = 0 ∨ (f.wards t).isSome = true) ∧ ∀ i, (f.wards i).isSome = true → i ≤ t
/-- the numbers of a put: consecutive, above the greatest -/
def freshN (f : FSt) (o : Int) (n : Nat) : List Int := (List.range n).map fun (i : Nat) => f.top + 1 + o + (0 + (i : Int))
theorem freshN_mem {f : FSt} {o : Int} {n : Nat} {j : Int} (h : j ∈ freshN f o n) : f.top + 1 + o ≤ j ∧ j ≤ f.top + o + (n : Int) := by
  obtain ⟨i, hi, rfl⟩ := List.mem_map.mp h
  have := List.mem_range.mp hi
  omega
theorem freshN_up (f : FSt) (o : Int) (n : Nat) : (freshN f o n).Pairwise (· < ·) := by
  unfold freshN
  rw [List.pairwise_map]
  exact List.Pairwise.imp (fun {a b} h => by omega) (List.pairwise_lt_range (n := n))
theorem freshN_len (f : FSt) (o : Int) (n : Nat) : (freshN f o n).length = n := by unfold freshN; simp
structure Good (xs : List Str) (B : Int) (f : FSt) : Prop where
  caps2 : 2 ≤ f.caps.length
  caps6 : f.caps.length ≤ 6
  capsN : ∀ c ∈ f.caps, NumOk c
  nm : ∀ x ns, f.names x = some ns → x ∈ xs ∧ ns.Pairwise (· < ·) ∧ ns.length ≤ 5 ∧ ∀ i ∈ ns, (f.wards i).isSome = true
  ap : ∀ x y ns ms i, f.names x = some ns → f.names y = some ms → i ∈ ns → i ∈ ms → x = y
  wd : ∀ i u, f.wards i = some u → 1 ≤ i ∧ i ≤ f.top ∧ NumOk u.1 ∧ NumOk u.2 ∧ u.1 < u.2
  own : ∀ i, (f.wards i).isSome = true → ∃ x ns, f.names x = some ns ∧ i ∈ ns
  top : 0 ≤ f.top ∧ f.top ≤ B
section
variable {xs : List Str} {B : Int} {f : FSt}
def numsOf (xs : List Str) (f : FSt) : List Int := xs.flatMap fun x => ((f.names x).getD []).take 5
theorem numsOf_len (xs : List Str) (f : FSt) : (numsOf xs f).length ≤ xs.length * 5 := by
  induction xs with
  | nil => exact Nat.zero_le _
  | cons x xs ih =>
    have e : numsOf (x :: xs) f = ((f.names x).getD []).take 5 ++ numsOf xs f := rfl
    rw [e, List.length_append, List.length_cons, List.length_take]
    omega
theorem Good.mem (g : Good xs B f) (i : Int) (h : (f.wards i).isSome = true) : i ∈ numsOf xs f := by
  obtain ⟨x, ns, hx, hi⟩ := g.own i h
  obtain ⟨h1, _, h3, _⟩ := g.nm x ns hx
  refine List.mem_flatMap.mpr ⟨x, h1, ?_⟩
  rw [hx]
  show i ∈ ns.take 5
  rw [List.take_of_length_le h3]
  exact hi
theorem Good.few (g : Good xs B f) (h8 : xs.length ≤ 8) : Few f xs (numsOf xs f) := by
  refine ⟨by omega, fun x h => ?_, ?_, g.mem, by have := g.caps6; omega⟩
  · obtain ⟨ns, hn⟩ := Option.isSome_iff_exists.mp h
    exact (g.nm x ns hn).1
  · have := numsOf_len xs f
    omega
theorem up_nodup {l : List Int} (h : l.Pairwise (· < ·)) : l.Nodup := h.imp fun {a b} h => by omega
theorem Good.held (g : Good xs B f) (x : Str) : Held f x := fun ns h => by
  obtain ⟨_, h2, h3, h4⟩ := g.nm x ns h
  exact ⟨by omega, up_nodup h2, h4⟩
theorem Good.le (g : Good xs B f) (i : Int) (h : (f.wards i).isSome = true) : i ≤ f.top := by
  obtain ⟨u, hu⟩ := Option.isSome_iff_exists.mp h
  exact (g.wd i u hu).2.1
theorem Good.mono (g : Good xs B f) {B' : Int} (h : B ≤ B') : Good xs B' f := ⟨g.caps2, g.caps6, g.capsN, g.nm, g.ap, g.wd, g.own, ⟨g.top.1, Int.le_trans g.top.2 h⟩⟩
theorem forget_names {x y : Str} : (f.forget x).names y = if y = x then none else f.names y := rfl
theorem forget_wards {x : Str} {i : Int} : (f.forget x).wards i = if i ∈ (f.names x).getD [] then none else f.wards i := rfl
theorem Good.forget (g : Good xs B f) (x : Str) : Good xs B (f.forget x) := by
  refine ⟨g.caps2, g.caps6, g.capsN, fun y ns h => ?_, fun y z ns ms i hy hz => ?_, fun i u h => ?_, fun i h => ?_, g.top⟩
  · rw [forget_names] at h
    split at h
    · cases h
    · rename_i hyx
      obtain ⟨h1, h2, h3, h4⟩ := g.nm y ns h
      refine ⟨h1, h2, h3, fun i hi => ?_⟩
      rw [forget_wards, if_neg]
      · exact h4 i hi
      · intro hm
        cases q : f.names x with
        | none => rw [q] at hm; cases hm
        | some ms =>
          rw [q] at hm
          exact hyx (g.ap y x ns ms i h q hi hm)
  · rw [forget_names] at hy hz
    split at hy
    · cases hy
    · split at hz
      · cases hz
      · exact g.ap y z ns ms i hy hz
  · rw [forget_wards] at h
    split at h
    · cases h
    · exact g.wd i u h
  · rw [forget_wards] at h
    split at h
    · cases h
    · rename_i hm
      obtain ⟨y, ns, hy, hi⟩ := g.own i h
      refine ⟨y, ns, ?_, hi⟩
      rw [forget_names, if_neg]
      · exact hy
      · intro e
        subst e
        rw [hy] at hm
        exact hm hi
/-- wardens set one after another, each number once -/
theorem setWs_out {ws : List (Int × Int × Int)} {i : Int} : ∀ {f : FSt}, (∀ u ∈ ws, u.1 ≠ i) → (f.setWs ws).wards i = f.wards i := by
  induction ws with
  | nil => intro f _; rfl
  | cons w ws ih =>
    intro f h
    have e : (f.setWs (w :: ws)) = (f.ward w).setWs ws := rfl
    rw [e, ih fun u hu => h u (by simp [hu])]
    show (if i = w.1 then some w.2 else f.wards i) = f.wards i
    rw [if_neg fun z => h w (by simp) z.symm]
theorem setWs_in {ws : List (Int × Int × Int)} {w : Int × Int × Int} : ∀ {f : FSt}, (ws.map (·.1)).Nodup → w ∈ ws → (f.setWs ws).wards w.1 = some w.2 := by
  induction ws with
  | nil => intro f _ h; cases h
  | cons v ws ih =>
    intro f nd h
    have e : (f.setWs (v :: ws)) = (f.ward v).setWs ws := rfl
    rw [List.map_cons, List.nodup_cons] at nd
    rw [e]
    rcases List.mem_cons.mp h with rfl | h
    · rw [setWs_out]
      · show (if w.1 = w.1 then some w.2 else f.wards w.1) = some w.2
        rw [if_pos rfl]
      · intro u hu z
        exact nd.1 (z ▸ List.mem_map_of_mem (f := (·.1)) hu)
    · exact ih nd.2 h
theorem setWs_some {ws : List (Int × Int × Int)} {i : Int} {u : Int × Int} (nd : (ws.map (·.1)).Nodup) (h : (f.setWs ws).wards i = some u) : (i, u) ∈ ws ∨ f.wards i = some u := by
  by_cases c : ∃ w ∈ ws, w.1 = i
  · obtain ⟨w, hw, rfl⟩ := c
    rw [setWs_in nd hw] at h
    cases h
    exact .inl hw
  · rw [setWs_out fun w hw z => c ⟨w, hw, z⟩] at h
    exact .inr h
theorem setWs_isSome {ws : List (Int × Int × Int)} {i : Int} (nd : (ws.map (·.1)).Nodup) : ((f.setWs ws).wards i).isSome = true ↔ (∃ w ∈ ws, w.1 = i) ∨ (f.wards i).isSome = true := by
  by_cases c : ∃ w ∈ ws, w.1 = i
  · obtain ⟨w, hw, rfl⟩ := c
    rw [setWs_in nd hw]
    exact ⟨fun _ => .inl ⟨w, hw, rfl⟩, fun _ => rfl⟩
  · rw [setWs_out fun w hw z => c ⟨w, hw, z⟩]
    exact ⟨.inr, fun h => h.resolve_left c⟩
theorem pair_num {u : Int × Int} (h : 0 ≤ u.1 ∧ u.1 < u.2 ∧ u.2 < 100) : NumOk u.1 ∧ NumOk u.2 ∧ u.1 < u.2 := by unfold NumOk; omega
theorem mxf_le {l : List Int} {t b : Int} (h1 : t ≤ b) (h2 : ∀ x ∈ l, x ≤ b) : l.foldl mx t ≤ b := by
  rcases (mxf_spec l t).2.2 with e | e
  · rw [e]; exact h1
  · exact h2 _ e
/-- other wardens for numbers that are there -/
theorem Good.setWs (g : Good xs B f) {ws : List (Int × Int × Int)} (e : EntOk f [] ws) : Good xs B (f.setWs ws) := by
  have nd := up_nodup e.up
  have hold : ∀ u ∈ ws, (f.wards u.1).isSome = true := fun u hu => (e.old u hu).resolve_left (fun z => nomatch z)
  have ht : (f.setWs ws).top = f.top := by
    rw [setWs_top]
    refine Int.le_antisymm (mxf_le (Int.le_refl _) fun x hx => ?_) (mxf_spec _ _).1
    obtain ⟨u, hu, rfl⟩ := List.mem_map.mp hx
    exact g.le _ (hold u hu)
  refine ⟨by rw [setWs_caps]; exact g.caps2, by rw [setWs_caps]; exact g.caps6, by rw [setWs_caps]; exact g.capsN, fun x ns h => ?_, fun x y ns ms i hx hy => ?_, fun i u h => ?_, fun i h => ?_, by rw [ht]; exact g.top⟩
  · rw [setWs_names] at h
    obtain ⟨h1, h2, h3, h4⟩ := g.nm x ns h
    exact ⟨h1, h2, h3, fun i hi => (setWs_isSome nd).mpr (.inr (h4 i hi))⟩
  · rw [setWs_names] at hx hy
    exact g.ap x y ns ms i hx hy
  · rw [ht]
    rcases setWs_some nd h with h | h
    · obtain ⟨v, hv⟩ := Option.isSome_iff_exists.mp (hold _ h)
      have := g.wd _ v hv
      exact ⟨this.1, this.2.1, pair_num (e.pair _ h)⟩
    · exact g.wd i u h
  · rw [setWs_names]
    rcases (setWs_isSome nd).mp h with ⟨w, hw, rfl⟩ | h
    · exact g.own _ (hold w hw)
    · exact g.own i h
theorem Good.setCap (g : Good xs B f) {s : Nat} {c : Int} (h : NumOk c) : Good xs B { f with caps := f.caps.set s c } := by
  refine ⟨by show 2 ≤ (f.caps.set s c).length; rw [List.length_set]; exact g.caps2, by show (f.caps.set s c).length ≤ 6; rw [List.length_set]; exact g.caps6, fun x hx => ?_, g.nm, g.ap, g.wd, g.own, g.top⟩
  rcases List.mem_or_eq_of_mem_set hx with hx | rfl
  · exact g.capsN x hx
  · exact h
theorem Good.topOf (g : Good xs B f) {t : Int} (h : TopOf f t) : Good xs B { f with top := t } := by
  refine ⟨g.caps2, g.caps6, g.capsN, g.nm, g.ap, fun i u hu => ?_, g.own, ⟨h.1, ?_⟩⟩
  · have := g.wd i u hu
    exact ⟨this.1, h.2.2 i (by rw [hu]; rfl), this.2.2⟩
  · show t ≤ B
    rcases h.2.1 with e | e
    · rw [e]; exact Int.le_trans g.top.1 g.top.2
    · exact Int.le_trans (g.le t e) g.top.2
/-- a put -/
theorem Good.put (g : Good xs B f) {x : Str} (hx : x ∈ xs) {o : Int} {k : Nat} {ws : List (Int × Int × Int)} (o0 : 0 ≤ o) (o1 : o ≤ 50000) (k5 : k ≤ 5) (e : EntOk (f.forget x) (freshN f o k) ws) :
    Good xs (B + 50010) (f.take (.put x (freshN f o k) ws)) := by
  have gf := g.forget x
  have nd := up_nodup e.up
  have hn : ∀ y, (f.take (.put x (freshN f o k) ws)).names y = if y = x then some (freshN f o k) else f.names y := fun y => by
    show ((f.setName x (freshN f o k)).setWs ws).names y = _
    rw [setWs_names]
    show (if y = x then some (freshN f o k) else (if y = x then none else f.names y)) = _
    split <;> rfl
  have hw : (f.take (.put x (freshN f o k) ws)).wards = ((f.forget x).setWs ws).wards := setWs_same ws (f.setName x (freshN f o k)) (f.forget x) rfl
  have hup : ∀ i, (∃ w ∈ ws, w.1 = i) → i ∈ freshN f o k ∨ ((f.forget x).wards i).isSome = true := fun i ⟨w, hw, e'⟩ => e' ▸ e.old w hw
  have ht : (f.take (.put x (freshN f o k) ws)).top = (ws.map (·.1)).foldl mx ((freshN f o k).foldl mx f.top) := setWs_top ws _
  have ht1 : f.top ≤ (f.take (.put x (freshN f o k) ws)).top := by
    rw [ht]
    exact Int.le_trans (mxf_spec _ _).1 (mxf_spec _ _).1
  have ht2 : (f.take (.put x (freshN f o k) ws)).top ≤ B + 50010 := by
    have b := g.top
    have hf : ∀ j ∈ freshN f o k, j ≤ B + 50010 := fun j hj => by have := freshN_mem hj; omega
    rw [ht]
    refine mxf_le (mxf_le (by omega) hf) fun j hj => ?_
    obtain ⟨w, hw, rfl⟩ := List.mem_map.mp hj
    rcases e.old w hw with h | h
    · exact hf _ h
    · have := gf.le _ h
      have t' : (f.forget x).top = f.top := rfl
      omega
  have htn : ∀ i ∈ freshN f o k, i ≤ (f.take (.put x (freshN f o k) ws)).top := fun i hi => by
    rw [ht]
    exact Int.le_trans ((mxf_spec _ f.top).2.1 i hi) (mxf_spec _ _).1
  have hfr : ∀ i ∈ freshN f o k, ¬ (f.wards i).isSome = true := fun i hi z => by
    have := freshN_mem hi
    have := g.le i z
    omega
  have hcaps : (f.take (.put x (freshN f o k) ws)).caps = f.caps := by
    show ((f.setName x (freshN f o k)).setWs ws).caps = _
    rw [setWs_caps]; rfl
  refine ⟨by rw [hcaps]; exact g.caps2, by rw [hcaps]; exact g.caps6, by rw [hcaps]; exact g.capsN, fun y ns h => ?_, fun y z ns ms i hy hz hi hj => ?_, fun i u h => ?_, fun i h => ?_, ⟨Int.le_trans g.top.1 ht1, ht2⟩⟩
  · rw [hn] at h
    split at h
    · rename_i c
      cases h
      refine ⟨c ▸ hx, freshN_up f o k, by rw [freshN_len]; exact k5, fun i hi => ?_⟩
      rw [hw]
      exact (setWs_isSome nd).mpr (.inl (e.new i hi))
    · rename_i c
      obtain ⟨h1, h2, h3, h4⟩ := gf.nm y ns (by rw [forget_names, if_neg c]; exact h)
      refine ⟨h1, h2, h3, fun i hi => ?_⟩
      rw [hw]
      exact (setWs_isSome nd).mpr (.inr (h4 i hi))
  · rw [hn] at hy hz
    split at hy
    · rename_i c
      cases hy
      split at hz
      · rename_i c'
        rw [c, c']
      · exact absurd ((g.nm z ms hz).2.2.2 i hj) (hfr i hi)
    · split at hz
      · cases hz
        exact absurd ((g.nm y ns hy).2.2.2 i hi) (hfr i hj)
      · exact g.ap y z ns ms i hy hz hi hj
  · rw [hw] at h
    rcases setWs_some nd h with h | h
    · have hp := pair_num (e.pair _ h)
      rcases e.old _ h with h' | h'
      · have := freshN_mem h'
        have := g.top
        exact ⟨by omega, htn _ h', hp⟩
      · obtain ⟨v, hv⟩ := Option.isSome_iff_exists.mp h'
        have := gf.wd _ v hv
        exact ⟨this.1, Int.le_trans this.2.1 ht1, hp⟩
    · have := gf.wd i u h
      exact ⟨this.1, Int.le_trans this.2.1 ht1, this.2.2⟩
  · rw [hw] at h
    have key : i ∈ freshN f o k ∨ ((f.forget x).wards i).isSome = true := by
      rcases (setWs_isSome nd).mp h with h | h
      · exact hup i h
      · exact .inr h
    rcases key with h | h
    · exact ⟨x, freshN f o k, by rw [hn, if_pos rfl], h⟩
    · obtain ⟨y, ns, hy, hi⟩ := gf.own i h
      rw [forget_names] at hy
      split at hy
      · cases hy
      · rename_i c
        exact ⟨y, ns, by rw [hn, if_neg c]; exact hy, hi⟩
theorem wsOk_of {f' : FSt} {ns : List Int} {ws : List (Int × Int × Int)} {T : Int} (g : Good xs B f') (e : EntOk f' ns ws) (hn : ∀ i ∈ ns, 1 ≤ i ∧ i ≤ T) (hl : ns.length ≤ 5) (hT : T < 1000000000) (hB : B < 1000000000) : WsOk ws := by
  have key : ∀ u ∈ ws, 1 ≤ u.1 ∧ u.1 < 1000000000 := fun u hu => by
    rcases e.old u hu with h | h
    · have := hn _ h; omega
    · obtain ⟨v, hv⟩ := Option.isSome_iff_exists.mp h
      have := g.wd _ v hv
      have := g.top
      omega
  refine ⟨fun u hu => ⟨?_, ?_, ?_⟩, fun u hu => ⟨(key u hu).1, (e.pair u hu).2.1⟩, e.up, by have := e.few; omega⟩
  · have := key u hu; unfold NumOk; omega
  · have := e.pair u hu; unfold NumOk; omega
  · have := e.pair u hu; unfold NumOk; omega
theorem putOk (g : Good xs B f) (hB : B ≤ 900000000) (hxs : ∀ x ∈ xs, NameOk x) {x : Str} (hx : x ∈ xs) {o : Int} {k : Nat} {ws : List (Int × Int × Int)} (o0 : 0 ≤ o) (o1 : o ≤ 50000) (k5 : k ≤ 5) (e : EntOk (f.forget x) (freshN f o k) ws) :
    RecOk (.put x (freshN f o k) ws) := by
  have b := g.top
  have hm : ∀ i ∈ freshN f o k, 1 ≤ i ∧ i ≤ B + 50005 := fun i hi => by have := freshN_mem hi; omega
  exact ⟨hxs x hx, ⟨fun i hi => by have := hm i hi; unfold NumOk; omega, fun i hi => (hm i hi).1, freshN_up f o k, by rw [freshN_len]; omega⟩, wsOk_of (g.forget x) e hm (by rw [freshN_len]; exact k5) (by omega) (by omega)⟩
theorem wsOk_nil (g : Good xs B f) (hB : B ≤ 900000000) {ws : List (Int × Int × Int)} (e : EntOk f [] ws) : WsOk ws := wsOk_of (T := 0) g e (fun i h => nomatch h) (by decide) (by omega) (by omega)
theorem picOk (g : Good xs B f) (hB : B ≤ 900000000) (h8 : xs.length ≤ 8) (hxs : ∀ x ∈ xs, NameOk x) {names : List (Str × List Int)} {ws : List (Int × Int × Int)} (p : PicOf f names ws) : RecOk (.picture f.caps names ws) := by
  have num : ∀ i, (f.wards i).isSome = true → 1 ≤ i ∧ NumOk i := fun i h => by
    obtain ⟨v, hv⟩ := Option.isSome_iff_exists.mp h
    have := g.wd i v hv
    have := g.top
    unfold NumOk
    omega
  have nd1 : (names.map (·.1)).Nodup := p.up1.imp fun {a b} h e => by rw [e] at h; exact List.lt_irrefl _ h
  have nd2 := up_nodup p.up2
  refine ⟨fun z => by have := g.caps2; rw [z] at this; exact absurd this (by decide), g.capsN, by have := g.caps6; omega, fun q hq => ?_, p.up1, ?_, ?_⟩
  · obtain ⟨x, ns⟩ := q
    obtain ⟨h1, h2, h3, h4⟩ := g.nm x ns ((p.mem1 x ns).mp hq)
    exact ⟨hxs x h1, ⟨fun i hi => (num i (h4 i hi)).2, fun i hi => (num i (h4 i hi)).1, h2, by show ns.length ≤ 100; omega⟩⟩
  · have := nodup_len (m := xs) nd1 fun x hx => by
      obtain ⟨q, hq, rfl⟩ := List.mem_map.mp hx
      exact (g.nm q.1 q.2 ((p.mem1 q.1 q.2).mp hq)).1
    rw [List.length_map] at this
    omega
  · have hl := nodup_len (m := numsOf xs f) nd2 fun i hi => by
      obtain ⟨q, hq, rfl⟩ := List.mem_map.mp hi
      exact g.mem q.1 (by rw [(p.mem2 q.1 q.2).mp hq]; rfl)
    rw [List.length_map] at hl
    have := numsOf_len xs f
    refine ⟨fun u hu => ?_, fun u hu => ?_, p.up2, by omega⟩
    · have hm := (p.mem2 u.1 u.2).mp hu
      have := g.wd _ _ hm
      exact ⟨(num u.1 (by rw [hm]; rfl)).2, this.2.2.1, this.2.2.2.1⟩
    · have hm := (p.mem2 u.1 u.2).mp hu
      have := g.wd _ _ hm
      exact ⟨this.1, this.2.2.2.2⟩
end
/-! ### pictures -/
theorem setName_fold {names : List (Str × List Int)} : ∀ {f : FSt}, (names.map (·.1)).Nodup → (∀ p ∈ names, f.names p.1 = none) →
    (names.foldl (fun f p => f.setName p.1 p.2) f).caps = f.caps ∧ (names.foldl (fun f p => f.setName p.1 p.2) f).wards = f.wards ∧ (names.foldl (fun f p => f.setName p.1 p.2) f).top = (names.flatMap (·.2)).foldl mx f.top ∧
    (∀ p ∈ names, (names.foldl (fun f p => f.setName p.1 p.2) f).names p.1 = some p.2) ∧ ∀ x, (∀ p ∈ names, p.1 ≠ x) → (names.foldl (fun f p => f.setName p.1 p.2) f).names x = f.names x := by
  induction names with
  | nil => intro f _ _; exact ⟨rfl, rfl, rfl, (fun p h => nomatch h), fun x _ => rfl⟩
  | cons q names ih =>
    intro f nd h
    rw [List.map_cons, List.nodup_cons] at nd
    have hq := h q (by simp)
    have hs : ∀ y, (f.setName q.1 q.2).names y = if y = q.1 then some q.2 else f.names y := fun y => by
      show (if y = q.1 then some q.2 else (if y = q.1 then none else f.names y)) = _
      split <;> rfl
    have hne : ∀ p ∈ names, p.1 ≠ q.1 := fun p hp e => nd.1 (e ▸ List.mem_map_of_mem (f := (·.1)) hp)
    obtain ⟨i1, i2, i3, i4, i5⟩ := ih (f := f.setName q.1 q.2) nd.2 fun p hp => by rw [hs, if_neg (hne p hp)]; exact h p (by simp [hp])
    rw [List.foldl_cons]
    refine ⟨i1, ?_, ?_, fun p hp => ?_, fun x hx => ?_⟩
    · rw [i2]
      funext i
      show (if i ∈ (f.names q.1).getD [] then none else f.wards i) = f.wards i
      rw [hq]
      rfl
    · rw [i3, List.flatMap_cons, List.foldl_append]
      rfl
    · rcases List.mem_cons.mp hp with rfl | hp
      · rw [i5 p.1 hne, hs, if_pos rfl]
      · exact i4 p hp
    · rw [i5 x fun p hp => hx p (by simp [hp]), hs, if_neg fun e => hx q (by simp) e.symm]
/-- the ledger of a picture is what the picture was taken of -/
theorem ofPic_back {xs : List Str} {B : Int} {f : FSt} (g : Good xs B f) (ht : TopOf f f.top) {names : List (Str × List Int)} {ws : List (Int × Int × Int)} (p : PicOf f names ws) : ofPic f.caps names ws = f := by
  have nd1 : (names.map (·.1)).Nodup := p.up1.imp fun {a b} h e => by rw [e] at h; exact List.lt_irrefl _ h
  have nd2 := up_nodup p.up2
  obtain ⟨h1, h2, h3, h4, h5⟩ := setName_fold (f := FSt.zero f.caps) nd1 fun q _ => rfl
  refine FSt.ext' ?_ ?_ ?_ ?_
  · unfold ofPic
    rw [setWs_caps, h1]
    rfl
  · funext x
    unfold ofPic
    rw [setWs_names]
    cases q : f.names x with
    | some ns => exact h4 (x, ns) ((p.mem1 x ns).mpr q)
    | none =>
      rw [h5 x]
      · rfl
      · intro r hr e
        have := (p.mem1 r.1 r.2).mp hr
        rw [e, q] at this
        cases this
  · funext i
    unfold ofPic
    cases q : f.wards i with
    | some u => exact setWs_in (w := (i, u)) nd2 ((p.mem2 i u).mpr q)
    | none =>
      rw [setWs_out, h2]
      · rfl
      · intro r hr e
        have := (p.mem2 r.1 r.2).mp hr
        rw [e, q] at this
        cases this
  · unfold ofPic
    rw [setWs_top, h3]
    have hin : ∀ i ∈ names.flatMap (·.2), (f.wards i).isSome = true := fun i hi => by
      obtain ⟨q, hq, hi⟩ := List.mem_flatMap.mp hi
      exact (g.nm q.1 q.2 ((p.mem1 q.1 q.2).mp hq)).2.2.2 i hi
    have hws : ∀ i, (f.wards i).isSome = true ↔ i ∈ ws.map (·.1) := fun i => by
      constructor
      · intro h
        obtain ⟨u, hu⟩ := Option.isSome_iff_exists.mp h
        exact List.mem_map.mpr ⟨(i, u), (p.mem2 i u).mpr hu, rfl⟩
      · intro h
        obtain ⟨q, hq, rfl⟩ := List.mem_map.mp h
        rw [(p.mem2 q.1 q.2).mp hq]; rfl
    show (ws.map (·.1)).foldl mx ((names.flatMap (·.2)).foldl mx 0) = f.top
    rw [mxf_skip fun i hi => (hws i).mp (hin i hi)]
    refine Int.le_antisymm (mxf_le ht.1 fun i hi => g.le i ((hws i).mpr hi)) ?_
    rcases ht.2.1 with e | e
    · rw [e]; exact (mxf_spec _ _).1
    · exact (mxf_spec _ _).2.1 _ ((hws _).mp e)
theorem lex_total {a b : List Nat} : a < b ∨ a = b ∨ b < a := by
  rcases Decidable.em (a < b) with h | h
  · exact .inl h
  · rcases Decidable.em (b < a) with h' | h'
    · exact .inr (.inr h')
    · exact .inr (.inl (List.le_antisymm (List.not_lt.mp h') (List.not_lt.mp h)))
theorem sorted_same {α : Type} {r : α → α → Prop} (irr : ∀ a, ¬ r a a) (tr : ∀ {a b c}, r a b → r b c → r a c) : ∀ {l m : List α}, l.Pairwise r → m.Pairwise r → (∀ x, x ∈ l ↔ x ∈ m) → l = m
  | [], [], _, _, _ => rfl
  | [], b :: m, _, _, h => absurd ((h b).mpr (by simp)) (by simp)
  | a :: l, [], _, _, h => absurd ((h a).mp (by simp)) (by simp)
  | a :: l, b :: m, hl, hm, h => by
    have hl' := List.pairwise_cons.mp hl
    have hm' := List.pairwise_cons.mp hm
    have e : a = b := by
      rcases List.mem_cons.mp ((h a).mp (by simp)) with e | ha
      · exact e
      · rcases List.mem_cons.mp ((h b).mpr (by simp)) with e | hb
        · exact e.symm
        · exact absurd (tr (hm'.1 a ha) (hl'.1 b hb)) (irr b)
    subst e
    rw [sorted_same irr tr hl'.2 hm'.2 fun x => ⟨fun hx => ?_, fun hx => ?_⟩]
    · rcases List.mem_cons.mp ((h x).mp (by simp [hx])) with e | hx'
      · exact absurd (e ▸ hl'.1 x hx) (irr a)
      · exact hx'
    · rcases List.mem_cons.mp ((h x).mpr (by simp [hx])) with e | hx'
      · exact absurd (e ▸ hm'.1 x hx) (irr a)
      · exact hx'
theorem pic_same {f : FSt} {n1 n2 : List (Str × List Int)} {w1 w2 : List (Int × Int × Int)} (p : PicOf f n1 w1) (q : PicOf f n2 w2) : n1 = n2 ∧ w1 = w2 := by
  refine ⟨?_, ?_⟩
  · exact sorted_same (r := fun a b : Str × List Int => tl a.1 < tl b.1) (fun a => List.lt_irrefl _) (fun h1 h2 => List.lt_trans h1 h2) ((List.pairwise_map (f := fun x : Str × List Int => x.1) (R := fun x y : Str => tl x < tl y)).mp p.up1) ((List.pairwise_map (f := fun x : Str × List Int => x.1) (R := fun x y : Str => tl x < tl y)).mp q.up1) fun x => (p.mem1 x.1 x.2).trans (q.mem1 x.1 x.2).symm
  · exact sorted_same (r := fun a b : Int × Int × Int => a.1 < b.1) (fun a => Int.lt_irrefl _) (fun h1 h2 => Int.lt_trans h1 h2) ((List.pairwise_map (f := fun x : Int × Int × Int => x.1) (R := fun x y : Int => x < y)).mp p.up2) ((List.pairwise_map (f := fun x : Int × Int × Int => x.1) (R := fun x y : Int => x < y)).mp q.up2) fun x => (p.mem2 x.1 x.2).trans (q.mem2 x.1 x.2).symm
/-! ### rows of records -/
structure RunOk (rs : List Rec) (f : FSt) : Prop where
  pic : ∃ caps names ws rest, rs = .picture caps names ws :: rest ∧ RecOk (.picture caps names ws) ∧ RowOk caps rest ∧ caps.length = f.caps.length
  rep : replay rs = f
theorem RunOk.snoc {rs : List Rec} {f : FSt} {r : Rec} (h : RunOk rs f) (ok : RecOk r) (cp : ∀ s c ws, r = .cap s c ws → s.toNat < f.caps.length) : RunOk (rs ++ [r]) (f.take r) := by
  obtain ⟨⟨caps, names, ws, rest, rfl, h1, h2, h3⟩, hr⟩ := h
  refine ⟨⟨caps, names, ws, rest ++ [r], rfl, h1, ⟨fun q hq => ?_, fun s c w hm => ?_⟩, by rw [take_caps]; exact h3⟩, ?_⟩
  · rcases List.mem_append.mp hq with hq | hq
    · exact h2.ok q hq
    · rw [List.mem_singleton.mp hq]; exact ok
  · rcases List.mem_append.mp hm with hm | hm
    · exact h2.cap s c w hm
    · rw [h3]; exact cp s c w (List.mem_singleton.mp hm).symm
  · have e : replay (.picture caps names ws :: (rest ++ [r])) = (rest ++ [r]).foldl FSt.take (ofPic caps names ws) := rfl
    have e2 : replay (.picture caps names ws :: rest) = rest.foldl FSt.take (ofPic caps names ws) := rfl
    rw [e2] at hr
    show replay (.picture caps names ws :: (rest ++ [r])) = _
    rw [e, List.foldl_append, hr]
    rfl
theorem RunOk.one {xs : List Str} {B : Int} {f : FSt} (g : Good xs B f) (hB : B ≤ 900000000) (h8 : xs.length ≤ 8) (hxs : ∀ x ∈ xs, NameOk x) (ht : TopOf f f.top) {names : List (Str × List Int)} {ws : List (Int × Int × Int)} (p : PicOf f names ws) : RunOk [.picture f.caps names ws] f :=
  ⟨⟨f.caps, names, ws, [], rfl, picOk g hB h8 hxs p, ⟨(fun r h => nomatch h), (fun s c w h => nomatch h)⟩, rfl⟩, ofPic_back g ht p⟩
theorem RunOk.ok {rs : List Rec} {f : FSt} (h : RunOk rs f) : ∀ r ∈ rs, RecOk r := by
  obtain ⟨⟨caps, names, ws, rest, rfl, h1, h2, _⟩, _⟩ := h
  intro r hr
  rcases List.mem_cons.mp hr with rfl | hr
  · exact h1
  · exact h2.ok r hr
/-- the ledger of any picture: the greatest number is that of the picture -/
theorem ofPic_any {xs : List Str} {B : Int} {f : FSt} (g : Good xs B f) {names : List (Str × List Int)} {ws : List (Int × Int × Int)} (p : PicOf f names ws) : ∃ t, TopOf f t ∧ ofPic f.caps names ws = { f with top := t } := by
  have ht : TopOf f ((ws.map (·.1)).foldl mx 0) := by
    obtain ⟨h1, h2, h3⟩ := mxf_spec (ws.map (·.1)) 0
    have hws : ∀ i, (f.wards i).isSome = true ↔ i ∈ ws.map (·.1) := fun i => by
      constructor
      · intro h
        obtain ⟨u, hu⟩ := Option.isSome_iff_exists.mp h
        exact List.mem_map.mpr ⟨(i, u), (p.mem2 i u).mpr hu, rfl⟩
      · intro h
        obtain ⟨q, hq, rfl⟩ := List.mem_map.mp h
        rw [(p.mem2 q.1 q.2).mp hq]; rfl
    exact ⟨h1, h3.imp id fun h => (hws _).mpr h, fun i hi => h2 i ((hws i).mp hi)⟩
  have p2 : PicOf { f with top := (ws.map (·.1)).foldl mx 0 } names ws := ⟨p.up1, p.mem1, p.up2, p.mem2⟩
  exact ⟨_, ht, ofPic_back (g.topOf ht) ht p2⟩
theorem top_one {f : FSt} {s t : Int} (h : TopOf f s) (k : TopOf f t) : s = t := by
  obtain ⟨a1, a2, a3⟩ := h
  obtain ⟨b1, b2, b3⟩ := k
  have : s ≤ t := by
    rcases a2 with e | e
    · omega
    · exact b3 s e
  have : t ≤ s := by
    rcases b2 with e | e
    · omega
    · exact a3 t e
  omega
end Rc

set_option Elab.async false
set_option linter.all false
set_option maxRecDepth 100000
set_option maxHeartbeats 8000000
namespace Q
open PySem PySem.Spec PyProof.Rows L2 TL PW Rc
def top (i : Nat) : Stmt := PySem.Challenge.pw_pairwarden_k64_whole_ledger.main.body.getD i (.Pass ⟨0, 0, 0, 0⟩)
abbrev s_L_draws : Stmt := top 47
abbrev s_L_top : Stmt := top 58
abbrev s_Ledger__set_wardens : Stmt := inClass (top 24) 3
abbrev s_Ledger__forget : Stmt := inClass (top 24) 2
abbrev s_Ledger__set_name : Stmt := inClass (top 24) 1
abbrev s_Ledger__take : Stmt := inClass (top 24) 4
abbrev s_Ledger_init : Stmt := inClass (top 24) 0
abbrev s_L_no_other : Stmt := top 62
abbrev s_L_refused : Stmt := top 63
abbrev s_L_names : Stmt := top 49
abbrev s_L_forget : Stmt := top 56
abbrev s_L_pairs : Stmt := top 51
abbrev s_L_bits : Stmt := top 50
abbrev s_L_entries : Stmt := top 54
abbrev s_L_set : Stmt := top 55
abbrev s_L_put : Stmt := top 57
abbrev s_L_picture : Stmt := top 53
abbrev s_warden_text : Stmt := top 34
abbrev s_list_text : Stmt := top 30
abbrev s_named_text : Stmt := top 32
abbrev s_head_words : Stmt := top 37
abbrev s_record_text : Stmt := top 38
abbrev s_L_is_integer : Stmt := top 48
abbrev s_L_alike : Stmt := top 52
abbrev s_L_says : Stmt := top 60
abbrev s_Ledger_to_picture : Stmt := inClass (top 24) 5
abbrev s_L_is_told : Stmt := top 61
abbrev s_L_record : Stmt := top 59
abbrev s_number_of : Stmt := top 27
abbrev s_read_list : Stmt := top 31
abbrev s_is_name : Stmt := top 28
abbrev s_is_rising : Stmt := top 26
abbrev s_read_named : Stmt := top 33
abbrev s_read_cap : Stmt := top 40
abbrev s_read_picture : Stmt := top 39
abbrev s_read_head : Stmt := top 41
abbrev s_read_warden : Stmt := top 35
abbrev s_read_wardens : Stmt := top 36
abbrev s_read_record : Stmt := top 42
abbrev s_counted : Stmt := top 43
abbrev s_read_log : Stmt := top 44
abbrev s_L_cell : Stmt := top 46
abbrev s_law : Stmt := top 64
theorem sc_L_draws : FnScope ["_law_cell_here", "_law_sizes", "_law_left", "_law_digits", "_law_drawn", "_law_k", "_law_size", "_law_mixed"] ["_law_cell_here", "_law_sizes"] (defScope s_L_draws) := ⟨rfl, rfl, rfl, by decide +kernel, rfl, by decide +kernel, by decide +kernel⟩
theorem sc_L_top : FnScope ["_law_model"] ["_law_model"] (defScope s_L_top) := ⟨rfl, rfl, rfl, by decide +kernel, rfl, by decide +kernel, by decide +kernel⟩
theorem sc_Ledger__set_wardens : FnScope ["self", "entries", "number", "low", "high"] ["self", "entries"] (defScope s_Ledger__set_wardens) := ⟨rfl, rfl, rfl, by decide +kernel, rfl, by decide +kernel, by decide +kernel⟩
theorem sc_Ledger__forget : FnScope ["self", "name", "number"] ["self", "name"] (defScope s_Ledger__forget) := ⟨rfl, rfl, rfl, by decide +kernel, rfl, by decide +kernel, by decide +kernel⟩
theorem sc_Ledger__set_name : FnScope ["self", "name", "numbers", "number"] ["self", "name", "numbers"] (defScope s_Ledger__set_name) := ⟨rfl, rfl, rfl, by decide +kernel, rfl, by decide +kernel, by decide +kernel⟩
theorem sc_Ledger__take : FnScope ["self", "record"] ["self", "record"] (defScope s_Ledger__take) := ⟨rfl, rfl, rfl, by decide +kernel, rfl, by decide +kernel, by decide +kernel⟩
theorem sc_Ledger_init : FnScope ["self", "records", "picture", "name", "numbers", "record"] ["self", "records"] (defScope s_Ledger_init) := ⟨rfl, rfl, rfl, by decide +kernel, rfl, by decide +kernel, by decide +kernel⟩
theorem sc_L_no_other : FnScope ["_law_e"] ["_law_e"] (defScope s_L_no_other) := ⟨rfl, rfl, rfl, by decide +kernel, rfl, by decide +kernel, by decide +kernel⟩
theorem sc_L_refused : FnScope ["_law_records", "_law_e"] ["_law_records"] (defScope s_L_refused) := ⟨rfl, rfl, rfl, by decide +kernel, rfl, by decide +kernel, by decide +kernel⟩
theorem sc_L_names : FnScope ["_law_cell_here", "_law_drawn", "_law_signs", "_law_stem", "_law_names_here", "_law_k", "_law_spot"] ["_law_cell_here"] (defScope s_L_names) := ⟨rfl, rfl, rfl, by decide +kernel, rfl, by decide +kernel, by decide +kernel⟩
theorem sc_L_forget : FnScope ["_law_model", "_law_name", "_law_wardens", "_law_numbers", "_law_number"] ["_law_model", "_law_name"] (defScope s_L_forget) := ⟨rfl, rfl, rfl, by decide +kernel, rfl, by decide +kernel, by decide +kernel⟩
theorem sc_L_pairs : FnScope ["_law_seats", "_law_pairs_here", "_law_low", "_law_high"] ["_law_seats"] (defScope s_L_pairs) := ⟨rfl, rfl, rfl, by decide +kernel, rfl, by decide +kernel, by decide +kernel⟩
theorem sc_L_bits : FnScope ["_law_mask", "_law_count", "_law_k"] ["_law_mask", "_law_count"] (defScope s_L_bits) := ⟨rfl, rfl, rfl, by decide +kernel, rfl, by decide +kernel, by decide +kernel⟩
theorem sc_L_entries : FnScope ["_law_model", "_law_row", "_law_numbers", "_law_stored", "_law_pairs_here", "_law_chosen", "_law_entries_here", "_law_number", "_law_pair", "_law_spot"] ["_law_model", "_law_row", "_law_numbers"] (defScope s_L_entries) := ⟨rfl, rfl, rfl, by decide +kernel, rfl, by decide +kernel, by decide +kernel⟩
theorem sc_L_set : FnScope ["_law_model", "_law_entries_here", "_law_wardens", "_law_entry"] ["_law_model", "_law_entries_here"] (defScope s_L_set) := ⟨rfl, rfl, rfl, by decide +kernel, rfl, by decide +kernel, by decide +kernel⟩
theorem sc_L_put : FnScope ["_law_model", "_law_name", "_law_row", "_law_first", "_law_numbers", "_law_entries_here", "_law_step"] ["_law_model", "_law_name", "_law_row"] (defScope s_L_put) := ⟨rfl, rfl, rfl, by decide +kernel, rfl, by decide +kernel, by decide +kernel⟩
theorem sc_L_picture : FnScope ["_law_model", "_law_names_here", "_law_wardens", "_law_name", "_law_number"] ["_law_model"] (defScope s_L_picture) := ⟨rfl, rfl, rfl, by decide +kernel, rfl, by decide +kernel, by decide +kernel⟩
theorem sc_warden_text : FnScope ["entries", "entry"] ["entries"] (defScope s_warden_text) := ⟨rfl, rfl, rfl, by decide +kernel, rfl, by decide +kernel, by decide +kernel⟩
theorem sc_list_text : FnScope ["numbers", "number"] ["numbers"] (defScope s_list_text) := ⟨rfl, rfl, rfl, by decide +kernel, rfl, by decide +kernel, by decide +kernel⟩
theorem sc_named_text : FnScope ["name", "numbers"] ["name", "numbers"] (defScope s_named_text) := ⟨rfl, rfl, rfl, by decide +kernel, rfl, by decide +kernel, by decide +kernel⟩
theorem sc_head_words : FnScope ["record", "name", "numbers"] ["record"] (defScope s_head_words) := ⟨rfl, rfl, rfl, by decide +kernel, rfl, by decide +kernel, by decide +kernel⟩
theorem sc_record_text : FnScope ["record"] ["record"] (defScope s_record_text) := ⟨rfl, rfl, rfl, by decide +kernel, rfl, by decide +kernel, by decide +kernel⟩
theorem sc_L_is_integer : FnScope ["_law_actual"] ["_law_actual"] (defScope s_L_is_integer) := ⟨rfl, rfl, rfl, by decide +kernel, rfl, by decide +kernel, by decide +kernel⟩
theorem sc_L_alike : FnScope ["_law_actual", "_law_due", "_law_k"] ["_law_actual", "_law_due"] (defScope s_L_alike) := ⟨rfl, rfl, rfl, by decide +kernel, rfl, by decide +kernel, by decide +kernel⟩
theorem sc_L_says : FnScope ["_law_ledger", "_law_model", "_law_name", "_law_number"] ["_law_ledger", "_law_model"] (defScope s_L_says) := ⟨rfl, rfl, rfl, by decide +kernel, rfl, by decide +kernel, by decide +kernel⟩
theorem sc_Ledger_to_picture : FnScope ["self", "names", "wardens", "name", "number"] ["self"] (defScope s_Ledger_to_picture) := ⟨rfl, rfl, rfl, by decide +kernel, rfl, by decide +kernel, by decide +kernel⟩
theorem sc_L_is_told : FnScope ["_law_records", "_law_model", "_law_handed", "_law_ledger", "_law_picture_here"] ["_law_records", "_law_model"] (defScope s_L_is_told) := ⟨rfl, rfl, rfl, by decide +kernel, rfl, by decide +kernel, by decide +kernel⟩
theorem sc_L_record : FnScope ["_law_model", "_law_names_here", "_law_row", "_law_name", "_law_entries_here", "_law_seat"] ["_law_model", "_law_names_here", "_law_row"] (defScope s_L_record) := ⟨rfl, rfl, rfl, by decide +kernel, rfl, by decide +kernel, by decide +kernel⟩
theorem sc_number_of : FnScope ["text", "sign"] ["text"] (defScope s_number_of) := ⟨rfl, rfl, rfl, by decide +kernel, rfl, by decide +kernel, by decide +kernel⟩
theorem sc_read_list : FnScope ["text", "numbers", "part"] ["text"] (defScope s_read_list) := ⟨rfl, rfl, rfl, by decide +kernel, rfl, by decide +kernel, by decide +kernel⟩
theorem sc_is_name : FnScope ["text", "sign"] ["text"] (defScope s_is_name) := ⟨rfl, rfl, rfl, by decide +kernel, rfl, by decide +kernel, by decide +kernel⟩
theorem sc_is_rising : FnScope ["numbers", "index"] ["numbers"] (defScope s_is_rising) := ⟨rfl, rfl, rfl, by decide +kernel, rfl, by decide +kernel, by decide +kernel⟩
theorem sc_read_named : FnScope ["word", "parts", "numbers"] ["word"] (defScope s_read_named) := ⟨rfl, rfl, rfl, by decide +kernel, rfl, by decide +kernel, by decide +kernel⟩
theorem sc_read_cap : FnScope ["words", "seat", "cap"] ["words"] (defScope s_read_cap) := ⟨rfl, rfl, rfl, by decide +kernel, rfl, by decide +kernel, by decide +kernel⟩
theorem sc_read_picture : FnScope ["words", "caps", "names", "word", "name", "numbers"] ["words"] (defScope s_read_picture) := ⟨rfl, rfl, rfl, by decide +kernel, rfl, by decide +kernel, by decide +kernel⟩
theorem sc_read_head : FnScope ["words", "named"] ["words"] (defScope s_read_head) := ⟨rfl, rfl, rfl, by decide +kernel, rfl, by decide +kernel, by decide +kernel⟩
theorem sc_read_warden : FnScope ["word", "parts", "number", "pair"] ["word"] (defScope s_read_warden) := ⟨rfl, rfl, rfl, by decide +kernel, rfl, by decide +kernel, by decide +kernel⟩
theorem sc_read_wardens : FnScope ["words", "entries", "word", "entry"] ["words"] (defScope s_read_wardens) := ⟨rfl, rfl, rfl, by decide +kernel, rfl, by decide +kernel, by decide +kernel⟩
theorem sc_read_record : FnScope ["text", "words", "stroke", "head", "wardens"] ["text"] (defScope s_read_record) := ⟨rfl, rfl, rfl, by decide +kernel, rfl, by decide +kernel, by decide +kernel⟩
theorem sc_counted : FnScope ["log", "records", "end", "index", "record"] ["log"] (defScope s_counted) := ⟨rfl, rfl, rfl, by decide +kernel, rfl, by decide +kernel, by decide +kernel⟩
theorem sc_read_log : FnScope ["log"] ["log"] (defScope s_read_log) := ⟨rfl, rfl, rfl, by decide +kernel, rfl, by decide +kernel, by decide +kernel⟩
theorem sc_L_cell : FnScope ["_law_script", "_law_k"] ["_law_script", "_law_k"] (defScope s_L_cell) := ⟨rfl, rfl, rfl, by decide +kernel, rfl, by decide +kernel, by decide +kernel⟩
theorem sc_law : FnScope ["_law_script", "_law_names_here", "_law_sizes", "_law_drawn", "_law_model", "_law_k", "_law_row", "_law_records", "_law_texts", "_law_record_here", "_law_ledger", "_law_first"] ["_law_script"] (defScope s_law) := ⟨rfl, rfl, rfl, by decide +kernel, rfl, by decide +kernel, by decide +kernel⟩
/-- where things stand behind the top -/
structure Ad where
  a_L_draws : Addr
  d_L_draws : FuncData
  a_L_top : Addr
  d_L_top : FuncData
  a_Ledger__set_wardens : Addr
  d_Ledger__set_wardens : FuncData
  a_Ledger__forget : Addr
  d_Ledger__forget : FuncData
  a_Ledger__set_name : Addr
  d_Ledger__set_name : FuncData
  a_Ledger__take : Addr
  d_Ledger__take : FuncData
  a_Ledger_init : Addr
  d_Ledger_init : FuncData
  a_L_no_other : Addr
  d_L_no_other : FuncData
  a_L_refused : Addr
  d_L_refused : FuncData
  a_L_names : Addr
  d_L_names : FuncData
  a_L_forget : Addr
  d_L_forget : FuncData
  a_L_pairs : Addr
  d_L_pairs : FuncData
  a_L_bits : Addr
  d_L_bits : FuncData
  a_L_entries : Addr
  d_L_entries : FuncData
  a_L_set : Addr
  d_L_set : FuncData
  a_L_put : Addr
  d_L_put : FuncData
  a_L_picture : Addr
  d_L_picture : FuncData
  a_warden_text : Addr
  d_warden_text : FuncData
  a_list_text : Addr
  d_list_text : FuncData
  a_named_text : Addr
  d_named_text : FuncData
  a_head_words : Addr
  d_head_words : FuncData
  a_record_text : Addr
  d_record_text : FuncData
  a_L_is_integer : Addr
  d_L_is_integer : FuncData
  a_L_alike : Addr
  d_L_alike : FuncData
  a_L_says : Addr
  d_L_says : FuncData
  a_Ledger_to_picture : Addr
  d_Ledger_to_picture : FuncData
  a_L_is_told : Addr
  d_L_is_told : FuncData
  a_L_record : Addr
  d_L_record : FuncData
  a_number_of : Addr
  d_number_of : FuncData
  a_read_list : Addr
  d_read_list : FuncData
  a_is_name : Addr
  d_is_name : FuncData
  a_is_rising : Addr
  d_is_rising : FuncData
  a_read_named : Addr
  d_read_named : FuncData
  a_read_cap : Addr
  d_read_cap : FuncData
  a_read_picture : Addr
  d_read_picture : FuncData
  a_read_head : Addr
  d_read_head : FuncData
  a_read_warden : Addr
  d_read_warden : FuncData
  a_read_wardens : Addr
  d_read_wardens : FuncData
  a_read_record : Addr
  d_read_record : FuncData
  a_counted : Addr
  d_counted : FuncData
  a_read_log : Addr
  d_read_log : FuncData
  a_L_cell : Addr
  d_L_cell : FuncData
  a_law : Addr
  d_law : FuncData
  A_Ledger : Addr
  A_PoolError : Addr
  A_InvalidPool : Addr
  A_InvalidChoice : Addr
  A_InvalidText : Addr
  A_InvalidDeed : Addr
  A_NothingToUndo : Addr
  A_NothingToRedo : Addr
  A_InvalidDealing : Addr
  A_InvalidTarget : Addr
  A_NoStore : Addr
  A_PowerCut : Addr
  A_InvalidSends : Addr
  A_InvalidTable : Addr
  A_Unsafe : Addr
  A_CannotHold : Addr
  A_Unfinished : Addr
  A_InvalidName : Addr
  A_Missing : Addr
  A_Lost : Addr
  A_InvalidSeats : Addr
  A_InvalidCopy : Addr
  A_InvalidLine : Addr
structure Txt (K : PySem.W.Frag) (mg : Str → Option Value) (A : Ad) : Prop where
  F_L_draws : Fun K "_law_draws" "_law_draws" s_L_draws A.a_L_draws A.d_L_draws
  b_L_draws : Binds K A.d_L_draws ["_law_cell_here", "_law_sizes"] []
  g_L_draws : mg "_law_draws" = some (.ref A.a_L_draws)
  F_L_top : Fun K "_law_top" "_law_top" s_L_top A.a_L_top A.d_L_top
  b_L_top : Binds K A.d_L_top ["_law_model"] []
  g_L_top : mg "_law_top" = some (.ref A.a_L_top)
  F_Ledger__set_wardens : Fun K "_set_wardens" "Ledger._set_wardens" s_Ledger__set_wardens A.a_Ledger__set_wardens A.d_Ledger__set_wardens
  b_Ledger__set_wardens : Binds K A.d_Ledger__set_wardens ["self", "entries"] []
  m_Ledger__set_wardens : Meth K A.A_Ledger "_set_wardens" A.a_Ledger__set_wardens
  F_Ledger__forget : Fun K "_forget" "Ledger._forget" s_Ledger__forget A.a_Ledger__forget A.d_Ledger__forget
  b_Ledger__forget : Binds K A.d_Ledger__forget ["self", "name"] []
  m_Ledger__forget : Meth K A.A_Ledger "_forget" A.a_Ledger__forget
  F_Ledger__set_name : Fun K "_set_name" "Ledger._set_name" s_Ledger__set_name A.a_Ledger__set_name A.d_Ledger__set_name
  b_Ledger__set_name : Binds K A.d_Ledger__set_name ["self", "name", "numbers"] []
  m_Ledger__set_name : Meth K A.A_Ledger "_set_name" A.a_Ledger__set_name
  F_Ledger__take : Fun K "_take" "Ledger._take" s_Ledger__take A.a_Ledger__take A.d_Ledger__take
  b_Ledger__take : Binds K A.d_Ledger__take ["self", "record"] []
  m_Ledger__take : Meth K A.A_Ledger "_take" A.a_Ledger__take
  F_Ledger_init : Fun K "__init__" "Ledger.__init__" s_Ledger_init A.a_Ledger_init A.d_Ledger_init
  b_Ledger_init : Binds K A.d_Ledger_init ["self", "records"] []
  M_Ledger : Mk K A.A_Ledger A.a_Ledger_init
  F_L_no_other : Fun K "_law_no_other" "_law_no_other" s_L_no_other A.a_L_no_other A.d_L_no_other
  b_L_no_other : Binds K A.d_L_no_other ["_law_e"] []
  g_L_no_other : mg "_law_no_other" = some (.ref A.a_L_no_other)
  F_L_refused : Fun K "_law_refused" "_law_refused" s_L_refused A.a_L_refused A.d_L_refused
  b_L_refused : Binds K A.d_L_refused ["_law_records"] []
  g_L_refused : mg "_law_refused" = some (.ref A.a_L_refused)
  F_L_names : Fun K "_law_names" "_law_names" s_L_names A.a_L_names A.d_L_names
  b_L_names : Binds K A.d_L_names ["_law_cell_here"] []
  g_L_names : mg "_law_names" = some (.ref A.a_L_names)
  F_L_forget : Fun K "_law_forget" "_law_forget" s_L_forget A.a_L_forget A.d_L_forget
  b_L_forget : Binds K A.d_L_forget ["_law_model", "_law_name"] []
  g_L_forget : mg "_law_forget" = some (.ref A.a_L_forget)
  F_L_pairs : Fun K "_law_pairs" "_law_pairs" s_L_pairs A.a_L_pairs A.d_L_pairs
  b_L_pairs : Binds K A.d_L_pairs ["_law_seats"] []
  g_L_pairs : mg "_law_pairs" = some (.ref A.a_L_pairs)
  F_L_bits : Fun K "_law_bits" "_law_bits" s_L_bits A.a_L_bits A.d_L_bits
  b_L_bits : Binds K A.d_L_bits ["_law_mask", "_law_count"] []
  g_L_bits : mg "_law_bits" = some (.ref A.a_L_bits)
  F_L_entries : Fun K "_law_entries" "_law_entries" s_L_entries A.a_L_entries A.d_L_entries
  b_L_entries : Binds K A.d_L_entries ["_law_model", "_law_row", "_law_numbers"] []
  g_L_entries : mg "_law_entries" = some (.ref A.a_L_entries)
  F_L_set : Fun K "_law_set" "_law_set" s_L_set A.a_L_set A.d_L_set
  b_L_set : Binds K A.d_L_set ["_law_model", "_law_entries_here"] []
  g_L_set : mg "_law_set" = some (.ref A.a_L_set)
  F_L_put : Fun K "_law_put" "_law_put" s_L_put A.a_L_put A.d_L_put
  b_L_put : Binds K A.d_L_put ["_law_model", "_law_name", "_law_row"] []
  g_L_put : mg "_law_put" = some (.ref A.a_L_put)
  F_L_picture : Fun K "_law_picture" "_law_picture" s_L_picture A.a_L_picture A.d_L_picture
  b_L_picture : Binds K A.d_L_picture ["_law_model"] []
  g_L_picture : mg "_law_picture" = some (.ref A.a_L_picture)
  F_warden_text : Fun K "warden_text" "warden_text" s_warden_text A.a_warden_text A.d_warden_text
  b_warden_text : Binds K A.d_warden_text ["entries"] []
  g_warden_text : mg "warden_text" = some (.ref A.a_warden_text)
  F_list_text : Fun K "list_text" "list_text" s_list_text A.a_list_text A.d_list_text
  b_list_text : Binds K A.d_list_text ["numbers"] []
  g_list_text : mg "list_text" = some (.ref A.a_list_text)
  F_named_text : Fun K "named_text" "named_text" s_named_text A.a_named_text A.d_named_text
  b_named_text : Binds K A.d_named_text ["name", "numbers"] []
  g_named_text : mg "named_text" = some (.ref A.a_named_text)
  F_head_words : Fun K "head_words" "head_words" s_head_words A.a_head_words A.d_head_words
  b_head_words : Binds K A.d_head_words ["record"] []
  g_head_words : mg "head_words" = some (.ref A.a_head_words)
  F_record_text : Fun K "record_text" "record_text" s_record_text A.a_record_text A.d_record_text
  b_record_text : Binds K A.d_record_text ["record"] []
  g_record_text : mg "record_text" = some (.ref A.a_record_text)
  F_L_is_integer : Fun K "_law_is_integer" "_law_is_integer" s_L_is_integer A.a_L_is_integer A.d_L_is_integer
  b_L_is_integer : Binds K A.d_L_is_integer ["_law_actual"] []
  g_L_is_integer : mg "_law_is_integer" = some (.ref A.a_L_is_integer)
  F_L_alike : Fun K "_law_alike" "_law_alike" s_L_alike A.a_L_alike A.d_L_alike
  b_L_alike : Binds K A.d_L_alike ["_law_actual", "_law_due"] []
  g_L_alike : mg "_law_alike" = some (.ref A.a_L_alike)
  F_L_says : Fun K "_law_says" "_law_says" s_L_says A.a_L_says A.d_L_says
  b_L_says : Binds K A.d_L_says ["_law_ledger", "_law_model"] []
  g_L_says : mg "_law_says" = some (.ref A.a_L_says)
  F_Ledger_to_picture : Fun K "to_picture" "Ledger.to_picture" s_Ledger_to_picture A.a_Ledger_to_picture A.d_Ledger_to_picture
  b_Ledger_to_picture : Binds K A.d_Ledger_to_picture ["self"] []
  m_Ledger_to_picture : Meth K A.A_Ledger "to_picture" A.a_Ledger_to_picture
  F_L_is_told : Fun K "_law_is_told" "_law_is_told" s_L_is_told A.a_L_is_told A.d_L_is_told
  b_L_is_told : Binds K A.d_L_is_told ["_law_records", "_law_model"] []
  g_L_is_told : mg "_law_is_told" = some (.ref A.a_L_is_told)
  F_L_record : Fun K "_law_record" "_law_record" s_L_record A.a_L_record A.d_L_record
  b_L_record : Binds K A.d_L_record ["_law_model", "_law_names_here", "_law_row"] []
  g_L_record : mg "_law_record" = some (.ref A.a_L_record)
  F_number_of : Fun K "number_of" "number_of" s_number_of A.a_number_of A.d_number_of
  b_number_of : Binds K A.d_number_of ["text"] []
  g_number_of : mg "number_of" = some (.ref A.a_number_of)
  F_read_list : Fun K "read_list" "read_list" s_read_list A.a_read_list A.d_read_list
  b_read_list : Binds K A.d_read_list ["text"] []
  g_read_list : mg "read_list" = some (.ref A.a_read_list)
  F_is_name : Fun K "is_name" "is_name" s_is_name A.a_is_name A.d_is_name
  b_is_name : Binds K A.d_is_name ["text"] []
  g_is_name : mg "is_name" = some (.ref A.a_is_name)
  F_is_rising : Fun K "is_rising" "is_rising" s_is_rising A.a_is_rising A.d_is_rising
  b_is_rising : Binds K A.d_is_rising ["numbers"] []
  g_is_rising : mg "is_rising" = some (.ref A.a_is_rising)
  F_read_named : Fun K "read_named" "read_named" s_read_named A.a_read_named A.d_read_named
  b_read_named : Binds K A.d_read_named ["word"] []
  g_read_named : mg "read_named" = some (.ref A.a_read_named)
  F_read_cap : Fun K "read_cap" "read_cap" s_read_cap A.a_read_cap A.d_read_cap
  b_read_cap : Binds K A.d_read_cap ["words"] []
  g_read_cap : mg "read_cap" = some (.ref A.a_read_cap)
  F_read_picture : Fun K "read_picture" "read_picture" s_read_picture A.a_read_picture A.d_read_picture
  b_read_picture : Binds K A.d_read_picture ["words"] []
  g_read_picture : mg "read_picture" = some (.ref A.a_read_picture)
  F_read_head : Fun K "read_head" "read_head" s_read_head A.a_read_head A.d_read_head
  b_read_head : Binds K A.d_read_head ["words"] []
  g_read_head : mg "read_head" = some (.ref A.a_read_head)
  F_read_warden : Fun K "read_warden" "read_warden" s_read_warden A.a_read_warden A.d_read_warden
  b_read_warden : Binds K A.d_read_warden ["word"] []
  g_read_warden : mg "read_warden" = some (.ref A.a_read_warden)
  F_read_wardens : Fun K "read_wardens" "read_wardens" s_read_wardens A.a_read_wardens A.d_read_wardens
  b_read_wardens : Binds K A.d_read_wardens ["words"] []
  g_read_wardens : mg "read_wardens" = some (.ref A.a_read_wardens)
  F_read_record : Fun K "read_record" "read_record" s_read_record A.a_read_record A.d_read_record
  b_read_record : Binds K A.d_read_record ["text"] []
  g_read_record : mg "read_record" = some (.ref A.a_read_record)
  F_counted : Fun K "counted" "counted" s_counted A.a_counted A.d_counted
  b_counted : Binds K A.d_counted ["log"] []
  g_counted : mg "counted" = some (.ref A.a_counted)
  F_read_log : Fun K "read_log" "read_log" s_read_log A.a_read_log A.d_read_log
  b_read_log : Binds K A.d_read_log ["log"] []
  g_read_log : mg "read_log" = some (.ref A.a_read_log)
  F_L_cell : Fun K "_law_cell" "_law_cell" s_L_cell A.a_L_cell A.d_L_cell
  b_L_cell : Binds K A.d_L_cell ["_law_script", "_law_k"] []
  g_L_cell : mg "_law_cell" = some (.ref A.a_L_cell)
  F_law : Fun K "law" "law" s_law A.a_law A.d_law
  b_law : Binds K A.d_law ["_law_script"] []
  g_law : mg "law" = some (.ref A.a_law)
  cl_Ledger : Cls K A.A_Ledger
  g_Ledger : mg "Ledger" = some (.ref A.A_Ledger)
  o_Ledger_caps : NoAttr K A.A_Ledger "caps"
  o_Ledger_names : NoAttr K A.A_Ledger "names"
  o_Ledger_wardens : NoAttr K A.A_Ledger "wardens"
  o_Ledger_top : NoAttr K A.A_Ledger "top"
  g_PoolError : mg "PoolError" = some (.ref A.A_PoolError)
  x_PoolError : PySem.W.excIn K A.A_PoolError [.type "ValueError", .type "Exception", .type "BaseException", .type "object"] "ValueError.__new__" = true
  k_PoolError : PySem.W.keepIn K (.ref A.A_PoolError) = true
  xb_PoolError : PySem.W.subIn K (.ref A.A_PoolError) (.type "BaseException") = some true
  xt_PoolError : PySem.W.typeIn K (.ref A.A_PoolError) = some (.type "type")
  xe_PoolError : PySem.W.exmOne K (.ref A.A_PoolError) (.ref A.A_PoolError) = some true
  g_InvalidPool : mg "InvalidPool" = some (.ref A.A_InvalidPool)
  g_InvalidChoice : mg "InvalidChoice" = some (.ref A.A_InvalidChoice)
  g_InvalidText : mg "InvalidText" = some (.ref A.A_InvalidText)
  g_InvalidDeed : mg "InvalidDeed" = some (.ref A.A_InvalidDeed)
  g_NothingToUndo : mg "NothingToUndo" = some (.ref A.A_NothingToUndo)
  g_NothingToRedo : mg "NothingToRedo" = some (.ref A.A_NothingToRedo)
  g_InvalidDealing : mg "InvalidDealing" = some (.ref A.A_InvalidDealing)
  g_InvalidTarget : mg "InvalidTarget" = some (.ref A.A_InvalidTarget)
  g_NoStore : mg "NoStore" = some (.ref A.A_NoStore)
  x_NoStore : PySem.W.excIn K A.A_NoStore [.type "ValueError", .type "Exception", .type "BaseException", .type "object"] "ValueError.__new__" = true
  k_NoStore : PySem.W.keepIn K (.ref A.A_NoStore) = true
  xb_NoStore : PySem.W.subIn K (.ref A.A_NoStore) (.type "BaseException") = some true
  xt_NoStore : PySem.W.typeIn K (.ref A.A_NoStore) = some (.type "type")
  xe_NoStore : PySem.W.exmOne K (.ref A.A_NoStore) (.ref A.A_NoStore) = some true
  g_PowerCut : mg "PowerCut" = some (.ref A.A_PowerCut)
  g_InvalidSends : mg "InvalidSends" = some (.ref A.A_InvalidSends)
  g_InvalidTable : mg "InvalidTable" = some (.ref A.A_InvalidTable)
  g_Unsafe : mg "Unsafe" = some (.ref A.A_Unsafe)
  g_CannotHold : mg "CannotHold" = some (.ref A.A_CannotHold)
  g_Unfinished : mg "Unfinished" = some (.ref A.A_Unfinished)
  g_InvalidName : mg "InvalidName" = some (.ref A.A_InvalidName)
  g_Missing : mg "Missing" = some (.ref A.A_Missing)
  g_Lost : mg "Lost" = some (.ref A.A_Lost)
  g_InvalidSeats : mg "InvalidSeats" = some (.ref A.A_InvalidSeats)
  g_InvalidCopy : mg "InvalidCopy" = some (.ref A.A_InvalidCopy)
  g_InvalidLine : mg "InvalidLine" = some (.ref A.A_InvalidLine)
  ec_NoStore : ExcC K A.A_NoStore
  is_NoStore_NoStore : PySem.W.kitOne K (.ref A.A_NoStore) (.ref A.A_NoStore) = some true
  is_NoStore_ValueError : PySem.W.kitOne K (.ref A.A_NoStore) (.type "ValueError") = some true
  is_NoStore_InvalidPool : PySem.W.kitOne K (.ref A.A_NoStore) (.ref A.A_InvalidPool) = some false
  is_NoStore_InvalidChoice : PySem.W.kitOne K (.ref A.A_NoStore) (.ref A.A_InvalidChoice) = some false
  is_NoStore_InvalidText : PySem.W.kitOne K (.ref A.A_NoStore) (.ref A.A_InvalidText) = some false
  is_NoStore_InvalidDeed : PySem.W.kitOne K (.ref A.A_NoStore) (.ref A.A_InvalidDeed) = some false
  is_NoStore_NothingToUndo : PySem.W.kitOne K (.ref A.A_NoStore) (.ref A.A_NothingToUndo) = some false
  is_NoStore_NothingToRedo : PySem.W.kitOne K (.ref A.A_NoStore) (.ref A.A_NothingToRedo) = some false
  is_NoStore_InvalidDealing : PySem.W.kitOne K (.ref A.A_NoStore) (.ref A.A_InvalidDealing) = some false
  is_NoStore_InvalidTarget : PySem.W.kitOne K (.ref A.A_NoStore) (.ref A.A_InvalidTarget) = some false
  is_NoStore_PowerCut : PySem.W.kitOne K (.ref A.A_NoStore) (.ref A.A_PowerCut) = some false
  is_NoStore_InvalidSends : PySem.W.kitOne K (.ref A.A_NoStore) (.ref A.A_InvalidSends) = some false
  is_NoStore_InvalidTable : PySem.W.kitOne K (.ref A.A_NoStore) (.ref A.A_InvalidTable) = some false
  is_NoStore_Unsafe : PySem.W.kitOne K (.ref A.A_NoStore) (.ref A.A_Unsafe) = some false
  is_NoStore_CannotHold : PySem.W.kitOne K (.ref A.A_NoStore) (.ref A.A_CannotHold) = some false
  is_NoStore_Unfinished : PySem.W.kitOne K (.ref A.A_NoStore) (.ref A.A_Unfinished) = some false
  is_NoStore_InvalidName : PySem.W.kitOne K (.ref A.A_NoStore) (.ref A.A_InvalidName) = some false
  is_NoStore_Missing : PySem.W.kitOne K (.ref A.A_NoStore) (.ref A.A_Missing) = some false
  is_NoStore_Lost : PySem.W.kitOne K (.ref A.A_NoStore) (.ref A.A_Lost) = some false
  is_NoStore_InvalidSeats : PySem.W.kitOne K (.ref A.A_NoStore) (.ref A.A_InvalidSeats) = some false
  is_NoStore_InvalidCopy : PySem.W.kitOne K (.ref A.A_NoStore) (.ref A.A_InvalidCopy) = some false
  is_NoStore_InvalidLine : PySem.W.kitOne K (.ref A.A_NoStore) (.ref A.A_InvalidLine) = some false
  xm_NoStore_PoolError : PySem.W.exmOne K (.ref A.A_NoStore) (.ref A.A_PoolError) = some true
  n_abs : mg "abs" = none
  n_range : mg "range" = none
  n_int : mg "int" = none
  n_len : mg "len" = none
  n_max : mg "max" = none
  n_sorted : mg "sorted" = none
  n_tuple : mg "tuple" = none
  n_list : mg "list" = none
  n_isinstance : mg "isinstance" = none
  n_ValueError : mg "ValueError" = none
  n_min : mg "min" = none
  n_str : mg "str" = none
  n_bool : mg "bool" = none
  n_dict : mg "dict" = none
end Q

set_option Elab.async false
set_option linter.all false
set_option maxRecDepth 100000
set_option maxHeartbeats 8000000
namespace Q
open PySem PySem.Spec PyProof.Rows L2 TL PW Rc
section
variable {P : Program} {w : World} {K : PySem.W.Frag} {mg : Str → Option Value} {base : Heap} {A : Ad}
/-! ### small things -/
theorem item_int {ns : List Int} {i : Nat} {y : V} (hi : (ns.map V.int)[i]? = some y) : ∃ z, ns[i]? = some z ∧ y = V.int z := by
  rw [List.getElem?_map] at hi
  cases e : ns[i]? with
  | none => rw [e] at hi; cases hi
  | some z => rw [e] at hi; exact ⟨z, rfl, (Option.some.inj hi).symm⟩
theorem item_map {α β : Type} {f : α → β} {ns : List α} {i : Nat} {y : β} (hi : (ns.map f)[i]? = some y) : ∃ z, ns[i]? = some z ∧ y = f z := by
  rw [List.getElem?_map] at hi
  cases e : ns[i]? with
  | none => rw [e] at hi; cases hi
  | some z => rw [e] at hi; exact ⟨z, rfl, (Option.some.inj hi).symm⟩
theorem sum_le {α : Type} {f : α → Nat} {k : Nat} : ∀ {l : List α}, (∀ x ∈ l, f x ≤ k) → (l.map f).sum ≤ l.length * k
  | [], _ => by simp
  | a :: l, h => by
    have h1 := h a (by simp)
    have h2 := sum_le (l := l) fun x hx => h x (List.mem_cons_of_mem _ hx)
    rw [List.map_cons, List.sum_cons, List.length_cons, Nat.add_mul]
    omega

/-! ### list_text -/
def spListText (K : PySem.W.Frag) : Sp := fun vs H Q _ => ∃ (v : V) (ns : List Int), vs = [v] ∧ Dp K H v (encNs ns) ∧ (∀ n ∈ ns, NumOk n) ∧ ns.length ≤ 100 ∧ ∀ H', Same H H' → Q (.str (listW ns)) H'
theorem ok_list_text (T : Txt K mg A) : FnOk P w K mg base CX0 1 A.a_list_text A.d_list_text ["numbers"] (spListText K) := by
  refine T.F_list_text.ok sc_list_text (fun vs H Q E h => ?_) (fun cdv A' outer s H vs Q E hr h => ?_)
  · obtain ⟨v, ns, rfl, _⟩ := h; rfl
  · obtain ⟨v, ns, rfl, D, hn, hl, k⟩ := h
    obtain ⟨p, xs, rfl, hs, da⟩ := dp_tup D
    have ex := dpa_ints da
    subst ex
    have w := Wd.start (Same.refl H)
    refine ⟨_, pss_one (ps_ret (pe_join (pe_str) (pe_lc (own := [("number", 1)]) rfl sc_list_text.nd (pi_tupK (K := K) rfl (pv 0)) (blkOk_by (own := [("number", 1)]) (N := ["numbers", "number"]) (sc := defScope s_list_text) (by decide +kernel)) (fun _ _ _ _ _ => pg_name (i := 1) sc_list_text.nd rfl (Or.inl rfl)) (fun _ _ _ _ _ => pts_nil) (fun _ _ _ _ _ => pe_callTy call_str_int (by rfl) T.n_str (by decide +kernel) (pa_cons (pv 1) pa_nil))))), ?_⟩
    refine ⟨⟨_, rfl⟩, _, rfl, p, rfl, ⟨_, hs⟩, fun D hD => ?_⟩
    refine lc_wdT (ns.map fun n => PyData.str (numS n)) (by simp) w hD hs (by rw [List.length_map]; omega) ?_ ?_
    · intro i x d F H1 acc Q1 hx hd e w1 kk
      obtain ⟨n, hn', rfl⟩ := item_int hx
      rw [List.getElem?_map, hn'] at hd
      cases hd
      exact ⟨rfl, _, rfl, n, rfl, numS_log (hn n (List.mem_of_getElem? hn')), kk _ F H1 (.refl w1.fh) (.str _)⟩
    · intro vs' F' H' e w1 da'
      have ev : vs' = (ns.map numS).map V.str := dpa_strs (by rw [List.map_map]; exact da')
      subst ev
      refine ⟨comma, D, ns.map numS, rfl, rfl, .inl (.of w1.at_), ?_, k H' w1.hh⟩
      have h9 : ((ns.map numS).map (·.length)).sum ≤ (ns.map numS).length * 9 := sum_le fun x hx => by
        obtain ⟨n, hn', rfl⟩ := List.mem_map.mp hx
        rw [len_tl]
        exact numS_len (hn n hn')
      have h1 : comma.length = 1 := by rw [len_tl, ofS_tl]; rfl
      rw [List.length_map] at h9
      rw [h1, List.length_map]
      omega

end
end Q

set_option Elab.async false
set_option linter.all false
set_option maxRecDepth 100000
set_option maxHeartbeats 8000000
namespace Q
open PySem PySem.Spec PyProof.Rows L2 TL PW Rc
section
variable {P : Program} {w : World} {K : PySem.W.Frag} {mg : Str → Option Value} {base : Heap} {A : Ad}
/-! ### named_text -/
def spNamedText (K : PySem.W.Frag) : Sp := fun vs H Q _ => ∃ (x : Str) (v : V) (ns : List Int), vs = [.str x, v] ∧ Dp K H v (encNs ns) ∧ (∀ n ∈ ns, NumOk n) ∧ ns.length ≤ 100 ∧ (tl x).length ≤ 12 ∧ ∀ H', Same H H' → Q (.str (nameW (x, ns))) H'
theorem ok_named_text (T : Txt K mg A) : FnOk P w K mg base CX0 2 A.a_named_text A.d_named_text ["name", "numbers"] (spNamedText K) := by
  refine T.F_named_text.ok sc_named_text (fun vs H Q E h => ?_) (fun cdv A' outer s H vs Q E hr h => ?_)
  · obtain ⟨x, v, ns, rfl, _⟩ := h; rfl
  · obtain ⟨x, v, ns, rfl, D, hn, hl, hx, k⟩ := h
    have e1 : (tl eqS).length = 1 := by rw [ofS_tl]; rfl
    refine ⟨_, pss_one (ps_ret (pe_op (op_addK (K := K) rfl) (pe_op (op_addK (K := K) rfl) (pv 0) (pe_str)) (pe_call (ok_list_text T) (hr.mono (by decide)) rfl T.g_list_text T.F_list_text.kp T.b_list_text .nil pass0 (pa_cons (pv 1) pa_nil)))), ?_⟩
    refine ⟨_, rfl, .inr (.inl ⟨_, _, rfl, rfl, ?_, _, rfl, v, ns, rfl, D, hn, hl, fun H' e => .inr (.inl ⟨_, _, rfl, rfl, ?_, k H' e⟩)⟩)⟩
    · refine small ?_
      show x.length + eqS.length ≤ _
      rw [len_tl, len_tl, e1]; omega
    · refine small ?_
      have := list_len hn hl
      show (x ++ eqS).length + (listW ns).length ≤ _
      rw [len_tl, len_tl, tl_append, List.length_append, e1]; omega

/-! ### number_of -/
theorem dig_mem {c : Nat} (h : 48 ≤ c ∧ c ≤ 57) : c ∈ ("0123456789" : Str).cps.toList := by
  show c ∈ tl ("0123456789" : Str)
  rw [ofS_tl]
  have : ("0123456789".toList.map Char.toNat) = [48, 49, 50, 51, 52, 53, 54, 55, 56, 57] := by decide
  rw [this]
  simp
  omega
def spNumberOf : Sp := fun vs H Q _ => ∃ n : Int, vs = [.str (numS n)] ∧ NumOk n ∧ ∀ H', Same H H' → Q (.int n) H'
theorem ok_number_of (T : Txt K mg A) : FnOk P w K mg base CX0 1 A.a_number_of A.d_number_of ["text"] spNumberOf := by
  refine T.F_number_of.ok sc_number_of (fun vs H Q E h => ?_) (fun cdv A' outer s H vs Q E hr h => ?_)
  · obtain ⟨n, rfl, _⟩ := h; rfl
  · obtain ⟨n, rfl, hn, k⟩ := h
    have hu64 := hu64_of hr
    have hu65 := hu65_of hr
    have hl9 := numS_len hn
    have hz : (numS n).length ≤ sizeLine := small (by rw [len_tl]; omega)
    refine ⟨_, pss_cons (ps_if (pt_cmpR (op_eqK (K := K) rfl hu64) (pv 0) (pe_str) (nomark _)) (pss_one (ps_ret (pe_non))) (pss_nil))
  (pss_cons (ps_for PassesOwn.never rfl (pi_str (pv 0)) (pg_name (i := 1) sc_number_of.nd rfl (Or.inl rfl)) (pss_one (ps_if (pt_cmpR (op_notInK (K := K) rfl hu65) (pv 1) (pe_str) (by rfl)) (pss_one (ps_ret (pe_non))) (pss_nil))))
  (pss_cons (ps_if (PW.pt (pw_and (pt_cmpR (op_gtK (K := K) rfl) (pe_callB (call_lenK (K := K) rfl) (by rfl) T.n_len (by decide +kernel) (pa_cons (pv 0) pa_nil)) (pe_int) (nomark _)) (pw_and1 (pt_cmpR (op_eqK (K := K) rfl hu64) (pe_ix (ix_K (K := K) rfl) (pv 0) (pe_int) (fun _ _ => rfl)) (pe_str) (nomark _))))) (pss_one (ps_ret (pe_non))) (pss_nil))
  (pss_cons (ps_if (pt_cmpR (op_gtK (K := K) rfl) (pe_callB (call_lenK (K := K) rfl) (by rfl) T.n_len (by decide +kernel) (pa_cons (pv 0) pa_nil)) (pe_int) (nomark _)) (pss_one (ps_ret (pe_non))) (pss_nil))
  (pss_one (ps_ret (pe_callTy call_intU (by rfl) T.n_int (by decide +kernel) (pa_cons (pv 0) pa_nil))))))), ?_⟩
    refine ⟨_, rfl, .inl ⟨rfl, _, rfl, iteNo (fun e => ?_) ?_⟩⟩
    · have e := V.str.inj e
      exact numS_ne hn.1 (by rw [e]; decide +kernel)
    refine ⟨_, rfl, _, rfl, for_str (fun i σ H' => ∃ v, σ = [some (.str (numS n)), v] ∧ Same H H') ⟨none, rfl, .refl H⟩ ?_ ?_⟩
    · rintro i c σ H1 hc ⟨v, rfl, e⟩
      have hd := numS_digits hn.1 c (List.mem_of_getElem? hc)
      exact ⟨_, rfl, .inr (.inl ⟨c, _, rfl, rfl, _, rfl, iteNS (dig_mem hd) ⟨_, rfl, e⟩⟩)⟩
    · rintro σ H1 ⟨v, rfl, e⟩
      refine ⟨_, rfl, _, _, rfl, ⟨hz, rfl⟩, .inl ⟨_, _, rfl, rfl, _, rfl, iteD (fun c => ?_) (fun c => ?_)⟩⟩
      · have c' : 1 < (tl (numS n)).length := by rw [← len_tl]; exact_mod_cast c
        have h0 := numS_head hn.1 c'
        obtain ⟨d, hd⟩ : ∃ d, (tl (numS n))[0]? = some d := ⟨_, List.getElem?_eq_getElem (by omega)⟩
        refine ⟨_, rfl, .inr (.inr ⟨_, 0, d, rfl, rfl, hz, atI_nat (j := 0) hd, .inl ⟨rfl, _, rfl, iteNo (fun e => ?_) ?_⟩⟩)⟩
        · have e := V.str.inj e
          rw [hd] at h0
          have e2 : tl (⟨#[d]⟩ : Str) = tl ("0" : Str) := congrArg tl e
          rw [ofS_tl] at e2
          have e3 : [d] = [48] := e2
          exact h0 (by rw [(List.cons.inj e3).1])
        · refine ⟨_, rfl, _, _, rfl, ⟨hz, rfl⟩, .inl ⟨_, _, rfl, rfl, _, rfl, iteNo ?_ ?_⟩⟩
          · rw [len_tl]; omega
          · exact ⟨_, rfl, .inr ⟨_, n, rfl, numS_text hn, by rw [len_tl]; omega, k H1 e⟩⟩
      · refine ⟨_, rfl, _, _, rfl, ⟨hz, rfl⟩, .inl ⟨_, _, rfl, rfl, _, rfl, iteNo ?_ ?_⟩⟩
        · rw [len_tl]; omega
        · exact ⟨_, rfl, .inr ⟨_, n, rfl, numS_text hn, by rw [len_tl]; omega, k H1 e⟩⟩

/-! ### is_name -/
theorem nam_mem {c : Nat} (h : (97 ≤ c ∧ c ≤ 122) ∨ (48 ≤ c ∧ c ≤ 57)) : c ∈ ("abcdefghijklmnopqrstuvwxyz0123456789" : Str).cps.toList := by
  show c ∈ tl ("abcdefghijklmnopqrstuvwxyz0123456789" : Str)
  rw [ofS_tl]
  have : ("abcdefghijklmnopqrstuvwxyz0123456789".toList.map Char.toNat) = [97, 98, 99, 100, 101, 102, 103, 104, 105, 106, 107, 108, 109, 110, 111, 112, 113, 114, 115, 116, 117, 118, 119, 120, 121, 122, 48, 49, 50, 51, 52, 53, 54, 55, 56, 57] := by decide
  rw [this]
  simp
  omega
def spIsName : Sp := fun vs H Q _ => ∃ x : Str, vs = [.str x] ∧ NameOk x ∧ ∀ H', Same H H' → Q (.bl true) H'
theorem ok_is_name (T : Txt K mg A) : FnOk P w K mg base CX0 1 A.a_is_name A.d_is_name ["text"] spIsName := by
  refine T.F_is_name.ok sc_is_name (fun vs H Q E h => ?_) (fun cdv A' outer s H vs Q E hr h => ?_)
  · obtain ⟨n, rfl, _⟩ := h; rfl
  · obtain ⟨x, rfl, hx, k⟩ := h
    have hu64 := hu64_of hr
    have hu65 := hu65_of hr
    obtain ⟨h1, h2, h3⟩ := id hx
    have hz : x.length ≤ sizeLine := small (by rw [len_tl]; omega)
    refine ⟨_, pss_cons (ps_if (PW.pt (pw_or (pt_cmpR (op_ltK (K := K) rfl) (pe_callB (call_lenK (K := K) rfl) (by rfl) T.n_len (by decide +kernel) (pa_cons (pv 0) pa_nil)) (pe_int) (nomark _)) (pw_or1 (pt_cmpR (op_gtK (K := K) rfl) (pe_callB (call_lenK (K := K) rfl) (by rfl) T.n_len (by decide +kernel) (pa_cons (pv 0) pa_nil)) (pe_int) (nomark _))))) (pss_one (ps_ret (pe_bl))) (pss_nil))
  (pss_cons (ps_for PassesOwn.never rfl (pi_str (pv 0)) (pg_name (i := 1) sc_is_name.nd rfl (Or.inl rfl)) (pss_one (ps_if (pt_cmpR (op_notInK (K := K) rfl hu65) (pv 1) (pe_str) (by rfl)) (pss_one (ps_ret (pe_bl))) (pss_nil))))
  (pss_one (ps_ret (pe_bl)))), ?_⟩
    refine ⟨_, rfl, _, _, rfl, ⟨hz, rfl⟩, .inl ⟨_, _, rfl, rfl, _, rfl, iteNo (by rw [len_tl]; omega) ?_⟩⟩
    refine ⟨_, rfl, _, _, rfl, ⟨hz, rfl⟩, .inl ⟨_, _, rfl, rfl, _, rfl, iteNo (by rw [len_tl]; omega) ?_⟩⟩
    refine ⟨_, rfl, _, rfl, for_str (fun i σ H' => ∃ v, σ = [some (.str x), v] ∧ Same H H') ⟨none, rfl, .refl H⟩ ?_ ?_⟩
    · rintro i c σ H1 hc ⟨v, rfl, e⟩
      exact ⟨_, rfl, .inr (.inl ⟨c, _, rfl, rfl, _, rfl, iteNS (nam_mem (h3 c (List.mem_of_getElem? hc))) ⟨_, rfl, e⟩⟩)⟩
    · rintro σ H1 ⟨v, rfl, e⟩
      exact k H1 e

/-! ### is_rising -/
/-- a list or a tuple of ints -/
def IntsAt (K : PySem.W.Frag) (H : Hp) (v : V) (ns : List Int) : Prop := ∃ p, v = .ref p ∧ (SqL K H p (ns.map V.int) ∨ SqT K H p (ns.map V.int))
theorem at_pair {ns : List Int} {i : Nat} (h : 1 + i < ns.length) : ∃ a b, ns[i]? = some a ∧ ns[i + 1]? = some b := ⟨_, _, List.getElem?_eq_getElem (by omega), List.getElem?_eq_getElem (by omega)⟩
def spRisingI (K : PySem.W.Frag) : Sp := fun vs H Q _ => ∃ (v : V) (ns : List Int), vs = [v] ∧ IntsAt K H v ns ∧ ns.length ≤ 1000 ∧ ns.Pairwise (· < ·) ∧ ∀ H', Same H H' → Q (.bl true) H'
theorem pw_lt {ns : List Int} {i : Nat} {a b : Int} (h : ns.Pairwise (· < ·)) (ha : ns[i]? = some a) (hb : ns[i + 1]? = some b) : a < b := by
  rw [List.pairwise_iff_getElem] at h
  obtain ⟨h1, rfl⟩ := List.getElem?_eq_some_iff.mp ha
  obtain ⟨h2, rfl⟩ := List.getElem?_eq_some_iff.mp hb
  exact h i (i + 1) h1 h2 (by omega)
theorem ok_is_rising (T : Txt K mg A) : FnOk P w K mg base CX0 1 A.a_is_rising A.d_is_rising ["numbers"] (spRisingI K) := by
  refine T.F_is_rising.ok sc_is_rising (fun vs H Q E h => ?_) (fun cdv A' outer s H vs Q E hr h => ?_)
  · obtain ⟨v, ns, rfl, _⟩ := h; rfl
  · obtain ⟨v, ns, rfl, ⟨p, rfl, hp⟩, hl, up, k⟩ := h
    refine ⟨_, pss_cons (ps_for PassesOwn.never rfl (pi_range2 rfl T.n_range (pa_cons (pe_int) (pa_cons (pe_callB (call_lenK (K := K) rfl) (by rfl) T.n_len (by decide +kernel) (pa_cons (pv 0) pa_nil)) pa_nil))) (pg_name (i := 1) sc_is_rising.nd rfl (Or.inl rfl)) (pss_one (ps_if (pt_cmpR (op_geK (K := K) rfl) (pe_ix (ix_K (K := K) rfl) (pv 0) (pe_op op_sub (pv 1) (pe_int)) (fun _ _ => rfl)) (pe_ix (ix_K (K := K) rfl) (pv 0) (pv 1) (fun _ _ => rfl)) (nomark _)) (pss_one (ps_ret (pe_bl))) (pss_nil))))
  (pss_one (ps_ret (pe_bl))), ?_⟩
    have hlen : LenV K (.ref p) H ns.length := by
      rcases hp with hp | hp
      · exact .inl ⟨_, hp, by rw [List.length_map]⟩
      · exact .inr ⟨_, hp, by rw [List.length_map]⟩
    refine ⟨_, rfl, _, _, rfl, hlen, 1, (ns.length : Int), rfl, ⟨by decide, by decide, by omega, by omega⟩, for_range (lo := 1) (n := ((ns.length : Int) - 1).toNat) (fun i σ H' => ∃ v, σ = [some (.ref p), v] ∧ Same H H') ⟨none, rfl, .refl H⟩ ?_ ?_⟩
    · rintro i σ H1 hi ⟨v, rfl, e⟩
      obtain ⟨a, b, ha, hb⟩ := at_pair (ns := ns) (i := i) (by omega)
      have ix : ∀ (j : Nat) (z : Int) (zi : Int) (Q' : VK), ns[j]? = some z → zi = (j : Int) → Q' (.int z) H1 → rIx K (.ref p) (.int zi) H1 Q' := fun j z zi Q' hj ez q => by
        subst ez
        have hj' : (ns.map V.int)[j]? = some (.int z) := by rw [List.getElem?_map, hj]; rfl
        rcases hp with hp | hp
        · exact .inl ⟨p, _, _, _, rfl, rfl, e.seq hp, atI_nat hj', q⟩
        · exact .inr (.inl ⟨p, _, _, _, rfl, rfl, same_t e hp, atI_nat hj', q⟩)
      refine ⟨_, rfl, _, rfl, _, _, rfl, rfl, ix i a _ _ ha (by omega) ⟨_, rfl, _, rfl, ix (i + 1) b _ _ hb (by omega) ?_⟩⟩
      have hab := pw_lt up ha hb
      exact .inl ⟨_, _, rfl, rfl, _, rfl, iteNo (by omega) ⟨_, rfl, e⟩⟩
    · rintro σ H1 ⟨v, rfl, e⟩
      exact k H1 e
def spRisingS (K : PySem.W.Frag) : Sp := fun vs H Q _ => ∃ (p : Addr) (ns : List Str), vs = [.ref p] ∧ SqL K H p (ns.map V.str) ∧ ns.length ≤ 1000 ∧ ns.Pairwise (fun x y => tl x < tl y) ∧ ∀ H', Same H H' → Q (.bl true) H'
theorem ok_rising_strs (T : Txt K mg A) : FnOk P w K mg base CX0 1 A.a_is_rising A.d_is_rising ["numbers"] (spRisingS K) := by
  refine T.F_is_rising.ok sc_is_rising (fun vs H Q E h => ?_) (fun cdv A' outer s H vs Q E hr h => ?_)
  · obtain ⟨v, ns, rfl, _⟩ := h; rfl
  · obtain ⟨p, ns, rfl, hp, hl, up, k⟩ := h
    refine ⟨_, pss_cons (ps_for PassesOwn.never rfl (pi_range2 rfl T.n_range (pa_cons (pe_int) (pa_cons (pe_callB (call_lenK (K := K) rfl) (by rfl) T.n_len (by decide +kernel) (pa_cons (pv 0) pa_nil)) pa_nil))) (pg_name (i := 1) sc_is_rising.nd rfl (Or.inl rfl)) (pss_one (ps_if (pt_cmpR (op_geK (K := K) rfl) (pe_ix (ix_K (K := K) rfl) (pv 0) (pe_op op_sub (pv 1) (pe_int)) (fun _ _ => rfl)) (pe_ix (ix_K (K := K) rfl) (pv 0) (pv 1) (fun _ _ => rfl)) (nomark _)) (pss_one (ps_ret (pe_bl))) (pss_nil))))
  (pss_one (ps_ret (pe_bl))), ?_⟩
    have hlen : LenV K (.ref p) H ns.length := .inl ⟨_, hp, by rw [List.length_map]⟩
    refine ⟨_, rfl, _, _, rfl, hlen, 1, (ns.length : Int), rfl, ⟨by decide, by decide, by omega, by omega⟩, for_range (lo := 1) (n := ((ns.length : Int) - 1).toNat) (fun i σ H' => ∃ v, σ = [some (.ref p), v] ∧ Same H H') ⟨none, rfl, .refl H⟩ ?_ ?_⟩
    · rintro i σ H1 hi ⟨v, rfl, e⟩
      obtain ⟨a, ha⟩ : ∃ a, ns[i]? = some a := ⟨_, List.getElem?_eq_getElem (by omega)⟩
      obtain ⟨b, hb⟩ : ∃ b, ns[i + 1]? = some b := ⟨_, List.getElem?_eq_getElem (by omega)⟩
      have ix : ∀ (j : Nat) (z : Str) (zi : Int) (Q' : VK), ns[j]? = some z → zi = (j : Int) → Q' (.str z) H1 → rIx K (.ref p) (.int zi) H1 Q' := fun j z zi Q' hj ez q => by
        subst ez
        have hj' : (ns.map V.str)[j]? = some (.str z) := by rw [List.getElem?_map, hj]; rfl
        exact .inl ⟨p, _, _, _, rfl, rfl, e.seq hp, atI_nat hj', q⟩
      refine ⟨_, rfl, _, rfl, _, _, rfl, rfl, ix i a _ _ ha (by omega) ⟨_, rfl, _, rfl, ix (i + 1) b _ _ hb (by omega) ?_⟩⟩
      have hab : tl a < tl b := by
        rw [List.pairwise_iff_getElem] at up
        obtain ⟨h1, rfl⟩ := List.getElem?_eq_some_iff.mp ha
        obtain ⟨h2, rfl⟩ := List.getElem?_eq_some_iff.mp hb
        exact up i (i + 1) h1 h2 (by omega)
      exact .inr ⟨_, _, rfl, rfl, _, rfl, iteNS hab ⟨_, rfl, e⟩⟩
    · rintro σ H1 ⟨v, rfl, e⟩
      exact k H1 e

end
end Q

set_option Elab.async false
set_option linter.all false
set_option maxRecDepth 100000
set_option maxHeartbeats 8000000
namespace Q
open PySem PySem.Spec PyProof.Rows L2 TL PW Rc
section
variable {P : Program} {w : World} {K : PySem.W.Frag} {mg : Str → Option Value} {base : Heap} {A : Ad}
theorem strs_map {ns : List Int} : (ns.map numS).map V.str = ns.map fun n => V.str (numS n) := by rw [List.map_map]; rfl
theorem shaped_of {d : PyData} (h : d.canLay0 = true) (h2 : d.depth ≤ 64) : SeqAt.shaped d = true := by
  unfold SeqAt.shaped
  rw [h, decide_eq_true h2]
  rfl
theorem none_ints (ns : List Int) : inV .non (ns.map V.int) = false := by
  unfold inV
  rw [List.any_eq_false]
  intro x hx
  obtain ⟨n, _, rfl⟩ := List.mem_map.mp hx
  simp [eqV]
theorem flat_ints (ns : List Int) : (ns.map V.int).all flatV = true := by
  rw [List.all_eq_true]
  intro x hx
  obtain ⟨n, _, rfl⟩ := List.mem_map.mp hx
  rfl

/-! ### read_list -/
/-- a tuple is handed back: F the frozen part -/
def RetD (K : PySem.W.Frag) (F H : Hp) (Q : VK) (d : PyData) : Prop := ∀ v F' H', Step F H F' H' → Dp K F' v d → Q v H'
def spReadList (K : PySem.W.Frag) : Sp := fun vs H Q _ => ∃ (F : Hp) (ns : List Int), vs = [.str (listW ns)] ∧ (∀ n ∈ ns, NumOk n) ∧ ns.length ≤ 100 ∧ Same F H ∧ RetD K F H Q (encNs ns)
theorem ok_read_list (T : Txt K mg A) : FnOk P w K mg base CX0 2 A.a_read_list A.d_read_list ["text"] (spReadList K) := by
  refine T.F_read_list.ok sc_read_list (fun vs H Q E h => ?_) (fun cdv A' outer s H vs Q E hr h => ?_)
  · obtain ⟨F, n, rfl, _⟩ := h; rfl
  · obtain ⟨F, ns, rfl, hn, hl, eF, k⟩ := h
    have hu64 := hu64_of hr
    have hu65 := hu65_of hr
    have w := Wd.start eF
    refine ⟨_, pss_cons (ps_if (pt_cmpR (op_eqK (K := K) rfl hu64) (pv 0) (pe_str) (nomark _)) (pss_one (ps_ret (pe_tup (pa_nil)))) (pss_nil))
  (pss_cons (ps_setLc (i := 1) (own := [("part", 2)]) rfl sc_read_list.nd rfl rfl (sw_true rfl rfl rfl (by decide +kernel)) (pi_listK (K := K) rfl (pe_split (pv 0) (pe_str))) (blkOk_by (own := [("part", 2)]) (N := ["text", "numbers", "part"]) (sc := defScope s_read_list) (by decide +kernel)) (fun _ _ _ _ _ => pg_name (i := 2) sc_read_list.nd rfl (Or.inl rfl)) (fun _ _ _ _ _ => pts_nil) (fun _ _ _ _ _ => pe_call (ok_number_of T) (hr.mono (by decide)) rfl T.g_number_of T.F_number_of.kp T.b_number_of .nil pass0 (pa_cons (pv 2) pa_nil)))
  (pss_cons (ps_if (pt_cmpR (op_inK (K := K) rfl hu65) (pe_non) (pv 1) (by rfl)) (pss_one (ps_ret (pe_non))) (pss_nil))
  (pss_one (ps_ret (pe_callTy (call_tupleK (K := K) rfl) (by rfl) T.n_tuple (by decide +kernel) (pa_cons (pv 1) pa_nil)))))), ?_⟩
    refine ⟨_, rfl, .inl ⟨rfl, _, rfl, iteD (fun e => ?_) (fun e => ?_)⟩⟩
    · -- the empty text
      have e := V.str.inj e
      have hns : ns = [] := by
        cases ns with
        | nil => rfl
        | cons n r =>
          exfalso
          have e2 := congrArg tl e
          rw [ofS_tl] at e2
          unfold listW at e2
          rw [tl_joinT] at e2
          have e3 : joinL (tl comma) ((List.map numS (n :: r)).map tl) = [] := e2
          cases r with
          | nil => exact numS_ne (hn n (by simp)).1 e3
          | cons m r =>
            have e4 : tl (numS n) ++ (tl comma ++ joinL (tl comma) ((List.map numS (m :: r)).map tl)) = [] := e3
            exact numS_ne (hn n (by simp)).1 (List.append_eq_nil_iff.mp e4).1
      subst hns
      refine ⟨Nat.zero_le _, fun p hp => ?_⟩
      obtain ⟨w2, e2⟩ := w.fix hp (.tup [])
      exact k _ _ _ w2.done (.tup (.of upd_same) .nil)
    · have hne : ns ≠ [] := fun z => e (by rw [z]; rfl)
      have hz := list_len hn hl
      refine ⟨_, rfl, ⟨_, rfl⟩, _, _, rfl, rfl, by decide +kernel, small (by rw [len_tl]; omega), ?_⟩
      rw [split_list hn hne]
      intro p hp
      have w1 := (w.own hp (.lst ((ns.map numS).map V.str))).freeze
      obtain ⟨w1, e1⟩ := w1
      refine ⟨p, rfl, ⟨_, .of upd_same⟩, fun D hD => ?_⟩
      refine lc_wdL (xs := (ns.map numS).map V.str) (ns.map PyData.int) (by simp) w1 hD (.of upd_same) (by simp; omega) ?_ ?_
      · intro i x d F1 H1 acc Q1 hx hd e2 w2 kk
        rw [strs_map] at hx
        obtain ⟨n, hn', rfl⟩ := item_map hx
        rw [List.getElem?_map, hn'] at hd
        cases hd
        exact ⟨rfl, _, rfl, n, rfl, hn n (List.mem_of_getElem? hn'), fun H' e => kk _ F1 H' (.same w2.fh e) (.int _)⟩
      · intro vs' F' H' e2 w2 da
        have ev := dpa_ints da
        subst ev
        refine ⟨_, rfl, .inl ⟨D, _, rfl, .inl (.of w2.at_), rfl, flat_ints ns, _, rfl, ?_⟩⟩
        rw [if_neg (by decide), none_ints]
        refine iteF ?_
        refine ⟨_, rfl, D, _, rfl, .inl ⟨.of w2.at_, fun q hq => ?_⟩⟩
        obtain ⟨w3, e3⟩ := w2.drop.fix hq (.tup (ns.map V.int))
        exact k _ _ _ w3.done (.tup (.of upd_same) dpa_of_ints)

/-! ### warden_text -/
def spWardenText (K : PySem.W.Frag) : Sp := fun vs H Q _ => ∃ (v : V) (ws : List (Int × Int × Int)), vs = [v] ∧ Dp K H v (encWs ws) ∧ WsOk ws ∧ ∀ H', Same H H' → Q (.str (wardsT ws)) H'
theorem wd_at {K : PySem.W.Frag} {H : Hp} {v : V} {w : Int × Int × Int} (h : Dp K H v (encW w)) : ∃ p, v = .ref p ∧ SqT K H p [.int w.1, .int w.2.1, .int w.2.2] := by
  obtain ⟨p, xs, rfl, hs, da⟩ := dp_tup h
  cases da with
  | cons a da => cases da with
    | cons b da => cases da with
      | cons c da =>
        cases da
        rw [dp_int a, dp_int b, dp_int c] at hs
        exact ⟨p, rfl, hs⟩
theorem lit_len (x : String) : (tl (x : Str)).length = x.toList.length := by rw [ofS_tl, List.length_map]
theorem slen_app (x y : Str) : (x ++ y).length = x.length + y.length := by rw [len_tl, len_tl, len_tl, tl_append, List.length_append]
theorem ward_str (w : Int × Int × Int) : Str.empty ++ " " ++ numS w.1 ++ ":" ++ numS w.2.1 ++ "," ++ numS w.2.2 = space ++ wardW w := by
  refine str_eq ?_
  unfold wardW
  simp only [tl_append, List.append_assoc]
  rfl
theorem ok_warden_text (T : Txt K mg A) : FnOk P w K mg base CX0 1 A.a_warden_text A.d_warden_text ["entries"] (spWardenText K) := by
  refine T.F_warden_text.ok sc_warden_text (fun vs H Q E h => ?_) (fun cdv A' outer s H vs Q E hr h => ?_)
  · obtain ⟨v, ns, rfl, _⟩ := h; rfl
  · obtain ⟨v, ws, rfl, D, hw, k⟩ := h
    obtain ⟨p, xs, rfl, hs, da⟩ := dp_tup D
    have w := Wd.start (Same.refl H)
    have hxl : xs.length = ws.length := by rw [dpa_len da, List.length_map]
    refine ⟨_, pss_one (ps_ret (pe_join (pe_str) (pe_lc (own := [("entry", 1)]) rfl sc_warden_text.nd (pi_tupK (K := K) rfl (pv 0)) (blkOk_by (own := [("entry", 1)]) (N := ["entries", "entry"]) (sc := defScope s_warden_text) (by decide +kernel)) (fun _ _ _ _ _ => pg_name (i := 1) sc_warden_text.nd rfl (Or.inl rfl)) (fun _ _ _ _ _ => pts_nil) (fun _ _ _ _ _ => pe_joinedN (.cons (pe_str) (.cons (pe_fmt (pe_ix (ix_K (K := K) rfl) (pv 1) (pe_int) (fun _ _ => rfl))) (.cons (pe_str) (.cons (pe_fmt (pe_ix (ix_K (K := K) rfl) (pv 1) (pe_int) (fun _ _ => rfl))) (.cons (pe_str) (.cons (pe_fmt (pe_ix (ix_K (K := K) rfl) (pv 1) (pe_int) (fun _ _ => rfl))) .nil)))))))))), ?_⟩
    refine ⟨⟨_, rfl⟩, _, rfl, p, rfl, ⟨_, hs⟩, fun D hD => ?_⟩
    refine lc_wdT (ws.map fun w => PyData.str (space ++ wardW w)) (by rw [List.length_map, hxl]) w hD hs (by have := hw.few; omega) ?_ ?_
    · intro i x d F H1 acc Q1 hx hd e w1 kk
      obtain ⟨d2, hd2, dx⟩ := dpa_get da hx
      obtain ⟨u, hu, rfl⟩ := item_map hd2
      rw [List.getElem?_map, hu] at hd
      cases hd
      obtain ⟨q, rfl, hq⟩ := wd_at dx
      have hq1 : SqT K H1 q _ := same_t (e.trans w1.fh) hq
      obtain ⟨n1, n2, n3⟩ := hw.num u (List.mem_of_getElem? hu)
      have l1 : (numS u.1).length ≤ 9 := by rw [len_tl]; exact numS_len n1
      have l2 : (numS u.2.1).length ≤ 9 := by rw [len_tl]; exact numS_len n2
      have l3 : (numS u.2.2).length ≤ 9 := by rw [len_tl]; exact numS_len n3
      have a0 : Str.empty.length = 0 := rfl
      have a1 : (Str.ofString " ").length = 1 := by decide +kernel
      have a2 : (Str.ofString ":").length = 1 := by decide +kernel
      have a3 : (Str.ofString ",").length = 1 := by decide +kernel
      refine ⟨rfl, ?_⟩
      refine ⟨_, rfl, small (by simp only [slen_app, a0, a1]; omega), ?_⟩
      refine ⟨_, rfl, .inr (.inl ⟨q, _, 0, _, rfl, rfl, hq1, atI_nat (j := 0) rfl, .inr ⟨_, rfl, numS_log n1, numS u.1, rfl, small (by simp only [slen_app, a0, a1]; omega), ?_⟩⟩)⟩
      refine ⟨_, rfl, small (by simp only [slen_app, a0, a1, a2]; omega), ?_⟩
      refine ⟨_, rfl, .inr (.inl ⟨q, _, 1, _, rfl, rfl, hq1, atI_nat (j := 1) rfl, .inr ⟨_, rfl, numS_log n2, numS u.2.1, rfl, small (by simp only [slen_app, a0, a1, a2]; omega), ?_⟩⟩)⟩
      refine ⟨_, rfl, small (by simp only [slen_app, a0, a1, a2, a3]; omega), ?_⟩
      refine ⟨_, rfl, .inr (.inl ⟨q, _, 2, _, rfl, rfl, hq1, atI_nat (j := 2) rfl, .inr ⟨_, rfl, numS_log n3, numS u.2.2, rfl, small (by simp only [slen_app, a0, a1, a2, a3]; omega), ?_⟩⟩)⟩
      refine kk _ F H1 (.refl w1.fh) ?_
      have es := ward_str u
      have es2 : Str.empty ++ Str.ofString " " ++ numS u.1 ++ Str.ofString ":" ++ numS u.2.1 ++ Str.ofString "," ++ numS u.2.2 = space ++ wardW u := es
      show Dp K F (.str (Str.empty ++ Str.ofString " " ++ numS u.1 ++ Str.ofString ":" ++ numS u.2.1 ++ Str.ofString "," ++ numS u.2.2)) (.str (space ++ wardW u))
      rw [es2]
      exact .str _
    · intro vs' F' H' e w1 da'
      have ev : vs' = (ws.map fun w => space ++ wardW w).map V.str := dpa_strs (by rw [List.map_map]; exact da')
      subst ev
      refine ⟨_, D, ws.map fun w => space ++ wardW w, rfl, rfl, .inl (.of w1.at_), ?_, k H' w1.hh⟩
      have h9 : ((ws.map fun w => space ++ wardW w).map (·.length)).sum ≤ (ws.map fun w => space ++ wardW w).length * 30 := sum_le fun x hx => by
        obtain ⟨u, hu, rfl⟩ := List.mem_map.mp hx
        have := ward_len (hw.num u hu)
        rw [len_tl, tl_append, List.length_append]
        have : (tl space).length = 1 := by rw [ofS_tl]; rfl
        omega
      rw [List.length_map] at h9
      have := hw.few
      show _ + _ * (0 : Nat) ≤ _
      omega

end
end Q

set_option Elab.async false
set_option linter.all false
set_option maxRecDepth 100000
set_option maxHeartbeats 8000000
namespace Q
open PySem PySem.Spec PyProof.Rows L2 TL PW Rc
section
variable {P : Program} {w : World} {K : PySem.W.Frag} {mg : Str → Option Value} {base : Heap} {A : Ad}
/-! ### reading the words back -/
theorem flat_strs (ns : List Str) : (ns.map V.str).all flatV = true := by
  rw [List.all_eq_true]
  intro x hx
  obtain ⟨n, _, rfl⟩ := List.mem_map.mp hx
  rfl
theorem inV_int (i : Int) (ns : List Int) : inV (.int i) (ns.map V.int) = decide (i ∈ ns) := by
  induction ns with
  | nil => rfl
  | cons a l ih =>
    have e : inV (.int i) ((a :: l).map V.int) = (eqV (.int a) (.int i) || inV (.int i) (l.map V.int)) := rfl
    rw [e, ih]
    have e2 : eqV (.int a) (.int i) = decide (a = i) := by first | rfl | (simp [eqV]; done) | (unfold eqV; simp [Bool.beq_eq_decide_eq])
    rw [e2]
    by_cases h : a = i
    · subst h; simp
    · simp [h, Ne.symm h, eq_comm]
theorem canlay_str {x : Str} (h : PyData.strOk x = true) : PyData.canLay0 (.str x) = true := by rw [PyData.canLay0]; exact h

/-! ### read_named -/
def spReadNamed (K : PySem.W.Frag) : Sp := fun vs H Q _ => ∃ (F : Hp) (p : Str × List Int), vs = [.str (nameW p)] ∧ NameOk p.1 ∧ NsOk p.2 ∧ Same F H ∧ RetD K F H Q (encName p)
theorem ok_read_named (T : Txt K mg A) : FnOk P w K mg base CX0 3 A.a_read_named A.d_read_named ["word"] (spReadNamed K) := by
  refine T.F_read_named.ok sc_read_named (fun vs H Q E h => ?_) (fun cdv A' outer s H vs Q E hr h => ?_)
  · obtain ⟨F, n, rfl, _⟩ := h; rfl
  · obtain ⟨F, p, rfl, h1, h2, eF, k⟩ := h
    have hu64 := hu64_of hr
    have hu65 := hu65_of hr
    have w := Wd.start eF
    refine ⟨_, pss_cons (ps_set (i := 1) sc_read_named.nd rfl (Or.inl rfl) (pe_split (pv 0) (pe_str)))
  (pss_cons (ps_if (PW.pt (pw_or (pt_cmpR (op_neK (K := K) rfl hu64) (pe_callB (call_lenK (K := K) rfl) (by rfl) T.n_len (by decide +kernel) (pa_cons (pv 1) pa_nil)) (pe_int) (nomark _)) (pw_or1 (pt_not (pt_val (pe_call (ok_is_name T) (hr.mono (by decide)) rfl T.g_is_name T.F_is_name.kp T.b_is_name .nil pass0 (pa_cons (pe_ix (ix_K (K := K) rfl) (pv 1) (pe_int) (fun _ _ => rfl)) pa_nil))))))) (pss_one (ps_ret (pe_non))) (pss_nil))
  (pss_cons (ps_set (i := 2) sc_read_named.nd rfl (Or.inl rfl) (pe_call (ok_read_list T) (hr.mono (by decide)) rfl T.g_read_list T.F_read_list.kp T.b_read_list .nil pass0 (pa_cons (pe_ix (ix_K (K := K) rfl) (pv 1) (pe_int) (fun _ _ => rfl)) pa_nil)))
  (pss_cons (ps_if (PW.pt (pw_or (pt_cmp (pc_isN (pv 2))) (pw_or (pt_cmpR (op_inK (K := K) rfl hu65) (pe_int) (pv 2) (by rfl)) (pw_or1 (pt_not (pt_val (pe_call (ok_is_rising T) (hr.mono (by decide)) rfl T.g_is_rising T.F_is_rising.kp T.b_is_rising .nil pass0 (pa_cons (pv 2) pa_nil)))))))) (pss_one (ps_ret (pe_non))) (pss_nil))
  (pss_one (ps_ret (pe_tup (pa_cons (pe_ix (ix_K (K := K) rfl) (pv 1) (pe_int) (fun _ _ => rfl)) (pa_cons (pv 2) pa_nil)))))))), ?_⟩
    have hz := name_len h1 h2
    refine ⟨_, rfl, ⟨_, rfl⟩, _, _, rfl, rfl, by decide +kernel, small (by rw [len_tl]; omega), ?_⟩
    rw [split_name h1 h2]
    intro q hq
    obtain ⟨w1, e1⟩ := (w.own hq (.lst ([p.1, listW p.2].map V.str))).freeze
    have hL : SqL K (upd F q (.lst ([p.1, listW p.2].map V.str))) q ([p.1, listW p.2].map V.str) := .of upd_same
    -- len(parts) != 2
    refine ⟨_, rfl, _, _, rfl, .inl ⟨_, w1.l hL, rfl⟩, .inl ⟨rfl, _, rfl, iteNS rfl ?_⟩⟩
    -- is_name(parts[0])
    refine ⟨_, rfl, .inl ⟨q, _, 0, _, rfl, rfl, w1.l hL, atI_nat (j := 0) rfl, p.1, rfl, h1, fun H2 s2 => ⟨_, rfl, ?_⟩⟩⟩
    refine iteF ?_
    have w2 := w1.same s2
    -- numbers = read_list(parts[1])
    refine ⟨_, rfl, .inl ⟨q, _, 1, _, rfl, rfl, w2.l hL, atI_nat (j := 1) rfl, _, p.2, rfl, h2.num, h2.few, w2.fh, fun v F3 H3 st D => ?_⟩⟩
    have w3 := w2.step st
    obtain ⟨r, xs, rfl, hr, da⟩ := dp_tup D
    have ev := dpa_ints da
    subst ev
    refine ⟨_, rfl, _, rfl, iteNo (by intro z; cases z) ?_⟩
    refine ⟨_, rfl, .inl ⟨r, _, rfl, .inr (w3.t hr), rfl, flat_ints _, _, rfl, ?_⟩⟩
    rw [if_neg (by decide), inV_int]
    refine iteNo (fun h0 => by have := h2.pos 0 h0; omega) ?_
    refine ⟨_, rfl, .ref r, p.2, rfl, ⟨r, rfl, .inr (w3.t hr)⟩, by have := h2.few; omega, h2.up, fun H4 s4 => ⟨_, rfl, iteF ?_⟩⟩
    have w4 := w3.same s4
    refine ⟨_, rfl, .inl ⟨q, _, 0, _, rfl, rfl, w4.l (same_l st.ff hL), atI_nat (j := 0) rfl, _, rfl, by show 2 ≤ sizeLine; decide, fun u hu => ?_⟩⟩
    obtain ⟨w5, e5⟩ := w4.fix hu (.tup [.str p.1, .ref r])
    exact k _ _ _ w5.done (.tup (.of upd_same) (.cons (.str _) (.cons (dp_mono e5 D) .nil)))

/-! ### read_warden -/
def spReadWarden (K : PySem.W.Frag) : Sp := fun vs H Q _ => ∃ (F : Hp) (u : Int × Int × Int), vs = [.str (wardW u)] ∧ (NumOk u.1 ∧ NumOk u.2.1 ∧ NumOk u.2.2) ∧ 1 ≤ u.1 ∧ u.2.1 < u.2.2 ∧ Same F H ∧ RetD K F H Q (encW u)
theorem ok_read_warden (T : Txt K mg A) : FnOk P w K mg base CX0 3 A.a_read_warden A.d_read_warden ["word"] (spReadWarden K) := by
  refine T.F_read_warden.ok sc_read_warden (fun vs H Q E h => ?_) (fun cdv A' outer s H vs Q E hr h => ?_)
  · obtain ⟨F, n, rfl, _⟩ := h; rfl
  · obtain ⟨F, u, rfl, hn, h1, h2, eF, k⟩ := h
    have hu64 := hu64_of hr
    have hu65 := hu65_of hr
    have w := Wd.start eF
    refine ⟨_, pss_cons (ps_set (i := 1) sc_read_warden.nd rfl (Or.inl rfl) (pe_split (pv 0) (pe_str)))
  (pss_cons (ps_if (pt_cmpR (op_neK (K := K) rfl hu64) (pe_callB (call_lenK (K := K) rfl) (by rfl) T.n_len (by decide +kernel) (pa_cons (pv 1) pa_nil)) (pe_int) (nomark _)) (pss_one (ps_ret (pe_non))) (pss_nil))
  (pss_cons (ps_set (i := 2) sc_read_warden.nd rfl (Or.inl rfl) (pe_call (ok_number_of T) (hr.mono (by decide)) rfl T.g_number_of T.F_number_of.kp T.b_number_of .nil pass0 (pa_cons (pe_ix (ix_K (K := K) rfl) (pv 1) (pe_int) (fun _ _ => rfl)) pa_nil)))
  (pss_cons (ps_set (i := 3) sc_read_warden.nd rfl (Or.inl rfl) (pe_call (ok_read_list T) (hr.mono (by decide)) rfl T.g_read_list T.F_read_list.kp T.b_read_list .nil pass0 (pa_cons (pe_ix (ix_K (K := K) rfl) (pv 1) (pe_int) (fun _ _ => rfl)) pa_nil)))
  (pss_cons (ps_if (PW.pt (pw_or (pt_cmp (pc_isN (pv 2))) (pw_or (pt_cmpR (op_ltK (K := K) rfl) (pv 2) (pe_int) (nomark _)) (pw_or (pt_cmp (pc_isN (pv 3))) (pw_or (pt_cmpR (op_neK (K := K) rfl hu64) (pe_callB (call_lenK (K := K) rfl) (by rfl) T.n_len (by decide +kernel) (pa_cons (pv 3) pa_nil)) (pe_int) (nomark _)) (pw_or1 (pt_cmpR (op_geK (K := K) rfl) (pe_ix (ix_K (K := K) rfl) (pv 3) (pe_int) (fun _ _ => rfl)) (pe_ix (ix_K (K := K) rfl) (pv 3) (pe_int) (fun _ _ => rfl)) (nomark _)))))))) (pss_one (ps_ret (pe_non))) (pss_nil))
  (pss_one (ps_ret (pe_tup (pa_cons (pv 2) (pa_cons (pe_ix (ix_K (K := K) rfl) (pv 3) (pe_int) (fun _ _ => rfl)) (pa_cons (pe_ix (ix_K (K := K) rfl) (pv 3) (pe_int) (fun _ _ => rfl)) pa_nil)))))))))), ?_⟩
    have hz := ward_len hn
    refine ⟨_, rfl, ⟨_, rfl⟩, _, _, rfl, rfl, by decide +kernel, small (by rw [len_tl]; omega), ?_⟩
    rw [split_ward hn]
    intro q hq
    obtain ⟨w1, e1⟩ := (w.own hq (.lst ([numS u.1, listW [u.2.1, u.2.2]].map V.str))).freeze
    have hL : SqL K (upd F q (.lst ([numS u.1, listW [u.2.1, u.2.2]].map V.str))) q ([numS u.1, listW [u.2.1, u.2.2]].map V.str) := .of upd_same
    refine ⟨_, rfl, _, _, rfl, .inl ⟨_, w1.l hL, rfl⟩, .inl ⟨rfl, _, rfl, iteNS rfl ?_⟩⟩
    refine ⟨_, rfl, .inl ⟨q, _, 0, _, rfl, rfl, w1.l hL, atI_nat (j := 0) rfl, u.1, rfl, hn.1, fun H2 s2 => ?_⟩⟩
    have w2 := w1.same s2
    refine ⟨_, rfl, .inl ⟨q, _, 1, _, rfl, rfl, w2.l hL, atI_nat (j := 1) rfl, _, [u.2.1, u.2.2], rfl, fun n h => ?_, by show 2 ≤ 100; decide, w2.fh, fun v F3 H3 st D => ?_⟩⟩
    · simp only [List.mem_cons, List.not_mem_nil, or_false] at h
      rcases h with rfl | rfl
      · exact hn.2.1
      · exact hn.2.2
    have w3 := w2.step st
    obtain ⟨r, xs, rfl, hr, da⟩ := dp_tup D
    have ev := dpa_ints da
    subst ev
    refine ⟨_, rfl, _, rfl, iteNo (by intro z; cases z) ?_⟩
    refine ⟨_, rfl, .inl ⟨_, _, rfl, rfl, _, rfl, iteNo (by omega) ?_⟩⟩
    refine ⟨_, rfl, _, rfl, iteNo (by intro z; cases z) ?_⟩
    refine ⟨_, rfl, _, _, rfl, .inr ⟨_, w3.t hr, rfl⟩, .inl ⟨rfl, _, rfl, iteNS rfl ?_⟩⟩
    refine ⟨_, rfl, .inr (.inl ⟨r, _, 0, _, rfl, rfl, w3.t hr, atI_nat (j := 0) rfl, _, rfl, .inr (.inl ⟨r, _, 1, _, rfl, rfl, w3.t hr, atI_nat (j := 1) rfl, .inl ⟨_, _, rfl, rfl, _, rfl, iteNo (by omega) ?_⟩⟩)⟩)⟩
    refine ⟨_, rfl, _, rfl, .inr (.inl ⟨r, _, 0, _, rfl, rfl, w3.t hr, atI_nat (j := 0) rfl, _, rfl, .inr (.inl ⟨r, _, 1, _, rfl, rfl, w3.t hr, atI_nat (j := 1) rfl, by show 3 ≤ sizeLine; decide, fun z hz => ?_⟩)⟩)⟩
    obtain ⟨w5, e5⟩ := w3.fix hz (.tup [.int u.1, .int u.2.1, .int u.2.2])
    exact k _ _ _ w5.done (.tup (.of upd_same) (.cons (.int _) (.cons (.int _) (.cons (.int _) .nil))))

/-! ### read_wardens -/
theorem none_tups (ds : List PyData) (h : ∀ d ∈ ds, ∃ xs, d = .tuple xs) : (ds.any fun z => PyData.eqv z .none) = false := by
  rw [List.any_eq_false]
  intro d hd
  obtain ⟨xs, rfl⟩ := h d hd
  simp [PyData.eqv]
theorem canlay_ints (ns : List Int) : PyData.canLayAll0 (ns.map PyData.int) = true := by
  induction ns with
  | nil => rfl
  | cons n ns ih => rw [List.map_cons, PyData.canLayAll0, ih]; rfl
theorem canlay_all {α : Type} {f : α → PyData} {l : List α} (h : ∀ x ∈ l, (f x).canLay0 = true) : PyData.canLayAll0 (l.map f) = true := by
  induction l with
  | nil => rfl
  | cons n ns ih => rw [List.map_cons, PyData.canLayAll0, h n (by simp), ih fun x hx => h x (List.mem_cons_of_mem _ hx)]; rfl
theorem depth_all {α : Type} {f : α → PyData} {k : Nat} {l : List α} (h : ∀ x ∈ l, (f x).depth ≤ k) : PyData.depthAll (l.map f) ≤ k := by
  induction l with
  | nil => exact Nat.zero_le _
  | cons n ns ih =>
    rw [List.map_cons, PyData.depthAll]
    exact Nat.max_le.mpr ⟨h n (by simp), ih fun x hx => h x (List.mem_cons_of_mem _ hx)⟩

def spReadWardens (K : PySem.W.Frag) : Sp := fun vs H Q _ => ∃ (F : Hp) (p : Addr) (ws : List (Int × Int × Int)), vs = [.ref p] ∧ SqL K F p ((ws.map wardW).map V.str) ∧ WsOk ws ∧ Same F H ∧ RetD K F H Q (encWs ws)
theorem canlay_ws (ws : List (Int × Int × Int)) : PyData.canLayAll0 (ws.map encW) = true := canlay_all fun x _ => by
  show PyData.canLay0 (.tuple _) = true
  rw [PyData.canLay0]
  rfl
theorem depth_w (x : Int × Int × Int) : (encW x).depth ≤ 2 := by
  show PyData.depth (.tuple _) ≤ 2
  simp [PyData.depth, PyData.depthAll]
theorem shaped_ws (ws : List (Int × Int × Int)) : SeqAt.shaped (.list (ws.map encW)) = true :=
  shaped_of (by rw [PyData.canLay0]; exact canlay_ws ws) (by
    have := depth_all (f := encW) (k := 2) (l := ws) fun x _ => depth_w x
    rw [PyData.depth]; omega)
theorem ok_read_wardens (T : Txt K mg A) : FnOk P w K mg base CX0 4 A.a_read_wardens A.d_read_wardens ["words"] (spReadWardens K) := by
  refine T.F_read_wardens.ok sc_read_wardens (fun vs H Q E h => ?_) (fun cdv A' outer s H vs Q E hr h => ?_)
  · obtain ⟨F, n, ws, rfl, _⟩ := h; rfl
  · obtain ⟨F, p, ws, rfl, hs, hw, eF, k⟩ := h
    have hu64 := hu64_of hr
    have hu65 := hu65_of hr
    have w := Wd.start eF
    have few := hw.few
    refine ⟨_, pss_cons (ps_setLc (i := 1) (own := [("word", 2)]) rfl sc_read_wardens.nd rfl rfl (sw_true rfl rfl rfl (by decide +kernel)) (pi_listK (K := K) rfl (pv 0)) (blkOk_by (own := [("word", 2)]) (N := ["words", "entries", "word", "entry"]) (sc := defScope s_read_wardens) (by decide +kernel)) (fun _ _ _ _ _ => pg_name (i := 2) sc_read_wardens.nd rfl (Or.inl rfl)) (fun _ _ _ _ _ => pts_nil) (fun _ _ _ _ _ => pe_call (ok_read_warden T) (hr.mono (by decide)) rfl T.g_read_warden T.F_read_warden.kp T.b_read_warden .nil pass0 (pa_cons (pv 2) pa_nil)))
  (pss_cons (ps_if (PW.pt (pw_or (pt_cmpR (op_inK (K := K) rfl hu65) (pe_non) (pv 1) (by rfl)) (pw_or1 (pt_not (pt_val (pe_call (ok_is_rising T) (hr.mono (by decide)) rfl T.g_is_rising T.F_is_rising.kp T.b_is_rising .nil pass0 (pa_cons (pe_lc (own := [("entry", 3)]) rfl sc_read_wardens.nd (pi_listK (K := K) rfl (pv 1)) (blkOk_by (own := [("entry", 3)]) (N := ["words", "entries", "word", "entry"]) (sc := defScope s_read_wardens) (by decide +kernel)) (fun _ _ _ _ _ => pg_name (i := 3) sc_read_wardens.nd rfl (Or.inl rfl)) (fun _ _ _ _ _ => pts_nil) (fun _ _ _ _ _ => pe_ix (ix_K (K := K) rfl) (pv 3) (pe_int) (fun _ _ => rfl))) pa_nil))))))) (pss_one (ps_ret (pe_non))) (pss_nil))
  (pss_one (ps_ret (pe_callTy (call_tupleK (K := K) rfl) (by rfl) T.n_tuple (by decide +kernel) (pa_cons (pv 1) pa_nil))))), ?_⟩
    refine ⟨_, rfl, p, rfl, ⟨_, w.l hs⟩, fun D hD => ?_⟩
    refine lc_wdL (ws.map encW) (by simp) w hD hs (by simp; omega) ?_ ?_
    · intro i x d F1 H1 acc Q1 hx hd e1 w1 kk
      rw [List.map_map] at hx
      obtain ⟨u, hu, rfl⟩ := item_map hx
      rw [List.getElem?_map, hu] at hd
      cases hd
      have hm := List.mem_of_getElem? hu
      exact ⟨rfl, _, rfl, F1, u, rfl, hw.num u hm, (hw.pos u hm).1, (hw.pos u hm).2, w1.fh, fun v F' H' st D => kk v F' H' st D⟩
    · intro vs' F' H' e1 w1 da
      obtain ⟨w2, e2⟩ := w1.freeze
      have hL : SqL K (upd F' D (.lst vs')) D vs' := .of upd_same
      have hvl : vs'.length = ws.length := by rw [dpa_len da, List.length_map]
      refine ⟨_, rfl, .inr (.inr (.inr ⟨_, ws.map encW, .non, .lst (w2.l hL) (dpa_mono (e2.trans w2.fh) da), rfl, shaped_ws ws, _, rfl, ?_⟩))⟩
      rw [none_tups _ fun d hd => by obtain ⟨u, _, rfl⟩ := List.mem_map.mp hd; exact ⟨_, rfl⟩]
      refine iteF ?_
      refine ⟨_, rfl, D, rfl, ⟨_, w2.l hL⟩, fun D2 hD2 => ?_⟩
      refine lc_wdL ((ws.map (·.1)).map PyData.int) (by rw [List.length_map, List.length_map, hvl]) w2 hD2 hL (by omega) ?_ ?_
      · intro i x d F1 H1 acc Q1 hx hd e3 w3 kk
        obtain ⟨d2, hd2, dx⟩ := dpa_get da hx
        obtain ⟨u, hu, rfl⟩ := item_map hd2
        rw [List.map_map, List.getElem?_map, hu] at hd
        cases hd
        obtain ⟨q, rfl, hq⟩ := wd_at dx
        have hq1 : SqT K H1 q _ := same_t ((e2.trans e3).trans w3.fh) hq
        exact ⟨rfl, _, rfl, .inr (.inl ⟨q, _, 0, _, rfl, rfl, hq1, atI_nat (j := 0) rfl, kk _ F1 H1 (.refl w3.fh) (.int _)⟩)⟩
      · intro vs2 F3 H3 e3 w3 da3
        have ev := dpa_ints da3
        subst ev
        refine ⟨.ref D2, ws.map (·.1), rfl, ⟨D2, rfl, .inl (.of w3.at_)⟩, by rw [List.length_map]; omega, hw.up, fun H4 s4 => ⟨_, rfl, iteF ?_⟩⟩
        have w4 := w3.drop.same s4
        refine ⟨_, rfl, D, _, rfl, .inl ⟨w4.l (same_l e3 hL), fun q hq => ?_⟩⟩
        obtain ⟨w5, e5⟩ := w4.fix hq (.tup vs')
        exact k _ _ _ w5.done (.tup (.of upd_same) (dpa_mono ((e2.trans e3).trans e5) da))

/-! ### read_cap -/
def spReadCap (K : PySem.W.Frag) : Sp := fun vs H Q _ => ∃ (F : Hp) (p : Addr) (a b : Int), vs = [.ref p] ∧ SqL K F p [.str (numS a), .str (numS b)] ∧ NumOk a ∧ NumOk b ∧ Same F H ∧ RetD K F H Q (.tuple [.str wCap, .int a, .int b])
theorem ok_read_cap (T : Txt K mg A) : FnOk P w K mg base CX0 2 A.a_read_cap A.d_read_cap ["words"] (spReadCap K) := by
  refine T.F_read_cap.ok sc_read_cap (fun vs H Q E h => ?_) (fun cdv A' outer s H vs Q E hr h => ?_)
  · obtain ⟨F, p, a, b, rfl, _⟩ := h; rfl
  · obtain ⟨F, p, a, b, rfl, hs, ha, hb, eF, k⟩ := h
    have w := Wd.start eF
    refine ⟨_, pss_cons (ps_set (i := 1) sc_read_cap.nd rfl (Or.inl rfl) (pe_call (ok_number_of T) (hr.mono (by decide)) rfl T.g_number_of T.F_number_of.kp T.b_number_of .nil pass0 (pa_cons (pe_ix (ix_K (K := K) rfl) (pv 0) (pe_int) (fun _ _ => rfl)) pa_nil)))
  (pss_cons (ps_set (i := 2) sc_read_cap.nd rfl (Or.inl rfl) (pe_call (ok_number_of T) (hr.mono (by decide)) rfl T.g_number_of T.F_number_of.kp T.b_number_of .nil pass0 (pa_cons (pe_ix (ix_K (K := K) rfl) (pv 0) (pe_int) (fun _ _ => rfl)) pa_nil)))
  (pss_cons (ps_if (PW.pt (pw_or (pt_cmp (pc_isN (pv 1))) (pw_or1 (pt_cmp (pc_isN (pv 2)))))) (pss_one (ps_ret (pe_non))) (pss_nil))
  (pss_one (ps_ret (pe_tup (pa_cons (pe_str) (pa_cons (pv 1) (pa_cons (pv 2) pa_nil)))))))), ?_⟩
    refine ⟨_, rfl, .inl ⟨p, _, 0, _, rfl, rfl, w.l hs, atI_nat (j := 0) rfl, a, rfl, ha, fun H1 s1 => ?_⟩⟩
    have w1 := w.same s1
    refine ⟨_, rfl, .inl ⟨p, _, 1, _, rfl, rfl, w1.l hs, atI_nat (j := 1) rfl, b, rfl, hb, fun H2 s2 => ?_⟩⟩
    have w2 := w1.same s2
    refine ⟨_, rfl, _, rfl, iteNo (by intro z; cases z) ?_⟩
    refine ⟨_, rfl, _, rfl, iteNo (by intro z; cases z) ?_⟩
    refine ⟨_, rfl, _, rfl, by show 3 ≤ sizeLine; decide, fun q hq => ?_⟩
    obtain ⟨w3, e3⟩ := w2.fix hq (.tup [.str wCap, .int a, .int b])
    exact k _ _ _ w3.done (.tup (.of upd_same) (.cons (.str _) (.cons (.int _) (.cons (.int _) .nil))))

end
end Q

set_option Elab.async false
set_option linter.all false
set_option maxRecDepth 100000
set_option maxHeartbeats 8000000
namespace Q
open PySem PySem.Spec PyProof.Rows L2 TL PW Rc
section
variable {P : Program} {w : World} {K : PySem.W.Frag} {mg : Str → Option Value} {base : Heap} {A : Ad}
/-! ### read_picture -/
theorem name_at {K : PySem.W.Frag} {H : Hp} {v : V} {p : Str × List Int} (h : Dp K H v (encName p)) : ∃ q r, v = .ref q ∧ SqT K H q [.str p.1, .ref r] ∧ SqT K H r (p.2.map V.int) := by
  obtain ⟨q, xs, rfl, hs, da⟩ := dp_tup h
  cases da with
  | cons a da => cases da with
    | cons b da =>
      cases da
      obtain ⟨r, ys, rfl, hr, db⟩ := dp_tup b
      rw [dp_str a] at hs
      have ev := dpa_ints db
      subst ev
      exact ⟨q, r, rfl, hs, hr⟩
theorem depth_ns (ns : List Int) : (encNs ns).depth ≤ 2 := by
  have := depth_all (f := PyData.int) (k := 1) (l := ns) fun x _ => by simp [PyData.depth]
  show PyData.depth (.tuple _) ≤ 2
  rw [PyData.depth]; omega
theorem depth_name (p : Str × List Int) : (encName p).depth ≤ 3 := by
  have := depth_ns p.2
  show PyData.depth (.tuple [_, _]) ≤ 3
  simp only [PyData.depth, PyData.depthAll]
  omega
theorem asc_name {x : Str} (h : NameOk x) : Asc x := fun c hc => by have := h.2.2 c hc; omega
theorem canlay_name {p : Str × List Int} (h : NameOk p.1) : (encName p).canLay0 = true := by
  show PyData.canLay0 (.tuple [_, .tuple _]) = true
  simp only [PyData.canLay0, PyData.canLayAll0, asc_ok (asc_name h), canlay_ints]
  rfl
theorem shaped_names {l : List (Str × List Int)} (h : ∀ p ∈ l, NameOk p.1) : SeqAt.shaped (.list (l.map encName)) = true :=
  shaped_of (by rw [PyData.canLay0]; exact canlay_all fun p hp => canlay_name (h p hp)) (by
    have := depth_all (f := encName) (k := 3) (l := l) fun x _ => depth_name x
    rw [PyData.depth]; omega)
def spReadPicture (K : PySem.W.Frag) : Sp := fun vs H Q _ => ∃ (F : Hp) (p : Addr) (caps : List Int) (names : List (Str × List Int)), vs = [.ref p] ∧ SqL K F p ((listW caps :: names.map nameW).map V.str) ∧
  caps ≠ [] ∧ (∀ c ∈ caps, NumOk c) ∧ caps.length ≤ 100 ∧ (∀ p ∈ names, NameOk p.1 ∧ NsOk p.2) ∧ (names.map (·.1)).Pairwise (fun x y => tl x < tl y) ∧ names.length ≤ 100 ∧ Same F H ∧ RetD K F H Q (.tuple [.str wPicture, encNs caps, .tuple (names.map encName)])
theorem ok_read_picture (T : Txt K mg A) : FnOk P w K mg base CX0 4 A.a_read_picture A.d_read_picture ["words"] (spReadPicture K) := by
  refine T.F_read_picture.ok sc_read_picture (fun vs H Q E h => ?_) (fun cdv A' outer s H vs Q E hr h => ?_)
  · obtain ⟨F, p, a, b, rfl, _⟩ := h; rfl
  · obtain ⟨F, p, caps, names, rfl, hs, c1, c2, c3, n1, n2, n3, eF, k⟩ := h
    have hu64 := hu64_of hr
    have hu65 := hu65_of hr
    have w := Wd.start eF
    refine ⟨_, pss_cons (ps_set (i := 1) sc_read_picture.nd rfl (Or.inl rfl) (pe_call (ok_read_list T) (hr.mono (by decide)) rfl T.g_read_list T.F_read_list.kp T.b_read_list .nil pass0 (pa_cons (pe_ix (ix_K (K := K) rfl) (pv 0) (pe_int) (fun _ _ => rfl)) pa_nil)))
  (pss_cons (ps_setLc (i := 2) (own := [("word", 3)]) rfl sc_read_picture.nd rfl rfl (sw_true rfl rfl rfl (by decide +kernel)) (pi_listK (K := K) rfl (pe_slice (sl_K (K := K) rfl) (pv 0) (po_some (pe_int)) po_none)) (blkOk_by (own := [("word", 3)]) (N := ["words", "caps", "names", "word", "name", "numbers"]) (sc := defScope s_read_picture) (by decide +kernel)) (fun _ _ _ _ _ => pg_name (i := 3) sc_read_picture.nd rfl (Or.inl rfl)) (fun _ _ _ _ _ => pts_nil) (fun _ _ _ _ _ => pe_call (ok_read_named T) (hr.mono (by decide)) rfl T.g_read_named T.F_read_named.kp T.b_read_named .nil pass0 (pa_cons (pv 3) pa_nil)))
  (pss_cons (ps_if (PW.pt (pw_or (pt_cmp (pc_isN (pv 1))) (pw_or (pt_cmpR (op_eqK (K := K) rfl hu64) (pe_callB (call_lenK (K := K) rfl) (by rfl) T.n_len (by decide +kernel) (pa_cons (pv 1) pa_nil)) (pe_int) (nomark _)) (pw_or1 (pt_cmpR (op_inK (K := K) rfl hu65) (pe_non) (pv 2) (by rfl)))))) (pss_one (ps_ret (pe_non))) (pss_nil))
  (pss_cons (ps_if (pt_not (pt_val (pe_call (ok_rising_strs T) (hr.mono (by decide)) rfl T.g_is_rising T.F_is_rising.kp T.b_is_rising .nil pass0 (pa_cons (pe_lc (own := [("name", 4), ("numbers", 5)]) rfl sc_read_picture.nd (pi_listK (K := K) rfl (pv 2)) (blkOk_by (own := [("name", 4), ("numbers", 5)]) (N := ["words", "caps", "names", "word", "name", "numbers"]) (sc := defScope s_read_picture) (by decide +kernel)) (fun _ _ _ _ _ => pg_tupK (K := K) (n := 2) rfl rfl (pgs_cons (pg_name (i := 4) sc_read_picture.nd rfl (Or.inl rfl)) (pgs_cons (pg_name (i := 5) sc_read_picture.nd rfl (Or.inl rfl)) pgs_nil))) (fun _ _ _ _ _ => pts_nil) (fun _ _ _ _ _ => pv 4)) pa_nil)))) (pss_one (ps_ret (pe_non))) (pss_nil))
  (pss_one (ps_ret (pe_tup (pa_cons (pe_str) (pa_cons (pv 1) (pa_cons (pe_callTy (call_tupleK (K := K) rfl) (by rfl) T.n_tuple (by decide +kernel) (pa_cons (pv 2) pa_nil)) pa_nil))))))))), ?_⟩
    refine ⟨_, rfl, .inl ⟨p, _, 0, _, rfl, rfl, w.l hs, atI_nat (j := 0) rfl, F, caps, rfl, c2, c3, w.fh, fun v F1 H1 st1 D1 => ?_⟩⟩
    have w1 := w.step st1
    obtain ⟨r, xs, rfl, hrr, da1⟩ := dp_tup D1
    have ev := dpa_ints da1
    subst ev
    -- words[1:]
    refine ⟨_, rfl, _, rfl, .inr (.inl ⟨p, _, rfl, w1.l (same_l st1.ff hs), fun q hq => ?_⟩)⟩
    have ec : cutV ((listW caps :: names.map nameW).map V.str) (some 1) none = (names.map nameW).map V.str := cutV_tail _ _
    have hq' := hq
    rw [ec]
    obtain ⟨w2, e2⟩ := (w1.own hq (.lst ((names.map nameW).map V.str))).freeze
    have hL : SqL K (upd F1 q (.lst ((names.map nameW).map V.str))) q ((names.map nameW).map V.str) := .of upd_same
    refine ⟨q, rfl, ⟨_, w2.l hL⟩, fun D hD => ?_⟩
    refine lc_wdL (names.map encName) (by simp) w2 hD hL (by simp; omega) ?_ ?_
    · intro i x d F3 H3 acc Q3 hx hd e3 w3 kk
      rw [List.map_map] at hx
      obtain ⟨u, hu, rfl⟩ := item_map hx
      rw [List.getElem?_map, hu] at hd
      cases hd
      have hm := n1 u (List.mem_of_getElem? hu)
      exact ⟨rfl, _, rfl, F3, u, rfl, hm.1, hm.2, w3.fh, fun v F' H' st D => kk v F' H' st D⟩
    · intro vs' F3 H3 e3 w3 da3
      obtain ⟨w4, e4⟩ := w3.freeze
      have hN : SqL K (upd F3 D (.lst vs')) D vs' := .of upd_same
      have hvl : vs'.length = names.length := by rw [dpa_len da3, List.length_map]
      have hcaps : SqT K (upd F3 D (.lst vs')) r (caps.map V.int) := same_t ((e2.trans e3).trans e4) hrr
      refine ⟨_, rfl, _, rfl, iteNo (by intro z; cases z) ?_⟩
      refine ⟨_, rfl, _, _, rfl, .inr ⟨_, w4.t hcaps, rfl⟩, .inl ⟨rfl, _, rfl, iteNo (fun z => ?_) ?_⟩⟩
      · have z := V.int.inj z
        rw [List.length_map] at z
        have : 0 < caps.length := List.length_pos_iff.mpr c1
        omega
      refine ⟨_, rfl, .inr (.inr (.inr ⟨_, names.map encName, .non, .lst (w4.l hN) (dpa_mono (e4.trans w4.fh) da3), rfl, shaped_names fun p hp => (n1 p hp).1, _, rfl, ?_⟩))⟩
      rw [none_tups _ fun d hd => by obtain ⟨u, _, rfl⟩ := List.mem_map.mp hd; exact ⟨_, rfl⟩]
      refine iteF ?_
      refine ⟨_, rfl, D, rfl, ⟨_, w4.l hN⟩, fun D2 hD2 => ?_⟩
      refine lc_wdL ((names.map (·.1)).map PyData.str) (by rw [List.length_map, List.length_map, hvl]) w4 hD2 hN (by omega) ?_ ?_
      · intro i x d F5 H5 acc Q5 hx hd e5 w5 kk
        obtain ⟨d2, hd2, dx⟩ := dpa_get da3 hx
        obtain ⟨u, hu, rfl⟩ := item_map hd2
        rw [List.map_map, List.getElem?_map, hu] at hd
        cases hd
        obtain ⟨q1, r1, rfl, hq1, hr1⟩ := name_at dx
        have hq2 : SqT K H5 q1 _ := same_t ((e4.trans e5).trans w5.fh) hq1
        exact ⟨q1, _, rfl, hq2, rfl, _, _, rfl, _, _, rfl, rfl, rfl, _, rfl, kk _ F5 H5 (.refl w5.fh) (.str _)⟩
      · intro vs2 F5 H5 e5 w5 da5
        have ev := dpa_strs da5
        subst ev
        refine ⟨D2, names.map (·.1), rfl, .of w5.at_, by rw [List.length_map]; omega, n2, fun H6 s6 => ⟨_, rfl, iteF ?_⟩⟩
        have w6 := w5.drop.same s6
        refine ⟨_, rfl, _, rfl, D, _, rfl, .inl ⟨w6.l (same_l e5 hN), fun q7 hq7 => ?_⟩⟩
        obtain ⟨w7, e7⟩ := w6.fix hq7 (.tup vs')
        refine ⟨by show 3 ≤ sizeLine; decide, fun q8 hq8 => ?_⟩
        obtain ⟨w8, e8⟩ := w7.fix hq8 (.tup [.str wPicture, .ref r, .ref q7])
        exact k _ _ _ w8.done (.tup (.of upd_same) (.cons (.str _) (.cons (dp_mono ((e5.trans e7).trans e8) (.tup hcaps dpa_of_ints)) (.cons (dp_mono e8 (.tup (.of upd_same) (dpa_mono ((e4.trans e5).trans e7) da3))) .nil))))

/-! ### read_head -/
theorem canlay_strs {l : List Str} (h : ∀ x ∈ l, Asc x) : PyData.canLay0 (.list (l.map PyData.str)) = true := by
  rw [PyData.canLay0]
  exact canlay_all fun x hx => canlay_str (asc_ok (h x hx))
theorem shaped_strs {l : List Str} (h : ∀ x ∈ l, Asc x) : SeqAt.shaped (.list (l.map PyData.str)) = true :=
  shaped_of (canlay_strs h) (by
    have := depth_all (f := PyData.str) (k := 1) (l := l) fun x _ => by simp [PyData.depth]
    rw [PyData.depth]; omega)
theorem eqv_strs : ∀ {l m : List Str}, PyData.eqvAll (l.map PyData.str) (m.map PyData.str) = decide (l = m)
  | [], [] => rfl
  | [], _ :: _ => rfl
  | _ :: _, [] => rfl
  | a :: l, b :: m => by
    have e : PyData.eqvAll ((a :: l).map PyData.str) ((b :: m).map PyData.str) = (PyData.eqv (.str a) (.str b) && PyData.eqvAll (l.map PyData.str) (m.map PyData.str)) := by rw [List.map_cons, List.map_cons, PyData.eqvAll]
    rw [e, eqv_strs (l := l) (m := m)]
    have e2 : PyData.eqv (.str a) (.str b) = (a == b) := by rw [PyData.eqv]
    rw [e2]
    by_cases h : a = b
    · subst h; simp
    · simp [h]
theorem asc_lit (x : String) (h : ∀ c ∈ x.toList.map Char.toNat, c < 128) : Asc (x : Str) := fun c hc => h c (by rw [← ofS_tl]; exact hc)
theorem asc_listW {ns : List Int} (h : ∀ n ∈ ns, NumOk n) : Asc (listW ns) := asc_join (asc_lit "," (by decide)) fun p hp => by
  obtain ⟨n, hn, rfl⟩ := List.mem_map.mp hp
  exact asc_num (h n hn).1
theorem asc_nameW {p : Str × List Int} (h1 : NameOk p.1) (h2 : NsOk p.2) : Asc (nameW p) := asc_app (asc_app (asc_name h1) (asc_lit "=" (by decide))) (asc_listW h2.num)
theorem asc_head {r : Rec} (h : RecOk r) : ∀ x ∈ headW r, Asc x := by
  cases r with
  | picture caps names ws =>
    obtain ⟨_, h2, _, h4, _⟩ := h
    intro x hx
    have hx : x ∈ [wPicture, listW caps] ++ names.map nameW := hx
    rcases List.mem_append.mp hx with hx | hx
    · simp only [List.mem_cons, List.not_mem_nil, or_false] at hx
      rcases hx with rfl | rfl
      · exact asc_lit "picture" (by decide)
      · exact asc_listW h2
    · obtain ⟨p, hp, rfl⟩ := List.mem_map.mp hx
      exact asc_nameW (h4 p hp).1 (h4 p hp).2
  | put n ns ws =>
    intro x hx
    have hx : x ∈ [wPut, nameW (n, ns)] := hx
    simp only [List.mem_cons, List.not_mem_nil, or_false] at hx
    rcases hx with rfl | rfl
    · exact asc_lit "put" (by decide)
    · exact asc_nameW (p := (n, ns)) h.1 h.2.1
  | erase n =>
    intro x hx
    have hx : x ∈ [wErase, n] := hx
    simp only [List.mem_cons, List.not_mem_nil, or_false] at hx
    rcases hx with rfl | rfl
    · exact asc_lit "erase" (by decide)
    · exact asc_name h
  | deal ws =>
    intro x hx
    have hx : x ∈ [wDeal] := hx
    simp only [List.mem_cons, List.not_mem_nil, or_false] at hx
    subst hx
    exact asc_lit "deal" (by decide)
  | cap s c ws =>
    intro x hx
    have hx : x ∈ [wCap, numS s, numS c] := hx
    simp only [List.mem_cons, List.not_mem_nil, or_false] at hx
    rcases hx with rfl | rfl | rfl
    · exact asc_lit "cap" (by decide)
    · exact asc_num h.1.1
    · exact asc_num h.2.1.1
def isErase : Rec → Bool
  | .erase _ => true
  | _ => false
def spReadHead (K : PySem.W.Frag) : Sp := fun vs H Q _ => ∃ (F : Hp) (p : Addr) (r : Rec), vs = [.ref p] ∧ SqL K F p ((headW r).map V.str) ∧ RecOk r ∧ isErase r = false ∧ Same F H ∧ RetD K F H Q (.tuple (headD r))
theorem eqD_strs {K : PySem.W.Frag} {H : Hp} {p q : Addr} {l m : List Str} {Q : VK} (hp : SqL K H p (l.map V.str)) (hq : SqL K H q (m.map V.str)) (hl : ∀ x ∈ l, Asc x) (hm : ∀ x ∈ m, Asc x) (k : Q (.bl (decide (l = m))) H) : rEqU K (.ref p) (.ref q) H Q := by
  refine .inr ⟨_, _, .lst hp dpa_of_strs, .lst hq dpa_of_strs, shaped_strs hl, shaped_strs hm, ?_⟩
  have e : PyData.eqv (.list (l.map PyData.str)) (.list (m.map PyData.str)) = decide (l = m) := by rw [PyData.eqv, eqv_strs]
  rw [e]
  exact k
theorem ok_read_head (T : Txt K mg A) : FnOk P w K mg base CX0 5 A.a_read_head A.d_read_head ["words"] (spReadHead K) := by
  refine T.F_read_head.ok sc_read_head (fun vs H Q E h => ?_) (fun cdv A' outer s H vs Q E hr h => ?_)
  · obtain ⟨F, p, a, rfl, _⟩ := h; rfl
  · obtain ⟨F, p, r, rfl, hs, ok, ne, eF, k⟩ := h
    have hu64 := hu64_of hr
    have hu65 := hu65_of hr
    have w := Wd.start eF
    refine ⟨_, pss_cons (ps_if (pt_cmpR (op_eqK (K := K) rfl hu64) (pv 0) (pe_lst (pa_cons (pe_str) pa_nil)) (nomark _)) (pss_one (ps_ret (pe_tup (pa_cons (pe_str) pa_nil)))) (pss_nil))
  (pss_cons (ps_if (PW.pt (pw_and (pt_cmpR (op_eqK (K := K) rfl hu64) (pe_callB (call_lenK (K := K) rfl) (by rfl) T.n_len (by decide +kernel) (pa_cons (pv 0) pa_nil)) (pe_int) (nomark _)) (pw_and1 (pt_cmpR (op_eqK (K := K) rfl hu64) (pe_ix (ix_K (K := K) rfl) (pv 0) (pe_int) (fun _ _ => rfl)) (pe_str) (nomark _))))) (pss_cons (ps_set (i := 1) sc_read_head.nd rfl (Or.inl rfl) (pe_call (ok_read_named T) (hr.mono (by decide)) rfl T.g_read_named T.F_read_named.kp T.b_read_named .nil pass0 (pa_cons (pe_ix (ix_K (K := K) rfl) (pv 0) (pe_int) (fun _ _ => rfl)) pa_nil)))
    (pss_cons (ps_if (pt_cmp (pc_isN (pv 1))) (pss_one (ps_ret (pe_non))) (pss_nil))
    (pss_one (ps_ret (pe_op (op_addK (K := K) rfl) (pe_tup (pa_cons (pe_str) pa_nil)) (pv 1)))))) (pss_nil))
  (pss_cons (ps_if (PW.pt (pw_and (pt_cmpR (op_eqK (K := K) rfl hu64) (pe_callB (call_lenK (K := K) rfl) (by rfl) T.n_len (by decide +kernel) (pa_cons (pv 0) pa_nil)) (pe_int) (nomark _)) (pw_and1 (pt_cmpR (op_eqK (K := K) rfl hu64) (pe_ix (ix_K (K := K) rfl) (pv 0) (pe_int) (fun _ _ => rfl)) (pe_str) (nomark _))))) (pss_one (ps_ret (pe_call (ok_read_cap T) (hr.mono (by decide)) rfl T.g_read_cap T.F_read_cap.kp T.b_read_cap .nil pass0 (pa_cons (pe_slice (sl_K (K := K) rfl) (pv 0) (po_some (pe_int)) po_none) pa_nil)))) (pss_nil))
  (pss_cons (ps_if (PW.pt (pw_and (pt_cmpR (op_geK (K := K) rfl) (pe_callB (call_lenK (K := K) rfl) (by rfl) T.n_len (by decide +kernel) (pa_cons (pv 0) pa_nil)) (pe_int) (nomark _)) (pw_and1 (pt_cmpR (op_eqK (K := K) rfl hu64) (pe_ix (ix_K (K := K) rfl) (pv 0) (pe_int) (fun _ _ => rfl)) (pe_str) (nomark _))))) (pss_one (ps_ret (pe_call (ok_read_picture T) (hr.mono (by decide)) rfl T.g_read_picture T.F_read_picture.kp T.b_read_picture .nil pass0 (pa_cons (pe_slice (sl_K (K := K) rfl) (pv 0) (po_some (pe_int)) po_none) pa_nil)))) (pss_nil))
  (pss_one (ps_ret (pe_non)))))), ?_⟩
    -- words == ["deal"]
    refine ⟨_, rfl, by show 1 ≤ sizeLine; decide, fun q hq => ?_⟩
    obtain ⟨w1, e1⟩ := w.fix hq (.lst [.str wDeal])
    have hs1 := w1.l (same_l e1 hs)
    refine eqD_strs (m := [wDeal]) hs1 (.of upd_same) (asc_head ok) (fun x hx => by rw [List.mem_singleton.mp hx]; exact asc_lit "deal" (by decide)) ⟨_, rfl, ?_⟩
    cases r with
    | erase n => cases ne
    | deal ws =>
      refine iteYes rfl ?_
      refine ⟨by show 1 ≤ sizeLine; decide, fun q2 hq2 => ?_⟩
      obtain ⟨w2, e2⟩ := w1.fix hq2 (.tup [.str wDeal])
      exact k _ _ _ w2.done (.tup (.of upd_same) (.cons (.str _) .nil))
    | put n ns ws =>
      refine iteNo (fun z => by cases z) ?_
      refine ⟨_, rfl, _, _, rfl, .inl ⟨_, hs1, rfl⟩, .inl ⟨rfl, _, rfl, iteYes rfl ?_⟩⟩
      refine ⟨_, rfl, .inl ⟨p, _, 0, _, rfl, rfl, hs1, atI_nat (j := 0) rfl, .inl ⟨rfl, _, rfl, iteYes rfl ?_⟩⟩⟩
      refine ⟨_, rfl, .inl ⟨p, _, 1, _, rfl, rfl, hs1, atI_nat (j := 1) rfl, _, (n, ns), rfl, ok.1, ok.2.1, w1.fh, fun v F2 H2 st D => ?_⟩⟩
      have w2 := w1.step st
      obtain ⟨q1, r1, rfl, hq1, hr1⟩ := name_at D
      refine ⟨_, rfl, _, rfl, iteNo (by intro z; cases z) ?_⟩
      refine ⟨by show 1 ≤ sizeLine; decide, fun q2 hq2 => ⟨_, rfl, ?_⟩⟩
      obtain ⟨w3, e3⟩ := w2.fix hq2 (.tup [.str wPut])
      refine .inr (.inr (.inr ⟨q2, q1, [.str wPut], [.str n, .ref r1], rfl, rfl, .of upd_same, w3.t (same_t e3 hq1), by show 1 + 2 ≤ sizeLine; decide, fun z => (by cases z), fun _ z => (by cases z), fun _ _ q4 hq4 => ?_⟩))
      obtain ⟨w4, e4⟩ := w3.fix hq4 (.tup [.str wPut, .str n, .ref r1])
      exact k _ _ _ w4.done (.tup (.of upd_same) (.cons (.str _) (.cons (.str _) (.cons (.tup (same_t (e3.trans e4) hr1) dpa_of_ints) .nil))))
    | cap a b ws =>
      refine iteNo (fun z => by cases z) ?_
      refine ⟨_, rfl, _, _, rfl, .inl ⟨_, hs1, rfl⟩, .inl ⟨rfl, _, rfl, iteNo (by show ¬ V.int ((3 : Nat) : Int) = V.int 2; decide) ?_⟩⟩
      refine iteF ?_
      refine ⟨_, rfl, _, _, rfl, .inl ⟨_, hs1, rfl⟩, .inl ⟨rfl, _, rfl, iteYes rfl ?_⟩⟩
      refine ⟨_, rfl, .inl ⟨p, _, 0, _, rfl, rfl, hs1, atI_nat (j := 0) rfl, .inl ⟨rfl, _, rfl, iteYes rfl ?_⟩⟩⟩
      refine ⟨_, rfl, _, rfl, .inr (.inl ⟨p, _, rfl, hs1, fun q2 hq2 => ?_⟩)⟩
      have ec : cutV ((headW (.cap a b ws)).map V.str) (some 1) none = [.str (numS a), .str (numS b)] := cutV_tail _ _
      rw [ec]
      obtain ⟨w2, e2⟩ := w1.fix hq2 (.lst [.str (numS a), .str (numS b)])
      exact ⟨_, q2, a, b, rfl, .of upd_same, ok.1, ok.2.1, w2.fh, fun v F' H' st D => k v F' H' (w2.step st).done D⟩
    | picture caps names ws =>
      obtain ⟨c1, c2, c3, n1, n2, n3, _⟩ := ok
      have hlen : ((headW (.picture caps names ws)).map V.str).length = 2 + names.length := by simp [headW]; omega
      have p0 : ((headW (.picture caps names ws)).map V.str)[0]? = some (.str wPicture) := rfl
      refine iteNo (fun z => by cases z) ?_
      -- len(words) == 2 and words[0] == "put"
      refine ⟨_, rfl, _, _, rfl, .inl ⟨_, hs1, rfl⟩, .inl ⟨rfl, _, rfl, ?_⟩⟩
      rw [hlen]
      have last : ∀ D : Ends, D.rt = Q → ((tSeq (tIfS (tAnd (tTest (tOp (rGeU K) (tCB (rLn K) (tCons (tVar 0) tNil)) (tC (.int 2)))) (tTest (tOp (rEqU K) (tOp (rIx K) (tVar 0) (tC (.int 0))) (tC (.str wPicture))))) (tRet (tCall (spReadPicture K) [] E0 (tCons (tSl (rSlU K) (tVar 0) (tPart (tC (.int 1))) tNoPart) tNil))) tNext) (tRet (tC .non))) D [some (.ref p)] (upd H q (.lst [.str wDeal]))) := fun D hD => by
        refine ⟨_, rfl, _, _, rfl, .inl ⟨_, hs1, rfl⟩, .inl ⟨_, _, rfl, rfl, _, rfl, iteYes (by rw [hlen]; omega) ?_⟩⟩
        refine ⟨_, rfl, .inl ⟨p, _, 0, _, rfl, rfl, hs1, atI_nat (j := 0) p0, .inl ⟨rfl, _, rfl, iteYes rfl ?_⟩⟩⟩
        refine ⟨_, rfl, _, rfl, .inr (.inl ⟨p, _, rfl, hs1, fun q2 hq2 => ?_⟩)⟩
        have ec : cutV ((headW (.picture caps names ws)).map V.str) (some 1) none = (listW caps :: names.map nameW).map V.str := cutV_tail _ _
        rw [ec]
        obtain ⟨w2, e2⟩ := w1.fix hq2 (.lst ((listW caps :: names.map nameW).map V.str))
        refine ⟨_, q2, caps, names, rfl, .of upd_same, c1, c2, c3, n1, n2, n3, w2.fh, fun v F' H' st D' => ?_⟩
        show D.rt v H'
        rw [hD]
        exact k v F' H' (w2.step st).done D'
      have third : ∀ D : Ends, D.rt = Q → ((tSeq (tIfS (tAnd (tTest (tOp (rEqU K) (tCB (rLn K) (tCons (tVar 0) tNil)) (tC (.int 3)))) (tTest (tOp (rEqU K) (tOp (rIx K) (tVar 0) (tC (.int 0))) (tC (.str wCap))))) (tRet (tCall (spReadCap K) [] E0 (tCons (tSl (rSlU K) (tVar 0) (tPart (tC (.int 1))) tNoPart) tNil))) tNext)
          (tSeq (tIfS (tAnd (tTest (tOp (rGeU K) (tCB (rLn K) (tCons (tVar 0) tNil)) (tC (.int 2)))) (tTest (tOp (rEqU K) (tOp (rIx K) (tVar 0) (tC (.int 0))) (tC (.str wPicture))))) (tRet (tCall (spReadPicture K) [] E0 (tCons (tSl (rSlU K) (tVar 0) (tPart (tC (.int 1))) tNoPart) tNil))) tNext) (tRet (tC .non)))) D [some (.ref p)] (upd H q (.lst [.str wDeal]))) := fun D hD => by
        refine ⟨_, rfl, _, _, rfl, .inl ⟨_, hs1, rfl⟩, .inl ⟨rfl, _, rfl, ?_⟩⟩
        refine iteD (fun _ => ?_) (fun _ => iteF (last D hD))
        exact ⟨_, rfl, .inl ⟨p, _, 0, _, rfl, rfl, hs1, atI_nat (j := 0) p0, .inl ⟨rfl, _, rfl, iteNo (by decide +kernel) (last D hD)⟩⟩⟩
      refine iteD (fun _ => ?_) (fun _ => iteF (third _ rfl))
      exact ⟨_, rfl, .inl ⟨p, _, 0, _, rfl, rfl, hs1, atI_nat (j := 0) p0, .inl ⟨rfl, _, rfl, iteNo (by decide +kernel) (third _ rfl)⟩⟩⟩

end
end Q

set_option Elab.async false
set_option linter.all false
set_option maxRecDepth 100000
set_option maxHeartbeats 8000000
namespace Q
open PySem PySem.Spec PyProof.Rows L2 TL PW Rc
section
variable {P : Program} {w : World} {K : PySem.W.Frag} {mg : Str → Option Value} {base : Heap} {A : Ad}
/-! ### read_record -/
theorem head_none_stroke {r : Rec} (h : RecOk r) : ∀ x ∈ headW r, x ≠ stroke := fun x hx e => by
  have := head_free h (s := 47) (by omega) x hx
  rw [e, ofS_tl] at this
  exact this (by decide)
def spReadRecord (K : PySem.W.Frag) : Sp := fun vs H Q _ => ∃ (F : Hp) (x : Str) (o : Option Rec), vs = [.str x] ∧ Parses x o ∧ x.length ≤ 1000000 ∧ Same F H ∧ RetD K F H Q (encO o)
theorem len_one (c : Nat) : (⟨#[c]⟩ : Str).length = 1 := rfl
theorem words_head {r : Rec} (h : isErase r = false) : words r = headW r ++ [stroke] ++ r.ws.map wardW := by cases r <;> first | rfl | cases h
theorem encR_head {r : Rec} (h : isErase r = false) : encR r = .tuple (headD r ++ [encWs r.ws]) := by cases r <;> first | rfl | cases h
theorem headD_ne (r : Rec) : headD r ≠ [] := by cases r <;> simp [headD]
theorem head0_erase {r : Rec} (h : isErase r = false) {x : Str} (hx : (headW r)[0]? = some x) : x ≠ wErase := by
  cases r with
  | erase n => cases h
  | picture a b c => cases hx; decide +kernel
  | put a b c => cases hx; decide +kernel
  | deal a => cases hx; decide +kernel
  | cap a b c => cases hx; decide +kernel
theorem inV_str (x : Str) (ns : List Str) : inV (.str x) (ns.map V.str) = decide (x ∈ ns) := by
  induction ns with
  | nil => rfl
  | cons a l ih =>
    have e : inV (.str x) ((a :: l).map V.str) = (eqV (.str a) (.str x) || inV (.str x) (l.map V.str)) := rfl
    rw [e, ih]
    have e2 : eqV (.str a) (.str x) = decide (a = x) := by first | rfl | (simp [eqV]; done) | (unfold eqV; simp [Bool.beq_eq_decide_eq])
    rw [e2]
    by_cases h : a = x
    · subst h; simp
    · simp [h, Ne.symm h, eq_comm]
theorem ok_read_record (T : Txt K mg A) : FnOk P w K mg base CX0 6 A.a_read_record A.d_read_record ["text"] (spReadRecord K) := by
  refine T.F_read_record.ok sc_read_record (fun vs H Q E h => ?_) (fun cdv A' outer s H vs Q E hr h => ?_)
  · obtain ⟨F, p, a, rfl, _⟩ := h; rfl
  · obtain ⟨F, x, o, rfl, ps, hz, eF, k⟩ := h
    have hu64 := hu64_of hr
    have hu65 := hu65_of hr
    have w := Wd.start eF
    refine ⟨_, pss_cons (ps_if (pt_cmpR (op_neK (K := K) rfl hu64) (pe_slice (sl_K (K := K) rfl) (pv 0) (po_some (pe_un un_neg (pe_int))) po_none) (pe_str) (nomark _)) (pss_one (ps_ret (pe_non))) (pss_nil))
  (pss_cons (ps_set (i := 1) sc_read_record.nd rfl (Or.inl rfl) (pe_split (pe_slice (sl_K (K := K) rfl) (pv 0) po_none (po_some (pe_un un_neg (pe_int)))) (pe_str)))
  (pss_cons (ps_if (pt_cmpR (op_eqK (K := K) rfl hu64) (pe_ix (ix_K (K := K) rfl) (pv 1) (pe_int) (fun _ _ => rfl)) (pe_str) (nomark _)) (pss_cons (ps_if (PW.pt (pw_or (pt_cmpR (op_neK (K := K) rfl hu64) (pe_callB (call_lenK (K := K) rfl) (by rfl) T.n_len (by decide +kernel) (pa_cons (pv 1) pa_nil)) (pe_int) (nomark _)) (pw_or1 (pt_not (pt_val (pe_call (ok_is_name T) (hr.mono (by decide)) rfl T.g_is_name T.F_is_name.kp T.b_is_name .nil pass0 (pa_cons (pe_ix (ix_K (K := K) rfl) (pv 1) (pe_int) (fun _ _ => rfl)) pa_nil))))))) (pss_one (ps_ret (pe_non))) (pss_nil))
    (pss_one (ps_ret (pe_tup (pa_cons (pe_str) (pa_cons (pe_ix (ix_K (K := K) rfl) (pv 1) (pe_int) (fun _ _ => rfl)) pa_nil)))))) (pss_nil))
  (pss_cons (ps_if (pt_cmpR (op_notInK (K := K) rfl hu65) (pe_str) (pv 1) (by rfl)) (pss_one (ps_ret (pe_non))) (pss_nil))
  (pss_cons (ps_set (i := 2) sc_read_record.nd rfl (Or.inl rfl) (pe_bm PySem.F.plainAttrs_list PySem.F.slot_list_index PySem.F.type_list_index (mt_indexD hu65) (pv 1) (pa_cons (pe_str) pa_nil)))
  (pss_cons (ps_set (i := 3) sc_read_record.nd rfl (Or.inl rfl) (pe_call (ok_read_head T) (hr.mono (by decide)) rfl T.g_read_head T.F_read_head.kp T.b_read_head .nil pass0 (pa_cons (pe_slice (sl_K (K := K) rfl) (pv 1) po_none (po_some (pv 2))) pa_nil)))
  (pss_cons (ps_set (i := 4) sc_read_record.nd rfl (Or.inl rfl) (pe_call (ok_read_wardens T) (hr.mono (by decide)) rfl T.g_read_wardens T.F_read_wardens.kp T.b_read_wardens .nil pass0 (pa_cons (pe_slice (sl_K (K := K) rfl) (pv 1) (po_some (pe_op (op_addK (K := K) rfl) (pv 2) (pe_int))) po_none) pa_nil)))
  (pss_cons (ps_if (PW.pt (pw_or (pt_cmp (pc_isN (pv 3))) (pw_or1 (pt_cmp (pc_isN (pv 4)))))) (pss_one (ps_ret (pe_non))) (pss_nil))
  (pss_one (ps_ret (pe_op (op_addK (K := K) rfl) (pv 3) (pe_tup (pa_cons (pv 4) pa_nil)))))))))))), ?_⟩
    -- text[-1:] != ";"
    refine ⟨_, rfl, _, rfl, _, rfl, .inl ⟨x, rfl, small hz, .inl ⟨rfl, _, rfl, ?_⟩⟩⟩
    cases o with
    | none =>
      refine iteNY (fun e => ?_) ?_
      · exact cut_torn ps (some (-1)) none (V.str.inj e)
      · exact k _ _ _ w.done .non
    | some r =>
      obtain ⟨rfl, ok⟩ := ps
      refine iteNS (congrArg V.str (cut_last _ 59)) ?_
      -- words = text[:-1].split(" ")
      have hi : cutS (recText r) none (some (-1)) = Txt.join space (words r) := cut_init _ 59
      refine ⟨_, rfl, _, rfl, _, rfl, .inl ⟨_, rfl, small hz, ⟨_, rfl⟩, _, _, rfl, rfl, by decide +kernel, ?_⟩⟩
      rw [hi]
      refine ⟨small (by have := text_len ok; rw [len_tl]; omega), ?_⟩
      rw [show Txt.split (Txt.join space (words r)) (Str.ofString " ") = words r from split_words ok]
      intro q hq
      obtain ⟨w1, e1⟩ := (w.own hq (.lst ((words r).map V.str))).freeze
      have hL : SqL K (upd F q (.lst ((words r).map V.str))) q ((words r).map V.str) := .of upd_same
      by_cases her : isErase r = true
      · cases r with
        | erase n =>
          refine ⟨_, rfl, .inl ⟨q, _, 0, _, rfl, rfl, w1.l hL, atI_nat (j := 0) rfl, .inl ⟨rfl, _, rfl, iteYes rfl ?_⟩⟩⟩
          refine ⟨_, rfl, _, _, rfl, .inl ⟨_, w1.l hL, rfl⟩, .inl ⟨rfl, _, rfl, iteNS rfl ?_⟩⟩
          refine ⟨_, rfl, .inl ⟨q, _, 1, _, rfl, rfl, w1.l hL, atI_nat (j := 1) rfl, n, rfl, ok, fun H2 s2 => ⟨_, rfl, iteF ?_⟩⟩⟩
          have w2 := w1.same s2
          refine ⟨_, rfl, .inl ⟨q, _, 1, _, rfl, rfl, w2.l hL, atI_nat (j := 1) rfl, by show 2 ≤ sizeLine; decide, fun z hz => ?_⟩⟩
          obtain ⟨w3, e3⟩ := w2.fix hz (.tup [.str wErase, .str n])
          exact k _ _ _ w3.done (.tup (.of upd_same) (.cons (.str _) (.cons (.str _) .nil)))
        | _ => cases her
      · have her : isErase r = false := by simpa using her
        have hw := words_head her
        have hne : headW r ≠ [] := by cases r <;> simp [headW]
        obtain ⟨y, hy⟩ : ∃ y, (headW r)[0]? = some y := ⟨_, List.getElem?_eq_getElem (List.length_pos_iff.mpr hne)⟩
        have hy' : ((words r).map V.str)[0]? = some (.str y) := by
          rw [hw, List.getElem?_map, List.append_assoc, List.getElem?_append_left (List.length_pos_iff.mpr hne), hy]
          rfl
        refine ⟨_, rfl, .inl ⟨q, _, 0, _, rfl, rfl, w1.l hL, atI_nat (j := 0) hy', .inl ⟨rfl, _, rfl, iteNo (fun e => head0_erase her hy (V.str.inj e)) ?_⟩⟩⟩
        -- "/" not in words
        refine ⟨_, rfl, .inl ⟨q, _, rfl, .inl (w1.l hL), rfl, flat_strs _, _, rfl, ?_⟩⟩
        rw [if_pos rfl, inV_str]
        have hmem : stroke ∈ words r := by rw [hw]; simp
        refine iteNS hmem ?_
        -- stroke = words.index("/")
        have hj : ((words r).map V.str)[(headW r).length]? = some (.str stroke) := by
          rw [hw, List.getElem?_map, List.append_assoc, List.getElem?_append_right (Nat.le_refl _), Nat.sub_self]
          rfl
        have hd0 : ∀ (ds : List PyData) (j : Nat) (z : PyData), True := fun _ _ _ => trivial
        refine ⟨_, rfl, .inl ⟨rfl, _, w1.l hL⟩, q, .str stroke, .str stroke, (words r).map PyData.str, (headW r).length, .str stroke, rfl, rfl, .lst (w1.l hL) dpa_of_strs, .str _, ?_, ?_, ?_, ?_, ?_, ?_⟩
        · refine shaped_strs fun x hx => ?_
          rw [hw] at hx
          rcases List.mem_append.mp hx with hx | hx
          · rcases List.mem_append.mp hx with hx | hx
            · exact asc_head ok x hx
            · rw [List.mem_singleton.mp hx]; exact asc_lit "/" (by decide)
          · obtain ⟨u, hu, rfl⟩ := List.mem_map.mp hx
            have n := ok.ws.num u hu
            exact asc_app (asc_app (asc_app (asc_app (asc_num n.1.1) (asc_lit ":" (by decide))) (asc_num n.2.1.1)) (asc_lit "," (by decide))) (asc_num n.2.2.1)
        · exact shaped_of (canlay_str (asc_ok (asc_lit "/" (by decide)))) (by simp [PyData.depth])
        · rw [hw, List.getElem?_map, List.append_assoc, List.getElem?_append_right (Nat.le_refl _), Nat.sub_self]
          rfl
        · rw [PyData.eqv]; exact beq_self_eq_true _
        · intro m z' hm hz'
          obtain ⟨u, hu, rfl⟩ := item_map hz'
          rw [hw, List.append_assoc, List.getElem?_append_left hm] at hu
          rw [PyData.eqv]
          exact beq_eq_false_iff_ne.mpr (head_none_stroke ok u (List.mem_of_getElem? hu))
        · -- head = read_head(words[:stroke])
          have ec1 : cutV ((words r).map V.str) none (some (((headW r).length : Nat) : Int)) = (headW r).map V.str := by
            rw [hw, List.append_assoc, List.map_append]
            exact cutV_front (by rw [List.length_map])
          refine ⟨_, rfl, _, rfl, _, rfl, .inr (.inl ⟨q, _, rfl, w1.l hL, fun q2 hq2 => ?_⟩)⟩
          rw [ec1]
          obtain ⟨w2, e2⟩ := (w1.own hq2 (.lst ((headW r).map V.str))).freeze
          refine ⟨_, q2, r, rfl, .of upd_same, ok, her, w2.fh, fun v F3 H3 st3 D3 => ?_⟩
          have w3 := w2.step st3
          obtain ⟨q3, xs3, rfl, hq3, da3⟩ := dp_tup D3
          -- wardens = read_wardens(words[stroke + 1:])
          have ec2 : cutV ((words r).map V.str) (some (((headW r).length : Nat) : Int) |>.map (· + 1)) none = (r.ws.map wardW).map V.str := by
            rw [hw, List.map_append]
            exact cutV_back (n := (headW r).length + 1) (by simp)
          refine ⟨_, rfl, _, rfl, .inl ⟨_, _, rfl, rfl, _, rfl, .inr (.inl ⟨q, _, rfl, w3.l (same_l (e2.trans st3.ff) hL), fun q4 hq4 => ?_⟩)⟩⟩
          rw [show cutV ((words r).map V.str) (some (((headW r).length : Int) + 1)) none = (r.ws.map wardW).map V.str from ec2]
          obtain ⟨w4, e4⟩ := (w3.own hq4 (.lst ((r.ws.map wardW).map V.str))).freeze
          refine ⟨_, q4, r.ws, rfl, .of upd_same, ok.ws, w4.fh, fun v5 F5 H5 st5 D5 => ?_⟩
          have w5 := w4.step st5
          obtain ⟨q5, xs5, rfl, hq5, da5⟩ := dp_tup D5
          refine ⟨_, rfl, _, rfl, iteNo (by intro z; cases z) ?_⟩
          refine ⟨_, rfl, _, rfl, iteNo (by intro z; cases z) ?_⟩
          refine ⟨_, rfl, _, rfl, by show 1 ≤ sizeLine; decide, fun q6 hq6 => ?_⟩
          obtain ⟨w6, e6⟩ := w5.fix hq6 (.tup [.ref q5])
          have l3 : xs3.length = (headD r).length := dpa_len da3
          have l3' : (headD r).length ≤ 3 := by cases r <;> simp [headD]
          refine .inr (.inr (.inr ⟨q3, q6, xs3, [.ref q5], rfl, rfl, w6.t (same_t ((e4.trans st5.ff).trans e6) hq3), .of upd_same, small (by rw [l3]; simp; omega), fun z => ?_, fun _ z => (by cases z), fun _ _ q7 hq7 => ?_⟩))
          · rw [z] at l3
            exact absurd (List.eq_nil_of_length_eq_zero l3.symm) (headD_ne r)
          · obtain ⟨w7, e7⟩ := w6.fix hq7 (.tup (xs3 ++ [.ref q5]))
            refine k _ _ _ w7.done ?_
            show Dp K _ _ (encR r)
            rw [encR_head her]
            exact .tup (.of upd_same) (dpa_app (dpa_mono (((e4.trans st5.ff).trans e6).trans e7) da3) (.cons (dp_mono (e6.trans e7) D5) .nil))

end
end Q

set_option Elab.async false
set_option linter.all false
set_option maxRecDepth 100000
set_option maxHeartbeats 8000000
namespace Q
open PySem PySem.Spec PyProof.Rows L2 TL PW Rc
section
variable {P : Program} {w : World} {K : PySem.W.Frag} {mg : Str → Option Value} {base : Heap} {A : Ad}
/-! ### counted -/
theorem cstep_pic {s : List Rec × Nat} {i : Nat} {r : Rec} (h : r.isPic = true) : cstep s i (some r) = ([r], i + 1) := if_pos h
theorem cstep_app {s : List Rec × Nat} {i : Nat} {r : Rec} (h : ¬ r.isPic = true) (c : 0 < s.1.length ∧ s.2 = i) : cstep s i (some r) = (s.1 ++ [r], i + 1) := (if_neg h).trans (if_pos c)
theorem cstep_no {s : List Rec × Nat} {i : Nat} {r : Rec} (h : ¬ r.isPic = true) (c : ¬ (0 < s.1.length ∧ s.2 = i)) : cstep s i (some r) = s := (if_neg h).trans (if_neg c)
def LogAt (K : PySem.W.Frag) (H : Hp) (p : Addr) (ls : List Str) (os : List (Option Rec)) : Prop := SqL K H p (ls.map V.str) ∧ ls.length = os.length ∧ ∀ (i : Nat) (x : Str) (o : Option Rec), ls[i]? = some x → os[i]? = some o → Parses x o ∧ x.length ≤ 1000000
def encCount (s : List Rec × Nat) : PyData := .tuple [.list (s.1.map encR), .int (s.2 : Int)]
def spCounted (K : PySem.W.Frag) : Sp := fun vs H Q _ => ∃ (F : Hp) (p : Addr) (ls : List Str) (os : List (Option Rec)), vs = [.ref p] ∧ LogAt K H p ls os ∧ ls.length ≤ 1000 ∧ Same F H ∧ RetD K F H Q (encCount (countN os os.length))
theorem rec0_at {K : PySem.W.Frag} {H : Hp} {v : V} {r : Rec} (h : Dp K H v (encR r)) : ∃ q x xs, v = .ref q ∧ SqT K H q (.str x :: xs) ∧ (x = wPicture ↔ r.isPic = true) := by
  cases r with
  | picture a b c =>
    obtain ⟨q, xs, rfl, hs, da⟩ := dp_tup h
    cases da with | cons h1 h2 => rw [dp_str h1] at hs; exact ⟨q, _, _, rfl, hs, ⟨fun _ => rfl, fun _ => rfl⟩⟩
  | put a b c =>
    obtain ⟨q, xs, rfl, hs, da⟩ := dp_tup h
    cases da with | cons h1 h2 => rw [dp_str h1] at hs; exact ⟨q, _, _, rfl, hs, ⟨fun z => absurd z (by decide +kernel), fun z => by cases z⟩⟩
  | erase a =>
    obtain ⟨q, xs, rfl, hs, da⟩ := dp_tup h
    cases da with | cons h1 h2 => rw [dp_str h1] at hs; exact ⟨q, _, _, rfl, hs, ⟨fun z => absurd z (by decide +kernel), fun z => by cases z⟩⟩
  | deal a =>
    obtain ⟨q, xs, rfl, hs, da⟩ := dp_tup h
    cases da with | cons h1 h2 => rw [dp_str h1] at hs; exact ⟨q, _, _, rfl, hs, ⟨fun z => absurd z (by decide +kernel), fun z => by cases z⟩⟩
  | cap a b c =>
    obtain ⟨q, xs, rfl, hs, da⟩ := dp_tup h
    cases da with | cons h1 h2 => rw [dp_str h1] at hs; exact ⟨q, _, _, rfl, hs, ⟨fun z => absurd z (by decide +kernel), fun z => by cases z⟩⟩
theorem encR_ref {K : PySem.W.Frag} {H : Hp} {v : V} {r : Rec} (h : Dp K H v (encR r)) : v ≠ .non := by
  obtain ⟨q, x, xs, rfl, _⟩ := rec0_at h
  intro z; cases z
theorem ok_counted (T : Txt K mg A) : FnOk P w K mg base CX0 7 A.a_counted A.d_counted ["log"] (spCounted K) := by
  refine T.F_counted.ok sc_counted (fun vs H Q E h => ?_) (fun cdv A' outer s H vs Q E hr h => ?_)
  · obtain ⟨F, p, ls, os, rfl, _⟩ := h; rfl
  · obtain ⟨F, p, ls, os, rfl, ⟨hlog, hlen, hps⟩, hz, eF, k⟩ := h
    have hu64 := hu64_of hr
    have hu65 := hu65_of hr
    have w := Wd.start eF
    refine ⟨_, pss_cons (ps_set (i := 1) sc_counted.nd rfl (Or.inl rfl) (pe_lst (pa_nil)))
  (pss_cons (ps_set (i := 2) sc_counted.nd rfl (Or.inl rfl) (pe_int))
  (pss_cons (ps_for PassesOwn.never rfl (pi_range1 rfl T.n_range (pa_cons (pe_callB (call_lenK (K := K) rfl) (by rfl) T.n_len (by decide +kernel) (pa_cons (pv 0) pa_nil)) pa_nil)) (pg_name (i := 3) sc_counted.nd rfl (Or.inl rfl)) (pss_cons (ps_set (i := 4) sc_counted.nd rfl (Or.inl rfl) (pe_call (ok_read_record T) (hr.mono (by decide)) rfl T.g_read_record T.F_read_record.kp T.b_read_record .nil pass0 (pa_cons (pe_ix (ix_K (K := K) rfl) (pv 0) (pv 3) (fun _ _ => rfl)) pa_nil)))
    (pss_one (ps_if (PW.pt (pw_and (pt_cmp (pc_notN (pv 4))) (pw_and1 (pt_cmpR (op_eqK (K := K) rfl hu64) (pe_ix (ix_K (K := K) rfl) (pv 4) (pe_int) (fun _ _ => rfl)) (pe_str) (nomark _))))) (pss_cons (ps_set (i := 1) sc_counted.nd rfl (Or.inl rfl) (pe_lst (pa_cons (pv 4) pa_nil)))
      (pss_one (ps_set (i := 2) sc_counted.nd rfl (Or.inl rfl) (pe_op (op_addK (K := K) rfl) (pv 3) (pe_int))))) (pss_one (ps_if (PW.pt (pw_and (pt_cmp (pc_notN (pv 4))) (pw_and (pt_cmpR (op_gtK (K := K) rfl) (pe_callB (call_lenK (K := K) rfl) (by rfl) T.n_len (by decide +kernel) (pa_cons (pv 1) pa_nil)) (pe_int) (nomark _)) (pw_and1 (pt_cmpR (op_eqK (K := K) rfl hu64) (pv 2) (pv 3) (nomark _)))))) (pss_cons (ps_expr (pe_bm PySem.F.plainAttrs_list PySem.F.slot_list_append PySem.F.type_list_append mt_append (pv 1) (pa_cons (pv 4) pa_nil)))
        (pss_one (ps_set (i := 2) sc_counted.nd rfl (Or.inl rfl) (pe_op (op_addK (K := K) rfl) (pv 3) (pe_int))))) (pss_nil)))))))
  (pss_one (ps_ret (pe_tup (pa_cons (pv 1) (pa_cons (pv 2) pa_nil))))))), ?_⟩
    -- records = []; end = 0
    refine ⟨Nat.zero_le _, fun D hD => ?_⟩
    have w1 := w.own hD (.lst [])
    refine ⟨_, rfl, _, _, rfl, .inl ⟨_, w1.hh.seq hlog, rfl⟩, (ls.length : Int), ?_, ?_, ?_, ?_⟩
    · rw [List.length_map]
    · omega
    · omega
    refine for_range (lo := 0) (n := ls.length) (fun i σ H' => ∃ D acc F1 iv rv, σ = [some (.ref p), some (.ref D), some (.int ((countN os i).2 : Int)), iv, rv] ∧ Wd F H F1 H' [(D, .lst acc)] ∧ DpAll K F1 acc ((countN os i).1.map encR))
      ⟨D, [], F, none, none, rfl, w1, .nil⟩ ?_ ?_
    · rintro i σ H1 hi ⟨D, acc, F1, iv, rv, rfl, w1, da⟩
      obtain ⟨x, hx⟩ : ∃ x, ls[i]? = some x := ⟨_, List.getElem?_eq_getElem hi⟩
      obtain ⟨o, ho⟩ : ∃ o, os[i]? = some o := ⟨_, List.getElem?_eq_getElem (by omega)⟩
      obtain ⟨px, hxz⟩ := hps i x o hx ho
      have hx' : (ls.map V.str)[i]? = some (.str x) := by rw [List.getElem?_map, hx]; rfl
      have hle := countN_end os i
      -- record = read_record(log[index])
      refine ⟨_, rfl, _, rfl, .inl ⟨p, _, _, _, rfl, rfl, w1.hh.seq hlog, by rw [Int.zero_add]; exact atI_nat hx', F1, x, o, rfl, px, hxz, w1.fh, fun v F2 H2 st2 D2 => ?_⟩⟩
      have w2 := w1.step st2
      have da2 := dpa_mono st2.ff da
      have hal : acc.length = (countN os i).1.length := by rw [dpa_len da, List.length_map]
      cases o with
      | none =>
        have ev := dp_none D2
        subst ev
        refine ⟨_, rfl, _, rfl, iteNS rfl (iteF ?_)⟩
        refine ⟨_, rfl, _, rfl, iteNS rfl (iteF ?_)⟩
        refine ⟨D, acc, F2, some (.int (0 + (i : Int))), some .non, ?_, w2, ?_⟩
        · rw [countN_succ ho]; rfl
        · rw [countN_succ ho]; exact da2
      | some r =>
        have nn := encR_ref D2
        obtain ⟨q, y, ys, rfl, hq, hpic⟩ := rec0_at D2
        refine ⟨_, rfl, _, rfl, iteNY nn ?_⟩
        refine ⟨_, rfl, .inr (.inl ⟨q, _, 0, _, rfl, rfl, w2.t hq, atI_nat (j := 0) rfl, .inl ⟨rfl, _, rfl, iteD (fun e => ?_) (fun e => ?_)⟩⟩)⟩
        · -- a picture
          have hp := hpic.mp (V.str.inj e)
          refine ⟨_, rfl, by show 1 ≤ sizeLine; decide, fun D3 hD3 => ?_⟩
          have w3 := w2.drop.own hD3 (.lst [.ref q])
          refine ⟨_, rfl, .inl ⟨_, _, rfl, rfl, ?_⟩⟩
          refine ⟨D3, [.ref q], F2, some (.int (0 + (i : Int))), some (.ref q), ?_, w3, ?_⟩
          · rw [countN_succ ho, cstep_pic hp]
            show [some (V.ref p), some (V.ref D3), some (V.int (0 + (i : Int) + 1)), some (V.int (0 + (i : Int))), some (V.ref q)] = [some (V.ref p), some (V.ref D3), some (V.int (((i + 1 : Nat)) : Int)), some (V.int (0 + (i : Int))), some (V.ref q)]
            rw [show (0 : Int) + (i : Int) + 1 = ((i + 1 : Nat) : Int) by omega]
          · rw [countN_succ ho, cstep_pic hp]
            exact .cons D2 .nil
        · have hp : ¬ r.isPic = true := fun z => e (congrArg V.str (hpic.mpr z))
          refine ⟨_, rfl, _, rfl, iteNY nn ?_⟩
          refine ⟨_, rfl, _, _, rfl, .inl ⟨_, .of w2.at_, rfl⟩, .inl ⟨_, _, rfl, rfl, _, rfl, iteD (fun c1 => ?_) (fun c1 => iteF ?_)⟩⟩
          · refine ⟨_, rfl, _, rfl, .inl ⟨rfl, _, rfl, iteD (fun c2 => ?_) (fun c2 => ?_)⟩⟩
            · -- appended
              have c2' := V.int.inj c2
              have cc : 0 < (countN os i).1.length ∧ (countN os i).2 = i := ⟨by omega, by omega⟩
              refine ⟨_, rfl, .inl ⟨rfl, _, .of w2.at_⟩, _, rfl, D, acc, _, rfl, rfl, w2.at_, small' (by omega), ?_⟩
              refine ⟨_, rfl, .inl ⟨_, _, rfl, rfl, ?_⟩⟩
              refine ⟨D, acc ++ [.ref q], F2, some (.int (0 + (i : Int))), some (.ref q), ?_, w2.set _, ?_⟩
              · rw [countN_succ ho, cstep_app hp cc]
                show [some (V.ref p), some (V.ref D), some (V.int (0 + (i : Int) + 1)), some (V.int (0 + (i : Int))), some (V.ref q)] = [some (V.ref p), some (V.ref D), some (V.int (((i + 1 : Nat)) : Int)), some (V.int (0 + (i : Int))), some (V.ref q)]
                rw [show (0 : Int) + (i : Int) + 1 = ((i + 1 : Nat) : Int) by omega]
              · rw [countN_succ ho, cstep_app hp cc]
                show DpAll K F2 _ (((countN os i).1 ++ [r]).map encR)
                rw [List.map_append]
                exact dpa_snoc da2 D2
            · have cc : ¬ (0 < (countN os i).1.length ∧ (countN os i).2 = i) := fun z => c2 (by rw [z.2]; simp)
              refine ⟨D, acc, F2, some (.int (0 + (i : Int))), some (.ref q), ?_, w2, ?_⟩
              · rw [countN_succ ho, cstep_no hp cc]; rfl
              · rw [countN_succ ho, cstep_no hp cc]; exact da2
          · have cc : ¬ (0 < (countN os i).1.length ∧ (countN os i).2 = i) := fun z => c1 (by omega)
            refine ⟨D, acc, F2, some (.int (0 + (i : Int))), some (.ref q), ?_, w2, ?_⟩
            · rw [countN_succ ho, cstep_no hp cc]; rfl
            · rw [countN_succ ho, cstep_no hp cc]; exact da2
    · rintro σ H1 ⟨D, acc, F1, iv, rv, rfl, w1, da⟩
      obtain ⟨w2, e2⟩ := w1.freeze
      refine ⟨_, rfl, _, rfl, by show 2 ≤ sizeLine; decide, fun q hq => ?_⟩
      obtain ⟨w3, e3⟩ := w2.fix hq (.tup [.ref D, .int ((countN os ls.length).2 : Int)])
      rw [← hlen] at k
      exact k _ _ _ w3.done (.tup (.of upd_same) (.cons (dp_mono e3 (.lst (.of upd_same) (dpa_mono e2 da))) (.cons (.int _) .nil)))
/-! ### read_log, log_end -/
def spReadLog (K : PySem.W.Frag) : Sp := fun vs H Q _ => ∃ (F : Hp) (p : Addr) (ls : List Str) (os : List (Option Rec)), vs = [.ref p] ∧ LogAt K H p ls os ∧ ls.length ≤ 1000 ∧ Same F H ∧ RetD K F H Q (.list ((countN os os.length).1.map encR))
theorem ok_read_log (T : Txt K mg A) : FnOk P w K mg base CX0 8 A.a_read_log A.d_read_log ["log"] (spReadLog K) := by
  refine T.F_read_log.ok sc_read_log (fun vs H Q E h => ?_) (fun cdv A' outer s H vs Q E hr h => ?_)
  · obtain ⟨F, p, ls, os, rfl, _⟩ := h; rfl
  · obtain ⟨F, p, ls, os, rfl, hl, hz, eF, k⟩ := h
    refine ⟨_, pss_one (ps_ret (pe_ix (ix_K (K := K) rfl) (pe_call (ok_counted T) (hr.mono (by decide)) rfl T.g_counted T.F_counted.kp T.b_counted .nil pass0 (pa_cons (pv 0) pa_nil)) (pe_int) (fun _ _ => rfl))), ?_⟩
    refine ⟨_, rfl, F, p, ls, os, rfl, hl, hz, eF, fun v F1 H1 st D => ?_⟩
    obtain ⟨q, xs, rfl, hq, da⟩ := dp_tup D
    cases da with
    | cons d1 da =>
      refine .inr (.inl ⟨q, _, 0, _, rfl, rfl, same_t st.fh hq, atI_nat (j := 0) rfl, k _ _ _ st d1⟩)

end
end Q

set_option Elab.async false
set_option linter.all false
set_option maxRecDepth 100000
set_option maxHeartbeats 8000000
namespace Q
open PySem PySem.Spec PyProof.Rows L2 TL PW Rc
section
variable {P : Program} {w : World} {K : PySem.W.Frag} {mg : Str → Option Value} {base : Heap} {A : Ad}
/-! ### head_words, record_text -/
theorem encR_tup {K : PySem.W.Frag} {H : Hp} {v : V} {r : Rec} (h : Dp K H v (encR r)) (ne : isErase r = false) : ∃ q xs, v = .ref q ∧ SqT K H q xs ∧ DpAll K H xs (headD r ++ [encWs r.ws]) := by
  rw [encR_head ne] at h
  exact dp_tup h
def spHeadWords (K : PySem.W.Frag) : Sp := fun vs H Q _ => ∃ (F : Hp) (v : V) (r : Rec), vs = [v] ∧ Dp K F v (encR r) ∧ RecOk r ∧ isErase r = false ∧ Same F H ∧ ∀ p F' H', Step F H F' H' → SqL K F' p ((headW r).map V.str) → H' p = some (.lst ((headW r).map V.str)) → Q (.ref p) H'
theorem ok_head_words (T : Txt K mg A) : FnOk P w K mg base CX0 3 A.a_head_words A.d_head_words ["record"] (spHeadWords K) := by
  refine T.F_head_words.ok sc_head_words (fun vs H Q E h => ?_) (fun cdv A' outer s H vs Q E hr h => ?_)
  · obtain ⟨F, v, r, rfl, _⟩ := h; rfl
  · obtain ⟨F, v, r, rfl, D0, ok, ne, eF, k⟩ := h
    have hu64 := hu64_of hr
    have hu65 := hu65_of hr
    have w := Wd.start eF
    obtain ⟨q, xs, rfl, hq, da⟩ := encR_tup D0 ne
    refine ⟨_, pss_cons (ps_if (pt_cmpR (op_eqK (K := K) rfl hu64) (pe_ix (ix_K (K := K) rfl) (pv 0) (pe_int) (fun _ _ => rfl)) (pe_str) (nomark _)) (pss_one (ps_ret (pe_op (op_addK (K := K) rfl) (pe_lst (pa_cons (pe_str) (pa_cons (pe_call (ok_list_text T) (hr.mono (by decide)) rfl T.g_list_text T.F_list_text.kp T.b_list_text .nil pass0 (pa_cons (pe_ix (ix_K (K := K) rfl) (pv 0) (pe_int) (fun _ _ => rfl)) pa_nil)) pa_nil))) (pe_lc (own := [("name", 1), ("numbers", 2)]) rfl sc_head_words.nd (pi_tupK (K := K) rfl (pe_ix (ix_K (K := K) rfl) (pv 0) (pe_int) (fun _ _ => rfl))) (blkOk_by (own := [("name", 1), ("numbers", 2)]) (N := ["record", "name", "numbers"]) (sc := defScope s_head_words) (by decide +kernel)) (fun _ _ _ _ _ => pg_tupK (K := K) (n := 2) rfl rfl (pgs_cons (pg_name (i := 1) sc_head_words.nd rfl (Or.inl rfl)) (pgs_cons (pg_name (i := 2) sc_head_words.nd rfl (Or.inl rfl)) pgs_nil))) (fun _ _ _ _ _ => pts_nil) (fun _ _ _ _ _ => pe_call (ok_named_text T) (hr.mono (by decide)) rfl T.g_named_text T.F_named_text.kp T.b_named_text .nil pass0 (pa_cons (pv 1) (pa_cons (pv 2) pa_nil))))))) (pss_nil))
  (pss_cons (ps_if (pt_cmpR (op_eqK (K := K) rfl hu64) (pe_ix (ix_K (K := K) rfl) (pv 0) (pe_int) (fun _ _ => rfl)) (pe_str) (nomark _)) (pss_one (ps_ret (pe_lst (pa_cons (pe_str) (pa_cons (pe_call (ok_named_text T) (hr.mono (by decide)) rfl T.g_named_text T.F_named_text.kp T.b_named_text .nil pass0 (pa_cons (pe_ix (ix_K (K := K) rfl) (pv 0) (pe_int) (fun _ _ => rfl)) (pa_cons (pe_ix (ix_K (K := K) rfl) (pv 0) (pe_int) (fun _ _ => rfl)) pa_nil))) pa_nil))))) (pss_nil))
  (pss_cons (ps_if (pt_cmpR (op_eqK (K := K) rfl hu64) (pe_ix (ix_K (K := K) rfl) (pv 0) (pe_int) (fun _ _ => rfl)) (pe_str) (nomark _)) (pss_one (ps_ret (pe_lst (pa_cons (pe_str) (pa_cons (pe_callTy call_str_int (by rfl) T.n_str (by decide +kernel) (pa_cons (pe_ix (ix_K (K := K) rfl) (pv 0) (pe_int) (fun _ _ => rfl)) pa_nil)) (pa_cons (pe_callTy call_str_int (by rfl) T.n_str (by decide +kernel) (pa_cons (pe_ix (ix_K (K := K) rfl) (pv 0) (pe_int) (fun _ _ => rfl)) pa_nil)) pa_nil)))))) (pss_nil))
  (pss_one (ps_ret (pe_lst (pa_cons (pe_str) pa_nil)))))), ?_⟩
    cases r with
    | erase n => cases ne
    | picture caps names ws =>
      obtain ⟨c1, c2, c3, n1, n2, n3, _⟩ := ok
      cases da with | cons d0 da => cases da with | cons d1 da => cases da with | cons d2 da =>
      have e0 := dp_str d0
      subst e0
      obtain ⟨q2, xs2, rfl, hq2, da2⟩ := dp_tup d2
      have hn : xs2.length = names.length := by rw [dpa_len da2, List.length_map]
      refine ⟨_, rfl, .inr (.inl ⟨q, _, 0, _, rfl, rfl, w.t hq, atI_nat (j := 0) rfl, .inl ⟨rfl, _, rfl, iteYes rfl ?_⟩⟩)⟩
      refine ⟨_, rfl, .inr (.inl ⟨q, _, 1, _, rfl, rfl, w.t hq, atI_nat (j := 1) rfl, _, caps, rfl, w.d d1, c2, c3, fun H1 s1 => ?_⟩)⟩
      have w1 := w.same s1
      refine ⟨by show 2 ≤ sizeLine; decide, fun D hD => ?_⟩
      have w2 := w1.own hD (.lst [.str wPicture, .str (listW caps)])
      refine ⟨_, rfl, .inr (.inl ⟨q, _, 2, _, rfl, rfl, w2.t hq, atI_nat (j := 2) rfl, q2, rfl, ⟨_, w2.t hq2⟩, fun D2 hD2 => ?_⟩)⟩
      refine lc_wdT (names.map fun p => PyData.str (nameW p)) (by rw [List.length_map, hn]) w2 hD2 hq2 (by omega) ?_ ?_
      · intro i x d F3 H3 acc Q3 hx hd e3 w3 kk
        obtain ⟨d', hd', dx⟩ := dpa_get da2 hx
        obtain ⟨u, hu, rfl⟩ := item_map hd'
        rw [List.getElem?_map, hu] at hd
        cases hd
        have hm := n1 u (List.mem_of_getElem? hu)
        obtain ⟨q3, r3, rfl, hq3, hr3⟩ := name_at dx
        refine ⟨q3, _, rfl, same_t (e3.trans w3.fh) hq3, rfl, _, _, rfl, _, _, rfl, rfl, rfl, _, rfl, _, rfl, u.1, .ref r3, u.2, rfl, dp_mono (e3.trans w3.fh) (.tup hr3 dpa_of_ints), hm.2.num, hm.2.few, hm.1.2.1, fun H4 s4 => kk _ F3 H4 (.same w3.fh s4) (.str _)⟩
      · intro vs' F3 H3 e3 w3 da3
        have ev : vs' = (names.map nameW).map V.str := dpa_strs (by rw [List.map_map]; exact da3)
        subst ev
        refine .inr (.inr (.inl ⟨D, D2, _, _, rfl, rfl, w3.swap.at_, w3.at_, small (by simp; omega), fun D4 hD4 => ?_⟩))
        obtain ⟨w4, e4⟩ := w3.drop.drop.fix hD4 (.lst ([.str wPicture, .str (listW caps)] ++ (names.map nameW).map V.str))
        exact k _ _ _ w4.done (.of upd_same) upd_same
    | put n ns ws =>
      cases da with | cons d0 da => cases da with | cons d1 da => cases da with | cons d2 da =>
      have e0 := dp_str d0
      have e1 := dp_str d1
      subst e0 e1
      refine ⟨_, rfl, .inr (.inl ⟨q, _, 0, _, rfl, rfl, w.t hq, atI_nat (j := 0) rfl, .inl ⟨rfl, _, rfl, iteNo (by decide +kernel) ?_⟩⟩)⟩
      refine ⟨_, rfl, .inr (.inl ⟨q, _, 0, _, rfl, rfl, w.t hq, atI_nat (j := 0) rfl, .inl ⟨rfl, _, rfl, iteYes rfl ?_⟩⟩)⟩
      refine ⟨_, rfl, .inr (.inl ⟨q, _, 1, _, rfl, rfl, w.t hq, atI_nat (j := 1) rfl, _, rfl, .inr (.inl ⟨q, _, 2, _, rfl, rfl, w.t hq, atI_nat (j := 2) rfl, n, _, ns, rfl, w.d d2, ok.2.1.num, ok.2.1.few, ok.1.2.1, fun H1 s1 => ?_⟩)⟩)⟩
      have w1 := w.same s1
      refine ⟨by show 2 ≤ sizeLine; decide, fun D hD => ?_⟩
      obtain ⟨w2, e2⟩ := w1.fix hD (.lst [.str wPut, .str (nameW (n, ns))])
      exact k _ _ _ w2.done (.of upd_same) upd_same
    | cap a b ws =>
      cases da with | cons d0 da => cases da with | cons d1 da => cases da with | cons d2 da =>
      have e0 := dp_str d0
      have e1 := dp_int d1
      have e2 := dp_int d2
      subst e0 e1 e2
      refine ⟨_, rfl, .inr (.inl ⟨q, _, 0, _, rfl, rfl, w.t hq, atI_nat (j := 0) rfl, .inl ⟨rfl, _, rfl, iteNo (by decide +kernel) ?_⟩⟩)⟩
      refine ⟨_, rfl, .inr (.inl ⟨q, _, 0, _, rfl, rfl, w.t hq, atI_nat (j := 0) rfl, .inl ⟨rfl, _, rfl, iteNo (by decide +kernel) ?_⟩⟩)⟩
      refine ⟨_, rfl, .inr (.inl ⟨q, _, 0, _, rfl, rfl, w.t hq, atI_nat (j := 0) rfl, .inl ⟨rfl, _, rfl, iteYes rfl ?_⟩⟩)⟩
      refine ⟨_, rfl, .inr (.inl ⟨q, _, 1, _, rfl, rfl, w.t hq, atI_nat (j := 1) rfl, a, rfl, numS_log ok.1, ?_⟩)⟩
      refine ⟨_, rfl, .inr (.inl ⟨q, _, 2, _, rfl, rfl, w.t hq, atI_nat (j := 2) rfl, b, rfl, numS_log ok.2.1, ?_⟩)⟩
      refine ⟨by show 3 ≤ sizeLine; decide, fun D hD => ?_⟩
      obtain ⟨w2, e2⟩ := w.fix hD (.lst [.str wCap, .str (numS a), .str (numS b)])
      exact k _ _ _ w2.done (.of upd_same) upd_same
    | deal ws =>
      cases da with | cons d0 da =>
      have e0 := dp_str d0
      subst e0
      refine ⟨_, rfl, .inr (.inl ⟨q, _, 0, _, rfl, rfl, w.t hq, atI_nat (j := 0) rfl, .inl ⟨rfl, _, rfl, iteNo (by decide +kernel) ?_⟩⟩)⟩
      refine ⟨_, rfl, .inr (.inl ⟨q, _, 0, _, rfl, rfl, w.t hq, atI_nat (j := 0) rfl, .inl ⟨rfl, _, rfl, iteNo (by decide +kernel) ?_⟩⟩)⟩
      refine ⟨_, rfl, .inr (.inl ⟨q, _, 0, _, rfl, rfl, w.t hq, atI_nat (j := 0) rfl, .inl ⟨rfl, _, rfl, iteNo (by decide +kernel) ?_⟩⟩)⟩
      refine ⟨by show 1 ≤ sizeLine; decide, fun D hD => ?_⟩
      obtain ⟨w2, e2⟩ := w.fix hD (.lst [.str wDeal])
      exact k _ _ _ w2.done (.of upd_same) upd_same
def spRecText (K : PySem.W.Frag) : Sp := fun vs H Q _ => ∃ (v : V) (r : Rec), vs = [v] ∧ Dp K H v (encR r) ∧ RecOk r ∧ ∀ H', Same H H' → Q (.str (recText r)) H'
theorem erase_at {K : PySem.W.Frag} {H : Hp} {v : V} {n : Str} (h : Dp K H v (encR (.erase n))) : ∃ q, v = .ref q ∧ SqT K H q [.str wErase, .str n] := by
  obtain ⟨q, xs, rfl, hs, da⟩ := dp_tup h
  cases da with | cons d0 da => cases da with | cons d1 da =>
  cases da
  rw [dp_str d0, dp_str d1] at hs
  exact ⟨q, rfl, hs⟩
theorem rec_head {K : PySem.W.Frag} {H : Hp} {xs : List V} {r : Rec} (da : DpAll K H xs (headD r ++ [encWs r.ws])) (ne : isErase r = false) : ∃ x ys v, xs = .str x :: ys ∧ x ≠ wErase ∧ atI xs (-1) = some v ∧ Dp K H v (encWs r.ws) := by
  have hl := dpa_len da
  obtain ⟨v, hv, dv⟩ := dpa_at (i := (headD r).length) da (by rw [List.getElem?_append_right (Nat.le_refl _), Nat.sub_self]; rfl)
  have hx : xs = xs.take (headD r).length ++ [v] := by
    have := take_more hv
    rw [← this, List.take_of_length_le (by rw [hl]; simp)]
  have hat : atI xs (-1) = some v := by rw [hx]; exact atI_last _ _
  cases r with
  | erase n => cases ne
  | picture a b c => cases da with | cons d0 da => exact ⟨_, _, v, by rw [dp_str d0], by decide +kernel, hat, dv⟩
  | put a b c => cases da with | cons d0 da => exact ⟨_, _, v, by rw [dp_str d0], by decide +kernel, hat, dv⟩
  | deal a => cases da with | cons d0 da => exact ⟨_, _, v, by rw [dp_str d0], by decide +kernel, hat, dv⟩
  | cap a b c => cases da with | cons d0 da => exact ⟨_, _, v, by rw [dp_str d0], by decide +kernel, hat, dv⟩
theorem join_len {y : Str} {ps : List Str} {k n : Nat} (h1 : ∀ p ∈ ps, p.length ≤ k) (h2 : ps.length ≤ n) (h3 : y.length ≤ 1) (hk : n * (k + 1) ≤ 16777216) : (ps.map (·.length)).sum + ps.length * y.length ≤ 16777216 := by
  have h := sum_le (f := fun p : Str => p.length) h1
  have h4 : ps.length * y.length ≤ ps.length * 1 := Nat.mul_le_mul_left _ h3
  have h5 : ps.length * (k + 1) ≤ n * (k + 1) := Nat.mul_le_mul_right _ h2
  rw [Nat.mul_add] at h5
  omega
theorem ok_record_text (T : Txt K mg A) : FnOk P w K mg base CX0 4 A.a_record_text A.d_record_text ["record"] (spRecText K) := by
  refine T.F_record_text.ok sc_record_text (fun vs H Q E h => ?_) (fun cdv A' outer s H vs Q E hr h => ?_)
  · obtain ⟨v, r, rfl, _⟩ := h; rfl
  · obtain ⟨v, r, rfl, D0, ok, k⟩ := h
    have hu64 := hu64_of hr
    have hu65 := hu65_of hr
    have w := Wd.start (Same.refl H)
    have a1 : (Str.ofString "erase ").length = 6 := by decide +kernel
    have a2 : (Str.ofString ";").length = 1 := by decide +kernel
    have a3 : (Str.ofString " /").length = 2 := by decide +kernel
    refine ⟨_, pss_cons (ps_if (pt_cmpR (op_eqK (K := K) rfl hu64) (pe_ix (ix_K (K := K) rfl) (pv 0) (pe_int) (fun _ _ => rfl)) (pe_str) (nomark _)) (pss_one (ps_ret (pe_op (op_addK (K := K) rfl) (pe_op (op_addK (K := K) rfl) (pe_str) (pe_ix (ix_K (K := K) rfl) (pv 0) (pe_int) (fun _ _ => rfl))) (pe_str)))) (pss_nil))
  (pss_one (ps_ret (pe_op (op_addK (K := K) rfl) (pe_op (op_addK (K := K) rfl) (pe_op (op_addK (K := K) rfl) (pe_join (pe_str) (pe_call (ok_head_words T) (hr.mono (by decide)) rfl T.g_head_words T.F_head_words.kp T.b_head_words .nil pass0 (pa_cons (pv 0) pa_nil))) (pe_str)) (pe_call (ok_warden_text T) (hr.mono (by decide)) rfl T.g_warden_text T.F_warden_text.kp T.b_warden_text .nil pass0 (pa_cons (pe_ix (ix_K (K := K) rfl) (pv 0) (pe_un un_neg (pe_int)) (fun _ _ => rfl)) pa_nil))) (pe_str)))), ?_⟩
    by_cases her : isErase r = true
    · cases r with
      | erase n =>
        obtain ⟨q, rfl, hq⟩ := erase_at D0
        have hn : n.length ≤ 12 := by rw [len_tl]; exact ok.2.1
        refine ⟨_, rfl, .inr (.inl ⟨q, _, 0, _, rfl, rfl, hq, atI_nat (j := 0) rfl, .inl ⟨rfl, _, rfl, iteYes rfl ?_⟩⟩)⟩
        refine ⟨_, rfl, .inr (.inl ⟨q, _, 1, _, rfl, rfl, hq, atI_nat (j := 1) rfl, .inr (.inl ⟨_, _, rfl, rfl, small (by rw [a1]; omega), .inr (.inl ⟨_, _, rfl, rfl, small (by rw [slen_app, a1, a2]; omega), ?_⟩)⟩)⟩)⟩
        rw [show Str.ofString "erase " ++ n ++ Str.ofString ";" = recText (.erase n) from erase_eq n]
        exact k H (.refl H)
      | _ => cases her
    · have her : isErase r = false := by simpa using her
      obtain ⟨q, xs, rfl, hq, da⟩ := encR_tup D0 her
      obtain ⟨x, ys, v, rfl, hx, hat, dv⟩ := rec_head da her
      refine ⟨_, rfl, .inr (.inl ⟨q, _, 0, _, rfl, rfl, hq, atI_nat (j := 0) rfl, .inl ⟨rfl, _, rfl, iteNo (fun e => hx (V.str.inj e)) ?_⟩⟩)⟩
      refine ⟨⟨_, rfl⟩, _, rfl, H, _, r, rfl, D0, ok, her, .refl H, fun p F1 H1 st1 hp1 _ => ?_⟩
      have w1 := w.step st1
      have hl1 : (Txt.join space (headW r)).length ≤ 110000 := by
        rw [len_tl, tl_joinT]
        have hs : (tl space).length = 1 := by rw [ofS_tl]; rfl
        have := joinL_len (S := tl space) (k := 1013) (ps := (headW r).map tl) fun z hz => by
          obtain ⟨y, hy, rfl⟩ := List.mem_map.mp hz
          exact head_len ok y hy
        have h2 := headW_few ok
        rw [List.length_map, hs] at this
        omega
      refine ⟨_, p, headW r, rfl, rfl, .inl (w1.l hp1), join_len (k := 1013) (n := 102) (fun z hz => by rw [len_tl]; exact head_len ok z hz) (headW_few ok) (by decide +kernel) (by decide), .inr (.inl ⟨_, _, rfl, rfl, small (by rw [a3]; show (Txt.join space (headW r)).length + 2 ≤ _; omega), ?_⟩)⟩
      refine ⟨_, rfl, _, rfl, .inr (.inl ⟨q, _, -1, v, rfl, rfl, w1.t (same_t st1.ff hq), hat, _, r.ws, rfl, w1.d (dp_mono st1.ff dv), ok.ws, fun H2 s2 => ?_⟩)⟩
      have hl2 : (wardsT r.ws).length ≤ 4000 := by
        unfold wardsT
        rw [len_tl, tl_joinT]
        have := joinL_len (S := tl Str.empty) (k := 30) (ps := (r.ws.map fun w => space ++ wardW w).map tl) fun z hz => by
          simp only [List.map_map, List.mem_map] at hz
          obtain ⟨u, hu, rfl⟩ := hz
          have := ward_len (ok.ws.num u hu)
          show (tl (space ++ wardW u)).length ≤ 30
          rw [tl_append, List.length_append]
          have : (tl space).length = 1 := by rw [ofS_tl]; rfl
          omega
        have h2 := ok.ws.few
        have h0 : (tl Str.empty).length = 0 := rfl
        rw [List.length_map, List.length_map, h0] at this
        omega
      refine .inr (.inl ⟨_, _, rfl, rfl, small (by rw [slen_app, a3]; show (Txt.join space (headW r)).length + 2 + _ ≤ _; omega), .inr (.inl ⟨_, _, rfl, rfl, small (by rw [slen_app, slen_app, a3, a2]; show (Txt.join space (headW r)).length + 2 + _ + 1 ≤ _; omega), ?_⟩)⟩)
      rw [show Txt.join (Str.ofString " ") (headW r) ++ Str.ofString " /" ++ wardsT r.ws ++ Str.ofString ";" = recText r from text_eq (fun n e => by rw [e] at her; cases her)]
      exact k H2 (w1.same s2).hh

end
end Q

set_option Elab.async false
set_option linter.all false
set_option maxRecDepth 100000
set_option maxHeartbeats 8000000
namespace Q
open PySem PySem.Spec PyProof.Rows L2 TL PW Rc
section
variable {P : Program} {w : World} {K : PySem.W.Frag} {mg : Str → Option Value} {base : Heap} {A : Ad}
/-! ### the law's helpers -/
def cellOf (ns : List Int) (k : Int) : Int := ns.getD k.toNat 0
def spCell (K : PySem.W.Frag) : Sp := fun vs H Q _ => ∃ (a : Addr) (ns : List Int) (k : Int), vs = [.ref a, .int k] ∧ SqL K H a (ns.map V.int) ∧ 0 ≤ k ∧ ∀ H', Same H H' → Q (.int (cellOf ns k)) H'
theorem ok_L_cell (T : Txt K mg A) : FnOk P w K mg base CX0 1 A.a_L_cell A.d_L_cell ["_law_script", "_law_k"] (spCell K) := by
  refine T.F_L_cell.ok sc_L_cell (fun vs H Q E h => ?_) (fun cdv A' outer s H vs Q E hr h => ?_)
  · obtain ⟨a, ns, k, rfl, _⟩ := h; rfl
  · obtain ⟨a, ns, j, rfl, hs, hj, k⟩ := h
    refine ⟨_, pss_cons (ps_if (pt_cmpR (op_ltK (K := K) rfl) (pv 1) (pe_callB (call_lenK (K := K) rfl) (by rfl) T.n_len (by decide +kernel) (pa_cons (pv 0) pa_nil)) (nomark _)) (pss_one (ps_ret (pe_ix (ix_K (K := K) rfl) (pv 0) (pv 1) (fun _ _ => rfl)))) (pss_nil))
  (pss_one (ps_ret (pe_int))), ?_⟩
    refine ⟨_, rfl, _, rfl, _, _, rfl, .inl ⟨_, hs, rfl⟩, .inl ⟨_, _, rfl, rfl, _, rfl, iteD (fun c => ?_) (fun c => ?_)⟩⟩
    · rw [List.length_map] at c
      have hi : j.toNat < ns.length := by omega
      have e : (ns.map V.int)[j.toNat]? = some (.int (cellOf ns j)) := by
        unfold cellOf
        rw [List.getElem?_map, List.getElem?_eq_getElem hi, List.getD_eq_getElem?_getD, List.getElem?_eq_getElem hi]
        rfl
      refine ⟨_, rfl, _, rfl, .inl ⟨a, _, j, _, rfl, rfl, hs, ?_, k H (.refl H)⟩⟩
      have := atI_nat e
      rwa [Int.toNat_of_nonneg hj] at this
    · rw [List.length_map] at c
      have e : cellOf ns j = 0 := by
        unfold cellOf
        rw [List.getD_eq_getElem?_getD, List.getElem?_eq_none (by omega)]
        rfl
      rw [e] at k
      exact k H (.refl H)

/-- drawn numbers: as many as the sizes, each below its size -/
def Drawn (szs ds : List Int) : Prop := ds.length = szs.length ∧ ∀ (i : Nat) (d s : Int), ds[i]? = some d → szs[i]? = some s → 0 ≤ d ∧ d < s
def spDraws (K : PySem.W.Frag) : Sp := fun vs H Q _ => ∃ (F : Hp) (c : Int) (p : Addr) (szs : List Int), vs = [.int c, .ref p] ∧ SqL K H p (szs.map V.int) ∧ (∀ s ∈ szs, 0 < s ∧ s < 1073741824) ∧ szs.length ≤ 1000 ∧ Same F H ∧
  ∀ q F' H' (ds : List Int), Step F H F' H' → Drawn szs ds → SqL K F' q (ds.map V.int) → Q (.ref q) H'
theorem ok_L_draws (T : Txt K mg A) : FnOk P w K mg base CX0 1 A.a_L_draws A.d_L_draws ["_law_cell_here", "_law_sizes"] (spDraws K) := by
  refine T.F_L_draws.ok sc_L_draws (fun vs H Q E h => ?_) (fun cdv A' outer s H vs Q E hr h => ?_)
  · obtain ⟨F, c, p, szs, rfl, _⟩ := h; rfl
  · obtain ⟨F, c, p, szs, rfl, hs, hz, hl, eF, k⟩ := h
    have w := Wd.start eF
    refine ⟨_, pss_cons (ps_set (i := 2) sc_L_draws.nd rfl (Or.inl rfl) (pe_callB call_abs (by rfl) T.n_abs (by decide +kernel) (pa_cons (pe_callTy call_intU (by rfl) T.n_int (by decide +kernel) (pa_cons (pv 0) pa_nil)) pa_nil)))
  (pss_cons (ps_set (i := 3) sc_L_draws.nd rfl (Or.inl rfl) (pe_cmpR (op_geK (K := K) rfl) (pv 2) (pe_op op_pow (pe_int) (pe_int)) (nomark _)))
  (pss_cons (ps_set (i := 4) sc_L_draws.nd rfl (Or.inl rfl) (pe_lst (pa_nil)))
  (pss_cons (ps_for PassesOwn.never rfl (pi_range1 rfl T.n_range (pa_cons (pe_callB (call_lenK (K := K) rfl) (by rfl) T.n_len (by decide +kernel) (pa_cons (pv 1) pa_nil)) pa_nil)) (pg_name (i := 5) sc_L_draws.nd rfl (Or.inl rfl)) (pss_cons (ps_set (i := 6) sc_L_draws.nd rfl (Or.inl rfl) (pe_ix (ix_K (K := K) rfl) (pv 1) (pv 5) (fun _ _ => rfl)))
    (pss_one (ps_if (PW.pt (pw_and (pt_truth (pv 3) (by intro _; rfl)) (pw_and1 (pt_cmpR (op_gtK (K := K) rfl) (pv 2) (pe_int) (nomark _))))) (pss_cons (ps_expr (pe_bm PySem.F.plainAttrs_list PySem.F.slot_list_append PySem.F.type_list_append mt_append (pv 4) (pa_cons (pe_op op_mod (pe_callTy call_intU (by rfl) T.n_int (by decide +kernel) (pa_cons (pv 2) pa_nil)) (pv 6)) pa_nil)))
      (pss_one (ps_set (i := 2) sc_L_draws.nd rfl (Or.inl rfl) (pe_op op_fdiv (pv 2) (pv 6))))) (pss_cons (ps_set (i := 7) sc_L_draws.nd rfl (Or.inl rfl) (pe_op op_mod (pe_callTy call_intU (by rfl) T.n_int (by decide +kernel) (pa_cons (pe_op (op_addK (K := K) rfl) (pe_op (op_addK (K := K) rfl) (pe_callB call_abs (by rfl) T.n_abs (by decide +kernel) (pa_cons (pe_callTy call_intU (by rfl) T.n_int (by decide +kernel) (pa_cons (pv 0) pa_nil)) pa_nil)) (pe_op op_mulU (pe_int) (pv 5))) (pe_int)) pa_nil)) (pe_int)))
      (pss_cons (ps_set (i := 7) sc_L_draws.nd rfl (Or.inl rfl) (pe_op op_mod (pe_callTy call_intU (by rfl) T.n_int (by decide +kernel) (pa_cons (pe_op op_mulU (pv 7) (pe_op (op_addK (K := K) rfl) (pv 7) (pe_int))) pa_nil)) (pe_int)))
      (pss_cons (ps_set (i := 7) sc_L_draws.nd rfl (Or.inl rfl) (pe_op op_mod (pe_callTy call_intU (by rfl) T.n_int (by decide +kernel) (pa_cons (pe_op (op_addK (K := K) rfl) (pe_op op_mulU (pv 7) (pe_op (op_addK (K := K) rfl) (pv 7) (pe_int))) (pe_op op_mulU (pe_int) (pv 5))) pa_nil)) (pe_int)))
      (pss_one (ps_expr (pe_bm PySem.F.plainAttrs_list PySem.F.slot_list_append PySem.F.type_list_append mt_append (pv 4) (pa_cons (pe_op op_mod (pe_callTy call_intU (by rfl) T.n_int (by decide +kernel) (pa_cons (pe_op op_fdiv (pv 7) (pe_int)) pa_nil)) (pv 6)) pa_nil)))))))))))
  (pss_one (ps_ret (pv 4)))))), ?_⟩
    refine ⟨_, rfl, .inl ⟨_, rfl, _, rfl, ?_⟩⟩
    refine ⟨_, rfl, _, _, rfl, rfl, ⟨by decide, by decide, by decide⟩, .inl ⟨_, _, rfl, rfl, ?_⟩⟩
    refine ⟨Nat.zero_le _, fun D hD => ?_⟩
    have w1 := w.own hD (.lst [])
    refine ⟨_, rfl, _, _, rfl, .inl ⟨_, w1.hh.seq hs, rfl⟩, (szs.length : Int), by rw [List.length_map], by omega, by omega, ?_⟩
    refine for_range (lo := 0) (n := szs.length) (fun i σ H' => ∃ (left : Int) (dg : Bool) (ds : List Int) (v5 v6 v7 : Option V), σ = [some (.int c), some (.ref p), some (.int left), some (.bl dg), some (.ref D), v5, v6, v7] ∧ Wd F H F H' [(D, .lst (ds.map V.int))] ∧ ds.length = i ∧
      ∀ (j : Nat) (d s : Int), ds[j]? = some d → szs[j]? = some s → 0 ≤ d ∧ d < s) ⟨_, _, [], none, none, none, rfl, w1, rfl, fun j d s h => by simp at h⟩ ?_ ?_
    · rintro i σ H1 hi ⟨left, dg, ds, v5, v6, v7, rfl, w1, hdl, hb⟩
      obtain ⟨z, hzz⟩ : ∃ z, szs[i]? = some z := ⟨_, List.getElem?_eq_getElem hi⟩
      have hz' : (szs.map V.int)[i]? = some (.int z) := by rw [List.getElem?_map, hzz]; rfl
      obtain ⟨z0, z1⟩ := hz z (List.mem_of_getElem? hzz)
      have grow : ∀ x : Int, ∀ (j : Nat) (d s : Int), (ds ++ [x % z])[j]? = some d → szs[j]? = some s → 0 ≤ d ∧ d < s := fun x j d s hd hs' => by
        by_cases hj : j < ds.length
        · rw [List.getElem?_append_left hj] at hd
          exact hb j d s hd hs'
        · have hji : j = i := by
            have := (List.getElem?_eq_some_iff.mp hd).1
            rw [List.length_append] at this
            simp at this
            omega
          subst hji
          rw [List.getElem?_append_right (by omega), hdl, Nat.sub_self] at hd
          rw [hzz] at hs'
          cases hd
          cases hs'
          exact ⟨Int.emod_nonneg _ (by omega), Int.emod_lt_of_pos _ z0⟩
      have wset : ∀ x : Int, Wd F H F (upd H1 D (.lst (ds.map V.int ++ [.int (x % z)]))) [(D, .lst ((ds ++ [x % z]).map V.int))] := fun x => by
        rw [List.map_append]
        exact w1.set _
      have happ : (ds.map V.int).length < sizeLine := small' (by rw [List.length_map]; omega)
      have hmod : ∀ x m : Int, 0 < m → 0 ≤ x % m ∧ x % m < m := fun x m hm => ⟨Int.emod_nonneg _ (by omega), Int.emod_lt_of_pos _ hm⟩
      -- size = sizes[k]
      refine ⟨_, rfl, _, rfl, .inl ⟨p, _, _, _, rfl, rfl, w1.hh.seq hs, by rw [Int.zero_add]; exact atI_nat hz', ?_⟩⟩
      unfold gName
      dsimp only
      unfold tIfS
      refine andB dg (decide (0 < left)) (fun R r => ⟨_, rfl, dg, rfl, r⟩) (fun _ R r => ⟨_, rfl, .inl ⟨_, _, rfl, rfl, _, rfl, r⟩⟩) ?_
      refine iteB (fun c1 => ?_) (fun c1 => ?_)
      · -- by the digits
        refine ⟨_, rfl, .inl ⟨rfl, _, .of w1.at_⟩, _, rfl, .inl ⟨_, rfl, _, rfl, _, _, rfl, rfl, z0, D, _, _, rfl, rfl, w1.at_, happ, ?_⟩⟩
        exact ⟨_, rfl, _, rfl, _, _, rfl, rfl, ⟨z0, z1⟩, _, dg, ds ++ [left % z], _, _, _, rfl, wset left, by rw [List.length_append, hdl]; rfl, grow left⟩
      · have cm : ∀ x m y : Int, 0 < m → m ≤ 2147483647 → CMul (x % m) y := fun x m y h1 h2 => by
          have := hmod x m h1
          exact .inl ⟨by omega, by omega⟩
        refine ⟨_, rfl, .inl ⟨_, rfl, _, rfl, _, rfl, .inl ⟨_, _, rfl, rfl, .inl ⟨by decide, by decide⟩, .inl ⟨_, _, rfl, rfl, .inl ⟨_, _, rfl, rfl, .inl ⟨_, rfl, _, _, rfl, rfl, (by show (0 : Int) < 2147483647; decide), ?_⟩⟩⟩⟩⟩⟩
        refine ⟨_, rfl, _, rfl, .inl ⟨_, _, rfl, rfl, .inl ⟨_, _, rfl, rfl, cm _ _ _ (by decide) (by decide), .inl ⟨_, rfl, _, _, rfl, rfl, (by show (0 : Int) < 2147483629; decide), ?_⟩⟩⟩⟩
        refine ⟨_, rfl, _, rfl, .inl ⟨_, _, rfl, rfl, .inl ⟨_, _, rfl, rfl, cm _ _ _ (by decide) (by decide), _, rfl, .inl ⟨_, _, rfl, rfl, .inl ⟨by decide, by decide⟩, .inl ⟨_, _, rfl, rfl, .inl ⟨_, rfl, _, _, rfl, rfl, (by show (0 : Int) < 2147483647; decide), ?_⟩⟩⟩⟩⟩⟩
        refine ⟨_, rfl, .inl ⟨rfl, _, .of w1.at_⟩, _, rfl, _, _, rfl, rfl, ⟨by decide, by decide⟩, .inl ⟨_, rfl, _, rfl, _, _, rfl, rfl, z0, D, _, _, rfl, rfl, w1.at_, happ, ?_⟩⟩
        exact ⟨_, dg, _, _, _, _, rfl, wset _, by rw [List.length_append, hdl]; rfl, grow _⟩
    · rintro σ H1 ⟨left, dg, ds, v5, v6, v7, rfl, w1, hdl, hb⟩
      obtain ⟨w2, e2⟩ := w1.freeze
      exact ⟨_, rfl, k D _ _ ds w2.done ⟨hdl, hb⟩ (.of upd_same)⟩

/-! ### is_integer, alike -/
theorem tyx_tup {K : PySem.W.Frag} {H : Hp} {a : Addr} {xs : List V} (h : SqT K H a xs) : TyX K H (.ref a) (.type "tuple") := by
  rcases h with (h | ⟨o, h⟩) | ⟨o, its, n, h, hc, _⟩
  · exact .base (.tup h)
  · exact .fTuple h
  · exact .kTuple h hc
def spIsInt : Sp := fun vs H Q _ => ∃ i : Int, vs = [.int i] ∧ ∀ H', Same H H' → Q (.bl true) H'
theorem ok_L_is_integer (T : Txt K mg A) : FnOk P w K mg base CX0 1 A.a_L_is_integer A.d_L_is_integer ["_law_actual"] spIsInt := by
  refine T.F_L_is_integer.ok sc_L_is_integer (fun vs H Q E h => ?_) (fun cdv A' outer s H vs Q E hr h => ?_)
  · obtain ⟨i, rfl, _⟩ := h; rfl
  · obtain ⟨i, rfl, k⟩ := h
    refine ⟨_, pss_one (ps_ret (pe_and (pe_callB (call_isiK1 (K := K) rfl) (by rfl) T.n_isinstance (by decide +kernel) (pa_cons (pv 0) (pa_cons (pe_bltn (v := .ty "int") (by rfl) T.n_int (by decide +kernel) rfl) pa_nil))) (pe_one (pe_not (pe_callB (call_isiK1 (K := K) rfl) (by rfl) T.n_isinstance (by decide +kernel) (pa_cons (pv 0) (pa_cons (pe_bltn (v := .ty "bool") (by rfl) T.n_bool (by decide +kernel) rfl) pa_nil))))))), ?_⟩
    refine ⟨_, rfl, .int i, .ty "int", _, _, true, rfl, .ty "int", .base (.int i), kit_ty (by decide +kernel), true, rfl, iteT ?_⟩
    exact ⟨_, rfl, .int i, .ty "bool", _, _, false, rfl, .ty "bool", .base (.int i), kit_ty (by decide +kernel), false, rfl, k H (.refl H)⟩
/-- data of ints, texts and tuples, at most so deep -/
inductive AL : Nat → PyData → Prop
  | int {n : Nat} (i : Int) : AL n (.int i)
  | str {n : Nat} (x : Str) : AL n (.str x)
  | tup {n : Nat} {ds : List PyData} : (∀ d ∈ ds, AL n d) → ds.length ≤ 1000000 → AL (n + 1) (.tuple ds)
def spAlike (K : PySem.W.Frag) (n : Nat) : Sp := fun vs H Q _ => ∃ (v1 v2 : V) (d : PyData), vs = [v1, v2] ∧ Dp K H v1 d ∧ Dp K H v2 d ∧ AL n d ∧ ∀ H', Same H H' → Q (.bl true) H'
theorem ok_L_alikeN (T : Txt K mg A) : ∀ n : Nat, FnOk P w K mg base CX0 (2 + n) A.a_L_alike A.d_L_alike ["_law_actual", "_law_due"] (spAlike K n) := by
  have base : ∀ (n : Nat) (G : ∀ m, n = m + 1 → FnOk P w K mg base CX0 (2 + m) A.a_L_alike A.d_L_alike ["_law_actual", "_law_due"] (spAlike K m)), FnOk P w K mg base CX0 (1 + n + 1) A.a_L_alike A.d_L_alike ["_law_actual", "_law_due"] (spAlike K n) := by
    intro n G
    refine T.F_L_alike.ok sc_L_alike (fun vs H Q E h => ?_) (fun cdv A' outer s H vs Q E hr h => ?_)
    · obtain ⟨v1, v2, d, rfl, _⟩ := h; rfl
    · obtain ⟨v1, v2, d, rfl, D1, D2, al, k⟩ := h
      have hu64 := hu64_of hr
      have hu65 := hu65_of hr
      have hr1 : Room 1 _ := hr.mono (by omega)
      cases al with
      | int i =>
        have e1 := dp_int D1
        have e2 := dp_int D2
        subst e1 e2
        refine ⟨_, pss_cons (ps_if (pt_val (pe_callB (call_isiK1 (K := K) rfl) (by rfl) T.n_isinstance (by decide +kernel) (pa_cons (pv 1) (pa_cons (pe_bltn (v := .ty "str") (by rfl) T.n_str (by decide +kernel) rfl) pa_nil)))) pss_never pss_nil)
          (pss_cons (ps_if (pt_not (pt_val (pe_callB (call_isiK1 (K := K) rfl) (by rfl) T.n_isinstance (by decide +kernel) (pa_cons (pv 1) (pa_cons (pe_bltn (v := .ty "tuple") (by rfl) T.n_tuple (by decide +kernel) rfl) pa_nil))))) (pss_one (ps_ret (pe_and (pe_call (ok_L_is_integer T) hr1 rfl T.g_L_is_integer T.F_L_is_integer.kp T.b_L_is_integer .nil pass0 (pa_cons (pv 0) pa_nil)) (pe_one (pe_cmpR (op_eqK (K := K) rfl hu64) (pv 0) (pv 1) (nomark _)))))) (pss_nil)) pss_never), ?_⟩
        refine ⟨_, rfl, .int i, .ty "str", _, _, false, rfl, .ty "str", .base (.int i), kit_ty (by decide +kernel), false, rfl, iteF ?_⟩
        refine ⟨_, rfl, .int i, .ty "tuple", _, _, false, rfl, .ty "tuple", .base (.int i), kit_ty (by decide +kernel), false, rfl, iteT ?_⟩
        refine ⟨_, rfl, i, rfl, fun H1 s1 => ⟨true, rfl, iteT ⟨_, rfl, _, rfl, .inl ⟨rfl, ?_⟩⟩⟩⟩
        have e : decide (V.int i = V.int i) = true := decide_eq_true rfl
        show Q (.bl (decide (V.int i = V.int i))) H1
        rw [e]
        exact k H1 s1
      | str x =>
        have e1 := dp_str D1
        have e2 := dp_str D2
        subst e1 e2
        refine ⟨_, pss_cons (ps_if (pt_val (pe_callB (call_isiK1 (K := K) rfl) (by rfl) T.n_isinstance (by decide +kernel) (pa_cons (pv 1) (pa_cons (pe_bltn (v := .ty "str") (by rfl) T.n_str (by decide +kernel) rfl) pa_nil)))) (pss_one (ps_ret (pe_and (pe_callB (call_isiK1 (K := K) rfl) (by rfl) T.n_isinstance (by decide +kernel) (pa_cons (pv 0) (pa_cons (pe_bltn (v := .ty "str") (by rfl) T.n_str (by decide +kernel) rfl) pa_nil))) (pe_one (pe_cmpR (op_eqK (K := K) rfl hu64) (pv 0) (pv 1) (nomark _)))))) pss_nil) pss_never, ?_⟩
        refine ⟨_, rfl, .str x, .ty "str", _, _, true, rfl, .ty "str", .base (.str x), kit_ty (by decide +kernel), true, rfl, iteT ?_⟩
        refine ⟨_, rfl, .str x, .ty "str", _, _, true, rfl, .ty "str", .base (.str x), kit_ty (by decide +kernel), true, rfl, iteT ⟨_, rfl, _, rfl, .inl ⟨rfl, ?_⟩⟩⟩
        have e : decide (V.str x = V.str x) = true := decide_eq_true rfl
        show Q (.bl (decide (V.str x = V.str x))) H
        rw [e]
        exact k H (.refl H)
      | @tup m ds hd hl =>
        have G' := G m rfl
        have hrm : Room (2 + m) _ := hr.mono (by omega)
        obtain ⟨p1, xs1, rfl, hp1, da1⟩ := dp_tup D1
        obtain ⟨p2, xs2, rfl, hp2, da2⟩ := dp_tup D2
        have l1 := dpa_len da1
        have l2 := dpa_len da2
        refine ⟨_, pss_cons (ps_if (pt_val (pe_callB (call_isiK1 (K := K) rfl) (by rfl) T.n_isinstance (by decide +kernel) (pa_cons (pv 1) (pa_cons (pe_bltn (v := .ty "str") (by rfl) T.n_str (by decide +kernel) rfl) pa_nil)))) pss_never pss_nil)
          (pss_cons (ps_if (pt_not (pt_val (pe_callB (call_isiK1 (K := K) rfl) (by rfl) T.n_isinstance (by decide +kernel) (pa_cons (pv 1) (pa_cons (pe_bltn (v := .ty "tuple") (by rfl) T.n_tuple (by decide +kernel) rfl) pa_nil))))) pss_never pss_nil)
          (pss_cons (ps_if (PW.pt (pw_or (pt_not (pt_val (pe_callB (call_isiK1 (K := K) rfl) (by rfl) T.n_isinstance (by decide +kernel) (pa_cons (pv 0) (pa_cons (pe_bltn (v := .ty "tuple") (by rfl) T.n_tuple (by decide +kernel) rfl) pa_nil))))) (pw_or1 (pt_cmpR (op_neK (K := K) rfl hu64) (pe_callB (call_lenK (K := K) rfl) (by rfl) T.n_len (by decide +kernel) (pa_cons (pv 0) pa_nil)) (pe_callB (call_lenK (K := K) rfl) (by rfl) T.n_len (by decide +kernel) (pa_cons (pv 1) pa_nil)) (nomark _))))) pss_never pss_nil)
          (pss_cons (ps_for PassesOwn.never rfl (pi_range1 rfl T.n_range (pa_cons (pe_callB (call_lenK (K := K) rfl) (by rfl) T.n_len (by decide +kernel) (pa_cons (pv 1) pa_nil)) pa_nil)) (pg_name (i := 2) sc_L_alike.nd rfl (Or.inl rfl)) (pss_one (ps_if (pt_not (pt_val (pe_call G' hrm rfl T.g_L_alike T.F_L_alike.kp T.b_L_alike .nil pass0 (pa_cons (pe_ix (ix_K (K := K) rfl) (pv 0) (pv 2) (fun _ _ => rfl)) (pa_cons (pe_ix (ix_K (K := K) rfl) (pv 1) (pv 2) (fun _ _ => rfl)) pa_nil))))) pss_never pss_nil)))
          (pss_one (ps_ret pe_bl))))), ?_⟩
        refine ⟨_, rfl, _, .ty "str", _, _, false, rfl, .ty "str", tyx_tup hp2, kit_ty (by decide +kernel), false, rfl, iteF ?_⟩
        refine ⟨_, rfl, _, .ty "tuple", _, _, true, rfl, .ty "tuple", tyx_tup hp2, kit_ty (by decide +kernel), true, rfl, iteF ?_⟩
        refine ⟨_, rfl, _, .ty "tuple", _, _, true, rfl, .ty "tuple", tyx_tup hp1, kit_ty (by decide +kernel), true, rfl, iteF ?_⟩
        refine ⟨_, rfl, _, _, rfl, .inr ⟨_, hp1, rfl⟩, _, rfl, _, _, rfl, .inr ⟨_, hp2, rfl⟩, .inl ⟨rfl, _, rfl, iteNS (by rw [l1, l2]) ?_⟩⟩
        refine ⟨_, rfl, _, _, rfl, .inr ⟨_, hp2, rfl⟩, (ds.length : Int), by rw [l2], by omega, by omega, for_range (lo := 0) (n := ds.length) (fun i σ H' => ∃ v, σ = [some (.ref p1), some (.ref p2), v] ∧ Same H H') ⟨none, rfl, .refl H⟩ ?_ ?_⟩
        · rintro i σ H1 hi ⟨v, rfl, e⟩
          have hdi : ds[i]? = some ds[i] := List.getElem?_eq_getElem hi
          obtain ⟨x1, hx1, d1⟩ := dpa_at da1 hdi
          obtain ⟨x2, hx2, d2⟩ := dpa_at da2 hdi
          refine ⟨_, rfl, _, rfl, .inr (.inl ⟨p1, _, _, _, rfl, rfl, same_t e hp1, by rw [Int.zero_add]; exact atI_nat hx1, _, rfl, _, rfl, .inr (.inl ⟨p2, _, _, _, rfl, rfl, same_t e hp2, by rw [Int.zero_add]; exact atI_nat hx2, ?_⟩)⟩)⟩
          exact ⟨x1, x2, _, rfl, dp_mono e d1, dp_mono e d2, hd _ (List.getElem_mem hi), fun H2 s2 => ⟨_, rfl, iteF ⟨_, rfl, e.trans s2⟩⟩⟩
        · rintro σ H1 ⟨v, rfl, e⟩
          exact k H1 e
  intro n
  induction n with
  | zero => exact base 0 fun m h => by cases h
  | succ n ih => exact (base (n + 1) fun m h => by cases h; exact ih).mono (by omega)

end
end Q

set_option Elab.async false
set_option linter.all false
set_option maxRecDepth 100000
set_option maxHeartbeats 8000000
namespace Q
open PySem PySem.Spec PyProof.Rows L2 TL PW Rc
section
variable {P : Program} {w : World} {K : PySem.W.Frag} {mg : Str → Option Value} {base : Heap} {A : Ad}
/-! ### names -/
abbrev signsT : Str := "abcdefghijklmnopqrstuvwxyz0123456789"
theorem tl_signs : tl signsT = [97, 98, 99, 100, 101, 102, 103, 104, 105, 106, 107, 108, 109, 110, 111, 112, 113, 114, 115, 116, 117, 118, 119, 120, 121, 122, 48, 49, 50, 51, 52, 53, 54, 55, 56, 57] := by
  rw [ofS_tl]; decide
def GoodC (c : Nat) : Prop := (97 ≤ c ∧ c ≤ 122) ∨ (48 ≤ c ∧ c ≤ 57)
theorem signs_good : ∀ c ∈ tl signsT, GoodC c := by
  rw [tl_signs]
  intro c hc
  unfold GoodC
  simp only [List.mem_cons, List.not_mem_nil, or_false] at hc
  omega
theorem signs_at {d : Int} (h : 0 ≤ d ∧ d < 36) : ∃ c, GoodC c ∧ atI signsT.cps.toList d = some c := by
  have hl : (tl signsT).length = 36 := by rw [tl_signs]; rfl
  have hi : d.toNat < (tl signsT).length := by omega
  refine ⟨(tl signsT)[d.toNat], signs_good _ (List.getElem_mem hi), ?_⟩
  have := atI_nat (List.getElem?_eq_getElem hi)
  rwa [Int.toNat_of_nonneg h.1] at this
theorem cut_len {x : Str} {d : Int} (h : 0 ≤ d) : (tl (cutS x none (some d))).length ≤ d.toNat := by
  unfold cutS
  rw [tl_mk, List.length_take]
  have e : HT.sIx x.length x.length (some d) = min d.toNat x.length := by
    have e1 : (if d < 0 then (d + (x.length : Int)).toNat else min d.toNat x.length) = min d.toNat x.length := if_neg (by omega)
    exact e1
  have e2 : HT.sIx x.length 0 none = 0 := HT.sIx_none _ _
  rw [e, e2]
  omega
theorem drawn_at {szs ds : List Int} (h : Drawn szs ds) {i : Nat} {s : Int} (hs : szs[i]? = some s) : ∃ d, ds[i]? = some d ∧ 0 ≤ d ∧ d < s := by
  have hi : i < ds.length := by rw [h.1]; exact (List.getElem?_eq_some_iff.mp hs).1
  exact ⟨_, List.getElem?_eq_getElem hi, h.2 i _ s (List.getElem?_eq_getElem hi) hs⟩
def szNames : List Int := [36, 36, 36, 36, 36, 36, 36, 36, 36, 36, 36, 36, 12, 12, 12, 12, 36, 36, 36, 36]
def spNames (K : PySem.W.Frag) : Sp := fun vs H Q _ => ∃ (F : Hp) (c : Int), vs = [.int c] ∧ Same F H ∧ ∀ q F' H' (xs : List Str), Step F H F' H' → xs.length = 4 → (∀ x ∈ xs, NameOk x) → F' q = some (.lst (xs.map V.str)) → Q (.ref q) H'
theorem ok_L_names (T : Txt K mg A) : FnOk P w K mg base CX0 2 A.a_L_names A.d_L_names ["_law_cell_here"] (spNames K) := by
  refine T.F_L_names.ok sc_L_names (fun vs H Q E h => ?_) (fun cdv A' outer s H vs Q E hr h => ?_)
  · obtain ⟨F, c, rfl, _⟩ := h; rfl
  · obtain ⟨F, c, rfl, eF, k⟩ := h
    have w := Wd.start eF
    refine ⟨_, pss_cons (ps_set (i := 1) sc_L_names.nd rfl (Or.inr rfl) (pe_call (ok_L_draws T) (hr.mono (by decide)) rfl T.g_L_draws T.F_L_draws.kp T.b_L_draws .nil pass0 (pa_cons (pv 0) (pa_cons (pe_op (op_addK (K := K) rfl) (pe_op (op_addK (K := K) rfl) (pe_op op_mulU (pe_lst (pa_cons (pe_int) pa_nil)) (pe_int)) (pe_op op_mulU (pe_lst (pa_cons (pe_int) pa_nil)) (pe_int))) (pe_op op_mulU (pe_lst (pa_cons (pe_int) pa_nil)) (pe_int))) pa_nil))))
  (pss_cons (ps_set (i := 2) sc_L_names.nd rfl (Or.inr rfl) (pe_str))
  (pss_cons (ps_set (i := 3) sc_L_names.nd rfl (Or.inl rfl) (pe_join (pe_str) (pe_lc (own := [("_law_k", 5)]) rfl sc_L_names.nd (pi_range1 rfl T.n_range (pa_cons (pe_int) pa_nil)) (blkOk_by (own := [("_law_k", 5)]) (N := ["_law_cell_here", "_law_drawn", "_law_signs", "_law_stem", "_law_names_here", "_law_k", "_law_spot"]) (sc := defScope s_L_names) (by decide +kernel)) (fun _ _ _ _ _ => pg_name (i := 5) sc_L_names.nd rfl (Or.inl rfl)) (fun _ _ _ _ _ => pts_nil) (fun _ _ _ _ _ => pe_ix (ix_K (K := K) rfl) (pv 2) (pe_ix (ix_K (K := K) rfl) (pv 1) (pv 5) (fun _ _ => rfl)) (fun _ _ => rfl)))))
  (pss_cons (ps_set (i := 4) sc_L_names.nd rfl (Or.inl rfl) (pe_lst (pa_nil)))
  (pss_cons (ps_for PassesOwn.never rfl (pi_range1 rfl T.n_range (pa_cons (pe_int) pa_nil)) (pg_name (i := 5) sc_L_names.nd rfl (Or.inl rfl)) (pss_cons (ps_set (i := 6) sc_L_names.nd rfl (Or.inl rfl) (pe_ix (ix_K (K := K) rfl) (pv 1) (pe_op (op_addK (K := K) rfl) (pe_int) (pv 5)) (fun _ _ => rfl)))
    (pss_one (ps_expr (pe_bm PySem.F.plainAttrs_list PySem.F.slot_list_append PySem.F.type_list_append mt_append (pv 4) (pa_cons (pe_op (op_addK (K := K) rfl) (pe_slice (sl_K (K := K) rfl) (pv 3) po_none (po_some (pv 6))) (pe_ix (ix_K (K := K) rfl) (pv 2) (pe_ix (ix_K (K := K) rfl) (pv 1) (pe_op (op_addK (K := K) rfl) (pe_int) (pv 5)) (fun _ _ => rfl)) (fun _ _ => rfl))) pa_nil))))))
  (pss_one (ps_ret (pv 4))))))), ?_⟩
    refine ⟨_, rfl, by show 1 ≤ sizeLine; decide, fun p1 h1 => ?_⟩
    obtain ⟨w1, e1⟩ := w.fix h1 (.lst [.int 36])
    refine .inr ⟨p1, 12, _, rfl, rfl, upd_same, by decide, by decide, by show 1 * 12 ≤ sizeLine; decide, fun p2 h2 => ?_⟩
    obtain ⟨w2, e2⟩ := w1.fix h2 (.lst (List.replicate (12 : Int).toNat [V.int 36]).flatten)
    refine ⟨by show 1 ≤ sizeLine; decide, fun p3 h3 => ?_⟩
    obtain ⟨w3, e3⟩ := w2.fix h3 (.lst [.int 12])
    refine .inr ⟨p3, 4, _, rfl, rfl, upd_same, by decide, by decide, by show 1 * 4 ≤ sizeLine; decide, fun p4 h4 => ?_⟩
    obtain ⟨w4, e4⟩ := w3.fix h4 (.lst (List.replicate (4 : Int).toNat [V.int 12]).flatten)
    have f2 : (upd (upd (upd (upd F p1 (.lst [.int 36])) p2 (.lst (List.replicate (12 : Int).toNat [V.int 36]).flatten)) p3 (.lst [.int 12])) p4 (.lst (List.replicate (4 : Int).toNat [V.int 12]).flatten)) p2 = some (.lst (List.replicate (12 : Int).toNat [V.int 36]).flatten) := (e3.trans e4) _ _ upd_same
    refine .inr (.inr (.inl ⟨p2, p4, _, _, rfl, rfl, w4.fh _ _ f2, upd_same, by show 12 + 4 ≤ sizeLine; decide, fun p5 h5 => ?_⟩))
    obtain ⟨w5, e5⟩ := w4.fix h5 (.lst ((List.replicate (12 : Int).toNat [V.int 36]).flatten ++ (List.replicate (4 : Int).toNat [V.int 12]).flatten))
    refine ⟨by show 1 ≤ sizeLine; decide, fun p6 h6 => ?_⟩
    obtain ⟨w6, e6⟩ := w5.fix h6 (.lst [.int 36])
    refine .inr ⟨p6, 4, _, rfl, rfl, upd_same, by decide, by decide, by show 1 * 4 ≤ sizeLine; decide, fun p7 h7 => ?_⟩
    obtain ⟨w7, e7⟩ := w6.fix h7 (.lst (List.replicate (4 : Int).toNat [V.int 36]).flatten)
    have f5 := (e6.trans e7) p5 _ upd_same
    refine .inr (.inr (.inl ⟨p5, p7, _, _, rfl, rfl, w7.fh _ _ f5, upd_same, by show 16 + 4 ≤ sizeLine; decide, fun p8 h8 => ?_⟩))
    obtain ⟨w8, e8⟩ := w7.fix h8 (.lst (szNames.map V.int))
    refine ⟨_, c, p8, szNames, rfl, .of upd_same, by decide, by decide, w8.fh, fun q F9 H9 ds st9 dr hq => ?_⟩
    have w9 := w8.step st9
    have hdl : ds.length = 20 := dr.1
    have at36 : ∀ i : Nat, i < 12 → ∃ d, ds[i]? = some d ∧ 0 ≤ d ∧ d < 36 := fun i hi => by
      refine drawn_at dr ?_
      have : i = 0 ∨ i = 1 ∨ i = 2 ∨ i = 3 ∨ i = 4 ∨ i = 5 ∨ i = 6 ∨ i = 7 ∨ i = 8 ∨ i = 9 ∨ i = 10 ∨ i = 11 := by omega
      rcases this with rfl | rfl | rfl | rfl | rfl | rfl | rfl | rfl | rfl | rfl | rfl | rfl <;> rfl
    have at12 : ∀ i : Nat, i < 4 → ∃ d, ds[12 + i]? = some d ∧ 0 ≤ d ∧ d < 12 := fun i hi => by
      refine drawn_at dr ?_
      have : i = 0 ∨ i = 1 ∨ i = 2 ∨ i = 3 := by omega
      rcases this with rfl | rfl | rfl | rfl <;> rfl
    have at16 : ∀ i : Nat, i < 4 → ∃ d, ds[16 + i]? = some d ∧ 0 ≤ d ∧ d < 36 := fun i hi => by
      refine drawn_at dr ?_
      have : i = 0 ∨ i = 1 ∨ i = 2 ∨ i = 3 := by omega
      rcases this with rfl | rfl | rfl | rfl <;> rfl
    have atV : ∀ {i : Nat} {d : Int}, ds[i]? = some d → (ds.map V.int)[i]? = some (.int d) := fun h => by rw [List.getElem?_map, h]; rfl
    have hzs : signsT.length ≤ sizeLine := by rw [len_tl, tl_signs]; decide
    -- the stem
    refine ⟨⟨_, rfl⟩, 12, rfl, by decide, by decide, fun D hD => ?_⟩
    obtain ⟨cs, hcs, hcg⟩ : ∃ cs : List Nat, cs.length = 12 ∧ ∀ i c, cs[i]? = some c → GoodC c ∧ ∃ d, ds[i]? = some d ∧ atI signsT.cps.toList d = some c := by
      refine ⟨(List.range 12).map fun i => (tl signsT).getD (ds.getD i 0).toNat 97, by simp, fun i c hc => ?_⟩
      rw [List.getElem?_map] at hc
      have hi : i < 12 := by
        rcases Nat.lt_or_ge i 12 with z | z
        · exact z
        · rw [List.getElem?_eq_none (by simpa using z)] at hc; cases hc
      rw [List.getElem?_eq_getElem (by simpa using hi), List.getElem_range] at hc
      obtain ⟨d, hd, d0, d1⟩ := at36 i hi
      have e : ds.getD i 0 = d := by rw [List.getD_eq_getElem?_getD, hd]; rfl
      have hc : some ((tl signsT).getD (ds.getD i 0).toNat 97) = some c := hc
      rw [e] at hc
      obtain ⟨c', g', a'⟩ := signs_at ⟨d0, d1⟩
      have h1 : (tl signsT)[d.toNat]? = some c' := by
        obtain ⟨j, hj1, hj2, _⟩ := atI_get a'
        have hi2 : d.toNat < (tl signsT).length := by rw [tl_signs]; show d.toNat < 36; omega
        have h2 := atI_nat (List.getElem?_eq_getElem hi2)
        rw [Int.toNat_of_nonneg d0] at h2
        have h3 : atI (tl signsT) d = some c' := a'
        rw [h3] at h2
        rw [List.getElem?_eq_getElem hi2]
        exact h2.symm
      rw [List.getD_eq_getElem?_getD, h1] at hc
      cases hc
      exact ⟨g', d, hd, a'⟩
    refine lc_wdR (K := K) (lo := 0) (n := 12) (cs.map fun c => PyData.str ⟨#[c]⟩) (by rw [List.length_map, hcs]) w9 hD (by decide) ?_ ?_
    · intro i d F1 H1 acc Q1 hi hd e1 w1 kk
      obtain ⟨c1, hc1, rfl⟩ := item_map hd
      obtain ⟨g1, d1, hd1, ha1⟩ := hcg i c1 hc1
      refine ⟨rfl, _, rfl, _, rfl, _, rfl, .inl ⟨q, _, _, _, rfl, rfl, w1.l (same_l e1 hq), by rw [Int.zero_add]; exact atI_nat (atV hd1), .inr (.inr ⟨_, d1, c1, rfl, rfl, hzs, ha1, kk _ F1 H1 (.refl w1.fh) (.str _)⟩)⟩⟩
    · intro vs' F1 H1 e1 w1 da
      have ev : vs' = (cs.map fun c => (⟨#[c]⟩ : Str)).map V.str := dpa_strs (by rw [List.map_map]; exact da)
      subst ev
      have sl1 : ∀ p ∈ (cs.map fun c => (⟨#[c]⟩ : Str)), p.length ≤ 1 := fun p hp => by
        obtain ⟨c, _, rfl⟩ := List.mem_map.mp hp
        exact Nat.le_refl 1
      refine ⟨_, D, cs.map fun c => (⟨#[c]⟩ : Str), rfl, rfl, .inl (.of w1.at_), join_len (k := 1) (n := 12) sl1 (by rw [List.length_map, hcs]; exact Nat.le_refl _) (by decide +kernel) (by decide), ?_⟩
      generalize hst : Txt.join (Str.ofString "") (cs.map fun c => (⟨#[c]⟩ : Str)) = stem
      have gst : ∀ c ∈ tl stem, GoodC c := by
        intro c hc
        rw [← hst, tl_joinT] at hc
        rcases mem_joinL hc with hc | ⟨p, hp, hc⟩
        · rw [ofS_tl] at hc; cases hc
        · obtain ⟨x, hx, rfl⟩ := List.mem_map.mp hp
          obtain ⟨c2, hc2, rfl⟩ := List.mem_map.mp hx
          obtain ⟨j, hj⟩ := List.mem_iff_getElem?.mp hc2
          have : c = c2 := by simpa [tl] using hc
          rw [this]
          exact (hcg j c2 hj).1
      have zst : stem.length ≤ sizeLine := by
        rw [← hst]
        refine small ?_
        rw [len_tl, tl_joinT]
        refine Nat.le_trans (joinL_len (k := 1) fun p hp => ?_) ?_
        · obtain ⟨x, hx, rfl⟩ := List.mem_map.mp hp
          rw [← len_tl]
          exact sl1 x hx
        · rw [ofS_tl, List.length_map, List.length_map, hcs]; decide
      have w1' := w1.drop
      refine ⟨Nat.zero_le _, fun D2 hD2 => ?_⟩
      have w2 := w1'.own hD2 (.lst [])
      have hq1 : SqL K F1 q (ds.map V.int) := same_l e1 hq
      refine ⟨4, rfl, by decide, by decide, for_range (lo := 0) (n := 4) (fun i σ H' => ∃ (xs : List Str) (v1 v2 : Option V), σ = [some (.int c), some (.ref q), some (.str signsT), some (.str stem), some (.ref D2), v1, v2] ∧ Wd F H F1 H' [(D2, .lst (xs.map V.str))] ∧ xs.length = i ∧ ∀ x ∈ xs, NameOk x)
        ⟨[], none, none, rfl, w2, rfl, fun _ h => by cases h⟩ ?_ ?_⟩
      · rintro i σ H3 hi ⟨xs, v1, v2, rfl, w3, hxl, hxs⟩
        obtain ⟨d1, hd1, d10, d11⟩ := at12 i hi
        obtain ⟨d2, hd2, d20, d21⟩ := at16 i hi
        obtain ⟨c2, g2, a2⟩ := signs_at ⟨d20, d21⟩
        have ei : (12 : Int) + (0 + (i : Int)) = ((12 + i : Nat) : Int) := by omega
        have ej : (16 : Int) + (0 + (i : Int)) = ((16 + i : Nat) : Int) := by omega
        refine ⟨_, rfl, _, rfl, .inl ⟨_, _, rfl, rfl, .inl ⟨q, _, _, _, rfl, rfl, w3.l hq1, by rw [ei]; exact atI_nat (atV hd1), ?_⟩⟩⟩
        refine ⟨_, rfl, .inl ⟨rfl, _, .of w3.at_⟩, _, rfl, _, rfl, _, rfl, .inl ⟨stem, rfl, zst, _, rfl, _, rfl, _, rfl, .inl ⟨_, _, rfl, rfl, .inl ⟨q, _, _, _, rfl, rfl, w3.l hq1, by rw [ej]; exact atI_nat (atV hd2), .inr (.inr ⟨_, d2, c2, rfl, rfl, hzs, a2, ?_⟩)⟩⟩⟩⟩
        have hcl := cut_len (x := stem) d10
        refine .inr (.inl ⟨_, _, rfl, rfl, small (by rw [len_tl]; show _ + 1 ≤ _; omega), D2, _, _, rfl, rfl, w3.at_, small' (by rw [List.length_map]; omega), ?_⟩)
        refine ⟨xs ++ [cutS stem none (some d1) ++ ⟨#[c2]⟩], _, _, rfl, ?_, by rw [List.length_append, hxl]; rfl, fun x hx => ?_⟩
        · rw [List.map_append]
          exact w3.set _
        · rcases List.mem_append.mp hx with hx | hx
          · exact hxs x hx
          · rw [List.mem_singleton.mp hx]
            refine ⟨?_, ?_, fun c hc => ?_⟩
            · rw [tl_append, List.length_append]; show 1 ≤ _ + 1; omega
            · rw [tl_append, List.length_append]; show _ + 1 ≤ 12; omega
            · rw [tl_append] at hc
              rcases List.mem_append.mp hc with hc | hc
              · exact gst c (cut_sub hc)
              · have : c = c2 := by simpa [tl] using hc
                rw [this]
                exact g2
      · rintro σ H3 ⟨xs, v1, v2, rfl, w3, hxl, hxs⟩
        obtain ⟨w4, e4⟩ := w3.freeze
        exact ⟨_, rfl, k D2 _ _ xs w4.done hxl hxs upd_same⟩

end
end Q

set_option Elab.async false
set_option linter.all false
set_option maxRecDepth 100000
set_option maxHeartbeats 8000000
namespace Q
open PySem PySem.Spec PyProof.Rows L2 TL PW Rc
section
variable {P : Program} {w : World} {K : PySem.W.Frag} {mg : Str → Option Value} {base : Heap} {A : Ad}
/-! ### the ledger's methods -/
def lf (c n w : Addr) (t : Int) : List (Str × V) := [("caps", .ref c), ("names", .ref n), ("wardens", .ref w), ("top", .int t)]
theorem lk_here {k : Str} {v : V} {r : List (Str × V)} : List.lookup k ((k, v) :: r) = some v := by
  have e : (k == k) = true := beq_self_eq_true k
  simp only [List.lookup, e]
theorem lk_past {k g : Str} {v : V} {r : List (Str × V)} (h : (k == g) = false) : List.lookup k ((g, v) :: r) = List.lookup k r := by
  simp only [List.lookup, h]
theorem put_here {f : Str} {v x : V} {r : List (Str × V)} : putF f v ((f, x) :: r) = (f, v) :: r := if_pos rfl
theorem put_past {f g : Str} {v x : V} {r : List (Str × V)} (h : ¬ g = f) : putF f v ((g, x) :: r) = (g, x) :: putF f v r := if_neg h
section
variable (c n w : Addr) (t : Int)
theorem lf_caps : (lf c n w t).lookup ("caps" : Str) = some (.ref c) := lk_here
theorem lf_names : (lf c n w t).lookup ("names" : Str) = some (.ref n) := (lk_past (by decide +kernel)).trans lk_here
theorem lf_wardens : (lf c n w t).lookup ("wardens" : Str) = some (.ref w) := (lk_past (by decide +kernel)).trans ((lk_past (by decide +kernel)).trans lk_here)
theorem lf_top : (lf c n w t).lookup ("top" : Str) = some (.int t) := (lk_past (by decide +kernel)).trans ((lk_past (by decide +kernel)).trans ((lk_past (by decide +kernel)).trans lk_here))
theorem lf_no {m : Str} (h1 : (m == "caps") = false) (h2 : (m == "names") = false) (h3 : (m == "wardens") = false) (h4 : (m == "top") = false) : (lf c n w t).lookup m = none :=
  (lk_past h1).trans ((lk_past h2).trans ((lk_past h3).trans ((lk_past h4).trans rfl)))
theorem lf_put (y : Int) : putF "top" (.int y) (lf c n w t) = lf c n w y := (put_past (by decide +kernel)).trans (congrArg _ ((put_past (by decide +kernel)).trans (congrArg _ ((put_past (by decide +kernel)).trans (congrArg _ put_here)))))
theorem lf_few : (lf c n w t).length < 1000 := by show 4 < 1000; decide
end
def nmR (K : PySem.W.Frag) (F : Hp) : V → List Int → Prop := fun v ns => Dp K F v (encNs ns)
def wdR (K : PySem.W.Frag) (F : Hp) : V → Int × Int → Prop := fun v u => Dp K F v (.tuple [.int u.1, .int u.2])
/-- a ledger at p in the world of its caller: its caps at c, its names at n, its wardens at wr -/
def LW (K : PySem.W.Frag) (A : Ad) (F0 H0 F H : Hp) (M : List (Addr × HO)) (p dx c n wr : Addr) (m : Nat) (f : FSt) : Prop := ∃ kn kw : List (Key × V),
  Wd F0 H0 F H ([(p, .ins A.A_Ledger dx (lf c n wr f.top)), (c, .lst (f.caps.map V.int)), (n, .dK kn), (wr, .dK kw)] ++ M) ∧ DRep Sum.inr (nmR K F) kn f.names ∧ DRep Sum.inl (wdR K F) kw f.wards ∧ kn.length + kw.length ≤ m
theorem inl_inj : ∀ x y : Int, (Sum.inl x : Key) = .inl y → x = y := fun _ _ h => Sum.inl.inj h
theorem inr_inj : ∀ x y : Str, (Sum.inr x : Key) = .inr y → x = y := fun _ _ h => Sum.inr.inj h
def spForget (K : PySem.W.Frag) (A : Ad) : Sp := fun vs H Q _ => ∃ (F0 H0 F : Hp) (M : List (Addr × HO)) (p dx c n wr : Addr) (m : Nat) (f : FSt) (x : Str), vs = [.ref p, .str x] ∧ LW K A F0 H0 F H M p dx c n wr m f ∧
  (∀ ns, f.names x = some ns → ns.length ≤ 1000000) ∧ ∀ F' H', Same F F' → LW K A F0 H0 F' H' M p dx c n wr m (f.forget x) → Q .non H'
theorem ok_Ledger__forget (T : Txt K mg A) : FnOk P w K mg base CX0 1 A.a_Ledger__forget A.d_Ledger__forget ["self", "name"] (spForget K A) := by
  refine T.F_Ledger__forget.ok sc_Ledger__forget (fun vs H Q E h => ?_) (fun cdv A' outer s H vs Q E hr h => ?_)
  · obtain ⟨F0, H0, F, M, p, dx, c, n, wr, m, f, x, rfl, _⟩ := h; rfl
  · obtain ⟨F0, H0, F, M, p, dx, c, n, wr, m, f, x, rfl, ⟨kn, kw, w0, rn, rw', hm⟩, hns, k⟩ := h
    have hu64 := hu64_of hr
    refine ⟨_, pss_cons (ps_for PassesOwn.never rfl (pi_tupK (K := K) rfl (pe_dget2 (PW.hu1_of hu64) (pe_fldK (K := K) rfl (pv 0) rfl) (pv 1) (pe_tup (pa_nil)) ⟨rfl, rfl, rfl, rfl⟩)) (pg_name (i := 2) sc_Ledger__forget.nd rfl (Or.inl rfl)) (pss_one (ps_expr (pe_dpop2 (pe_fldK (K := K) rfl (pv 0) rfl) (pv 2) (pe_non) ⟨rfl, rfl, rfl, rfl⟩))))
  (pss_one (ps_expr (pe_dpop2 (pe_fldK (K := K) rfl (pv 0) rfl) (pv 1) (pe_non) ⟨rfl, rfl, rfl, rfl⟩))), ?_⟩
    have hp := w0.atM (L := [])
    have hn := w0.atM (L := [_, _])
    refine ⟨_, rfl, p, _, dx, _, _, rfl, hp, T.cl_Ledger, T.o_Ledger_names, lf_names .., n, rfl, .inl ⟨_, .inl hn⟩, _, rfl, Nat.zero_le _, fun z hz => ?_⟩
    obtain ⟨w1, e1⟩ := w0.fix hz (.tup [])
    refine ⟨_, DGet.k (k := .inr x) (w1.atM (L := [_, _])), ?_⟩
    -- the numbers that go
    obtain ⟨ns, hv⟩ : ∃ ns, (f.names x).getD [] = ns := ⟨_, rfl⟩
    obtain ⟨t, ht, hsq, hl⟩ : ∃ t, (valV kn (.inr x)).getD (.ref z) = .ref t ∧ SqT K (upd F z (.tup [])) t (ns.map V.int) ∧ ns.length ≤ 1000000 := by
      cases q : f.names x with
      | none =>
        rw [rn.gone x q]
        rw [q] at hv
        subst hv
        exact ⟨z, rfl, .of upd_same, Nat.zero_le _⟩
      | some l =>
        obtain ⟨v, h1, h2⟩ := rn.here x l q
        rw [h1]
        rw [q] at hv
        subst hv
        obtain ⟨t, xs, rfl, hs, da⟩ := dp_tup h2
        rw [dpa_ints da] at hs
        exact ⟨t, rfl, same_t e1 hs, hns _ q⟩
    rw [ht]
    have hs1 : SqT K (upd H z (.tup [])) t (ns.map V.int) := same_t w1.fh hsq
    refine ⟨t, rfl, ⟨_, hs1⟩, ?_⟩
    have hm1 : kw.length ≤ kw.length := Nat.le_refl _
    refine for_tup (xs := ns.map V.int) (fun i σ H' => ∃ (v2 : Option V) (kw' : List (Key × V)), σ = [some (.ref p), some (.str x), v2] ∧ Wd F0 H0 (upd F z (.tup [])) H' ([(p, .ins A.A_Ledger dx (lf c n wr f.top)), (c, .lst (f.caps.map V.int)), (n, .dK kn), (wr, .dK kw')] ++ M) ∧
      DRep Sum.inl (wdR K F) kw' (fun j => if j ∈ ns.take i then none else f.wards j) ∧ kw'.length ≤ kw.length) ⟨none, kw, rfl, w1, rw'.congr fun j => by rw [List.take_zero, if_neg (by simp)], hm1⟩ ?_ ?_ ?_
    · rintro i σ H' _ ⟨v2, kw', rfl, w2, _⟩
      exact same_t w2.fh hsq
    · rintro i y σ H' hy ⟨v2, kw', rfl, w2, r2, hl2⟩
      obtain ⟨j, hj, rfl⟩ := item_int hy
      refine ⟨_, rfl, p, _, dx, _, _, rfl, w2.atM (L := []), T.cl_Ledger, T.o_Ledger_wardens, lf_wardens .., wr, rfl, .inl ⟨_, .inl (w2.atM (L := [_, _, _]))⟩, _, rfl, kw', .inl j, w2.atM (L := [_, _, _]), rfl, fun v hv => ?_, fun hv => ?_⟩
      · refine ⟨_, dropK kw' (.inl j), rfl, w2.setM (L := [_, _, _]) _, (r2.drop inl_inj j).congr fun y => ?_, Nat.le_trans (dropK_le _ _) hl2⟩
        rw [take_more1 hj]
        by_cases q : y = j
        · rw [if_pos q, if_pos (by simp [q])]
        · rw [if_neg q]
          by_cases q2 : y ∈ ns.take i
          · rw [if_pos q2, if_pos (by simp [q2])]
          · rw [if_neg q2, if_neg (by simp [q, q2])]
      · refine ⟨_, kw', rfl, w2, r2.congr fun y => ?_, hl2⟩
        rw [take_more1 hj]
        by_cases q : y = j
        · subst q
          have g0 : (fun j => if j ∈ ns.take i then none else f.wards j) y = none := by
            cases g : (fun j => if j ∈ ns.take i then none else f.wards j) y with
            | none => rfl
            | some b =>
              obtain ⟨v, h1, _⟩ := r2.here y b g
              rw [h1] at hv; cases hv
          rw [if_pos (show y ∈ ns.take i ++ [y] by simp)]
          exact g0
        · by_cases q2 : y ∈ ns.take i
          · rw [if_pos q2, if_pos (by simp [q2])]
          · rw [if_neg q2, if_neg (by simp [q, q2])]
    · rintro σ H' ⟨v2, kw', rfl, w2, r2, hl2⟩
      rw [List.length_map, List.take_length] at r2
      have r3 : DRep Sum.inl (wdR K (upd F z (.tup []))) kw' (f.forget x).wards := (r2.mono fun v b h => dp_mono e1 h).congr fun j => by
        show _ = if j ∈ (f.names x).getD [] then none else f.wards j
        rw [hv]
      refine ⟨_, rfl, p, _, dx, _, _, rfl, w2.atM (L := []), T.cl_Ledger, T.o_Ledger_names, lf_names .., n, rfl, .inl ⟨_, .inl (w2.atM (L := [_, _]))⟩, _, rfl, kn, .inr x, w2.atM (L := [_, _]), rfl, fun v hv => ?_, fun hv => ?_⟩
      · refine k _ _ e1 ⟨dropK kn (.inr x), kw', w2.setM (L := [_, _]) _, (rn.drop inr_inj x).mono fun v b h => dp_mono e1 h, r3, ?_⟩
        have := dropK_le kn (.inr x)
        omega
      · refine k _ _ e1 ⟨kn, kw', w2, (rn.congr fun y => ?_).mono fun v b h => dp_mono e1 h, r3, by omega⟩
        show _ = if y = x then none else f.names y
        by_cases q : y = x
        · subst q
          rw [if_pos rfl]
          cases g : f.names y with
          | none => rfl
          | some b =>
            obtain ⟨v, h1, _⟩ := rn.here y b g
            rw [h1] at hv; cases hv
        · rw [if_neg q]
def spSetW (K : PySem.W.Frag) (A : Ad) : Sp := fun vs H Q _ => ∃ (F0 H0 F : Hp) (M : List (Addr × HO)) (p dx c n wr : Addr) (m : Nat) (f : FSt) (v : V) (ws : List (Int × Int × Int)), vs = [.ref p, v] ∧ LW K A F0 H0 F H M p dx c n wr m f ∧
  Dp K F v (encWs ws) ∧ m + ws.length ≤ 1000000 ∧ ∀ F' H', Same F F' → LW K A F0 H0 F' H' M p dx c n wr (m + ws.length) (f.setWs ws) → Q .non H'
theorem ok_Ledger__set_wardens (T : Txt K mg A) : FnOk P w K mg base CX0 1 A.a_Ledger__set_wardens A.d_Ledger__set_wardens ["self", "entries"] (spSetW K A) := by
  refine T.F_Ledger__set_wardens.ok sc_Ledger__set_wardens (fun vs H Q E h => ?_) (fun cdv A' outer s H vs Q E hr h => ?_)
  · obtain ⟨F0, H0, F, M, p, dx, c, n, wr, m, f, v, ws, rfl, _⟩ := h; rfl
  · obtain ⟨F0, H0, F, M, p, dx, c, n, wr, m, f, v, ws, rfl, L, D, hm, k⟩ := h
    have hu64 := hu64_of hr
    obtain ⟨t, xs, rfl, ht, da⟩ := dp_tup D
    have hxl : xs.length = ws.length := by rw [dpa_len da, List.length_map]
    have L0 : Wd F0 H0 F H _ := L.choose_spec.choose_spec.1
    refine ⟨_, pss_one (ps_for PassesOwn.never rfl (pi_tupK (K := K) rfl (pv 1)) (pg_tupK (K := K) (n := 3) rfl rfl (pgs_cons (pg_name (i := 2) sc_Ledger__set_wardens.nd rfl (Or.inl rfl)) (pgs_cons (pg_name (i := 3) sc_Ledger__set_wardens.nd rfl (Or.inl rfl)) (pgs_cons (pg_name (i := 4) sc_Ledger__set_wardens.nd rfl (Or.inl rfl)) pgs_nil)))) (pss_cons (ps_asg (pe_tup (pa_cons (pv 3) (pa_cons (pv 4) pa_nil))) (pg_sub (pe_fldK (K := K) rfl (pv 0) rfl) (pv 2) (set_dict (PW.hu1_of hu64))))
    (pss_one (ps_fld (pv 0) (pe_callB (call_max2 rfl) (by rfl) T.n_max (by decide +kernel) (pa_cons (pe_fldK (K := K) rfl (pv 0) rfl) (pa_cons (pv 2) pa_nil))) rfl)))), ?_⟩
    refine ⟨_, rfl, t, rfl, ⟨_, same_t L0.fh ht⟩, ?_⟩
    refine for_tup (xs := xs) (fun i σ H' => ∃ (F' : Hp) (v2 v3 v4 : Option V), σ = [some (.ref p), some (.ref t), v2, v3, v4] ∧ Same F F' ∧ LW K A F0 H0 F' H' M p dx c n wr (m + i) (f.setWs (ws.take i))) ⟨F, none, none, none, rfl, .refl F, L⟩ ?_ ?_ ?_
    · rintro i σ H' _ ⟨F', v2, v3, v4, rfl, e, kn, kw, w1, _⟩
      exact same_t (e.trans w1.fh) ht
    · rintro i x σ H' hx ⟨F', v2, v3, v4, rfl, e, kn, kw, w1, rn, rw', hl⟩
      obtain ⟨d, hd, dx'⟩ := dpa_get da hx
      obtain ⟨u, hu, rfl⟩ := item_map hd
      have hi : i < ws.length := (List.getElem?_eq_some_iff.mp hu).1
      obtain ⟨q, rfl, hq⟩ := wd_at dx'
      refine ⟨q, _, rfl, same_t (e.trans w1.fh) hq, rfl, _, _, rfl, _, _, rfl, _, _, rfl, rfl, ?_⟩
      refine ⟨_, rfl, _, rfl, by show 2 ≤ sizeLine; decide, fun z hz => ?_⟩
      obtain ⟨w2, e2⟩ := w1.fix hz (.tup [.int u.2.1, .int u.2.2])
      refine ⟨_, rfl, p, _, dx, _, _, rfl, w2.atM (L := []), T.cl_Ledger, T.o_Ledger_wardens, lf_wardens .., _, rfl, wr, _, rfl, DPut.k (k := .inl u.1) (w2.atM (L := [_, _, _])) (small' (by omega)), ?_⟩
      have w3 := w2.setM (L := [_, _, _]) (.dK (putK kw (.inl u.1) (.ref z)))
      refine ⟨_, rfl, p, _, dx, _, _, rfl, w3.atM (L := []), T.cl_Ledger, T.o_Ledger_top, lf_top .., _, rfl, _, _, rfl, _, rfl, p, _, dx, _, rfl, w3.atM (L := []), T.cl_Ledger, T.o_Ledger_top, lf_few .., ?_⟩
      rw [lf_put]
      have es : f.setWs (ws.take (i + 1)) = (f.setWs (ws.take i)).ward u := by
        rw [take_more1 hu]
        unfold FSt.setWs
        rw [List.foldl_append]
        rfl
      refine ⟨_, _, _, _, rfl, e.trans e2, kn, _, ?_, (by rw [es]; exact rn.mono fun v b h => dp_mono e2 h), (by rw [es]; exact (rw'.mono fun v b h => dp_mono e2 h).put inl_inj (.tup (.of upd_same) (.cons (.int _) (.cons (.int _) .nil)))), ?_⟩
      · rw [es]
        exact w3.setM (L := []) _
      · have := length_putK kw (.inl u.1) (.ref z)
        omega
    · rintro σ H' ⟨F', v2, v3, v4, rfl, e, L'⟩
      rw [hxl, List.take_length] at L'
      exact k F' H' e L'
def spSetName (K : PySem.W.Frag) (A : Ad) : Sp := fun vs H Q _ => ∃ (F0 H0 F : Hp) (M : List (Addr × HO)) (p dx c n wr : Addr) (m : Nat) (f : FSt) (x : Str) (v : V) (ns : List Int), vs = [.ref p, .str x, v] ∧ LW K A F0 H0 F H M p dx c n wr m f ∧
  Dp K F v (encNs ns) ∧ ns.length ≤ 1000000 ∧ (∀ ns', f.names x = some ns' → ns'.length ≤ 1000000) ∧ m + 1 ≤ 1000000 ∧ ∀ F' H', Same F F' → LW K A F0 H0 F' H' M p dx c n wr (m + 1) (f.setName x ns) → Q .non H'
theorem ok_Ledger__set_name (T : Txt K mg A) : FnOk P w K mg base CX0 2 A.a_Ledger__set_name A.d_Ledger__set_name ["self", "name", "numbers"] (spSetName K A) := by
  refine T.F_Ledger__set_name.ok sc_Ledger__set_name (fun vs H Q E h => ?_) (fun cdv A' outer s H vs Q E hr h => ?_)
  · obtain ⟨F0, H0, F, M, p, dx, c, n, wr, m, f, x, v, ns, rfl, _⟩ := h; rfl
  · obtain ⟨F0, H0, F, M, p, dx, c, n, wr, m, f, x, v, ns, rfl, L, D, hnl, hns, hm, k⟩ := h
    have hu64 := hu64_of hr
    obtain ⟨t, xs, rfl, ht, da⟩ := dp_tup D
    rw [dpa_ints da] at ht
    have L0 : Wd F0 H0 F H _ := L.choose_spec.choose_spec.1
    refine ⟨_, pss_cons (ps_expr (pe_meth (pv 0) T.cl_Ledger T.m_Ledger__forget (ok_Ledger__forget T) (hr.mono (by decide)) T.b_Ledger__forget .nil pass0 (pa_cons (pv 1) pa_nil)))
  (pss_cons (ps_asg (pe_callTy (call_tupleK (K := K) rfl) (by rfl) T.n_tuple (by decide +kernel) (pa_cons (pv 2) pa_nil)) (pg_sub (pe_fldK (K := K) rfl (pv 0) rfl) (pv 1) (set_dict (PW.hu1_of hu64))))
  (pss_one (ps_for PassesOwn.never rfl (pi_tupK (K := K) rfl (pv 2)) (pg_name (i := 3) sc_Ledger__set_name.nd rfl (Or.inl rfl)) (pss_one (ps_fld (pv 0) (pe_callB (call_max2 rfl) (by rfl) T.n_max (by decide +kernel) (pa_cons (pe_fldK (K := K) rfl (pv 0) rfl) (pa_cons (pv 3) pa_nil))) rfl))))), ?_⟩
    refine ⟨_, rfl, p, dx, _, rfl, L0.atM (L := []), lf_no _ _ _ _ (by decide +kernel) (by decide +kernel) (by decide +kernel) (by decide +kernel), _, rfl, F0, H0, F, M, p, dx, c, n, wr, m, f, x, rfl, L, hns, fun F1 H1 e1 L1 => ?_⟩
    obtain ⟨kn, kw, w1, rn, rw', hl⟩ := L1
    refine ⟨_, rfl, t, _, rfl, .inr ⟨same_t (e1.trans w1.fh) ht, ?_⟩⟩
    refine ⟨_, rfl, p, _, dx, _, _, rfl, w1.atM (L := []), T.cl_Ledger, T.o_Ledger_names, lf_names .., _, rfl, n, _, rfl, DPut.k (k := .inr x) (w1.atM (L := [_, _])) (small' (by omega)), ?_⟩
    have w2 := w1.setM (L := [_, _]) (.dK (putK kn (.inr x) (.ref t)))
    have hlp := length_putK kn (.inr x) (.ref t)
    have rn2 := rn.put inr_inj (x := x) (b := ns) (show nmR K F1 (.ref t) ns from .tup (same_t e1 ht) dpa_of_ints)
    refine ⟨_, rfl, t, rfl, ⟨_, same_t (e1.trans w2.fh) ht⟩, ?_⟩
    refine for_tup (xs := ns.map V.int) (fun i σ H' => ∃ (v3 : Option V), σ = [some (.ref p), some (.str x), some (.ref t), v3] ∧ LW K A F0 H0 F1 H' M p dx c n wr (m + 1) { f.forget x with names := fun y => if y = x then some ns else (f.forget x).names y, top := (ns.take i).foldl mx f.top }) ⟨none, rfl, _, kw, w2, rn2, rw', by omega⟩ ?_ ?_ ?_
    · rintro i σ H' _ ⟨v3, rfl, kn, kw, w3, _⟩
      exact same_t (e1.trans w3.fh) ht
    · rintro i y σ H' hy ⟨v3, rfl, kn, kw, w3, r1, r2, hl⟩
      obtain ⟨j, hj, rfl⟩ := item_int hy
      refine ⟨_, rfl, p, _, dx, _, _, rfl, w3.atM (L := []), T.cl_Ledger, T.o_Ledger_top, lf_top .., _, rfl, _, _, rfl, _, rfl, p, _, dx, _, rfl, w3.atM (L := []), T.cl_Ledger, T.o_Ledger_top, lf_few .., ?_⟩
      rw [lf_put]
      have es : (ns.take (i + 1)).foldl mx f.top = mx ((ns.take i).foldl mx f.top) j := by
        rw [take_more1 hj, List.foldl_append]
        rfl
      refine ⟨_, rfl, kn, kw, ?_, r1, r2, hl⟩
      rw [es]
      exact w3.setM (L := []) _
    · rintro σ H' ⟨v3, rfl, L'⟩
      rw [List.length_map, List.take_length] at L'
      exact k F1 H' e1 L'

end
end Q

set_option Elab.async false
set_option linter.all false
set_option maxRecDepth 100000
set_option maxHeartbeats 8000000
namespace Q
open PySem PySem.Spec PyProof.Rows L2 TL PW Rc
section
variable {P : Program} {w : World} {K : PySem.W.Frag} {mg : Str → Option Value} {base : Heap} {A : Ad}
def TakeOk (f : FSt) : Rec → Prop
  | .cap s _ _ => 0 ≤ s ∧ s.toNat < f.caps.length
  | _ => True
def spTake (K : PySem.W.Frag) (A : Ad) : Sp := fun vs H Q _ => ∃ (F0 H0 F : Hp) (M : List (Addr × HO)) (p dx c n wr : Addr) (m : Nat) (f : FSt) (v : V) (r : Rec), vs = [.ref p, v] ∧ LW K A F0 H0 F H M p dx c n wr m f ∧
  Dp K F v (encR r) ∧ RecOk r ∧ TakeOk f r ∧ NmOk f ∧ m + 101 ≤ 1000000 ∧ ∀ F' H', Same F F' → LW K A F0 H0 F' H' M p dx c n wr (m + 101) (f.take r) → Q .non H'
theorem lw_more {A : Ad} {F0 H0 F H : Hp} {M : List (Addr × HO)} {p dx c n wr : Addr} {m m' : Nat} {f : FSt} (h : m ≤ m') (L : LW K A F0 H0 F H M p dx c n wr m f) : LW K A F0 H0 F H M p dx c n wr m' f := by
  obtain ⟨kn, kw, a, b, c, d⟩ := L
  exact ⟨kn, kw, a, b, c, Nat.le_trans d h⟩
theorem lw_wd {A : Ad} {F0 H0 F H : Hp} {M : List (Addr × HO)} {p dx c n wr : Addr} {m : Nat} {f : FSt} (L : LW K A F0 H0 F H M p dx c n wr m f) : ∃ kn kw, Wd F0 H0 F H ([(p, .ins A.A_Ledger dx (lf c n wr f.top)), (c, .lst (f.caps.map V.int)), (n, .dK kn), (wr, .dK kw)] ++ M) := by
  obtain ⟨kn, kw, a, _⟩ := L
  exact ⟨kn, kw, a⟩
theorem rec4 {H : Hp} {v : V} {r : Rec} {d0 d1 d2 d3 : PyData} (h : Dp K H v (encR r)) (e : encR r = .tuple [d0, d1, d2, d3]) : ∃ q x0 x1 x2 x3, v = .ref q ∧ SqT K H q [x0, x1, x2, x3] ∧ Dp K H x0 d0 ∧ Dp K H x1 d1 ∧ Dp K H x2 d2 ∧ Dp K H x3 d3 := by
  rw [e] at h
  obtain ⟨q, xs, rfl, hq, da⟩ := dp_tup h
  cases da with | cons a0 da => cases da with | cons a1 da => cases da with | cons a2 da => cases da with | cons a3 da =>
  cases da
  exact ⟨q, _, _, _, _, rfl, hq, a0, a1, a2, a3⟩
theorem rec2 {H : Hp} {v : V} {r : Rec} {d0 d1 : PyData} (h : Dp K H v (encR r)) (e : encR r = .tuple [d0, d1]) : ∃ q x0 x1, v = .ref q ∧ SqT K H q [x0, x1] ∧ Dp K H x0 d0 ∧ Dp K H x1 d1 := by
  rw [e] at h
  obtain ⟨q, xs, rfl, hq, da⟩ := dp_tup h
  cases da with | cons a0 da => cases da with | cons a1 da =>
  cases da
  exact ⟨q, _, _, rfl, hq, a0, a1⟩
theorem last4 {x0 x1 x2 x3 : V} : atI [x0, x1, x2, x3] (-1) = some x3 := rfl
theorem last2 {x0 x1 : V} : atI [x0, x1] (-1) = some x1 := rfl
theorem ok_Ledger__take (T : Txt K mg A) : FnOk P w K mg base CX0 3 A.a_Ledger__take A.d_Ledger__take ["self", "record"] (spTake K A) := by
  refine T.F_Ledger__take.ok sc_Ledger__take (fun vs H Q E h => ?_) (fun cdv A' outer s H vs Q E hr h => ?_)
  · obtain ⟨F0, H0, F, M, p, dx, c, n, wr, m, f, v, r, rfl, _⟩ := h; rfl
  · obtain ⟨F0, H0, F, M, p, dx, c, n, wr, m, f, v, r, rfl, L, D, ok, tk, hns, hm, k⟩ := h
    have hu64 := hu64_of hr
    have nF : ∀ t, (lf c n wr t).lookup ("_forget" : Str) = none := fun t => lf_no _ _ _ _ (by decide +kernel) (by decide +kernel) (by decide +kernel) (by decide +kernel)
    have nN : ∀ t, (lf c n wr t).lookup ("_set_name" : Str) = none := fun t => lf_no _ _ _ _ (by decide +kernel) (by decide +kernel) (by decide +kernel) (by decide +kernel)
    have nW : ∀ t, (lf c n wr t).lookup ("_set_wardens" : Str) = none := fun t => lf_no _ _ _ _ (by decide +kernel) (by decide +kernel) (by decide +kernel) (by decide +kernel)
    have hws := (RecOk.ws ok).few
    obtain ⟨kn0, kw0, w0⟩ := lw_wd L
    refine ⟨_, pss_cons (ps_if (pt_cmpR (op_eqK (K := K) rfl hu64) (pe_ix (ix_K (K := K) rfl) (pv 1) (pe_int) (fun _ _ => rfl)) (pe_str) (nomark _)) (pss_cons (ps_expr (pe_meth (pv 0) T.cl_Ledger T.m_Ledger__forget (ok_Ledger__forget T) (hr.mono (by decide)) T.b_Ledger__forget .nil pass0 (pa_cons (pe_ix (ix_K (K := K) rfl) (pv 1) (pe_int) (fun _ _ => rfl)) pa_nil)))
    (pss_one (ps_retN))) (pss_nil))
  (pss_cons (ps_if (pt_cmpR (op_eqK (K := K) rfl hu64) (pe_ix (ix_K (K := K) rfl) (pv 1) (pe_int) (fun _ _ => rfl)) (pe_str) (nomark _)) (pss_one (ps_expr (pe_meth (pv 0) T.cl_Ledger T.m_Ledger__set_name (ok_Ledger__set_name T) (hr.mono (by decide)) T.b_Ledger__set_name .nil pass0 (pa_cons (pe_ix (ix_K (K := K) rfl) (pv 1) (pe_int) (fun _ _ => rfl)) (pa_cons (pe_ix (ix_K (K := K) rfl) (pv 1) (pe_int) (fun _ _ => rfl)) pa_nil))))) (pss_nil))
  (pss_cons (ps_if (pt_cmpR (op_eqK (K := K) rfl hu64) (pe_ix (ix_K (K := K) rfl) (pv 1) (pe_int) (fun _ _ => rfl)) (pe_str) (nomark _)) (pss_one (ps_asg (pe_ix (ix_K (K := K) rfl) (pv 1) (pe_int) (fun _ _ => rfl)) (pg_sub (pe_fldK (K := K) rfl (pv 0) rfl) (pe_ix (ix_K (K := K) rfl) (pv 1) (pe_int) (fun _ _ => rfl)) set_list))) (pss_nil))
  (pss_one (ps_expr (pe_meth (pv 0) T.cl_Ledger T.m_Ledger__set_wardens (ok_Ledger__set_wardens T) (hr.mono (by decide)) T.b_Ledger__set_wardens .nil pass0 (pa_cons (pe_ix (ix_K (K := K) rfl) (pv 1) (pe_un un_neg (pe_int)) (fun _ _ => rfl)) pa_nil)))))), ?_⟩
    cases r with
    | erase x =>
      obtain ⟨q, x0, x1, rfl, hq, a0, a1⟩ := rec2 D rfl
      cases a0; cases a1
      refine ⟨_, rfl, .inr (.inl ⟨q, _, 0, _, rfl, rfl, same_t w0.fh hq, atI_nat (j := 0) rfl, .inl ⟨rfl, _, rfl, iteYes rfl ?_⟩⟩)⟩
      refine ⟨_, rfl, p, dx, _, rfl, w0.atM (L := []), nF _, _, rfl, .inr (.inl ⟨q, _, 1, _, rfl, rfl, same_t w0.fh hq, atI_nat (j := 1) rfl, F0, H0, F, M, p, dx, c, n, wr, m, f, x, rfl, L, fun ns h => Nat.le_trans (hns x ns h) (by decide), fun F' H' e' L' => ?_⟩)⟩
      exact k F' H' e' (lw_more (by omega) L')
    | put x ns ws =>
      obtain ⟨q, x0, x1, x2, x3, rfl, hq, a0, a1, a2, a3⟩ := rec4 D rfl
      cases a0; cases a1
      refine ⟨_, rfl, .inr (.inl ⟨q, _, 0, _, rfl, rfl, same_t w0.fh hq, atI_nat (j := 0) rfl, .inl ⟨rfl, _, rfl, iteNo (by decide +kernel) ?_⟩⟩)⟩
      refine ⟨_, rfl, .inr (.inl ⟨q, _, 0, _, rfl, rfl, same_t w0.fh hq, atI_nat (j := 0) rfl, .inl ⟨rfl, _, rfl, iteYes rfl ?_⟩⟩)⟩
      refine ⟨_, rfl, p, dx, _, rfl, w0.atM (L := []), nN _, _, rfl, .inr (.inl ⟨q, _, 1, _, rfl, rfl, same_t w0.fh hq, atI_nat (j := 1) rfl, _, rfl, .inr (.inl ⟨q, _, 2, _, rfl, rfl, same_t w0.fh hq, atI_nat (j := 2) rfl, F0, H0, F, M, p, dx, c, n, wr, m, f, x, _, ns, rfl, L, a2, Nat.le_trans ok.2.1.few (by decide), fun ns h => Nat.le_trans (hns x ns h) (by decide), by omega, fun F1 H1 e1 L1 => ?_⟩)⟩)⟩
      obtain ⟨kn1, kw1, w1⟩ := lw_wd L1
      have hq1 := same_t (e1.trans w1.fh) hq
      refine ⟨_, rfl, .inr (.inl ⟨q, _, 0, _, rfl, rfl, hq1, atI_nat (j := 0) rfl, .inl ⟨rfl, _, rfl, iteNo (by decide +kernel) ?_⟩⟩)⟩
      refine ⟨_, rfl, p, dx, _, rfl, w1.atM (L := []), nW _, _, rfl, _, rfl, .inr (.inl ⟨q, _, _, _, rfl, rfl, hq1, last4, F0, H0, F1, M, p, dx, c, n, wr, m + 1, _, _, ws, rfl, L1, dp_mono e1 a3, (by have : ws.length ≤ 100 := hws; omega), fun F2 H2 e2 L2 => ?_⟩)⟩
      exact k F2 H2 (e1.trans e2) (lw_more (by have : ws.length ≤ 100 := hws; omega) L2)
    | cap s cp ws =>
      obtain ⟨q, x0, x1, x2, x3, rfl, hq, a0, a1, a2, a3⟩ := rec4 D rfl
      cases a0; cases a1; cases a2
      obtain ⟨kn, kw, w1, rn, rw', hl⟩ := L
      refine ⟨_, rfl, .inr (.inl ⟨q, _, 0, _, rfl, rfl, same_t w0.fh hq, atI_nat (j := 0) rfl, .inl ⟨rfl, _, rfl, iteNo (by decide +kernel) ?_⟩⟩)⟩
      refine ⟨_, rfl, .inr (.inl ⟨q, _, 0, _, rfl, rfl, same_t w0.fh hq, atI_nat (j := 0) rfl, .inl ⟨rfl, _, rfl, iteNo (by decide +kernel) ?_⟩⟩)⟩
      refine ⟨_, rfl, .inr (.inl ⟨q, _, 0, _, rfl, rfl, same_t w0.fh hq, atI_nat (j := 0) rfl, .inl ⟨rfl, _, rfl, iteYes rfl ?_⟩⟩)⟩
      refine ⟨_, rfl, .inr (.inl ⟨q, _, 2, _, rfl, rfl, same_t w0.fh hq, atI_nat (j := 2) rfl, ?_⟩)⟩
      refine ⟨_, rfl, p, _, dx, _, _, rfl, w1.atM (L := []), T.cl_Ledger, T.o_Ledger_caps, lf_caps .., _, rfl, .inr (.inl ⟨q, _, 1, _, rfl, rfl, same_t w0.fh hq, atI_nat (j := 1) rfl, c, _, _, s.toNat, rfl, rfl, w1.atM (L := [_]), ?_, ?_⟩)⟩
      · unfold ixN
        have t1 : 0 ≤ s := tk.1
        have t2 : s.toNat < f.caps.length := tk.2
        rw [if_pos t1, if_pos (by rw [List.length_map]; omega)]
      · have w2 := w1.setM (L := [_]) (.lst ((f.caps.map V.int).set s.toNat (.int cp)))
        have es : (f.caps.map V.int).set s.toNat (.int cp) = (f.caps.set s.toNat cp).map V.int := (List.map_set ..).symm
        rw [es] at w2 ⊢
        have L2 : LW K A F0 H0 F _ M p dx c n wr m { f with caps := f.caps.set s.toNat cp } := ⟨kn, kw, w2, rn, rw', hl⟩
        refine ⟨_, rfl, p, dx, _, rfl, w2.atM (L := []), nW _, _, rfl, _, rfl, .inr (.inl ⟨q, _, _, _, rfl, rfl, same_t w2.fh hq, last4, F0, H0, F, M, p, dx, c, n, wr, m, _, _, ws, rfl, L2, a3, (by have : ws.length ≤ 100 := hws; omega), fun F2 H2 e2 L2 => ?_⟩)⟩
        exact k F2 H2 e2 (lw_more (by have : ws.length ≤ 100 := hws; omega) L2)
    | deal ws =>
      obtain ⟨q, x0, x1, rfl, hq, a0, a1⟩ := rec2 D rfl
      cases a0
      refine ⟨_, rfl, .inr (.inl ⟨q, _, 0, _, rfl, rfl, same_t w0.fh hq, atI_nat (j := 0) rfl, .inl ⟨rfl, _, rfl, iteNo (by decide +kernel) ?_⟩⟩)⟩
      refine ⟨_, rfl, .inr (.inl ⟨q, _, 0, _, rfl, rfl, same_t w0.fh hq, atI_nat (j := 0) rfl, .inl ⟨rfl, _, rfl, iteNo (by decide +kernel) ?_⟩⟩)⟩
      refine ⟨_, rfl, .inr (.inl ⟨q, _, 0, _, rfl, rfl, same_t w0.fh hq, atI_nat (j := 0) rfl, .inl ⟨rfl, _, rfl, iteNo (by decide +kernel) ?_⟩⟩)⟩
      refine ⟨_, rfl, p, dx, _, rfl, w0.atM (L := []), nW _, _, rfl, _, rfl, .inr (.inl ⟨q, _, _, _, rfl, rfl, same_t w0.fh hq, last2, F0, H0, F, M, p, dx, c, n, wr, m, _, _, ws, rfl, L, a1, (by have : ws.length ≤ 100 := hws; omega), fun F2 H2 e2 L2 => ?_⟩)⟩
      exact k F2 H2 e2 (lw_more (by have : ws.length ≤ 100 := hws; omega) L2)
    | picture caps names ws =>
      obtain ⟨q, x0, x1, x2, x3, rfl, hq, a0, a1, a2, a3⟩ := rec4 D rfl
      cases a0
      refine ⟨_, rfl, .inr (.inl ⟨q, _, 0, _, rfl, rfl, same_t w0.fh hq, atI_nat (j := 0) rfl, .inl ⟨rfl, _, rfl, iteNo (by decide +kernel) ?_⟩⟩)⟩
      refine ⟨_, rfl, .inr (.inl ⟨q, _, 0, _, rfl, rfl, same_t w0.fh hq, atI_nat (j := 0) rfl, .inl ⟨rfl, _, rfl, iteNo (by decide +kernel) ?_⟩⟩)⟩
      refine ⟨_, rfl, .inr (.inl ⟨q, _, 0, _, rfl, rfl, same_t w0.fh hq, atI_nat (j := 0) rfl, .inl ⟨rfl, _, rfl, iteNo (by decide +kernel) ?_⟩⟩)⟩
      refine ⟨_, rfl, p, dx, _, rfl, w0.atM (L := []), nW _, _, rfl, _, rfl, .inr (.inl ⟨q, _, _, _, rfl, rfl, same_t w0.fh hq, last4, F0, H0, F, M, p, dx, c, n, wr, m, _, _, ws, rfl, L, a3, (by have : ws.length ≤ 100 := hws; omega), fun F2 H2 e2 L2 => ?_⟩)⟩
      exact k F2 H2 e2 (lw_more (by have : ws.length ≤ 100 := hws; omega) L2)

end
end Q

set_option Elab.async false
set_option linter.all false
set_option maxRecDepth 100000
set_option maxHeartbeats 8000000
namespace Q
open PySem PySem.Spec PyProof.Rows L2 TL PW Rc
section
variable {P : Program} {w : World} {K : PySem.W.Frag} {mg : Str → Option Value} {base : Heap} {A : Ad}
theorem few_put (f : Str) (v : V) : ∀ (fs : List (Str × V)) (m : Nat), fs.length ≤ m → (putF f v fs).length ≤ m + 1
  | [], m, _ => by show 1 ≤ m + 1; omega
  | (g, x) :: r, m, hm => by
    cases m with
    | zero => simp at hm
    | succ m =>
      by_cases hg : g = f
      · subst hg; rw [put_here]; simp at hm ⊢; omega
      · rw [put_past hg]
        have := few_put f v r m (by simpa using hm)
        simp; omega
theorem lf_new (c n w : Addr) : putF "top" (.int 0) (putF "wardens" (.ref w) (putF "names" (.ref n) (putF "caps" (.ref c) []))) = lf c n w 0 := by
  have e1 : putF "names" (.ref n) (putF "caps" (.ref c) []) = ([("caps", .ref c), ("names", .ref n)] : List (Str × V)) := (put_past (by decide +kernel)).trans rfl
  have e2 : putF "wardens" (.ref w) [(("caps" : Str), .ref c), ("names", .ref n)] = ([("caps", .ref c), ("names", .ref n), ("wardens", .ref w)] : List (Str × V)) := (put_past (by decide +kernel)).trans (congrArg _ ((put_past (by decide +kernel)).trans rfl))
  rw [e1, e2]
  exact (put_past (by decide +kernel)).trans (congrArg _ ((put_past (by decide +kernel)).trans (congrArg _ ((put_past (by decide +kernel)).trans rfl))))
def noStore (recs : List Rec) : Prop := ∀ r, recs[0]? = some r → ¬ r.isPic = true
def spLedger (K : PySem.W.Frag) (A : Ad) : Sp := fun vs H Q E => ∃ (F0 H0 F : Hp) (M : List (Addr × HO)) (p dx a : Addr) (vr : List V) (recs : List Rec), vs = [.ref p, .ref a] ∧ Wd F0 H0 F H ((p, .ins A.A_Ledger dx []) :: M) ∧ SqL K F a vr ∧ DpAll K F vr (recs.map encR) ∧
  recs.length ≤ 100 ∧ (noStore recs → E (.ref A.A_NoStore) none H) ∧
  (∀ caps names ws rest, recs = .picture caps names ws :: rest → RecOk (.picture caps names ws) ∧ RowOk caps rest ∧ ∀ F' H' c n wr, Same F F' → LW K A F0 H0 F' H' M p dx c n wr 20000 (replay recs) → Q .non H')
theorem ok_Ledger_init (T : Txt K mg A) : FnOk P w K mg base (L2.CX P w) 4 A.a_Ledger_init A.d_Ledger_init ["self", "records"] (spLedger K A) := by
  refine T.F_Ledger_init.okX sc_Ledger_init (fun vs H Q E h => ?_) (fun cdv A' outer s H vs Q E hr h => ?_)
  · obtain ⟨F0, H0, F, M, p, dx, a, vr, recs, rfl, _⟩ := h; rfl
  · obtain ⟨F0, H0, F, M, p, dx, a, vr, recs, rfl, w0, hsF, da, hrl, kE, kQ⟩ := h
    have hs := same_l w0.fh hsF
    have hu64 := hu64_of hr
    have hvl : vr.length = recs.length := by rw [dpa_len da, List.length_map]
    refine ⟨_, pss_cons (ps_if (PW.pt (pw_or (pt_cmpR (op_eqK (K := K) rfl hu64) (pe_callB (call_lenK (K := K) rfl) (by rfl) T.n_len (by decide +kernel) (pa_cons (pv 1) pa_nil)) (pe_int) (nomark _)) (pw_or1 (pt_cmpR (op_neK (K := K) rfl hu64) (pe_ix (ix_K (K := K) rfl) (pe_ix (ix_K (K := K) rfl) (pv 1) (pe_int) (fun _ _ => rfl)) (pe_int) (fun _ _ => rfl)) (pe_str) (nomark _))))) (pss_one (ps_raise rfl (takes_of rfl rfl rfl rfl) (pmk_own PySem.F.excBase_ValueError T.x_NoStore T.g_NoStore T.k_NoStore (raises_own T.xb_NoStore T.xt_NoStore) (by exact rfl)))) (pss_nil))
  (pss_cons (ps_set (i := 2) sc_Ledger_init.nd rfl (Or.inl rfl) (pe_ix (ix_K (K := K) rfl) (pv 1) (pe_int) (fun _ _ => rfl)))
  (pss_cons (ps_fld (pv 0) (pe_callTy (call_listK (K := K) rfl) (by rfl) T.n_list (by decide +kernel) (pa_cons (pe_ix (ix_K (K := K) rfl) (pv 2) (pe_int) (fun _ _ => rfl)) pa_nil)) rfl)
  (pss_cons (ps_fld (pv 0) (pe_dnewK) rfl)
  (pss_cons (ps_fld (pv 0) (pe_dnewK) rfl)
  (pss_cons (ps_fld (pv 0) (pe_int) rfl)
  (pss_cons (ps_for (passes_of rfl) rfl (pi_tupK (K := K) rfl (pe_ix (ix_K (K := K) rfl) (pv 2) (pe_int) (fun _ _ => rfl))) (pg_tupK (K := K) (n := 2) rfl rfl (pgs_cons (pg_name (i := 3) sc_Ledger_init.nd rfl (Or.inl rfl)) (pgs_cons (pg_name (i := 4) sc_Ledger_init.nd rfl (Or.inl rfl)) pgs_nil))) (pss_one (ps_expr (pe_meth (pv 0) T.cl_Ledger T.m_Ledger__set_name (ok_Ledger__set_name T) (hr.mono (by decide)) T.b_Ledger__set_name .nil pass0 (pa_cons (pv 3) (pa_cons (pv 4) pa_nil))))))
  (pss_cons (ps_expr (pe_meth (pv 0) T.cl_Ledger T.m_Ledger__set_wardens (ok_Ledger__set_wardens T) (hr.mono (by decide)) T.b_Ledger__set_wardens .nil pass0 (pa_cons (pe_ix (ix_K (K := K) rfl) (pv 2) (pe_int) (fun _ _ => rfl)) pa_nil)))
  (pss_one (ps_for (passes_of rfl) rfl (pi_listK (K := K) rfl (pe_slice (sl_K (K := K) rfl) (pv 1) (po_some (pe_int)) po_none)) (pg_name (i := 5) sc_Ledger_init.nd rfl (Or.inl rfl)) (pss_one (ps_expr (pe_meth (pv 0) T.cl_Ledger T.m_Ledger__take (ok_Ledger__take T) (hr.mono (by decide)) T.b_Ledger__take .nil pass0 (pa_cons (pv 5) pa_nil))))))))))))), ?_⟩
    cases recs with
    | nil =>
      cases da
      refine ⟨_, rfl, _, _, rfl, .inl ⟨_, hs, rfl⟩, .inl ⟨rfl, _, rfl, iteYes rfl (iteT ?_)⟩⟩
      exact kE fun r h => nomatch h
    | cons r rest =>
      cases da with | cons D da =>
      rename_i v vr
      obtain ⟨q, x0, xs, rfl, hq, hx0⟩ := rec0_at D
      have hqH := same_t w0.fh hq
      refine ⟨_, rfl, _, _, rfl, .inl ⟨_, hs, rfl⟩, .inl ⟨rfl, _, rfl, iteNo (fun e => by have := V.int.inj e; rw [List.length_cons] at this; omega) ?_⟩⟩
      refine ⟨_, rfl, .inl ⟨a, _, 0, _, rfl, rfl, hs, atI_nat (j := 0) rfl, .inr (.inl ⟨q, _, 0, _, rfl, rfl, hqH, atI_nat (j := 0) rfl, .inl ⟨rfl, _, rfl, iteND (fun c => ?_) (fun c => ?_)⟩⟩)⟩⟩
      · exact kE fun r' h => by cases h; exact fun z => c (by rw [hx0.mpr z])
      · have pc : r.isPic = true := hx0.mp (V.str.inj c)
        cases r with
        | put a b c => cases pc
        | erase a => cases pc
        | deal a => cases pc
        | cap a b c => cases pc
        | picture caps names ws =>
          obtain ⟨okp, row, kQ⟩ := kQ caps names ws rest rfl
          clear kE
          obtain ⟨q', y0, y1, y2, y3, eq', hq', a0, a1, a2, a3⟩ := rec4 D rfl
          cases eq'
          clear hq hqH hx0
          obtain ⟨cq, ys, rfl, hcq, dc⟩ := dp_tup a1
          rw [dpa_ints dc] at hcq
          obtain ⟨nq, zs, rfl, hnq, dn⟩ := dp_tup a2
          refine ⟨_, rfl, .inl ⟨a, _, 0, _, rfl, rfl, hs, atI_nat (j := 0) rfl, ?_⟩⟩
          -- the caps
          refine ⟨_, rfl, .inr (.inl ⟨q, _, 1, _, rfl, rfl, same_t w0.fh hq', atI_nat (j := 1) rfl, _, _, rfl, .inr (same_t w0.fh hcq), fun c hc => ?_⟩)⟩
          have w1 := w0.own hc (.lst (caps.map V.int))
          have f1 := few_put "caps" (V.ref c) [] 0 (Nat.le_refl _)
          refine ⟨_, rfl, p, _, dx, _, rfl, w1.atM (L := [_]), T.cl_Ledger, T.o_Ledger_caps, by show 0 < 1000; decide, ?_⟩
          have w2 := w1.setM (L := [_]) (.ins A.A_Ledger dx (putF "caps" (.ref c) []))
          refine fun n hn => ?_
          have w3 := w2.own hn (.dK [])
          have f2 := few_put "names" (V.ref n) _ _ f1
          refine ⟨_, rfl, p, _, dx, _, rfl, w3.atM (L := [_, _]), T.cl_Ledger, T.o_Ledger_names, by omega, ?_⟩
          have w4 := w3.setM (L := [_, _]) (.ins A.A_Ledger dx (putF "names" (.ref n) (putF "caps" (.ref c) [])))
          refine fun wr hwr => ?_
          have w5 := w4.own hwr (.dK [])
          have f3 := few_put "wardens" (V.ref wr) _ _ f2
          refine ⟨_, rfl, p, _, dx, _, rfl, w5.atM (L := [_, _, _]), T.cl_Ledger, T.o_Ledger_wardens, by omega, ?_⟩
          have w6 := w5.setM (L := [_, _, _]) (.ins A.A_Ledger dx (putF "wardens" (.ref wr) (putF "names" (.ref n) (putF "caps" (.ref c) []))))
          refine ⟨_, rfl, p, _, dx, _, rfl, w6.atM (L := [_, _, _]), T.cl_Ledger, T.o_Ledger_top, by omega, ?_⟩
          have w7 := w6.setM (L := [_, _, _]) (.ins A.A_Ledger dx (putF "top" (.int 0) (putF "wardens" (.ref wr) (putF "names" (.ref n) (putF "caps" (.ref c) [])))))
          rw [lf_new] at w7 ⊢
          have w8 : Wd F0 H0 F _ ([(p, .ins A.A_Ledger dx (lf c n wr 0)), (c, .lst (caps.map V.int)), (n, .dK []), (wr, .dK [])] ++ M) := w7.perm ((List.reverse_perm [(wr, HO.dK []), (n, .dK []), (c, .lst (caps.map V.int)), (p, .ins A.A_Ledger dx (lf c n wr 0))]).symm.append_right M)
          have L0 : LW K A F0 H0 F _ M p dx c n wr 0 (FSt.zero caps) := ⟨[], [], w8, .nil, .nil, Nat.le_refl _⟩
          have nS : ∀ t, (lf c n wr t).lookup ("_set_name" : Str) = none := fun t => lf_no _ _ _ _ (by decide +kernel) (by decide +kernel) (by decide +kernel) (by decide +kernel)
          have nW : ∀ t, (lf c n wr t).lookup ("_set_wardens" : Str) = none := fun t => lf_no _ _ _ _ (by decide +kernel) (by decide +kernel) (by decide +kernel) (by decide +kernel)
          have nT : ∀ t, (lf c n wr t).lookup ("_take" : Str) = none := fun t => lf_no _ _ _ _ (by decide +kernel) (by decide +kernel) (by decide +kernel) (by decide +kernel)
          obtain ⟨o1, o2, o3, o4, o5, o6, o7⟩ := id okp
          have hzl : zs.length = names.length := by rw [dpa_len dn, List.length_map]
          -- the names
          refine ⟨_, rfl, .inr (.inl ⟨q, _, 2, _, rfl, rfl, same_t w8.fh hq', atI_nat (j := 2) rfl, nq, rfl, ⟨_, same_t w8.fh hnq⟩, ?_⟩)⟩
          refine for_tup (xs := zs) (fun i σ H' => ∃ (F' : Hp) (v3 v4 v5 : Option V), σ = [some (.ref p), some (.ref a), some (.ref q), v3, v4, v5] ∧ Same F F' ∧ LW K A F0 H0 F' H' M p dx c n wr i ((names.take i).foldl (fun f p => f.setName p.1 p.2) (FSt.zero caps)) ∧ NmOk ((names.take i).foldl (fun f p => f.setName p.1 p.2) (FSt.zero caps)))
            ⟨F, none, none, none, rfl, .refl F, L0, (fun x ns h => nomatch h)⟩ ?_ ?_ ?_
          · rintro i σ H' _ ⟨F', v3, v4, v5, rfl, e, L', _⟩
            obtain ⟨kn, kw, w9⟩ := lw_wd L'
            exact same_t (e.trans w9.fh) hnq
          · rintro i z σ H' hz ⟨F', v3, v4, v5, rfl, e, L', hN⟩
            obtain ⟨d, hd, dz⟩ := dpa_get dn hz
            obtain ⟨u, hu, rfl⟩ := item_map hd
            have hi : i < names.length := (List.getElem?_eq_some_iff.mp hu).1
            have hm := o4 u (List.mem_of_getElem? hu)
            obtain ⟨zq, zr, rfl, hzq, hzr⟩ := name_at dz
            obtain ⟨kn, kw, w9⟩ := lw_wd L'
            refine ⟨zq, _, rfl, same_t (e.trans w9.fh) hzq, rfl, _, _, rfl, _, _, rfl, rfl, ?_⟩
            refine ⟨_, rfl, p, dx, _, rfl, w9.atM (L := []), nS _, _, rfl, _, rfl, F0, H0, F', M, p, dx, c, n, wr, i, _, u.1, _, u.2, rfl, L', dp_mono e (.tup hzr dpa_of_ints), Nat.le_trans hm.2.few (by decide), fun ns h => Nat.le_trans (hN u.1 ns h) (by decide), by omega, fun F2 H2 e2 L2 => ?_⟩
            have es : (names.take (i + 1)).foldl (fun f p => f.setName p.1 p.2) (FSt.zero caps) = ((names.take i).foldl (fun f p => f.setName p.1 p.2) (FSt.zero caps)).setName u.1 u.2 := by
              rw [take_more1 hu, List.foldl_append]
              rfl
            exact ⟨F2, _, _, _, rfl, e.trans e2, by rw [es]; exact L2, by rw [es]; exact hN.setName u.1 hm.2.few⟩
          · rintro σ H' ⟨F', v3, v4, v5, rfl, e, L', hN⟩
            rw [hzl, List.take_length] at L' hN
            obtain ⟨kn, kw, w9⟩ := lw_wd L'
            -- the wardens
            refine ⟨_, rfl, p, dx, _, rfl, w9.atM (L := []), nW _, _, rfl, .inr (.inl ⟨q, _, 3, _, rfl, rfl, same_t (e.trans w9.fh) hq', atI_nat (j := 3) rfl, F0, H0, F', M, p, dx, c, n, wr, names.length, _, _, ws, rfl, L', dp_mono e a3, (by have := o7.few; omega), fun F2 H2 e2 L2 => ?_⟩)⟩
            have L3 : LW K A F0 H0 F2 H2 M p dx c n wr 200 (ofPic caps names ws) := lw_more (by have := o7.few; omega) L2
            have hN3 : NmOk (ofPic caps names ws) := hN.setWs ws
            obtain ⟨kn2, kw2, w10⟩ := lw_wd L3
            -- the other records
            refine ⟨_, rfl, _, rfl, .inr (.inl ⟨a, _, rfl, same_l ((e.trans e2).trans w10.fh) hsF, fun b hb => ?_⟩)⟩
            rw [cutV_tail]
            obtain ⟨w11, e11⟩ := w10.fix hb (.lst vr)
            have hcaps : (ofPic caps names ws).caps = caps := by
              unfold ofPic
              rw [setWs_caps]
              have key : ∀ (l : List (Str × List Int)) (f : FSt), (l.foldl (fun f p => f.setName p.1 p.2) f).caps = f.caps := by
                intro l
                induction l with
                | nil => intro f; rfl
                | cons x l ih => intro f; exact ih _
              exact key names _
            obtain ⟨kn3, kw3, w12, r1, r2, hl3⟩ := L3
            have L4 : LW K A F0 H0 _ _ M p dx c n wr 200 (ofPic caps names ws) := ⟨kn3, kw3, (w12.fix hb (.lst vr)).1, r1.mono fun v b h => dp_mono e11 h, r2.mono fun v b h => dp_mono e11 h, hl3⟩
            refine ⟨b, rfl, ⟨_, .of upd_same⟩, ?_⟩
            have da4 : DpAll K (upd F2 b (.lst vr)) vr (rest.map encR) := dpa_mono ((e.trans e2).trans e11) da
            have hvl' : vr.length = rest.length := by rw [dpa_len da, List.length_map]
            have hrl' : rest.length ≤ 99 := by rw [List.length_cons] at hrl; omega
            refine for_list (xs := vr) (fun i σ H' => ∃ (F' : Hp) (v3 v4 v5 : Option V), σ = [some (.ref p), some (.ref a), some (.ref q), v3, v4, v5] ∧ Same (upd F2 b (.lst vr)) F' ∧ LW K A F0 H0 F' H' M p dx c n wr (200 + 101 * i) ((rest.take i).foldl FSt.take (ofPic caps names ws)) ∧ NmOk ((rest.take i).foldl FSt.take (ofPic caps names ws)) ∧ ((rest.take i).foldl FSt.take (ofPic caps names ws)).caps.length = caps.length)
              ⟨_, v3, v4, v5, rfl, .refl _, L4, hN3, by rw [List.take_zero]; exact congrArg List.length hcaps⟩ ?_ ?_ ?_
            · rintro i σ H' _ ⟨F', v3, v4, v5, rfl, e5, L', _⟩
              obtain ⟨kn, kw, w9⟩ := lw_wd L'
              exact same_l (e5.trans w9.fh) (.of upd_same)
            · rintro i z σ H' hz ⟨F', v3, v4, v5, rfl, e5, L', hN, hc'⟩
              obtain ⟨d, hd, dz⟩ := dpa_get da4 hz
              obtain ⟨u, hu, rfl⟩ := item_map hd
              have hi : i < rest.length := (List.getElem?_eq_some_iff.mp hu).1
              have hmem := List.mem_of_getElem? hu
              obtain ⟨kn, kw, w9⟩ := lw_wd L'
              have tk : TakeOk ((rest.take i).foldl FSt.take (ofPic caps names ws)) u := by
                cases u with
                | cap s cp ws' => exact ⟨(row.ok _ hmem).1.1, by rw [hc']; exact row.cap _ _ _ hmem⟩
                | _ => trivial
              refine ⟨_, rfl, p, dx, _, rfl, w9.atM (L := []), nT _, _, rfl, F0, H0, F', M, p, dx, c, n, wr, 200 + 101 * i, _, _, u, rfl, L', dp_mono e5 dz, row.ok _ hmem, tk, hN, by omega, fun F3 H3 e3 L3 => ?_⟩
              have es : (rest.take (i + 1)).foldl FSt.take (ofPic caps names ws) = ((rest.take i).foldl FSt.take (ofPic caps names ws)).take u := by
                rw [take_more1 hu, List.foldl_append]
                rfl
              exact ⟨F3, _, _, _, rfl, e5.trans e3, by rw [es]; exact lw_more (by omega) L3, by rw [es]; exact hN.take (row.ok _ hmem), by rw [es, take_caps]; exact hc'⟩
            · rintro σ H' ⟨F', v3, v4, v5, rfl, e5, L', hN, hc'⟩
              rw [hvl', List.take_length] at L'
              exact kQ F' H' c n wr ((e.trans e2).trans (e11.trans e5)) (lw_more (by omega) L')

end
end Q

set_option Elab.async false
set_option linter.all false
set_option maxRecDepth 100000
set_option maxHeartbeats 8000000
namespace Q
open PySem PySem.Spec PyProof.Rows L2 TL PW Rc
section
variable {P : Program} {w : World} {K : PySem.W.Frag} {mg : Str → Option Value} {base : Heap} {A : Ad}
def spToPic (K : PySem.W.Frag) (A : Ad) : Sp := fun vs H Q _ => ∃ (F0 H0 F : Hp) (M : List (Addr × HO)) (p dx c n wr : Addr) (m : Nat) (f : FSt) (xs : List Str) (is : List Int), vs = [.ref p] ∧ LW K A F0 H0 F H M p dx c n wr m f ∧ Few f xs is ∧
  ∀ names ws v F' H', PicOf f names ws → Same F F' → LW K A F0 H0 F' H' M p dx c n wr m f → Dp K F' v (encR (.picture f.caps names ws)) → Q v H'
theorem lw_wdM {A : Ad} {F0 H0 F F' H' : Hp} {M : List (Addr × HO)} {p dx c n wr : Addr} {m : Nat} {f : FSt} {kn kw : List (Key × V)} (w : Wd F0 H0 F' H' ([(p, .ins A.A_Ledger dx (lf c n wr f.top)), (c, .lst (f.caps.map V.int)), (n, .dK kn), (wr, .dK kw)] ++ M)) (e : Same F F')
    (rn : DRep Sum.inr (nmR K F) kn f.names) (rw' : DRep Sum.inl (wdR K F) kw f.wards) (hl : kn.length + kw.length ≤ m) : LW K A F0 H0 F' H' M p dx c n wr m f :=
  ⟨kn, kw, w, rn.mono fun v b h => dp_mono e h, rw'.mono fun v b h => dp_mono e h, hl⟩
theorem dget_of {H : Hp} {a : Addr} {kvs : List (Key × V)} {k : Key} {v : V} (h : H a = some (.dK kvs)) (hv : valV kvs k = some v) : DGet H a (kV k) (some v) := by
  have := DGet.k (k := k) h
  rwa [hv] at this
theorem ok_Ledger_to_picture (T : Txt K mg A) : FnOk P w K mg base CX0 1 A.a_Ledger_to_picture A.d_Ledger_to_picture ["self"] (spToPic K A) := by
  refine T.F_Ledger_to_picture.ok sc_Ledger_to_picture (fun vs H Q E h => ?_) (fun cdv A' outer s H vs Q E hr h => ?_)
  · obtain ⟨F0, H0, F, M, p, dx, c, n, wr, m, f, xs, is, rfl, _⟩ := h; rfl
  · obtain ⟨F0, H0, F, M, p, dx, c, n, wr, m, f, xs, is, rfl, ⟨kn, kw, w0, rn, rw', hl⟩, ⟨hx1, hx2, hi1, hi2, hc⟩, k⟩ := h
    have hu64 := hu64_of hr
    obtain ⟨ks, hks, ndk, memk⟩ := rn.keys inr_inj
    obtain ⟨js, hjs, ndj, memj⟩ := rw'.keys inl_inj
    have hk64 : ks.length < 64 := Nat.lt_of_le_of_lt (nodup_len ndk fun x hx => hx2 x ((memk x).mp hx)) hx1
    have hj64 : js.length < 64 := Nat.lt_of_le_of_lt (nodup_len ndj fun i hi => hi2 i ((memj i).mp hi)) hi1
    refine ⟨_, pss_cons (ps_set (i := 1) sc_Ledger_to_picture.nd rfl (Or.inl rfl) (pe_callTy (call_tupleK (K := K) rfl) (by rfl) T.n_tuple (by decide +kernel) (pa_cons (pe_lc (own := [("name", 3)]) rfl sc_Ledger_to_picture.nd (pi_listK (K := K) rfl (pe_callB (call_sortedD rfl) (by rfl) T.n_sorted (by decide +kernel) (pa_cons (pe_fldK (K := K) rfl (pv 0) rfl) pa_nil))) (blkOk_by (own := [("name", 3)]) (N := ["self", "names", "wardens", "name", "number"]) (sc := defScope s_Ledger_to_picture) (by decide +kernel)) (fun _ _ _ _ _ => pg_name (i := 3) sc_Ledger_to_picture.nd rfl (Or.inl rfl)) (fun _ _ _ _ _ => pts_nil) (fun _ _ _ _ _ => pe_tup (pa_cons (pv 3) (pa_cons (pe_dget (PW.hu1_of hu64) (pe_fldK (K := K) rfl (pv 0) rfl) (pv 3) (fun _ _ => rfl)) pa_nil)))) pa_nil)))
  (pss_cons (ps_set (i := 2) sc_Ledger_to_picture.nd rfl (Or.inl rfl) (pe_callTy (call_tupleK (K := K) rfl) (by rfl) T.n_tuple (by decide +kernel) (pa_cons (pe_lc (own := [("number", 4)]) rfl sc_Ledger_to_picture.nd (pi_listK (K := K) rfl (pe_callB (call_sortedDI rfl) (by rfl) T.n_sorted (by decide +kernel) (pa_cons (pe_fldK (K := K) rfl (pv 0) rfl) pa_nil))) (blkOk_by (own := [("number", 4)]) (N := ["self", "names", "wardens", "name", "number"]) (sc := defScope s_Ledger_to_picture) (by decide +kernel)) (fun _ _ _ _ _ => pg_name (i := 4) sc_Ledger_to_picture.nd rfl (Or.inl rfl)) (fun _ _ _ _ _ => pts_nil) (fun _ _ _ _ _ => pe_op (op_addK (K := K) rfl) (pe_tup (pa_cons (pv 4) pa_nil)) (pe_dget (PW.hu1_of hu64) (pe_fldK (K := K) rfl (pv 0) rfl) (pv 4) (fun _ _ => rfl)))) pa_nil)))
  (pss_one (ps_ret (pe_tup (pa_cons (pe_str) (pa_cons (pe_callTy (call_tupleK (K := K) rfl) (by rfl) T.n_tuple (by decide +kernel) (pa_cons (pe_fldK (K := K) rfl (pv 0) rfl) pa_nil)) (pa_cons (pv 1) (pa_cons (pv 2) pa_nil)))))))), ?_⟩
    refine ⟨_, rfl, p, _, dx, _, _, rfl, w0.atM (L := []), T.cl_Ledger, T.o_Ledger_names, lf_names .., n, kn, ks, rfl, .inl (w0.atM (L := [_, _])), hks, hk64, fun ys q1 hperm hsort hq1 => ?_⟩
    have ndy : ys.Nodup := hperm.nodup_iff.mpr ndk
    have memy : ∀ x, x ∈ ys ↔ (f.names x).isSome = true := fun x => (hperm.mem_iff).trans (memk x)
    obtain ⟨w1, e1⟩ := w0.fix hq1 (.lst (ys.map V.str))
    refine ⟨q1, rfl, ⟨_, .of upd_same⟩, fun D hD => ?_⟩
    refine lc_wdL (xs := ys.map V.str) (ys.map fun x => encName (x, (f.names x).getD [])) (by rw [List.length_map, List.length_map]) w1 hD (.of upd_same) (by rw [List.length_map, hperm.length_eq]; omega) ?_ ?_
    · intro i v d F1 H1 acc Q1 hv hd e2 w2 kk
      obtain ⟨x, hx, rfl⟩ := item_map hv
      rw [List.getElem?_map, hx] at hd
      cases hd
      obtain ⟨ns, hns⟩ := Option.isSome_iff_exists.mp ((memy x).mp (List.mem_of_getElem? hx))
      obtain ⟨u, hu1, hu2⟩ := rn.here x ns hns
      refine ⟨rfl, _, rfl, _, rfl, p, _, dx, _, _, rfl, w2.atM (L := [_]), T.cl_Ledger, T.o_Ledger_names, lf_names .., _, rfl, n, u, rfl, dget_of (w2.atM (L := [_, _, _])) hu1, by show 2 ≤ sizeLine; decide, fun z hz => ?_⟩
      obtain ⟨w3, e3⟩ := (Wd.start w2.fh).fix hz (.tup [.str x, u])
      refine kk _ _ _ w3.done ?_
      dsimp only
      rw [hns]
      exact .tup (.of upd_same) (.cons (.str _) (.cons (dp_mono (e1.trans (e2.trans e3)) hu2) .nil))
    · intro vs1 F1 H1 e2 w2 da1
      refine ⟨D, _, rfl, .inl ⟨.of w2.at_, fun t1 ht1 => ?_⟩⟩
      obtain ⟨w3, e3⟩ := w2.drop.fix ht1 (.tup vs1)
      have e03 := e1.trans (e2.trans e3)
      have d1 : Dp K (upd F1 t1 (.tup vs1)) (.ref t1) (.tuple (ys.map fun x => encName (x, (f.names x).getD []))) := .tup (.of upd_same) (dpa_mono e3 da1)
      refine ⟨_, rfl, p, _, dx, _, _, rfl, w3.atM (L := []), T.cl_Ledger, T.o_Ledger_wardens, lf_wardens .., wr, kw, js, rfl, .inl (w3.atM (L := [_, _, _])), hjs, hj64, fun zs q2 hperm2 hsort2 hq2 => ?_⟩
      have ndz : zs.Nodup := hperm2.nodup_iff.mpr ndj
      have memz : ∀ i, i ∈ zs ↔ (f.wards i).isSome = true := fun i => (hperm2.mem_iff).trans (memj i)
      obtain ⟨w4, e4⟩ := w3.fix hq2 (.lst (zs.map V.int))
      refine ⟨q2, rfl, ⟨_, .of upd_same⟩, fun D2 hD2 => ?_⟩
      refine lc_wdL (xs := zs.map V.int) (zs.map fun i => encW (i, (f.wards i).getD (0, 0))) (by rw [List.length_map, List.length_map]) w4 hD2 (.of upd_same) (by rw [List.length_map, hperm2.length_eq]; omega) ?_ ?_
      · intro i v d F2 H2 acc Q1 hv hd e5 w5 kk
        obtain ⟨j, hj, rfl⟩ := item_int hv
        rw [List.getElem?_map, hj] at hd
        cases hd
        obtain ⟨b, hb⟩ := Option.isSome_iff_exists.mp ((memz j).mp (List.mem_of_getElem? hj))
        obtain ⟨u, hu1, hu2⟩ := rw'.here j b hb
        obtain ⟨t, us, rfl, hut, dus⟩ := dp_tup hu2
        cases dus with | cons b1 dus => cases dus with | cons b2 dus =>
        cases dus
        cases b1; cases b2
        refine ⟨rfl, _, rfl, by show 1 ≤ sizeLine; decide, fun z hz => ?_⟩
        obtain ⟨w6, e6⟩ := (Wd.start w5.fh).fix hz (.tup [.int j])
        have w5' := w5.step w6.done
        refine ⟨_, rfl, p, _, dx, _, _, rfl, w5'.atM (L := [_]), T.cl_Ledger, T.o_Ledger_wardens, lf_wardens .., _, rfl, wr, _, rfl, dget_of (w5'.atM (L := [_, _, _, _])) hu1, ?_⟩
        have eF : Same F F2 := e03.trans (e4.trans e5)
        refine .inr (.inr (.inr ⟨z, t, _, _, rfl, rfl, .of upd_same, same_t ((eF.trans e6).trans w5'.fh) hut, by show 1 + 2 ≤ sizeLine; decide, (fun h => nomatch h), (fun _ h => nomatch h), fun _ _ y hy => ?_⟩))
        obtain ⟨w7, e7⟩ := w6.fix hy (.tup ([.int j] ++ [.int b.1, .int b.2]))
        refine kk _ _ _ w7.done ?_
        dsimp only
        rw [hb]
        exact .tup (.of upd_same) (.cons (.int _) (.cons (.int _) (.cons (.int _) .nil)))
      · intro vs2 F2 H2 e5 w5 da2
        refine ⟨D2, _, rfl, .inl ⟨.of w5.at_, fun t2 ht2 => ?_⟩⟩
        obtain ⟨w6, e6⟩ := w5.drop.fix ht2 (.tup vs2)
        have e36 := e4.trans (e5.trans e6)
        have d2 : Dp K (upd F2 t2 (.tup vs2)) (.ref t2) (.tuple (zs.map fun i => encW (i, (f.wards i).getD (0, 0)))) := .tup (.of upd_same) (dpa_mono e6 da2)
        refine ⟨_, rfl, p, _, dx, _, _, rfl, w6.atM (L := []), T.cl_Ledger, T.o_Ledger_caps, lf_caps .., c, _, rfl, .inl ⟨.of (w6.atM (L := [_])), fun t3 ht3 => ?_⟩⟩
        obtain ⟨w7, e7⟩ := w6.fix ht3 (.tup (f.caps.map V.int))
        refine ⟨_, rfl, _, rfl, by show 4 ≤ sizeLine; decide, fun t4 ht4 => ?_⟩
        obtain ⟨w8, e8⟩ := w7.fix ht4 (.tup [.str wPicture, .ref t3, .ref t1, .ref t2])
        have eAll := e03.trans (e36.trans (e7.trans e8))
        refine k (ys.map fun x => (x, (f.names x).getD [])) (zs.map fun i => (i, (f.wards i).getD (0, 0))) _ _ _ ⟨?_, ?_, ?_, ?_⟩ eAll (lw_wdM w8 eAll rn rw' hl) ?_
        · rw [List.map_map]
          have e : ((fun x : Str × List Int => x.1) ∘ fun x => (x, (f.names x).getD [])) = id := rfl
          rw [e, List.map_id]
          exact sorted_strict ndy hsort
        · intro x ns
          rw [List.mem_map]
          constructor
          · rintro ⟨y, hy, e⟩
            cases e
            obtain ⟨l, hl⟩ := Option.isSome_iff_exists.mp ((memy x).mp hy)
            rw [hl]; rfl
          · intro h
            exact ⟨x, (memy x).mpr (by rw [h]; rfl), by rw [h]; rfl⟩
        · rw [List.map_map]
          have e : ((fun x : Int × Int × Int => x.1) ∘ fun i => (i, (f.wards i).getD (0, 0))) = id := rfl
          rw [e, List.map_id]
          exact le_strict ndz hsort2
        · intro i u
          rw [List.mem_map]
          constructor
          · rintro ⟨y, hy, e⟩
            cases e
            obtain ⟨l, hl⟩ := Option.isSome_iff_exists.mp ((memz i).mp hy)
            rw [hl]; rfl
          · intro h
            exact ⟨i, (memz i).mpr (by rw [h]; rfl), by rw [h]; rfl⟩
        · refine .tup (.of upd_same) (.cons (.str _) (.cons (dp_mono e8 (.tup (.of upd_same) dpa_of_ints)) (.cons ?_ (.cons ?_ .nil))))
          · rw [List.map_map]
            exact dp_mono (e36.trans (e7.trans e8)) d1
          · have := dp_mono (e7.trans e8) d2
            show Dp K _ _ (.tuple ((zs.map fun i => (i, (f.wards i).getD (0, 0))).map encW))
            rw [List.map_map]
            exact this

end
end Q

set_option Elab.async false
set_option linter.all false
set_option maxRecDepth 100000
set_option maxHeartbeats 8000000
namespace Q
open PySem PySem.Spec PyProof.Rows L2 TL PW Rc
section
variable {P : Program} {w : World} {K : PySem.W.Frag} {mg : Str → Option Value} {base : Heap} {A : Ad}
/-! ### the law's model: a list of the caps, the names, the wardens, the greatest number -/
def mdl (c n wr : Addr) (t : Int) : HO := .lst [.ref c, .ref n, .ref wr, .int t]
def MW (K : PySem.W.Frag) (F0 H0 F H : Hp) (M : List (Addr × HO)) (p c n wr : Addr) (m : Nat) (f : FSt) : Prop := ∃ kn kw : List (Key × V),
  Wd F0 H0 F H ([(p, mdl c n wr f.top), (c, .lst (f.caps.map V.int)), (n, .dK kn), (wr, .dK kw)] ++ M) ∧ DRep Sum.inr (nmR K F) kn f.names ∧ DRep Sum.inl (wdR K F) kw f.wards ∧ kn.length + kw.length ≤ m
theorem mat {F0 H0 F H : Hp} {M : List (Addr × HO)} {p c n wr : Addr} {t : Int} {o1 o2 o3 : HO} (w : Wd F0 H0 F H ([(p, mdl c n wr t), (c, o1), (n, o2), (wr, o3)] ++ M)) : SqL K H p [.ref c, .ref n, .ref wr, .int t] := .of (w.atM (L := []))
def spMForget (K : PySem.W.Frag) : Sp := fun vs H Q _ => ∃ (F0 H0 F : Hp) (M : List (Addr × HO)) (p c n wr : Addr) (m : Nat) (f : FSt) (x : Str), vs = [.ref p, .str x] ∧ MW K F0 H0 F H M p c n wr m f ∧ Held f x ∧
  ∀ F' H', Same F F' → MW K F0 H0 F' H' M p c n wr m (f.forget x) → Q .non H'
theorem ok_L_forget (T : Txt K mg A) : FnOk P w K mg base CX0 1 A.a_L_forget A.d_L_forget ["_law_model", "_law_name"] (spMForget K) := by
  refine T.F_L_forget.ok sc_L_forget (fun vs H Q E h => ?_) (fun cdv A' outer s H vs Q E hr h => ?_)
  · obtain ⟨F0, H0, F, M, p, c, n, wr, m, f, x, rfl, _⟩ := h; rfl
  · obtain ⟨F0, H0, F, M, p, c, n, wr, m, f, x, rfl, ⟨kn, kw, w0, rn, rw', hm⟩, hns, k⟩ := h
    have hu64 := hu64_of hr
    refine ⟨_, pss_cons (ps_set (i := 2) sc_L_forget.nd rfl (Or.inl rfl) (pe_ix (ix_K (K := K) rfl) (pv 0) (pe_int) (fun _ _ => rfl)))
  (pss_cons (ps_set (i := 3) sc_L_forget.nd rfl (Or.inl rfl) (pe_dget2 (PW.hu1_of hu64) (pe_ix (ix_K (K := K) rfl) (pv 0) (pe_int) (fun _ _ => rfl)) (pv 1) (pe_tup (pa_nil)) ⟨rfl, rfl, rfl, rfl⟩))
  (pss_cons (ps_for PassesOwn.never rfl (pi_tupK (K := K) rfl (pv 3)) (pg_name (i := 4) sc_L_forget.nd rfl (Or.inl rfl)) (pss_one (ps_expr (pe_dpop1 (pv 2) (pv 4) ⟨rfl, rfl, rfl, rfl⟩))))
  (pss_one (ps_if (pt_cmp (pc_din (PW.hu1_of hu64) (pv 1) (pe_ix (ix_K (K := K) rfl) (pv 0) (pe_int) (fun _ _ => rfl)))) (pss_one (ps_expr (pe_dpop1 (pe_ix (ix_K (K := K) rfl) (pv 0) (pe_int) (fun _ _ => rfl)) (pv 1) ⟨rfl, rfl, rfl, rfl⟩))) (pss_nil))))), ?_⟩
    refine ⟨_, rfl, .inl ⟨p, _, 2, _, rfl, rfl, mat w0, atI_nat (j := 2) rfl, ?_⟩⟩
    refine ⟨_, rfl, .inl ⟨p, _, 1, _, rfl, rfl, mat w0, atI_nat (j := 1) rfl, n, rfl, .inl ⟨_, .inl (w0.atM (L := [_, _]))⟩, _, rfl, Nat.zero_le _, fun z hz => ?_⟩⟩
    obtain ⟨w1, e1⟩ := w0.fix hz (.tup [])
    refine ⟨_, DGet.k (k := .inr x) (w1.atM (L := [_, _])), ?_⟩
    obtain ⟨ns, hv⟩ : ∃ ns, (f.names x).getD [] = ns := ⟨_, rfl⟩
    obtain ⟨t, ht, hsq, hl, hnd, hin⟩ : ∃ t, (valV kn (.inr x)).getD (.ref z) = .ref t ∧ SqT K (upd F z (.tup [])) t (ns.map V.int) ∧ ns.length ≤ 100 ∧ ns.Nodup ∧ ∀ i ∈ ns, (f.wards i).isSome = true := by
      cases q : f.names x with
      | none =>
        rw [rn.gone x q]
        rw [q] at hv
        subst hv
        exact ⟨z, rfl, .of upd_same, Nat.zero_le _, List.nodup_nil, fun i h => nomatch h⟩
      | some l =>
        obtain ⟨v, h1, h2⟩ := rn.here x l q
        rw [h1]
        rw [q] at hv
        subst hv
        obtain ⟨t, xs, rfl, hs, da⟩ := dp_tup h2
        rw [dpa_ints da] at hs
        exact ⟨t, rfl, same_t e1 hs, hns _ q⟩
    rw [ht]
    have hs1 : SqT K (upd H z (.tup [])) t (ns.map V.int) := same_t w1.fh hsq
    refine ⟨_, rfl, t, rfl, ⟨_, hs1⟩, ?_⟩
    refine for_tup (xs := ns.map V.int) (fun i σ H' => ∃ (v4 : Option V) (kw' : List (Key × V)), σ = [some (.ref p), some (.str x), some (.ref wr), some (.ref t), v4] ∧ Wd F0 H0 (upd F z (.tup [])) H' ([(p, mdl c n wr f.top), (c, .lst (f.caps.map V.int)), (n, .dK kn), (wr, .dK kw')] ++ M) ∧
      DRep Sum.inl (wdR K F) kw' (fun j => if j ∈ ns.take i then none else f.wards j) ∧ kw'.length ≤ kw.length) ⟨none, kw, rfl, w1, rw'.congr fun j => by rw [List.take_zero, if_neg (by simp)], Nat.le_refl _⟩ ?_ ?_ ?_
    · rintro i σ H' _ ⟨v4, kw', rfl, w2, _⟩
      exact same_t w2.fh hsq
    · rintro i y σ H' hy ⟨v4, kw', rfl, w2, r2, hl2⟩
      obtain ⟨j, hj, rfl⟩ := item_int hy
      have hjn : j ∉ ns.take i := fun hm' => by
        have hi : i < ns.length := (List.getElem?_eq_some_iff.mp hj).1
        obtain ⟨a, ha, e⟩ := List.mem_iff_getElem.mp hm'
        have ha' : a < i := by rw [List.length_take] at ha; omega
        have e1 : ns[a]'(by omega) = ns[i] := by
          rw [← List.getElem_take (h := ha), e]
          exact (List.getElem?_eq_some_iff.mp hj).2.symm
        have := (List.getElem_inj hnd).mp e1
        omega
      obtain ⟨b, hb⟩ := Option.isSome_iff_exists.mp (hin j (List.mem_of_getElem? hj))
      obtain ⟨v, hv1, hv2⟩ := r2.here j b (by show (if j ∈ ns.take i then none else f.wards j) = _; rw [if_neg hjn]; exact hb)
      refine ⟨_, rfl, wr, rfl, .inl ⟨_, .inl (w2.atM (L := [_, _, _]))⟩, _, rfl, kw', .inl j, v, w2.atM (L := [_, _, _]), rfl, hv1, ?_⟩
      refine ⟨_, dropK kw' (.inl j), rfl, w2.setM (L := [_, _, _]) _, (r2.drop inl_inj j).congr fun y => ?_, Nat.le_trans (dropK_le _ _) hl2⟩
      rw [take_more1 hj]
      by_cases q : y = j
      · rw [if_pos q, if_pos (by simp [q])]
      · rw [if_neg q]
        by_cases q2 : y ∈ ns.take i
        · rw [if_pos q2, if_pos (by simp [q2])]
        · rw [if_neg q2, if_neg (by simp [q, q2])]
    · rintro σ H' ⟨v4, kw', rfl, w2, r2, hl2⟩
      rw [List.length_map, List.take_length] at r2
      have r3 : DRep Sum.inl (wdR K (upd F z (.tup []))) kw' (f.forget x).wards := (r2.mono fun v b h => dp_mono e1 h).congr fun j => by
        show _ = if j ∈ (f.names x).getD [] then none else f.wards j
        rw [hv]
      refine ⟨_, rfl, _, rfl, .inl ⟨p, _, 1, _, rfl, rfl, mat w2, atI_nat (j := 1) rfl, n, _, rfl, DGet.k (k := .inr x) (w2.atM (L := [_, _])), _, rfl, ?_⟩⟩
      refine iteB (fun cc => ?_) (fun cc => ?_)
      · obtain ⟨v, hv⟩ := Option.isSome_iff_exists.mp cc
        refine ⟨_, rfl, .inl ⟨p, _, 1, _, rfl, rfl, mat w2, atI_nat (j := 1) rfl, n, rfl, .inl ⟨_, .inl (w2.atM (L := [_, _]))⟩, _, rfl, kn, .inr x, v, w2.atM (L := [_, _]), rfl, hv, ?_⟩⟩
        refine k _ _ e1 ⟨dropK kn (.inr x), kw', w2.setM (L := [_, _]) _, (rn.drop inr_inj x).mono fun v b h => dp_mono e1 h, r3, ?_⟩
        have := dropK_le kn (.inr x)
        omega
      · refine k _ _ e1 ⟨kn, kw', w2, (rn.congr fun y => ?_).mono fun v b h => dp_mono e1 h, r3, by omega⟩
        show _ = if y = x then none else f.names y
        by_cases q : y = x
        · subst q
          rw [if_pos rfl]
          cases g : f.names y with
          | none => rfl
          | some b =>
            obtain ⟨v, h1, _⟩ := rn.here y b g
            rw [h1] at cc; cases cc
        · rw [if_neg q]

end
end Q

set_option Elab.async false
set_option linter.all false
set_option maxRecDepth 100000
set_option maxHeartbeats 8000000
namespace Q
open PySem PySem.Spec PyProof.Rows L2 TL PW Rc
section
variable {P : Program} {w : World} {K : PySem.W.Frag} {mg : Str → Option Value} {base : Heap} {A : Ad}
def spMSet (K : PySem.W.Frag) : Sp := fun vs H Q _ => ∃ (F0 H0 F : Hp) (M : List (Addr × HO)) (p c n wr : Addr) (m : Nat) (f : FSt) (v : V) (ws : List (Int × Int × Int)), vs = [.ref p, v] ∧ MW K F0 H0 F H M p c n wr m f ∧
  Dp K F v (encWs ws) ∧ m + ws.length ≤ 1000000 ∧ ∀ F' H', Same F F' → MW K F0 H0 F' H' M p c n wr (m + ws.length) (f.setWs ws) → Q .non H'
theorem mdl_top {c n wr : Addr} {t x : Int} : ([V.ref c, .ref n, .ref wr, .int t] : List V).set 3 (.int x) = [.ref c, .ref n, .ref wr, .int x] := rfl
theorem ok_L_set (T : Txt K mg A) : FnOk P w K mg base CX0 1 A.a_L_set A.d_L_set ["_law_model", "_law_entries_here"] (spMSet K) := by
  refine T.F_L_set.ok sc_L_set (fun vs H Q E h => ?_) (fun cdv A' outer s H vs Q E hr h => ?_)
  · obtain ⟨F0, H0, F, M, p, c, n, wr, m, f, v, ws, rfl, _⟩ := h; rfl
  · obtain ⟨F0, H0, F, M, p, c, n, wr, m, f, v, ws, rfl, L, D, hm, k⟩ := h
    have hu64 := hu64_of hr
    obtain ⟨t, xs, rfl, ht, da⟩ := dp_tup D
    have hxl : xs.length = ws.length := by rw [dpa_len da, List.length_map]
    refine ⟨_, pss_cons (ps_set (i := 2) sc_L_set.nd rfl (Or.inl rfl) (pe_ix (ix_K (K := K) rfl) (pv 0) (pe_int) (fun _ _ => rfl)))
  (pss_one (ps_for PassesOwn.never rfl (pi_tupK (K := K) rfl (pv 1)) (pg_name (i := 3) sc_L_set.nd rfl (Or.inl rfl)) (pss_cons (ps_asg (pe_tup (pa_cons (pe_ix (ix_K (K := K) rfl) (pv 3) (pe_int) (fun _ _ => rfl)) (pa_cons (pe_ix (ix_K (K := K) rfl) (pv 3) (pe_int) (fun _ _ => rfl)) pa_nil))) (pg_sub (pv 2) (pe_ix (ix_K (K := K) rfl) (pv 3) (pe_int) (fun _ _ => rfl)) (set_dict (PW.hu1_of hu64))))
    (pss_one (ps_asg (pe_callB (call_max2 rfl) (by rfl) T.n_max (by decide +kernel) (pa_cons (pe_ix (ix_K (K := K) rfl) (pv 0) (pe_int) (fun _ _ => rfl)) (pa_cons (pe_ix (ix_K (K := K) rfl) (pv 3) (pe_int) (fun _ _ => rfl)) pa_nil))) (pg_sub (pv 0) (pe_int) set_list)))))), ?_⟩
    obtain ⟨kn0, kw0, w0, r0⟩ := id L
    refine ⟨_, rfl, .inl ⟨p, _, 2, _, rfl, rfl, mat w0, atI_nat (j := 2) rfl, ?_⟩⟩
    refine ⟨_, rfl, t, rfl, ⟨_, same_t w0.fh ht⟩, ?_⟩
    refine for_tup (xs := xs) (fun i σ H' => ∃ (F' : Hp) (v3 : Option V), σ = [some (.ref p), some (.ref t), some (.ref wr), v3] ∧ Same F F' ∧ MW K F0 H0 F' H' M p c n wr (m + i) (f.setWs (ws.take i))) ⟨F, none, rfl, .refl F, L⟩ ?_ ?_ ?_
    · rintro i σ H' _ ⟨F', v3, rfl, e, kn, kw, w1, _⟩
      exact same_t (e.trans w1.fh) ht
    · rintro i x σ H' hx ⟨F', v3, rfl, e, kn, kw, w1, rn, rw', hl⟩
      obtain ⟨d, hd, dx'⟩ := dpa_get da hx
      obtain ⟨u, hu, rfl⟩ := item_map hd
      have hi : i < ws.length := (List.getElem?_eq_some_iff.mp hu).1
      obtain ⟨q, rfl, hq⟩ := wd_at dx'
      have hq1 := same_t (e.trans w1.fh) hq
      refine ⟨_, rfl, .inr (.inl ⟨q, _, 1, _, rfl, rfl, hq1, atI_nat (j := 1) rfl, _, rfl, .inr (.inl ⟨q, _, 2, _, rfl, rfl, hq1, atI_nat (j := 2) rfl, by show 2 ≤ sizeLine; decide, fun z hz => ?_⟩)⟩)⟩
      obtain ⟨w2, e2⟩ := w1.fix hz (.tup [.int u.2.1, .int u.2.2])
      have hq2 := same_t ((e.trans e2).trans w2.fh) hq
      refine ⟨_, rfl, _, rfl, .inr (.inl ⟨q, _, 0, _, rfl, rfl, hq2, atI_nat (j := 0) rfl, wr, _, rfl, DPut.k (k := .inl u.1) (w2.atM (L := [_, _, _])) (small' (by omega)), ?_⟩)⟩
      have w3 := w2.setM (L := [_, _, _]) (.dK (putK kw (.inl u.1) (.ref z)))
      have hq3 := same_t ((e.trans e2).trans w3.fh) hq
      refine ⟨_, rfl, .inl ⟨p, _, 3, _, rfl, rfl, mat w3, atI_nat (j := 3) rfl, _, rfl, .inr (.inl ⟨q, _, 0, _, rfl, rfl, hq3, atI_nat (j := 0) rfl, _, _, rfl, ?_⟩)⟩⟩
      refine ⟨_, rfl, p, _, _, 3, rfl, rfl, w3.atM (L := []), rfl, ?_⟩
      rw [mdl_top]
      have es : f.setWs (ws.take (i + 1)) = (f.setWs (ws.take i)).ward u := by
        rw [take_more1 hu]
        unfold FSt.setWs
        rw [List.foldl_append]
        rfl
      refine ⟨_, _, rfl, e.trans e2, kn, _, ?_, (by rw [es]; exact rn.mono fun v b h => dp_mono e2 h), (by rw [es]; exact (rw'.mono fun v b h => dp_mono e2 h).put inl_inj (.tup (.of upd_same) (.cons (.int _) (.cons (.int _) .nil)))), ?_⟩
      · rw [es]
        exact w3.setM (L := []) _
      · have := length_putK kw (.inl u.1) (.ref z)
        omega
    · rintro σ H' ⟨F', v3, rfl, e, L'⟩
      rw [hxl, List.take_length] at L'
      exact k F' H' e L'

end
end Q

set_option Elab.async false
set_option linter.all false
set_option maxRecDepth 100000
set_option maxHeartbeats 8000000
namespace Q
open PySem PySem.Spec PyProof.Rows L2 TL PW Rc
section
variable {P : Program} {w : World} {K : PySem.W.Frag} {mg : Str → Option Value} {base : Heap} {A : Ad}
def spMPic (K : PySem.W.Frag) : Sp := fun vs H Q _ => ∃ (F0 H0 F : Hp) (M : List (Addr × HO)) (p c n wr : Addr) (m : Nat) (f : FSt) (xs : List Str) (is : List Int), vs = [.ref p] ∧ MW K F0 H0 F H M p c n wr m f ∧ Few f xs is ∧
  ∀ names ws v F' H', PicOf f names ws → Same F F' → MW K F0 H0 F' H' M p c n wr m f → Dp K F' v (encR (.picture f.caps names ws)) → Q v H'
theorem ok_L_picture (T : Txt K mg A) : FnOk P w K mg base CX0 1 A.a_L_picture A.d_L_picture ["_law_model"] (spMPic K) := by
  refine T.F_L_picture.ok sc_L_picture (fun vs H Q E h => ?_) (fun cdv A' outer s H vs Q E hr h => ?_)
  · obtain ⟨F0, H0, F, M, p, c, n, wr, m, f, xs, is, rfl, _⟩ := h; rfl
  · obtain ⟨F0, H0, F, M, p, c, n, wr, m, f, xs, is, rfl, ⟨kn, kw, w0, rn, rw', hl⟩, ⟨hx1, hx2, hi1, hi2, hc⟩, k⟩ := h
    have hu64 := hu64_of hr
    obtain ⟨ks, hks, ndk, memk⟩ := rn.keys inr_inj
    obtain ⟨js, hjs, ndj, memj⟩ := rw'.keys inl_inj
    have hk64 : ks.length < 64 := Nat.lt_of_le_of_lt (nodup_len ndk fun x hx => hx2 x ((memk x).mp hx)) hx1
    have hj64 : js.length < 64 := Nat.lt_of_le_of_lt (nodup_len ndj fun i hi => hi2 i ((memj i).mp hi)) hi1
    refine ⟨_, pss_cons (ps_set (i := 1) sc_L_picture.nd rfl (Or.inl rfl) (pe_callTy (call_tupleK (K := K) rfl) (by rfl) T.n_tuple (by decide +kernel) (pa_cons (pe_lc (own := [("_law_name", 3)]) rfl sc_L_picture.nd (pi_listK (K := K) rfl (pe_callB (call_sortedD rfl) (by rfl) T.n_sorted (by decide +kernel) (pa_cons (pe_ix (ix_K (K := K) rfl) (pv 0) (pe_int) (fun _ _ => rfl)) pa_nil))) (blkOk_by (own := [("_law_name", 3)]) (N := ["_law_model", "_law_names_here", "_law_wardens", "_law_name", "_law_number"]) (sc := defScope s_L_picture) (by decide +kernel)) (fun _ _ _ _ _ => pg_name (i := 3) sc_L_picture.nd rfl (Or.inl rfl)) (fun _ _ _ _ _ => pts_nil) (fun _ _ _ _ _ => pe_tup (pa_cons (pv 3) (pa_cons (pe_dget (PW.hu1_of hu64) (pe_ix (ix_K (K := K) rfl) (pv 0) (pe_int) (fun _ _ => rfl)) (pv 3) (fun _ _ => rfl)) pa_nil)))) pa_nil)))
  (pss_cons (ps_set (i := 2) sc_L_picture.nd rfl (Or.inl rfl) (pe_callTy (call_tupleK (K := K) rfl) (by rfl) T.n_tuple (by decide +kernel) (pa_cons (pe_lc (own := [("_law_number", 4)]) rfl sc_L_picture.nd (pi_listK (K := K) rfl (pe_callB (call_sortedDI rfl) (by rfl) T.n_sorted (by decide +kernel) (pa_cons (pe_ix (ix_K (K := K) rfl) (pv 0) (pe_int) (fun _ _ => rfl)) pa_nil))) (blkOk_by (own := [("_law_number", 4)]) (N := ["_law_model", "_law_names_here", "_law_wardens", "_law_name", "_law_number"]) (sc := defScope s_L_picture) (by decide +kernel)) (fun _ _ _ _ _ => pg_name (i := 4) sc_L_picture.nd rfl (Or.inl rfl)) (fun _ _ _ _ _ => pts_nil) (fun _ _ _ _ _ => pe_tup (pa_cons (pv 4) (pa_cons (pe_ix (ix_K (K := K) rfl) (pe_dget (PW.hu1_of hu64) (pe_ix (ix_K (K := K) rfl) (pv 0) (pe_int) (fun _ _ => rfl)) (pv 4) (fun _ _ => rfl)) (pe_int) (fun _ _ => rfl)) (pa_cons (pe_ix (ix_K (K := K) rfl) (pe_dget (PW.hu1_of hu64) (pe_ix (ix_K (K := K) rfl) (pv 0) (pe_int) (fun _ _ => rfl)) (pv 4) (fun _ _ => rfl)) (pe_int) (fun _ _ => rfl)) pa_nil))))) pa_nil)))
  (pss_one (ps_ret (pe_tup (pa_cons (pe_str) (pa_cons (pe_callTy (call_tupleK (K := K) rfl) (by rfl) T.n_tuple (by decide +kernel) (pa_cons (pe_ix (ix_K (K := K) rfl) (pv 0) (pe_int) (fun _ _ => rfl)) pa_nil)) (pa_cons (pv 1) (pa_cons (pv 2) pa_nil)))))))), ?_⟩
    refine ⟨_, rfl, .inl ⟨p, _, 1, _, rfl, rfl, mat w0, atI_nat (j := 1) rfl, n, kn, ks, rfl, .inl (w0.atM (L := [_, _])), hks, hk64, fun ys q1 hperm hsort hq1 => ?_⟩⟩
    have ndy : ys.Nodup := hperm.nodup_iff.mpr ndk
    have memy : ∀ x, x ∈ ys ↔ (f.names x).isSome = true := fun x => (hperm.mem_iff).trans (memk x)
    obtain ⟨w1, e1⟩ := w0.fix hq1 (.lst (ys.map V.str))
    refine ⟨q1, rfl, ⟨_, .of upd_same⟩, fun D hD => ?_⟩
    refine lc_wdL (xs := ys.map V.str) (ys.map fun x => encName (x, (f.names x).getD [])) (by rw [List.length_map, List.length_map]) w1 hD (.of upd_same) (by rw [List.length_map, hperm.length_eq]; omega) ?_ ?_
    · intro i v d F1 H1 acc Q1 hv hd e2 w2 kk
      obtain ⟨x, hx, rfl⟩ := item_map hv
      rw [List.getElem?_map, hx] at hd
      cases hd
      obtain ⟨ns, hns⟩ := Option.isSome_iff_exists.mp ((memy x).mp (List.mem_of_getElem? hx))
      obtain ⟨u, hu1, hu2⟩ := rn.here x ns hns
      refine ⟨rfl, _, rfl, _, rfl, .inl ⟨p, _, 1, _, rfl, rfl, mat w2.drop, atI_nat (j := 1) rfl, _, rfl, n, u, rfl, dget_of (w2.atM (L := [_, _, _])) hu1, by show 2 ≤ sizeLine; decide, fun z hz => ?_⟩⟩
      obtain ⟨w3, e3⟩ := (Wd.start w2.fh).fix hz (.tup [.str x, u])
      refine kk _ _ _ w3.done ?_
      dsimp only
      rw [hns]
      exact .tup (.of upd_same) (.cons (.str _) (.cons (dp_mono (e1.trans (e2.trans e3)) hu2) .nil))
    · intro vs1 F1 H1 e2 w2 da1
      refine ⟨D, _, rfl, .inl ⟨.of w2.at_, fun t1 ht1 => ?_⟩⟩
      obtain ⟨w3, e3⟩ := w2.drop.fix ht1 (.tup vs1)
      have e03 := e1.trans (e2.trans e3)
      have d1 : Dp K (upd F1 t1 (.tup vs1)) (.ref t1) (.tuple (ys.map fun x => encName (x, (f.names x).getD []))) := .tup (.of upd_same) (dpa_mono e3 da1)
      refine ⟨_, rfl, .inl ⟨p, _, 2, _, rfl, rfl, mat w3, atI_nat (j := 2) rfl, wr, kw, js, rfl, .inl (w3.atM (L := [_, _, _])), hjs, hj64, fun zs q2 hperm2 hsort2 hq2 => ?_⟩⟩
      have ndz : zs.Nodup := hperm2.nodup_iff.mpr ndj
      have memz : ∀ i, i ∈ zs ↔ (f.wards i).isSome = true := fun i => (hperm2.mem_iff).trans (memj i)
      obtain ⟨w4, e4⟩ := w3.fix hq2 (.lst (zs.map V.int))
      refine ⟨q2, rfl, ⟨_, .of upd_same⟩, fun D2 hD2 => ?_⟩
      refine lc_wdL (xs := zs.map V.int) (zs.map fun i => encW (i, (f.wards i).getD (0, 0))) (by rw [List.length_map, List.length_map]) w4 hD2 (.of upd_same) (by rw [List.length_map, hperm2.length_eq]; omega) ?_ ?_
      · intro i v d F2 H2 acc Q1 hv hd e5 w5 kk
        obtain ⟨j, hj, rfl⟩ := item_int hv
        rw [List.getElem?_map, hj] at hd
        cases hd
        obtain ⟨b, hb⟩ := Option.isSome_iff_exists.mp ((memz j).mp (List.mem_of_getElem? hj))
        obtain ⟨u, hu1, hu2⟩ := rw'.here j b hb
        obtain ⟨t, us, rfl, hut, dus⟩ := dp_tup hu2
        cases dus with | cons b1 dus => cases dus with | cons b2 dus =>
        cases dus
        cases b1; cases b2
        have eF : Same F F2 := e03.trans (e4.trans e5)
        have hut' := same_t (eF.trans w5.fh) hut
        refine ⟨rfl, _, rfl, _, rfl, .inl ⟨p, _, 2, _, rfl, rfl, mat w5.drop, atI_nat (j := 2) rfl, _, rfl, wr, _, rfl, dget_of (w5.atM (L := [_, _, _, _])) hu1, .inr (.inl ⟨t, _, 0, _, rfl, rfl, hut', atI_nat (j := 0) rfl, ?_⟩)⟩⟩
        refine ⟨_, rfl, .inl ⟨p, _, 2, _, rfl, rfl, mat w5.drop, atI_nat (j := 2) rfl, _, rfl, wr, _, rfl, dget_of (w5.atM (L := [_, _, _, _])) hu1, .inr (.inl ⟨t, _, 1, _, rfl, rfl, hut', atI_nat (j := 1) rfl, ?_⟩)⟩⟩
        refine ⟨by show 3 ≤ sizeLine; decide, fun z hz => ?_⟩
        obtain ⟨w6, e6⟩ := (Wd.start w5.fh).fix hz (.tup [.int j, .int b.1, .int b.2])
        refine kk _ _ _ w6.done ?_
        dsimp only
        rw [hb]
        exact .tup (.of upd_same) (.cons (.int _) (.cons (.int _) (.cons (.int _) .nil)))
      · intro vs2 F2 H2 e5 w5 da2
        refine ⟨D2, _, rfl, .inl ⟨.of w5.at_, fun t2 ht2 => ?_⟩⟩
        obtain ⟨w6, e6⟩ := w5.drop.fix ht2 (.tup vs2)
        have e36 := e4.trans (e5.trans e6)
        have d2 : Dp K (upd F2 t2 (.tup vs2)) (.ref t2) (.tuple (zs.map fun i => encW (i, (f.wards i).getD (0, 0)))) := .tup (.of upd_same) (dpa_mono e6 da2)
        refine ⟨_, rfl, .inl ⟨p, _, 0, _, rfl, rfl, mat w6, atI_nat (j := 0) rfl, c, _, rfl, .inl ⟨.of (w6.atM (L := [_])), fun t3 ht3 => ?_⟩⟩⟩
        obtain ⟨w7, e7⟩ := w6.fix ht3 (.tup (f.caps.map V.int))
        refine ⟨_, rfl, _, rfl, by show 4 ≤ sizeLine; decide, fun t4 ht4 => ?_⟩
        obtain ⟨w8, e8⟩ := w7.fix ht4 (.tup [.str wPicture, .ref t3, .ref t1, .ref t2])
        have eAll := e03.trans (e36.trans (e7.trans e8))
        refine k (ys.map fun x => (x, (f.names x).getD [])) (zs.map fun i => (i, (f.wards i).getD (0, 0))) _ _ _ ⟨?_, ?_, ?_, ?_⟩ eAll ⟨kn, kw, w8, rn.mono fun v b h => dp_mono eAll h, rw'.mono fun v b h => dp_mono eAll h, hl⟩ ?_
        · rw [List.map_map]
          have e : ((fun x : Str × List Int => x.1) ∘ fun x => (x, (f.names x).getD [])) = id := rfl
          rw [e, List.map_id]
          exact sorted_strict ndy hsort
        · intro x ns
          rw [List.mem_map]
          constructor
          · rintro ⟨y, hy, e⟩
            cases e
            obtain ⟨l, hl⟩ := Option.isSome_iff_exists.mp ((memy x).mp hy)
            rw [hl]; rfl
          · intro h
            exact ⟨x, (memy x).mpr (by rw [h]; rfl), by rw [h]; rfl⟩
        · rw [List.map_map]
          have e : ((fun x : Int × Int × Int => x.1) ∘ fun i => (i, (f.wards i).getD (0, 0))) = id := rfl
          rw [e, List.map_id]
          exact le_strict ndz hsort2
        · intro i u
          rw [List.mem_map]
          constructor
          · rintro ⟨y, hy, e⟩
            cases e
            obtain ⟨l, hl⟩ := Option.isSome_iff_exists.mp ((memz i).mp hy)
            rw [hl]; rfl
          · intro h
            exact ⟨i, (memz i).mpr (by rw [h]; rfl), by rw [h]; rfl⟩
        · refine .tup (.of upd_same) (.cons (.str _) (.cons (dp_mono e8 (.tup (.of upd_same) dpa_of_ints)) (.cons ?_ (.cons ?_ .nil))))
          · rw [List.map_map]
            exact dp_mono (e36.trans (e7.trans e8)) d1
          · have := dp_mono (e7.trans e8) d2
            show Dp K _ _ (.tuple ((zs.map fun i => (i, (f.wards i).getD (0, 0))).map encW))
            rw [List.map_map]
            exact this

end
end Q

set_option Elab.async false
set_option linter.all false
set_option maxRecDepth 100000
set_option maxHeartbeats 8000000
namespace Q
open PySem PySem.Spec PyProof.Rows L2 TL PW Rc
section
variable {P : Program} {w : World} {K : PySem.W.Frag} {mg : Str → Option Value} {base : Heap} {A : Ad}
/-! ### pairs, bits, entries -/
def encP (u : Int × Int) : PyData := .tuple [.int u.1, .int u.2]
def PairIn (n : Nat) (u : Int × Int) : Prop := 0 ≤ u.1 ∧ u.1 < u.2 ∧ u.2 < (n : Int)
def spPairs (K : PySem.W.Frag) : Sp := fun vs H Q _ => ∃ (F : Hp) (n : Nat), vs = [.int (n : Int)] ∧ 2 ≤ n ∧ n ≤ 100 ∧ Same F H ∧ ∀ q F' H' (us : List V) (ps : List (Int × Int)), Step F H F' H' → SqL K F' q us → DpAll K F' us (ps.map encP) → ps ≠ [] → ps.length ≤ 10000 → (∀ u ∈ ps, PairIn n u) → Q (.ref q) H'
theorem ok_L_pairs (T : Txt K mg A) : FnOk P w K mg base CX0 1 A.a_L_pairs A.d_L_pairs ["_law_seats"] (spPairs K) := by
  refine T.F_L_pairs.ok sc_L_pairs (fun vs H Q E h => ?_) (fun cdv A' outer s H vs Q E hr h => ?_)
  · obtain ⟨F, n, rfl, _⟩ := h; rfl
  · obtain ⟨F, n, rfl, n2, n1, eF, k⟩ := h
    have w := Wd.start eF
    refine ⟨_, pss_cons (ps_set (i := 1) sc_L_pairs.nd rfl (Or.inl rfl) (pe_lst (pa_nil)))
  (pss_cons (ps_for PassesOwn.never rfl (pi_range1 rfl T.n_range (pa_cons (pv 0) pa_nil)) (pg_name (i := 2) sc_L_pairs.nd rfl (Or.inl rfl)) (pss_one (ps_for PassesOwn.never rfl (pi_range2 rfl T.n_range (pa_cons (pe_op (op_addK (K := K) rfl) (pv 2) (pe_int)) (pa_cons (pv 0) pa_nil))) (pg_name (i := 3) sc_L_pairs.nd rfl (Or.inl rfl)) (pss_one (ps_expr (pe_bm PySem.F.plainAttrs_list PySem.F.slot_list_append PySem.F.type_list_append mt_append (pv 1) (pa_cons (pe_tup (pa_cons (pv 2) (pa_cons (pv 3) pa_nil))) pa_nil)))))))
  (pss_one (ps_ret (pv 1)))), ?_⟩
    refine ⟨Nat.zero_le _, fun D hD => ?_⟩
    have w0 := w.own hD (.lst [])
    refine ⟨_, rfl, (n : Int), rfl, by omega, by omega, for_range (lo := 0) (n := n) (fun i σ H' => ∃ (F' : Hp) (us : List V) (ps : List (Int × Int)) (v2 v3 : Option V), σ = [some (.int (n : Int)), some (.ref D), v2, v3] ∧ Wd F H F' H' [(D, .lst us)] ∧ DpAll K F' us (ps.map encP) ∧ (0 < i → ps ≠ []) ∧ ps.length ≤ i * 100 ∧ ∀ u ∈ ps, PairIn n u)
      ⟨F, [], [], none, none, rfl, w0, .nil, (fun h => absurd h (by decide)), Nat.le_refl _, (fun u h => nomatch h)⟩ ?_ ?_⟩
    · rintro i σ H1 hi ⟨F1, us, ps, v2, v3, rfl, w1, da, hne, hl, hp⟩
      have z : (0 : Int) + (i : Int) = (i : Int) := Int.zero_add _
      refine ⟨_, rfl, .inl ⟨_, _, rfl, rfl, _, rfl, _, _, rfl, ⟨by omega, by omega, by omega, by omega⟩, ?_⟩⟩
      have ecnt : ((n : Int) - (0 + (i : Int) + 1)).toNat = n - (i + 1) := by omega
      rw [ecnt]
      refine for_range (lo := 0 + (i : Int) + 1) (n := n - (i + 1)) (fun j σ H' => ∃ (F' : Hp) (us : List V) (ps : List (Int × Int)) (v3 : Option V), σ = [some (.int (n : Int)), some (.ref D), some (.int (0 + (i : Int))), v3] ∧ Wd F H F' H' [(D, .lst us)] ∧ DpAll K F' us (ps.map encP) ∧ (0 < i ∨ 0 < j → ps ≠ []) ∧ ps.length ≤ i * 100 + j ∧ ∀ u ∈ ps, PairIn n u)
        ⟨F1, us, ps, v3, rfl, w1, da, (fun h => hne (h.resolve_right (by decide))), hl, hp⟩ ?_ ?_
      · rintro j σ H2 hj ⟨F2, us, ps, v3, rfl, w2, da, hne, hl, hp⟩
        refine ⟨_, rfl, .inl ⟨rfl, _, .of w2.at_⟩, _, rfl, _, rfl, by show 2 ≤ sizeLine; decide, fun z hz => ?_⟩
        obtain ⟨w3, e3⟩ := w2.fix hz (.tup [.int (0 + (i : Int)), .int (0 + (i : Int) + 1 + (j : Int))])
        have hul : us.length = ps.length := by rw [dpa_len da, List.length_map]
        have hi100 : i * 100 ≤ 9900 := by have : i ≤ 99 := by omega
                                          omega
        refine ⟨D, _, _, rfl, rfl, w3.at_, small' (by omega), ?_⟩
        refine ⟨_, us ++ [.ref z], ps ++ [((0 : Int) + (i : Int), 0 + (i : Int) + 1 + (j : Int))], _, rfl, w3.set _, ?_, (fun _ => by simp), by rw [List.length_append]; simp; omega, fun u hu => ?_⟩
        · rw [List.map_append]
          exact dpa_snoc (dpa_mono e3 da) (.tup (.of upd_same) (.cons (.int _) (.cons (.int _) .nil)))
        · rcases List.mem_append.mp hu with hu | hu
          · exact hp u hu
          · rw [List.mem_singleton.mp hu]
            exact ⟨by show 0 ≤ (0 : Int) + (i : Int); omega, by show (0 : Int) + (i : Int) < 0 + (i : Int) + 1 + (j : Int); omega, by show (0 : Int) + (i : Int) + 1 + (j : Int) < (n : Int); omega⟩
      · rintro σ H2 ⟨F2, us, ps, v3, rfl, w2, da, hne, hl, hp⟩
        refine ⟨F2, us, ps, _, v3, rfl, w2, da, fun _ => hne ?_, by omega, hp⟩
        by_cases c : 0 < i
        · exact .inl c
        · exact .inr (by omega)
    · rintro σ H1 ⟨F1, us, ps, v2, v3, rfl, w1, da, hne, hl, hp⟩
      obtain ⟨w2, e2⟩ := w1.freeze
      refine ⟨_, rfl, k D _ _ us ps w2.done (.of upd_same) (dpa_mono e2 da) (hne (by omega)) ?_ hp⟩
      have : n * 100 ≤ 10000 := by omega
      omega

end
end Q

set_option Elab.async false
set_option linter.all false
set_option maxRecDepth 100000
set_option maxHeartbeats 8000000
namespace Q
open PySem PySem.Spec PyProof.Rows L2 TL PW Rc
section
variable {P : Program} {w : World} {K : PySem.W.Frag} {mg : Str → Option Value} {base : Heap} {A : Ad}
def spBits (K : PySem.W.Frag) : Sp := fun vs H Q _ => ∃ (F : Hp) (mask : Int) (n : Nat), vs = [.int mask, .int (n : Int)] ∧ n ≤ 7 ∧ Same F H ∧ ∀ q F' H' (bs : List Int), Step F H F' H' → SqL K F' q (bs.map V.int) → bs.Pairwise (· < ·) → (∀ b ∈ bs, 0 ≤ b ∧ b < (n : Int)) → Q (.ref q) H'
theorem two_at {i : Nat} (h : i < 7) : ∃ d : Int, atI [V.int 1, .int 2, .int 4, .int 8, .int 16, .int 32, .int 64] (0 + (i : Int)) = some (.int d) ∧ 0 < d ∧ d < 1073741824 := by
  have : i = 0 ∨ i = 1 ∨ i = 2 ∨ i = 3 ∨ i = 4 ∨ i = 5 ∨ i = 6 := by omega
  rcases this with rfl | rfl | rfl | rfl | rfl | rfl | rfl
  · exact ⟨1, rfl, by decide, by decide⟩
  · exact ⟨2, rfl, by decide, by decide⟩
  · exact ⟨4, rfl, by decide, by decide⟩
  · exact ⟨8, rfl, by decide, by decide⟩
  · exact ⟨16, rfl, by decide, by decide⟩
  · exact ⟨32, rfl, by decide, by decide⟩
  · exact ⟨64, rfl, by decide, by decide⟩
theorem ok_L_bits (T : Txt K mg A) : FnOk P w K mg base CX0 1 A.a_L_bits A.d_L_bits ["_law_mask", "_law_count"] (spBits K) := by
  refine T.F_L_bits.ok sc_L_bits (fun vs H Q E h => ?_) (fun cdv A' outer s H vs Q E hr h => ?_)
  · obtain ⟨F, mask, n, rfl, _⟩ := h; rfl
  · obtain ⟨F, mask, n, rfl, n7, eF, k⟩ := h
    have hu64 := hu64_of hr
    have w := Wd.start eF
    refine ⟨_, pss_one (ps_ret (pe_lc (own := [("_law_k", 2)]) rfl sc_L_bits.nd (pi_range1 rfl T.n_range (pa_cons (pv 1) pa_nil)) (blkOk_by (own := [("_law_k", 2)]) (N := ["_law_mask", "_law_count", "_law_k"]) (sc := defScope s_L_bits) (by decide +kernel)) (fun _ _ _ _ _ => pg_name (i := 2) sc_L_bits.nd rfl (Or.inl rfl)) (fun _ _ _ _ _ => pts_one (pt_cmpR (op_eqK (K := K) rfl hu64) (pe_op op_mod (pe_callTy call_intU (by rfl) T.n_int (by decide +kernel) (pa_cons (pe_op op_fdiv (pv 0) (pe_ix (ix_K (K := K) rfl) (pe_tup (pa_cons (pe_int) (pa_cons (pe_int) (pa_cons (pe_int) (pa_cons (pe_int) (pa_cons (pe_int) (pa_cons (pe_int) (pa_cons (pe_int) pa_nil)))))))) (pv 2) (fun _ _ => rfl))) pa_nil)) (pe_int)) (pe_int) (nomark _))) (fun _ _ _ _ _ => pv 2))), ?_⟩
    refine ⟨_, rfl, (n : Int), rfl, by omega, by omega, fun D hD => ?_⟩
    refine lc_range (lo := 0) (n := n) (fun i H' => ∃ (F' : Hp) (bs : List Int), Wd F H F' H' [(D, .lst (bs.map V.int))] ∧ bs.Pairwise (· < ·) ∧ (∀ b ∈ bs, 0 ≤ b ∧ b < (i : Int)) ∧ bs.length ≤ i)
      ⟨F, [], w.own hD _, List.Pairwise.nil, (fun b h => nomatch h), Nat.le_refl _⟩ ?_ ?_
    · rintro i H1 hi ⟨F1, bs, w1, up, hb, hl⟩
      obtain ⟨d, hd, d0, d1⟩ := two_at (i := i) (by omega)
      refine ⟨rfl, ?_⟩
      refine ⟨_, rfl, by show 7 ≤ sizeLine; decide, fun z hz => ?_⟩
      obtain ⟨w2, e2⟩ := w1.fix hz (.tup [.int 1, .int 2, .int 4, .int 8, .int 16, .int 32, .int 64])
      refine ⟨_, rfl, .inr (.inl ⟨z, _, _, _, rfl, rfl, .of upd_same, hd, _, _, rfl, rfl, ⟨d0, d1⟩, .inl ⟨_, rfl, _, _, rfl, rfl, (by show (0 : Int) < 2; decide), .inl ⟨rfl, _, rfl, iteD (fun c => ?_) (fun c => ?_)⟩⟩⟩)⟩
      · refine ⟨_, rfl, _, w2.at_, small' (by rw [List.length_map]; omega), ?_⟩
        have w3 := w2.set (.lst (bs.map V.int ++ [.int (0 + (i : Int))]))
        refine ⟨_, bs ++ [0 + (i : Int)], (by rw [List.map_append]; exact w3), ?_, fun b hm => ?_, by rw [List.length_append]; simp; omega⟩
        · refine List.pairwise_append.mpr ⟨up, List.pairwise_singleton _ _, fun a ha b hb' => ?_⟩
          rw [List.mem_singleton.mp hb']
          have := hb a ha
          omega
        · rcases List.mem_append.mp hm with hm | hm
          · have := hb b hm; omega
          · rw [List.mem_singleton.mp hm]; omega
      · exact ⟨_, bs, w2, up, fun b hm => by have := hb b hm; omega, by omega⟩
    · rintro H1 ⟨F1, bs, w1, up, hb, hl⟩
      obtain ⟨w2, e2⟩ := w1.freeze
      exact k D _ _ bs w2.done (.of upd_same) up hb

end
end Q

set_option Elab.async false
set_option linter.all false
set_option maxRecDepth 100000
set_option maxHeartbeats 8000000
namespace Q
open PySem PySem.Spec PyProof.Rows L2 TL PW Rc
section
variable {P : Program} {w : World} {K : PySem.W.Frag} {mg : Str → Option Value} {base : Heap} {A : Ad}
theorem row_ix {K : PySem.W.Frag} {H : Hp} {p : Addr} {R : List Int} {j : Nat} {d z : Int} {Q : VK} (hs : SqL K H p (R.map V.int)) (hd : R[j]? = some d) (hz : z = (j : Int)) (q : Q (.int d) H) : rIx K (.ref p) (.int z) H Q := by
  subst hz
  exact .inl ⟨p, _, _, _, rfl, rfl, hs, atI_nat (by rw [List.getElem?_map, hd]; rfl), q⟩
theorem str_ix {K : PySem.W.Frag} {H : Hp} {p : Addr} {R : List Str} {d : Str} {z : Int} {Q : VK} (hs : SqL K H p (R.map V.str)) (h0 : 0 ≤ z) (hd : R[z.toNat]? = some d) (q : Q (.str d) H) : rIx K (.ref p) (.int z) H Q := by
  have := atI_nat (xs := R.map V.str) (j := z.toNat) (v := .str d) (by rw [List.getElem?_map, hd]; rfl)
  rw [Int.toNat_of_nonneg h0] at this
  exact .inl ⟨p, _, _, _, rfl, rfl, hs, this, q⟩
def szK : List Int := [8, 8, 8, 4, 41, 60, 32, 840, 840, 840, 840, 840]
def spEntries (K : PySem.W.Frag) : Sp := fun vs H Q _ => ∃ (F0 H0 F : Hp) (M : List (Addr × HO)) (p c n wr : Addr) (m : Nat) (f : FSt) (is : List Int) (ro nq : Addr) (R ns : List Int), vs = [.ref p, .ref ro, .ref nq] ∧ MW K F0 H0 F H M p c n wr m f ∧
  SqL K F ro (R.map V.int) ∧ Drawn szK R ∧ F nq = some (.lst (ns.map V.int)) ∧ ns.length ≤ 50 ∧ ns.Pairwise (· < ·) ∧ is.length < 64 ∧ (∀ i, (f.wards i).isSome = true → i ∈ is) ∧ (∀ i, (f.wards i).isSome = true → ∀ j ∈ ns, i < j) ∧ 2 ≤ f.caps.length ∧ f.caps.length ≤ 100 ∧
  ∀ v F' H' ws, Same F F' → MW K F0 H0 F' H' M p c n wr m f → Dp K F' v (encWs ws) → EntOk f ns ws → Q v H'
theorem ok_L_entries (T : Txt K mg A) : FnOk P w K mg base CX0 2 A.a_L_entries A.d_L_entries ["_law_model", "_law_row", "_law_numbers"] (spEntries K) := by
  refine T.F_L_entries.ok sc_L_entries (fun vs H Q E h => ?_) (fun cdv A' outer s H vs Q E hr h => ?_)
  · obtain ⟨F0, H0, F, M, p, c, n, wr, m, f, is, ro, nq, R, ns, rfl, _⟩ := h; rfl
  · obtain ⟨F0, H0, F, M, p, c, n, wr, m, f, is, ro, nq, R, ns, rfl, ⟨kn, kw, w0, rn, rw', hl⟩, hro, dr, hnq, hn50, hup, hi1, hi2, htop, hc2, hc100, k⟩ := h
    have hu64 := hu64_of hr
    obtain ⟨js, hjs, ndj, memj⟩ := rw'.keys inl_inj
    have hj64 : js.length < 64 := Nat.lt_of_le_of_lt (nodup_len ndj fun i hi => hi2 i ((memj i).mp hi)) hi1
    obtain ⟨r5, R5, b5, c5⟩ := drawn_at dr (i := 5) (s := 60) rfl
    obtain ⟨r6, R6, b6, c6⟩ := drawn_at dr (i := 6) (s := 32) rfl
    refine ⟨_, pss_cons (ps_set (i := 3) sc_L_entries.nd rfl (Or.inr rfl) (pe_callB (call_sortedDI rfl) (by rfl) T.n_sorted (by decide +kernel) (pa_cons (pe_ix (ix_K (K := K) rfl) (pv 0) (pe_int) (fun _ _ => rfl)) pa_nil)))
  (pss_cons (ps_set (i := 4) sc_L_entries.nd rfl (Or.inl rfl) (pe_call (ok_L_pairs T) (hr.mono (by decide)) rfl T.g_L_pairs T.F_L_pairs.kp T.b_L_pairs .nil pass0 (pa_cons (pe_callB (call_lenK (K := K) rfl) (by rfl) T.n_len (by decide +kernel) (pa_cons (pe_ix (ix_K (K := K) rfl) (pv 0) (pe_int) (fun _ _ => rfl)) pa_nil)) pa_nil)))
  (pss_cons (ps_setLc (i := 5) (own := [("_law_spot", 9)]) rfl sc_L_entries.nd rfl rfl (sw_true rfl rfl rfl (by decide +kernel)) (pi_listK (K := K) rfl (pe_call (ok_L_bits T) (hr.mono (by decide)) rfl T.g_L_bits T.F_L_bits.kp T.b_L_bits .nil pass0 (pa_cons (pe_ix (ix_K (K := K) rfl) (pv 1) (pe_int) (fun _ _ => rfl)) (pa_cons (pe_callB (call_min2 rfl) (by rfl) T.n_min (by decide +kernel) (pa_cons (pe_int) (pa_cons (pe_callB (call_lenK (K := K) rfl) (by rfl) T.n_len (by decide +kernel) (pa_cons (pv 3) pa_nil)) pa_nil))) pa_nil)))) (blkOk_by (own := [("_law_spot", 9)]) (N := ["_law_model", "_law_row", "_law_numbers", "_law_stored", "_law_pairs_here", "_law_chosen", "_law_entries_here", "_law_number", "_law_pair", "_law_spot"]) (sc := defScope s_L_entries) (by decide +kernel)) (fun _ _ _ _ _ => pg_name (i := 9) sc_L_entries.nd rfl (Or.inl rfl)) (fun _ _ _ _ _ => pts_nil) (fun _ _ _ _ _ => pe_ix (ix_K (K := K) rfl) (pv 3) (pe_op op_mod (pe_callTy call_intU (by rfl) T.n_int (by decide +kernel) (pa_cons (pe_op (op_addK (K := K) rfl) (pv 9) (pe_ix (ix_K (K := K) rfl) (pv 1) (pe_int) (fun _ _ => rfl))) pa_nil)) (pe_callB (call_lenK (K := K) rfl) (by rfl) T.n_len (by decide +kernel) (pa_cons (pv 3) pa_nil))) (fun _ _ => rfl)))
  (pss_cons (ps_set (i := 6) sc_L_entries.nd rfl (Or.inl rfl) (pe_lst (pa_nil)))
  (pss_cons (ps_for PassesOwn.never rfl (pi_listK (K := K) rfl (pe_op (op_addK (K := K) rfl) (pe_callB (cr_sortedK (K := K) rfl) (by rfl) T.n_sorted (by decide +kernel) (pa_cons (pv 5) pa_nil)) (pv 2))) (pg_name (i := 7) sc_L_entries.nd rfl (Or.inl rfl)) (pss_cons (ps_set (i := 8) sc_L_entries.nd rfl (Or.inl rfl) (pe_ix (ix_K (K := K) rfl) (pv 4) (pe_op op_mod (pe_callTy call_intU (by rfl) T.n_int (by decide +kernel) (pa_cons (pe_op (op_addK (K := K) rfl) (pe_ix (ix_K (K := K) rfl) (pv 1) (pe_op (op_addK (K := K) rfl) (pe_int) (pe_op op_mod (pe_callTy call_intU (by rfl) T.n_int (by decide +kernel) (pa_cons (pv 7) pa_nil)) (pe_int))) (fun _ _ => rfl)) (pv 7)) pa_nil)) (pe_callB (call_lenK (K := K) rfl) (by rfl) T.n_len (by decide +kernel) (pa_cons (pv 4) pa_nil))) (fun _ _ => rfl)))
    (pss_one (ps_expr (pe_bm PySem.F.plainAttrs_list PySem.F.slot_list_append PySem.F.type_list_append mt_append (pv 6) (pa_cons (pe_tup (pa_cons (pv 7) (pa_cons (pe_ix (ix_K (K := K) rfl) (pv 8) (pe_int) (fun _ _ => rfl)) (pa_cons (pe_ix (ix_K (K := K) rfl) (pv 8) (pe_int) (fun _ _ => rfl)) pa_nil)))) pa_nil))))))
  (pss_one (ps_ret (pe_callTy (call_tupleK (K := K) rfl) (by rfl) T.n_tuple (by decide +kernel) (pa_cons (pv 6) pa_nil)))))))), ?_⟩
    -- the stored numbers
    refine ⟨_, rfl, .inl ⟨p, _, 2, _, rfl, rfl, mat w0, atI_nat (j := 2) rfl, wr, kw, js, rfl, .inl (w0.atM (L := [_, _, _])), hjs, hj64, fun zs q1 hperm hsort hq1 => ?_⟩⟩
    obtain ⟨w1, e1⟩ := w0.fix hq1 (.lst (zs.map V.int))
    have ndz : zs.Nodup := hperm.nodup_iff.mpr ndj
    have memz : ∀ i, i ∈ zs ↔ (f.wards i).isSome = true := fun i => (hperm.mem_iff).trans (memj i)
    have hz64 : zs.length < 64 := by rw [hperm.length_eq]; exact hj64
    -- the pairs
    refine ⟨_, rfl, .inl ⟨p, _, 0, _, rfl, rfl, mat w1, atI_nat (j := 0) rfl, _, _, rfl, .inl ⟨_, .of (w1.atM (L := [_])), rfl⟩, _, f.caps.length, (by rw [List.length_map]; rfl), hc2, hc100, w1.fh, fun q2 F2 H2 us ps st2 hq2 dps hpne hpl hpin => ?_⟩⟩
    have w2 := w1.step st2
    have e2 := e1.trans st2.ff
    have hq1' : SqL K F2 q1 (zs.map V.int) := same_l st2.ff (.of upd_same)
    -- the chosen ones
    have hmin : (if ((zs.map V.int).length : Int) < 5 then ((zs.map V.int).length : Int) else 5) = ((min 5 zs.length : Nat) : Int) := by rw [List.length_map]; split <;> omega
    refine ⟨_, rfl, row_ix (same_l (e2.trans w2.fh) hro) R6 rfl ?_⟩
    refine ⟨_, rfl, _, _, rfl, .inl ⟨_, same_l w2.fh hq1', rfl⟩, _, _, rfl, F2, _, min 5 zs.length, (by rw [hmin]; rfl), by omega, w2.fh, fun q3 F3 H3 bs st3 hq3 bup bin => ?_⟩
    have w3 := w2.step st3
    have e3 := e2.trans st3.ff
    have hq1'' : SqL K F3 q1 (zs.map V.int) := same_l st3.ff hq1'
    refine ⟨q3, rfl, ⟨_, same_l w3.fh hq3⟩, fun D hD => ?_⟩
    have hbl : bs.length ≤ 5 := by
      have hnd : bs.Nodup := bup.imp fun h => by omega
      refine Nat.le_trans (nodup_len (m := [0, 1, 2, 3, 4]) hnd fun b hb => ?_) (by decide)
      have := bin b hb
      have : b = 0 ∨ b = 1 ∨ b = 2 ∨ b = 3 ∨ b = 4 := by omega
      rcases this with rfl | rfl | rfl | rfl | rfl <;> simp
    let pick : Int → Int := fun b => zs.getD ((b + r5) % (zs.length : Int)).toNat 0
    have hpick : ∀ b ∈ bs, 0 < zs.length ∧ zs[((b + r5) % (zs.length : Int)).toNat]? = some (pick b) := fun b hb => by
      have hb' := bin b hb
      have h0 : 0 < zs.length := by omega
      have h1 : 0 ≤ (b + r5) % (zs.length : Int) := Int.emod_nonneg _ (by omega)
      have h2 : (b + r5) % (zs.length : Int) < (zs.length : Int) := Int.emod_lt_of_pos _ (by omega)
      refine ⟨h0, ?_⟩
      show _ = some (zs.getD _ 0)
      rw [List.getD_eq_getElem?_getD, List.getElem?_eq_getElem (by omega)]
      rfl
    refine lc_wdL (xs := bs.map V.int) ((bs.map pick).map PyData.int) (by rw [List.length_map, List.length_map, List.length_map]) w3 hD hq3 (by rw [List.length_map]; omega) ?_ ?_
    · intro i v d F4 H4 acc Q1 hv hd e4 w4 kk
      obtain ⟨b, hb, rfl⟩ := item_int hv
      rw [List.map_map, List.getElem?_map, hb] at hd
      cases hd
      obtain ⟨h0, hz⟩ := hpick b (List.mem_of_getElem? hb)
      have hqz : SqL K H4 q1 (zs.map V.int) := same_l (e4.trans w4.fh) hq1''
      have hm0 : 0 ≤ (b + r5) % (zs.length : Int) := Int.emod_nonneg _ (by omega)
      have hzv : (zs.map V.int)[((b + r5) % (zs.length : Int)).toNat]? = some (.int (pick b)) := by rw [List.getElem?_map, hz]; rfl
      have hat := atI_nat hzv
      rw [Int.toNat_of_nonneg hm0] at hat
      refine ⟨rfl, _, rfl, _, rfl, _, rfl, row_ix (same_l ((e3.trans e4).trans w4.fh) hro) R5 rfl (.inl ⟨_, _, rfl, rfl, .inl ⟨_, rfl, _, rfl, _, _, rfl, .inl ⟨_, hqz, rfl⟩, _, _, rfl, rfl, (by rw [List.length_map]; omega), .inl ⟨q1, _, _, _, rfl, rfl, hqz, (by rw [List.length_map]; exact hat), ?_⟩⟩⟩)⟩
      exact kk _ F4 H4 (.refl w4.fh) (.int _)
    · intro vs4 F4 H4 e4 w4 da4
      have ev := dpa_ints da4
      subst ev
      obtain ⟨w5, e5⟩ := w4.freeze
      have e35 := e3.trans (e4.trans e5)
      have hD5 : SqL K (upd F4 D (.lst ((bs.map pick).map V.int))) D ((bs.map pick).map V.int) := .of upd_same
      refine ⟨Nat.zero_le _, fun D2 hD2 => ?_⟩
      have w6 := w5.own hD2 (.lst [])
      refine ⟨_, rfl, D, bs.map pick, rfl, same_l w6.fh hD5, fun cs q7 hcp hcs hq7 => ?_⟩
      obtain ⟨w7, e7⟩ := w6.fix hq7 (.lst (cs.map V.int))
      refine ⟨_, rfl, .inr (.inr (.inl ⟨q7, nq, _, _, rfl, rfl, upd_same, w7.fh _ _ ((e35.trans e7) _ _ hnq), small (by rw [List.length_map, List.length_map, hcp.length_eq, List.length_map]; omega), fun q8 hq8 => ?_⟩))⟩
      rw [← List.map_append]
      obtain ⟨w8, e8⟩ := w7.fix hq8 (.lst ((cs ++ ns).map V.int))
      have e38 := e35.trans (e7.trans e8)
      -- the pairs, as they stand
      have hq2' : SqL K (upd (upd (upd F4 D (.lst ((bs.map pick).map V.int))) q7 (.lst (cs.map V.int))) q8 (.lst ((cs ++ ns).map V.int))) q2 us := same_l (st3.ff.trans (e4.trans (e5.trans (e7.trans e8)))) hq2
      have dps' := dpa_mono (st3.ff.trans (e4.trans (e5.trans (e7.trans e8)))) dps
      have hul : us.length = ps.length := by rw [dpa_len dps, List.length_map]
      have hp0 : 0 < ps.length := List.length_pos_iff.mpr hpne
      have hcl : cs.length ≤ 5 := by rw [hcp.length_eq, List.length_map]; exact hbl
      have hql : ∀ {H'} {F'} {L : List (Addr × HO)}, Same (upd (upd (upd F4 D (.lst ((bs.map pick).map V.int))) q7 (.lst (cs.map V.int))) q8 (.lst ((cs ++ ns).map V.int))) F' → Wd F0 H0 F' H' L → SqL K H' q8 ((cs ++ ns).map V.int) := fun e w => same_l (e.trans w.fh) (.of upd_same)
      refine ⟨q8, rfl, ⟨_, .of upd_same⟩, ?_⟩
      refine for_list (xs := (cs ++ ns).map V.int) (fun i σ H' => ∃ (F' : Hp) (v7 v8 v9 : Option V) (es : List V) (ws : List (Int × Int × Int)), σ = [some (.ref p), some (.ref ro), some (.ref nq), some (.ref q1), some (.ref q2), some (.ref D), some (.ref D2), v7, v8, v9] ∧
        Same (upd (upd (upd F4 D (.lst ((bs.map pick).map V.int))) q7 (.lst (cs.map V.int))) q8 (.lst ((cs ++ ns).map V.int))) F' ∧ Wd F0 H0 F' H' ((D2, .lst es) :: ([(p, mdl c n wr f.top), (c, .lst (f.caps.map V.int)), (n, .dK kn), (wr, .dK kw)] ++ M)) ∧ DpAll K F' es (ws.map encW) ∧ ws.map (·.1) = (cs ++ ns).take i ∧ ∀ u ∈ ws, 0 ≤ u.2.1 ∧ u.2.1 < u.2.2 ∧ u.2.2 < 100)
        ⟨_, none, none, none, [], [], rfl, .refl _, w8, .nil, rfl, (fun u h => nomatch h)⟩ ?_ ?_ ?_
      · rintro i σ H' _ ⟨F', v7, v8, v9, es, ws, rfl, e, w9, _⟩
        exact hql e w9
      · rintro i y σ H' hy ⟨F', v7, v8, v9, es, ws, rfl, e, w9, da9, hws, hpr⟩
        obtain ⟨j, hj, rfl⟩ := item_int hy
        have hwl : ws.length ≤ 55 := by
          have := congrArg List.length hws
          rw [List.length_map, List.length_take, List.length_append] at this
          omega
        have hel : es.length ≤ 55 := by rw [dpa_len da9, List.length_map]; exact hwl
        have m5 : 0 ≤ j % 5 ∧ j % 5 < 5 := ⟨Int.emod_nonneg _ (by decide), Int.emod_lt_of_pos _ (by decide)⟩
        obtain ⟨rj, Rj, _, _⟩ := drawn_at dr (i := (7 + j % 5).toNat) (s := 840) (by
          have : (7 + j % 5).toNat = 7 ∨ (7 + j % 5).toNat = 8 ∨ (7 + j % 5).toNat = 9 ∨ (7 + j % 5).toNat = 10 ∨ (7 + j % 5).toNat = 11 := by omega
          rcases this with h | h | h | h | h <;> rw [h] <;> rfl)
        have hm0 : 0 ≤ (rj + j) % (us.length : Int) := Int.emod_nonneg _ (by omega)
        have hm1 : (rj + j) % (us.length : Int) < (us.length : Int) := Int.emod_lt_of_pos _ (by omega)
        have hpu : ps[((rj + j) % (us.length : Int)).toNat]? = some (ps[((rj + j) % (us.length : Int)).toNat]'(by omega)) := List.getElem?_eq_getElem _
        obtain ⟨pv, hpv, dpv⟩ := dpa_at dps' (i := ((rj + j) % (us.length : Int)).toNat) (by rw [List.getElem?_map, hpu]; rfl)
        have hin := hpin _ (List.mem_of_getElem? hpu)
        generalize ps[((rj + j) % (us.length : Int)).toNat]'(by omega) = pu at hpu dpv hin
        obtain ⟨t, ts, rfl, ht, dts⟩ := dp_tup dpv
        cases dts with | cons b1 dts => cases dts with | cons b2 dts =>
        cases dts
        cases b1; cases b2
        have hat := atI_nat hpv
        rw [Int.toNat_of_nonneg hm0] at hat
        have hro9 : SqL K H' ro (R.map V.int) := same_l ((e38.trans e).trans w9.fh) hro
        have hq29 : SqL K H' q2 us := same_l (e.trans w9.fh) hq2'
        have ht9 : SqT K H' t [.int pu.1, .int pu.2] := same_t (e.trans w9.fh) ht
        refine ⟨_, rfl, _, rfl, _, rfl, .inl ⟨_, rfl, _, _, rfl, rfl, (by show (0 : Int) < 5; decide), .inl ⟨_, _, rfl, rfl, row_ix hro9 Rj (by omega) ?_⟩⟩⟩
        refine ⟨_, rfl, .inl ⟨_, _, rfl, rfl, .inl ⟨_, rfl, _, rfl, _, _, rfl, .inl ⟨_, hq29, rfl⟩, _, _, rfl, rfl, (by omega), .inl ⟨q2, _, _, _, rfl, rfl, hq29, hat, ?_⟩⟩⟩⟩
        refine ⟨_, rfl, .inl ⟨rfl, _, .of w9.at_⟩, _, rfl, _, rfl, .inr (.inl ⟨t, _, 0, _, rfl, rfl, ht9, atI_nat (j := 0) rfl, _, rfl, .inr (.inl ⟨t, _, 1, _, rfl, rfl, ht9, atI_nat (j := 1) rfl, by show 3 ≤ sizeLine; decide, fun z hz => ?_⟩)⟩)⟩
        obtain ⟨w10, e10⟩ := w9.fix hz (.tup [.int j, .int pu.1, .int pu.2])
        refine ⟨D2, _, _, rfl, rfl, w10.at_, small' (by omega), ?_⟩
        refine ⟨_, _, _, _, es ++ [.ref z], ws ++ [(j, pu.1, pu.2)], rfl, e.trans e10, w10.set _, ?_, ?_, fun u hu => ?_⟩
        · rw [List.map_append]
          exact dpa_snoc (dpa_mono e10 da9) (.tup (.of upd_same) (.cons (.int _) (.cons (.int _) (.cons (.int _) .nil))))
        · rw [List.map_append, hws, take_more1 hj]; rfl
        · rcases List.mem_append.mp hu with hu | hu
          · exact hpr u hu
          · rw [List.mem_singleton.mp hu]
            obtain ⟨h1, h2, h3⟩ := hin
            exact ⟨h1, h2, by show pu.2 < 100; omega⟩
      · rintro σ H' ⟨F', v7, v8, v9, es, ws, rfl, e, w9, da9, hws, hpr⟩
        rw [List.length_map, List.take_length] at hws
        refine ⟨_, rfl, D2, _, rfl, .inl ⟨.of w9.at_, fun t ht => ?_⟩⟩
        obtain ⟨w10, e10⟩ := w9.drop.fix ht (.tup es)
        have eAll := e38.trans (e.trans e10)
        refine k _ _ _ ws eAll ⟨kn, kw, w10, rn.mono fun v b h => dp_mono eAll h, rw'.mono fun v b h => dp_mono eAll h, hl⟩ (.tup (.of upd_same) (dpa_mono e10 da9)) ?_
        have hcz : ∀ x ∈ cs, x ∈ zs := fun x hx => by
          obtain ⟨b, hb, rfl⟩ := List.mem_map.mp (hcp.mem_iff.mp hx)
          exact List.mem_of_getElem? (hpick b hb).2
        have hcn : cs.Nodup := by
          refine hcp.nodup_iff.mpr (List.pairwise_map.mpr (bup.imp_of_mem fun {a b} ha hb hab h => ?_))
          obtain ⟨h0, hza⟩ := hpick a ha
          obtain ⟨_, hzb⟩ := hpick b hb
          rw [h] at hza
          have ia := (List.getElem?_eq_some_iff.mp hza)
          have ib := (List.getElem?_eq_some_iff.mp hzb)
          have hidx := (List.getElem_inj ndz).mp (ia.2.trans ib.2.symm)
          have na : 0 ≤ (a + r5) % (zs.length : Int) := Int.emod_nonneg _ (by omega)
          have nb : 0 ≤ (b + r5) % (zs.length : Int) := Int.emod_nonneg _ (by omega)
          have ba := bin a ha
          have bb := bin b hb
          have := spot_inj (m := zs.length) (r := r5) h0 ⟨ba.1, by omega⟩ ⟨bb.1, by omega⟩ (by omega)
          omega
        refine ⟨fun u hu => ?_, fun i hi => ?_, ?_, hpr, ?_⟩
        · have : u.1 ∈ cs ++ ns := by rw [← hws]; exact List.mem_map_of_mem (f := (·.1)) hu
          rcases List.mem_append.mp this with h | h
          · exact .inr ((memz _).mp (hcz _ h))
          · exact .inl h
        · have : i ∈ ws.map (·.1) := by rw [hws]; exact List.mem_append.mpr (.inr hi)
          obtain ⟨u, hu, e⟩ := List.mem_map.mp this
          exact ⟨u, hu, e⟩
        · rw [hws]
          exact List.pairwise_append.mpr ⟨le_strict hcn hcs, hup, fun a ha b hb => htop a ((memz _).mp (hcz _ ha)) b hb⟩
        · have := congrArg List.length hws
          rw [List.length_map, List.length_append] at this
          omega

end
end Q

set_option Elab.async false
set_option linter.all false
set_option maxRecDepth 100000
set_option maxHeartbeats 8000000
namespace Q
open PySem PySem.Spec PyProof.Rows L2 TL PW Rc
section
variable {P : Program} {w : World} {K : PySem.W.Frag} {mg : Str → Option Value} {base : Heap} {A : Ad}
def spMTop (K : PySem.W.Frag) : Sp := fun vs H Q _ => ∃ (F0 H0 F : Hp) (M : List (Addr × HO)) (p c n wr : Addr) (m : Nat) (f : FSt) (is : List Int), vs = [.ref p] ∧ MW K F0 H0 F H M p c n wr m f ∧ is.length < 64 ∧ (∀ i, (f.wards i).isSome = true → i ∈ is) ∧
  ∀ t H', TopOf f t → Same H H' → Q (.int t) H'
theorem ok_L_top (T : Txt K mg A) : FnOk P w K mg base CX0 1 A.a_L_top A.d_L_top ["_law_model"] (spMTop K) := by
  refine T.F_L_top.ok sc_L_top (fun vs H Q E h => ?_) (fun cdv A' outer s H vs Q E hr h => ?_)
  · obtain ⟨F0, H0, F, M, p, c, n, wr, m, f, is, rfl, _⟩ := h; rfl
  · obtain ⟨F0, H0, F, M, p, c, n, wr, m, f, is, rfl, ⟨kn, kw, w0, rn, rw', hl⟩, hi1, hi2, k⟩ := h
    have hu64 := hu64_of hr
    obtain ⟨js, hjs, ndj, memj⟩ := rw'.keys inl_inj
    have hj64 : js.length < 64 := Nat.lt_of_le_of_lt (nodup_len ndj fun i hi => hi2 i ((memj i).mp hi)) hi1
    refine ⟨_, pss_one (ps_ret (pe_callB (cr_max rfl) (by rfl) T.n_max (by decide +kernel) (pa_cons (pe_op (op_addK (K := K) rfl) (pe_lst (pa_cons (pe_int) pa_nil)) (pe_callB (call_sortedDI rfl) (by rfl) T.n_sorted (by decide +kernel) (pa_cons (pe_ix (ix_K (K := K) rfl) (pv 0) (pe_int) (fun _ _ => rfl)) pa_nil))) pa_nil))), ?_⟩
    refine ⟨by show 1 ≤ sizeLine; decide, fun z hz => ?_⟩
    obtain ⟨w1, e1⟩ := w0.fix hz (.lst [.int 0])
    have g1 : Same H (upd H z (.lst [.int 0])) := same_new hz
    refine ⟨_, rfl, .inl ⟨p, _, 2, _, rfl, rfl, mat w1, atI_nat (j := 2) rfl, wr, kw, js, rfl, .inl (w1.atM (L := [_, _, _])), hjs, hj64, fun zs q1 hperm hsort hq1 => ?_⟩⟩
    have g2 := same_new (o := .lst (zs.map V.int)) hq1
    have hz64 : zs.length < 64 := by rw [hperm.length_eq]; exact hj64
    refine .inr (.inr (.inl ⟨z, q1, _, _, rfl, rfl, g2 _ _ upd_same, upd_same, small (by rw [List.length_map]; show 1 + _ ≤ _; omega), fun q8 hq8 => ?_⟩))
    have g3 := same_new (o := .lst ([.int 0] ++ zs.map V.int)) hq8
    refine ⟨q8, 0 :: zs, rfl, .of upd_same, by show 0 < zs.length + 1; omega, fun t ht hall => ?_⟩
    have memz : ∀ i, i ∈ zs ↔ (f.wards i).isSome = true := fun i => (hperm.mem_iff).trans (memj i)
    refine k t _ ⟨hall 0 (by simp), ?_, fun i hi => hall i (by simp [(memz i).mpr hi])⟩ (g1.trans (g2.trans g3))
    rcases List.mem_cons.mp ht with h | h
    · exact .inl h
    · exact .inr ((memz t).mp h)

end
end Q

set_option Elab.async false
set_option linter.all false
set_option maxRecDepth 100000
set_option maxHeartbeats 8000000
namespace Q
open PySem PySem.Spec PyProof.Rows L2 TL PW Rc
section
variable {P : Program} {w : World} {K : PySem.W.Frag} {mg : Str → Option Value} {base : Heap} {A : Ad}
theorem range_at {α : Type} {f : Nat → α} {n i : Nat} {x : α} (h : ((List.range n).map f)[i]? = some x) : i < n ∧ x = f i := by
  rw [List.getElem?_map] at h
  by_cases c : i < n
  · rw [List.getElem?_range c] at h
    exact ⟨c, (Option.some.inj h).symm⟩
  · rw [List.getElem?_eq_none (by simpa using c)] at h
    cases h
def spMPut (K : PySem.W.Frag) : Sp := fun vs H Q _ => ∃ (F0 H0 F : Hp) (M : List (Addr × HO)) (p c n wr : Addr) (m : Nat) (f : FSt) (is : List Int) (x : Str) (ro : Addr) (R : List Int), vs = [.ref p, .str x, .ref ro] ∧ MW K F0 H0 F H M p c n wr m f ∧ Held f x ∧
  SqL K F ro (R.map V.int) ∧ Drawn szK R ∧ is.length < 64 ∧ (∀ i, (f.wards i).isSome = true → i ∈ is) ∧ (∀ i, (f.wards i).isSome = true → i ≤ f.top) ∧ 2 ≤ f.caps.length ∧ f.caps.length ≤ 100 ∧ m + 20 ≤ 1000000 ∧
  ∀ v F' H' o (k : Nat) ws, 0 ≤ o → o ≤ 50000 → k ≤ 5 → Same F F' → EntOk (f.forget x) (freshN f o k) ws → MW K F0 H0 F' H' M p c n wr (m + 20) (f.take (.put x (freshN f o k) ws)) → Dp K F' v (encR (.put x (freshN f o k) ws)) → Q v H'
theorem off_at {d : Int} (h : 0 ≤ d ∧ d < 4) : ∃ o : Int, atI [V.int 0, .int 0, .int 3, .int 50000] d = some (.int o) ∧ 0 ≤ o ∧ o ≤ 50000 := by
  have : d = 0 ∨ d = 1 ∨ d = 2 ∨ d = 3 := by omega
  rcases this with rfl | rfl | rfl | rfl
  · exact ⟨0, rfl, by decide, by decide⟩
  · exact ⟨0, rfl, by decide, by decide⟩
  · exact ⟨3, rfl, by decide, by decide⟩
  · exact ⟨50000, rfl, by decide, by decide⟩
theorem cnt_at {d : Int} (h : 0 ≤ d ∧ d < 8) : ∃ k : Nat, atI [V.int 0, .int 1, .int 2, .int 3, .int 1, .int 2, .int 3, .int 5] d = some (.int (k : Int)) ∧ k ≤ 5 := by
  have : d = 0 ∨ d = 1 ∨ d = 2 ∨ d = 3 ∨ d = 4 ∨ d = 5 ∨ d = 6 ∨ d = 7 := by omega
  rcases this with rfl | rfl | rfl | rfl | rfl | rfl | rfl | rfl
  · exact ⟨0, rfl, by decide⟩
  · exact ⟨1, rfl, by decide⟩
  · exact ⟨2, rfl, by decide⟩
  · exact ⟨3, rfl, by decide⟩
  · exact ⟨1, rfl, by decide⟩
  · exact ⟨2, rfl, by decide⟩
  · exact ⟨3, rfl, by decide⟩
  · exact ⟨5, rfl, by decide⟩
theorem ok_L_put (T : Txt K mg A) : FnOk P w K mg base CX0 3 A.a_L_put A.d_L_put ["_law_model", "_law_name", "_law_row"] (spMPut K) := by
  refine T.F_L_put.ok sc_L_put (fun vs H Q E h => ?_) (fun cdv A' outer s H vs Q E hr h => ?_)
  · obtain ⟨F0, H0, F, M, p, c, n, wr, m, f, is, x, ro, R, rfl, _⟩ := h; rfl
  · obtain ⟨F0, H0, F, M, p, c, n, wr, m, f, is, x, ro, R, rfl, L, held, hro, dr, hi1, hi2, htop, hc2, hc100, hm, k⟩ := h
    have hu64 := hu64_of hr
    obtain ⟨r2, R2, b2, c2⟩ := drawn_at dr (i := 2) (s := 8) rfl
    obtain ⟨r3, R3, b3, c3⟩ := drawn_at dr (i := 3) (s := 4) rfl
    obtain ⟨o, ho, o0, o1⟩ := off_at ⟨b3, c3⟩
    obtain ⟨cn, hcn, hcn5⟩ := cnt_at ⟨b2, c2⟩
    refine ⟨_, pss_cons (ps_expr (pe_call (ok_L_forget T) (hr.mono (by decide)) rfl T.g_L_forget T.F_L_forget.kp T.b_L_forget .nil pass0 (pa_cons (pv 0) (pa_cons (pv 1) pa_nil))))
  (pss_cons (ps_set (i := 3) sc_L_put.nd rfl (Or.inr rfl) (pe_op (op_addK (K := K) rfl) (pe_op (op_addK (K := K) rfl) (pe_ix (ix_K (K := K) rfl) (pv 0) (pe_int) (fun _ _ => rfl)) (pe_int)) (pe_ix (ix_K (K := K) rfl) (pe_tup (pa_cons (pe_int) (pa_cons (pe_int) (pa_cons (pe_int) (pa_cons (pe_int) pa_nil))))) (pe_ix (ix_K (K := K) rfl) (pv 2) (pe_int) (fun _ _ => rfl)) (fun _ _ => rfl))))
  (pss_cons (ps_setLc (i := 4) (own := [("_law_step", 6)]) rfl sc_L_put.nd rfl rfl (sw_true rfl rfl rfl (by decide +kernel)) (pi_range1 rfl T.n_range (pa_cons (pe_ix (ix_K (K := K) rfl) (pe_tup (pa_cons (pe_int) (pa_cons (pe_int) (pa_cons (pe_int) (pa_cons (pe_int) (pa_cons (pe_int) (pa_cons (pe_int) (pa_cons (pe_int) (pa_cons (pe_int) pa_nil))))))))) (pe_ix (ix_K (K := K) rfl) (pv 2) (pe_int) (fun _ _ => rfl)) (fun _ _ => rfl)) pa_nil)) (blkOk_by (own := [("_law_step", 6)]) (N := ["_law_model", "_law_name", "_law_row", "_law_first", "_law_numbers", "_law_entries_here", "_law_step"]) (sc := defScope s_L_put) (by decide +kernel)) (fun _ _ _ _ _ => pg_name (i := 6) sc_L_put.nd rfl (Or.inl rfl)) (fun _ _ _ _ _ => pts_nil) (fun _ _ _ _ _ => pe_op (op_addK (K := K) rfl) (pv 3) (pv 6)))
  (pss_cons (ps_set (i := 5) sc_L_put.nd rfl (Or.inl rfl) (pe_call (ok_L_entries T) (hr.mono (by decide)) rfl T.g_L_entries T.F_L_entries.kp T.b_L_entries .nil pass0 (pa_cons (pv 0) (pa_cons (pv 2) (pa_cons (pv 4) pa_nil)))))
  (pss_cons (ps_asg (pe_callTy (call_tupleK (K := K) rfl) (by rfl) T.n_tuple (by decide +kernel) (pa_cons (pv 4) pa_nil)) (pg_sub (pe_ix (ix_K (K := K) rfl) (pv 0) (pe_int) (fun _ _ => rfl)) (pv 1) (set_dict (PW.hu1_of hu64))))
  (pss_cons (ps_expr (pe_call (ok_L_set T) (hr.mono (by decide)) rfl T.g_L_set T.F_L_set.kp T.b_L_set .nil pass0 (pa_cons (pv 0) (pa_cons (pv 5) pa_nil))))
  (pss_one (ps_ret (pe_tup (pa_cons (pe_str) (pa_cons (pv 1) (pa_cons (pe_callTy (call_tupleK (K := K) rfl) (by rfl) T.n_tuple (by decide +kernel) (pa_cons (pv 4) pa_nil)) (pa_cons (pv 5) pa_nil)))))))))))), ?_⟩
    refine ⟨_, rfl, _, rfl, F0, H0, F, M, p, c, n, wr, m, f, x, rfl, L, held, fun F1 H1 e1 L1 => ?_⟩
    obtain ⟨kn, kw, w1, rn, rw', hl⟩ := L1
    refine ⟨_, rfl, .inl ⟨p, _, 3, _, rfl, rfl, mat w1, atI_nat (j := 3) rfl, .inl ⟨_, _, rfl, rfl, by show 4 ≤ sizeLine; decide, fun z hz => ?_⟩⟩⟩
    obtain ⟨w2, e2⟩ := w1.fix hz (.tup [.int 0, .int 0, .int 3, .int 50000])
    refine ⟨_, rfl, row_ix (same_l ((e1.trans e2).trans w2.fh) hro) R3 rfl (.inr (.inl ⟨z, _, _, _, rfl, rfl, .of upd_same, ho, .inl ⟨_, _, rfl, rfl, ?_⟩⟩))⟩
    refine ⟨by show 8 ≤ sizeLine; decide, fun z2 hz2 => ?_⟩
    obtain ⟨w3, e3⟩ := w2.fix hz2 (.tup [.int 0, .int 1, .int 2, .int 3, .int 1, .int 2, .int 3, .int 5])
    have e13 := e1.trans (e2.trans e3)
    refine ⟨_, rfl, row_ix (same_l (e13.trans w3.fh) hro) R2 rfl (.inr (.inl ⟨z2, _, _, _, rfl, rfl, .of upd_same, hcn, (cn : Int), rfl, by omega, by omega, fun D hD => ?_⟩))⟩
    refine lc_wdR (K := K) (n := cn) ((freshN f o cn).map PyData.int) (by unfold freshN; simp) w3 hD (by omega) ?_ ?_
    · intro i d F4 H4 acc Q1 hi hd e4 w4 kk
      obtain ⟨y, hy, rfl⟩ := item_map hd
      obtain ⟨_, rfl⟩ := range_at hy
      refine ⟨rfl, _, rfl, _, rfl, .inl ⟨_, _, rfl, rfl, ?_⟩⟩
      exact kk _ F4 H4 (.refl w4.fh) (.int _)
    · intro vs4 F4 H4 e4 w4 da4
      have ev := dpa_ints da4
      subst ev
      obtain ⟨w5, e5⟩ := w4.freeze
      have e15 := e13.trans (e4.trans e5)
      have L5 : MW K F0 H0 _ H4 M p c n wr m (f.forget x) := ⟨kn, kw, w5, rn.mono fun v b h => dp_mono (e2.trans (e3.trans (e4.trans e5))) h, rw'.mono fun v b h => dp_mono (e2.trans (e3.trans (e4.trans e5))) h, hl⟩
      have hfg : ∀ i, ((f.forget x).wards i).isSome = true → (f.wards i).isSome = true := fun i hi => by
        have hi' : (if i ∈ (f.names x).getD [] then none else f.wards i).isSome = true := hi
        split at hi'
        · cases hi'
        · exact hi'
      have hfn : ∀ j ∈ freshN f o cn, f.top < j := fun j hj => by
        obtain ⟨i, _, rfl⟩ := List.mem_map.mp hj
        omega
      have hup : (freshN f o cn).Pairwise (· < ·) := by
        unfold freshN
        rw [List.pairwise_map]
        refine List.Pairwise.imp ?_ (List.pairwise_lt_range (n := cn))
        intro i j hij
        omega
      have hnl : (freshN f o cn).length = cn := by unfold freshN; simp
      refine ⟨_, rfl, _, rfl, _, rfl, F0, H0, _, M, p, c, n, wr, m, f.forget x, is, ro, D, R, freshN f o cn, rfl, L5, same_l e15 hro, dr, upd_same, by omega, hup, hi1, fun i hi => hi2 i (hfg i hi), fun i hi j hj => by have := htop i (hfg i hi); have := hfn j hj; omega, hc2, hc100, fun v6 F6 H6 ws e6 L6 D6 ent => ?_⟩
      obtain ⟨kn6, kw6, w6, rn6, rw6, hl6⟩ := L6
      have hws := ent.few
      have hD6 : SqL K F6 D ((freshN f o cn).map V.int) := .of (e6 _ _ upd_same)
      -- the name
      refine ⟨_, rfl, D, _, rfl, .inl ⟨same_l w6.fh hD6, fun t ht => ?_⟩⟩
      obtain ⟨w7, e7⟩ := w6.fix ht (.tup ((freshN f o cn).map V.int))
      refine ⟨_, rfl, .inl ⟨p, _, 1, _, rfl, rfl, mat w7, atI_nat (j := 1) rfl, _, rfl, n, _, rfl, DPut.k (k := .inr x) (w7.atM (L := [_, _])) (small' (by omega)), ?_⟩⟩
      have w8 := w7.setM (L := [_, _]) (.dK (putK kn6 (.inr x) (.ref t)))
      have hlp := length_putK kn6 (.inr x) (.ref t)
      have rn8 := (rn6.mono fun v b h => dp_mono e7 h).put inr_inj (x := x) (b := freshN f o cn) (show nmR K (upd F6 t (.tup ((freshN f o cn).map V.int))) (.ref t) (freshN f o cn) from .tup (.of upd_same) dpa_of_ints)
      have L8 : MW K F0 H0 _ _ M p c n wr (m + 1) { f.forget x with names := fun y => if y = x then some (freshN f o cn) else (f.forget x).names y } := ⟨_, kw6, w8, rn8, rw6.mono fun v b h => dp_mono e7 h, by omega⟩
      refine ⟨_, rfl, _, rfl, F0, H0, _, M, p, c, n, wr, m + 1, _, v6, ws, rfl, L8, dp_mono e7 D6, by omega, fun F9 H9 e9 L9 => ?_⟩
      rw [put_same ent.new] at L9
      obtain ⟨kn9, kw9, w9, rn9, rw9, hl9⟩ := L9
      have hD9 : SqL K F9 D ((freshN f o cn).map V.int) := same_l (e7.trans e9) hD6
      refine ⟨_, rfl, _, rfl, D, _, rfl, .inl ⟨same_l w9.fh hD9, fun t2 ht2 => ?_⟩⟩
      obtain ⟨w10, e10⟩ := w9.fix ht2 (.tup ((freshN f o cn).map V.int))
      refine ⟨_, rfl, by show 4 ≤ sizeLine; decide, fun t3 ht3 => ?_⟩
      obtain ⟨w11, e11⟩ := w10.fix ht3 (.tup [.str wPut, .str x, .ref t2, v6])
      have eEnd := e10.trans e11
      have eAll := e15.trans (e6.trans (e7.trans (e9.trans eEnd)))
      refine k _ _ _ o cn ws o0 o1 hcn5 eAll ent ⟨kn9, kw9, w11, rn9.mono fun v b h => dp_mono eEnd h, rw9.mono fun v b h => dp_mono eEnd h, by omega⟩ ?_
      exact .tup (.of upd_same) (.cons (.str _) (.cons (.str _) (.cons (dp_mono e11 (.tup (.of upd_same) dpa_of_ints)) (.cons (dp_mono (e7.trans (e9.trans eEnd)) D6) .nil))))

end
end Q

set_option Elab.async false
set_option linter.all false
set_option maxRecDepth 100000
set_option maxHeartbeats 8000000
namespace Q
open PySem PySem.Spec PyProof.Rows L2 TL PW Rc
section
variable {P : Program} {w : World} {K : PySem.W.Frag} {mg : Str → Option Value} {base : Heap} {A : Ad}
/-! ### a record of the law -/
def spMRecord (K : PySem.W.Frag) : Sp := fun vs H Q _ => ∃ (F0 H0 F : Hp) (M : List (Addr × HO)) (p c n wr : Addr) (m : Nat) (f : FSt) (xs : List Str) (B : Int) (nq ro : Addr) (R : List Int), vs = [.ref p, .ref nq, .ref ro] ∧ MW K F0 H0 F H M p c n wr m f ∧ Good xs B f ∧ xs.length = 8 ∧ (∀ x ∈ xs, NameOk x) ∧
  SqL K F nq (xs.map V.str) ∧ SqL K F ro (R.map V.int) ∧ Drawn szK R ∧ m + 20 ≤ 1000000 ∧ B ≤ 900000000 ∧
  ∀ v F' H' r f', Same F F' → MW K F0 H0 F' H' M p c n wr (m + 20) f' → Dp K F' v (encR r) → Good xs (B + 50010) f' → RecOk r → (r.isPic = true → ∃ names ws, r = .picture f'.caps names ws ∧ PicOf f' names ws ∧ TopOf f' f'.top) →
    (r.isPic = false → f' = f.take r ∧ ∀ s c ws, r = .cap s c ws → s.toNat < f.caps.length) → Q v H'
theorem mw_more {F0 H0 F H : Hp} {M : List (Addr × HO)} {p c n wr : Addr} {m m' : Nat} {f : FSt} (h : m ≤ m') (L : MW K F0 H0 F H M p c n wr m f) : MW K F0 H0 F H M p c n wr m' f := by
  obtain ⟨kn, kw, a, b, c, d⟩ := L
  exact ⟨kn, kw, a, b, c, Nat.le_trans d h⟩
theorem mw_fix {F0 H0 F H : Hp} {M : List (Addr × HO)} {p c n wr q : Addr} {m : Nat} {f : FSt} (L : MW K F0 H0 F H M p c n wr m f) (h : H q = none) (o : HO) : MW K F0 H0 (upd F q o) (upd H q o) M p c n wr m f ∧ Same F (upd F q o) := by
  obtain ⟨kn, kw, a, b, c, d⟩ := L
  obtain ⟨w, e⟩ := a.fix h o
  exact ⟨⟨kn, kw, w, b.mono fun v b h => dp_mono e h, c.mono fun v b h => dp_mono e h, d⟩, e⟩
theorem mw_wd {F0 H0 F H : Hp} {M : List (Addr × HO)} {p c n wr : Addr} {m : Nat} {f : FSt} (L : MW K F0 H0 F H M p c n wr m f) : ∃ kn kw, Wd F0 H0 F H ([(p, mdl c n wr f.top), (c, .lst (f.caps.map V.int)), (n, .dK kn), (wr, .dK kw)] ++ M) := by
  obtain ⟨kn, kw, a, _⟩ := L
  exact ⟨kn, kw, a⟩
theorem mw_fh {F0 H0 F H : Hp} {M : List (Addr × HO)} {p c n wr : Addr} {m : Nat} {f : FSt} (L : MW K F0 H0 F H M p c n wr m f) : Same F H := by
  obtain ⟨kn, kw, a, _⟩ := L
  exact a.fh
theorem ok_L_record (T : Txt K mg A) : FnOk P w K mg base CX0 4 A.a_L_record A.d_L_record ["_law_model", "_law_names_here", "_law_row"] (spMRecord K) := by
  refine T.F_L_record.ok sc_L_record (fun vs H Q E h => ?_) (fun cdv A' outer s H vs Q E hr h => ?_)
  · obtain ⟨F0, H0, F, M, p, c, n, wr, m, f, xs, B, nq, ro, R, rfl, _⟩ := h; rfl
  · obtain ⟨F0, H0, F, M, p, c, n, wr, m, f, xs, B, nq, ro, R, rfl, L, g, x8, hxs, hnq, hro, dr, hm, hB, k⟩ := h
    have hu64 := hu64_of hr
    obtain ⟨r0, R0, b0, c0⟩ := drawn_at dr (i := 0) (s := 8) rfl
    obtain ⟨r1, R1, b1, c1⟩ := drawn_at dr (i := 1) (s := 8) rfl
    obtain ⟨r4, R4, b4, c4⟩ := drawn_at dr (i := 4) (s := 41) rfl
    obtain ⟨r5, R5, b5, c5⟩ := drawn_at dr (i := 5) (s := 60) rfl
    obtain ⟨x, hx⟩ : ∃ x, xs[r1.toNat]? = some x := ⟨_, List.getElem?_eq_getElem (by omega)⟩
    have hxm := List.mem_of_getElem? hx
    have few := g.few (Nat.le_of_eq x8)
    obtain ⟨fw1, fw2, fw3, fw4, fw5⟩ := id few
    have hcp2 := g.caps2
    have hcp6 := g.caps6
    have eH := mw_fh L
    refine ⟨_, pss_cons (ps_set (i := 3) sc_L_record.nd rfl (Or.inl rfl) (pe_ix (ix_K (K := K) rfl) (pv 1) (pe_ix (ix_K (K := K) rfl) (pv 2) (pe_int) (fun _ _ => rfl)) (fun _ _ => rfl)))
  (Evl.pss_cut (ps_if (PW.pt (pw_and (pt_cmpR (op_eqK (K := K) rfl hu64) (pe_ix (ix_K (K := K) rfl) (pv 2) (pe_int) (fun _ _ => rfl)) (pe_int) (nomark _)) (pw_and1 (pt_cmp (pc_din (PW.hu1_of hu64) (pv 3) (pe_ix (ix_K (K := K) rfl) (pv 0) (pe_int) (fun _ _ => rfl))))))) (pss_cons (ps_expr (pe_call (ok_L_forget T) (hr.mono (by decide)) rfl T.g_L_forget T.F_L_forget.kp T.b_L_forget .nil pass0 (pa_cons (pv 0) (pa_cons (pv 3) pa_nil))))
    (pss_one (ps_ret (pe_tup (pa_cons (pe_str) (pa_cons (pv 3) pa_nil)))))) (pss_nil))
  (pss_cons (ps_if (pt_cmpR (op_ltK (K := K) rfl) (pe_ix (ix_K (K := K) rfl) (pv 2) (pe_int) (fun _ _ => rfl)) (pe_int) (nomark _)) (pss_one (ps_ret (pe_call (ok_L_put T) (hr.mono (by decide)) rfl T.g_L_put T.F_L_put.kp T.b_L_put .nil pass0 (pa_cons (pv 0) (pa_cons (pv 3) (pa_cons (pv 2) pa_nil)))))) (pss_nil))
  (pss_cons (ps_if (pt_cmpR (op_eqK (K := K) rfl hu64) (pe_ix (ix_K (K := K) rfl) (pv 2) (pe_int) (fun _ _ => rfl)) (pe_int) (nomark _)) (pss_cons (ps_asg (pe_call (ok_L_top T) (hr.mono (by decide)) rfl T.g_L_top T.F_L_top.kp T.b_L_top .nil pass0 (pa_cons (pv 0) pa_nil)) (pg_sub (pv 0) (pe_int) set_list))
    (pss_one (ps_ret (pe_call (ok_L_picture T) (hr.mono (by decide)) rfl T.g_L_picture T.F_L_picture.kp T.b_L_picture .nil pass0 (pa_cons (pv 0) pa_nil))))) (pss_nil))
  (pss_cons (ps_set (i := 4) sc_L_record.nd rfl (Or.inl rfl) (pe_call (ok_L_entries T) (hr.mono (by decide)) rfl T.g_L_entries T.F_L_entries.kp T.b_L_entries .nil pass0 (pa_cons (pv 0) (pa_cons (pv 2) (pa_cons (pe_lst (pa_nil)) pa_nil)))))
  (pss_cons (ps_expr (pe_call (ok_L_set T) (hr.mono (by decide)) rfl T.g_L_set T.F_L_set.kp T.b_L_set .nil pass0 (pa_cons (pv 0) (pa_cons (pv 4) pa_nil))))
  (pss_cons (ps_if (pt_cmpR (op_eqK (K := K) rfl hu64) (pe_ix (ix_K (K := K) rfl) (pv 2) (pe_int) (fun _ _ => rfl)) (pe_int) (nomark _)) (pss_one (ps_ret (pe_tup (pa_cons (pe_str) (pa_cons (pv 4) pa_nil))))) (pss_nil))
  (pss_cons (ps_set (i := 5) sc_L_record.nd rfl (Or.inl rfl) (pe_op op_mod (pe_callTy call_intU (by rfl) T.n_int (by decide +kernel) (pa_cons (pe_ix (ix_K (K := K) rfl) (pv 2) (pe_int) (fun _ _ => rfl)) pa_nil)) (pe_callB (call_lenK (K := K) rfl) (by rfl) T.n_len (by decide +kernel) (pa_cons (pe_ix (ix_K (K := K) rfl) (pv 0) (pe_int) (fun _ _ => rfl)) pa_nil))))
  (pss_cons (ps_asg (pe_ix (ix_K (K := K) rfl) (pv 2) (pe_int) (fun _ _ => rfl)) (pg_sub (pe_ix (ix_K (K := K) rfl) (pv 0) (pe_int) (fun _ _ => rfl)) (pv 5) set_list))
  (pss_one (ps_ret (pe_tup (pa_cons (pe_str) (pa_cons (pv 5) (pa_cons (pe_ix (ix_K (K := K) rfl) (pv 2) (pe_int) (fun _ _ => rfl)) (pa_cons (pv 4) pa_nil))))))))))))))), ?_⟩
    refine ⟨_, rfl, _, rfl, row_ix (same_l eH hro) R1 rfl (str_ix (same_l eH hnq) b1 hx ?_)⟩
    refine ⟨fun σ' H' => σ' = [some (.ref p), some (.ref nq), some (.ref ro), some (.str x), none, none] ∧ H' = H, ?_, ?_⟩
    · refine ⟨_, rfl, row_ix (same_l eH hro) R0 rfl (.inl ⟨rfl, _, rfl, iteD (fun cc => ?_) (fun cc => ?_)⟩)⟩
      · obtain ⟨kn, kw, w0, rn, rw', hl⟩ := id L
        refine ⟨_, rfl, _, rfl, .inl ⟨p, _, 1, _, rfl, rfl, mat w0, atI_nat (j := 1) rfl, n, _, rfl, DGet.k (k := .inr x) (w0.atM (L := [_, _])), _, rfl, ?_⟩⟩
        refine iteB (fun cc => ?_) (fun cc => ?_)
        · refine ⟨_, rfl, _, rfl, F0, H0, F, M, p, c, n, wr, m, f, x, rfl, L, g.held x, fun F1 H1 e1 L1 => ?_⟩
          refine ⟨_, rfl, by show 2 ≤ sizeLine; decide, fun z hz => ?_⟩
          obtain ⟨L2, e2⟩ := mw_fix L1 hz (.tup [.str wErase, .str x])
          exact k _ _ _ (.erase x) _ (e1.trans e2) (mw_more (by omega) L2) (.tup (.of upd_same) (.cons (.str _) (.cons (.str _) .nil))) ((g.forget x).mono (by omega)) (hxs x hxm) (fun z => nomatch z) fun _ => ⟨rfl, fun s c ws z => nomatch z⟩
        · exact ⟨rfl, rfl⟩
      · exact iteF ⟨rfl, rfl⟩
    rintro σ' H' ⟨rfl, rfl⟩
    refine ⟨_, rfl, row_ix (same_l eH hro) R0 rfl (.inl ⟨_, _, rfl, rfl, _, rfl, iteD (fun cc => ?_) (fun cc => ?_)⟩)⟩
    · refine ⟨_, rfl, _, rfl, _, rfl, F0, H0, F, M, p, c, n, wr, m, f, numsOf xs f, x, ro, R, rfl, L, g.held x, hro, dr, fw3, fw4, g.le, hcp2, by omega, hm, fun v F' H' o kk ws o0 o1 k5 e' ent L' D' => ?_⟩
      exact k v F' H' _ _ e' L' D' (g.put hxm o0 o1 k5 ent) (putOk g hB hxs hxm o0 o1 k5 ent) (fun z => nomatch z) fun _ => ⟨rfl, fun s c ws z => nomatch z⟩
    refine ⟨_, rfl, row_ix (same_l eH hro) R0 rfl (.inl ⟨rfl, _, rfl, iteD (fun cc => ?_) (fun cc => ?_)⟩)⟩
    · -- a picture
      refine ⟨_, rfl, F0, H0, F, M, p, c, n, wr, m, f, numsOf xs f, rfl, L, fw3, fw4, fun t H1 ht s1 => ?_⟩
      obtain ⟨kn, kw, w0, rn, rw', hl⟩ := id L
      have w1 := w0.same s1
      refine ⟨_, rfl, p, _, _, 3, rfl, rfl, w1.atM (L := []), rfl, ?_⟩
      rw [mdl_top]
      have L2 : MW K F0 H0 F (upd H1 p (mdl c n wr t)) M p c n wr m { f with top := t } := ⟨kn, kw, w1.setM (L := []) (mdl c n wr t), rn, rw', hl⟩
      have g2 := g.topOf ht
      refine ⟨_, rfl, F0, H0, F, M, p, c, n, wr, m, _, xs, numsOf xs f, rfl, L2, few, fun names ws v F' H' pic e' L' D' => ?_⟩
      exact k v F' H' _ _ e' (mw_more (by omega) L') D' (g2.mono (by omega)) (picOk g2 hB (Nat.le_of_eq x8) hxs pic) (fun _ => ⟨names, ws, rfl, pic, ht⟩) (fun z => nomatch z)
    -- the entries
    refine ⟨_, rfl, _, rfl, Nat.zero_le _, fun z hz => ?_⟩
    obtain ⟨L1, e1⟩ := mw_fix L hz (.lst (([] : List Int).map V.int))
    refine ⟨F0, H0, _, M, p, c, n, wr, m, f, numsOf xs f, ro, z, R, [], rfl, L1, same_l e1 hro, dr, upd_same, by decide, List.Pairwise.nil, fw3, fw4, (fun i hi j hj => nomatch hj), hcp2, by omega, fun v F2 H2 ws e2 L2 D2 ent => ?_⟩
    have hwl := ent.few
    refine ⟨_, rfl, _, rfl, F0, H0, F2, M, p, c, n, wr, m, f, v, ws, rfl, L2, D2, by rw [List.length_nil] at hwl; omega, fun F3 H3 e3 L3 => ?_⟩
    have e03 := e1.trans (e2.trans e3)
    have e3H := mw_fh L3
    have g3 := g.setWs ent
    have wsok := wsOk_nil g hB ent
    refine ⟨_, rfl, row_ix (same_l (e03.trans e3H) hro) R0 rfl (.inl ⟨rfl, _, rfl, iteD (fun cc => ?_) (fun cc => ?_)⟩)⟩
    · refine ⟨_, rfl, by show 2 ≤ sizeLine; decide, fun z2 hz2 => ?_⟩
      obtain ⟨L4, e4⟩ := mw_fix L3 hz2 (.tup [.str wDeal, v])
      exact k _ _ _ (.deal ws) _ (e03.trans e4) (mw_more (by rw [List.length_nil] at hwl; omega) L4) (.tup (.of upd_same) (.cons (.str _) (.cons (dp_mono (e3.trans e4) D2) .nil))) (g3.mono (by omega)) wsok (fun z => nomatch z) fun _ => ⟨rfl, fun s c ws z => nomatch z⟩
    · obtain ⟨kn, kw, w3, rn, rw', hl⟩ := id L3
      have hcl : (f.setWs ws).caps.length = f.caps.length := congrArg List.length (setWs_caps ws f)
      have hm0 : 0 ≤ r5 % (f.caps.length : Int) := Int.emod_nonneg _ (by omega)
      have hm1 : r5 % (f.caps.length : Int) < (f.caps.length : Int) := Int.emod_lt_of_pos _ (by omega)
      refine ⟨_, rfl, row_ix (same_l (e03.trans e3H) hro) R5 rfl (.inl ⟨_, rfl, _, rfl, .inl ⟨p, _, 0, _, rfl, rfl, mat w3, atI_nat (j := 0) rfl, _, _, rfl, .inl ⟨_, .of (w3.atM (L := [_])), rfl⟩, _, _, rfl, rfl, by rw [List.length_map, hcl]; omega, ?_⟩⟩)⟩
      rw [List.length_map, hcl]
      refine ⟨_, rfl, row_ix (same_l (e03.trans e3H) hro) R4 rfl ?_⟩
      refine ⟨_, rfl, .inl ⟨p, _, 0, _, rfl, rfl, mat w3, atI_nat (j := 0) rfl, _, rfl, c, _, _, (r5 % (f.caps.length : Int)).toNat, rfl, rfl, w3.atM (L := [_]), ?_, ?_⟩⟩
      · unfold ixN
        rw [if_pos hm0, if_pos (by rw [List.length_map, hcl]; omega)]
      have w4 := w3.setM (L := [_]) (.lst (((f.setWs ws).caps.map V.int).set (r5 % (f.caps.length : Int)).toNat (.int r4)))
      have es : ((f.setWs ws).caps.map V.int).set (r5 % (f.caps.length : Int)).toNat (.int r4) = ((f.setWs ws).caps.set (r5 % (f.caps.length : Int)).toNat r4).map V.int := (List.map_set ..).symm
      rw [es] at w4 ⊢
      have L4 : MW K F0 H0 F3 _ M p c n wr (m + ws.length) { f.setWs ws with caps := (f.setWs ws).caps.set (r5 % (f.caps.length : Int)).toNat r4 } := ⟨kn, kw, w4, rn, rw', hl⟩
      have e4H := mw_fh L4
      refine ⟨_, rfl, _, rfl, row_ix (same_l (e03.trans e4H) hro) R4 rfl ⟨_, rfl, by show 4 ≤ sizeLine; decide, fun z2 hz2 => ?_⟩⟩
      obtain ⟨L5, e5⟩ := mw_fix L4 hz2 (.tup [.str wCap, .int (r5 % (f.caps.length : Int)), .int r4, v])
      have hc41 : NumOk r4 := by unfold NumOk; omega
      refine k _ _ _ (.cap (r5 % (f.caps.length : Int)) r4 ws) _ (e03.trans e5) (mw_more (by rw [List.length_nil] at hwl; omega) L5) (.tup (.of upd_same) (.cons (.str _) (.cons (.int _) (.cons (.int _) (.cons (dp_mono (e3.trans e5) D2) .nil))))) ((g3.setCap hc41).mono (by omega)) ⟨by unfold NumOk; omega, hc41, wsok⟩ (fun z => nomatch z) fun _ => ⟨?_, fun s c ws z => by cases z; omega⟩
      show _ = ({ f with caps := f.caps.set (r5 % (f.caps.length : Int)).toNat r4 } : FSt).setWs ws
      refine FSt.ext' ?_ ?_ ?_ ?_
      · show (f.setWs ws).caps.set (r5 % (f.caps.length : Int)).toNat r4 = _
        rw [setWs_caps, setWs_caps]
      · show (f.setWs ws).names = _
        rw [setWs_names, setWs_names]
      · exact setWs_same ws f _ rfl
      · show (f.setWs ws).top = _
        rw [setWs_top, setWs_top]

end
end Q

set_option Elab.async false
set_option linter.all false
set_option maxRecDepth 100000
set_option maxHeartbeats 8000000
namespace Q
open PySem PySem.Spec PyProof.Rows L2 TL PW Rc
section
variable {P : Program} {w : World} {K : PySem.W.Frag} {mg : Str → Option Value} {base : Heap} {A : Ad}
/-! ### ledger and model say the same -/
/-- a ledger at p and a model at p2, both of f -/
def BW (K : PySem.W.Frag) (A : Ad) (F0 H0 F H : Hp) (M : List (Addr × HO)) (p dx c n wr p2 c2 n2 w2 : Addr) (kn kw kn2 kw2 : List (Key × V)) (f : FSt) : Prop :=
  Wd F0 H0 F H ([(p, .ins A.A_Ledger dx (lf c n wr f.top)), (c, .lst (f.caps.map V.int)), (n, .dK kn), (wr, .dK kw), (p2, mdl c2 n2 w2 f.top), (c2, .lst (f.caps.map V.int)), (n2, .dK kn2), (w2, .dK kw2)] ++ M)
structure BD (K : PySem.W.Frag) (F : Hp) (kn kw kn2 kw2 : List (Key × V)) (f : FSt) : Prop where
  rn : DRep Sum.inr (nmR K F) kn f.names
  rw : DRep Sum.inl (wdR K F) kw f.wards
  rn2 : DRep Sum.inr (nmR K F) kn2 f.names
  rw2 : DRep Sum.inl (wdR K F) kw2 f.wards
  few : ∀ x ns, f.names x = some ns → ns.length ≤ 100
  caps : f.caps.length ≤ 100
theorem BD.mono {F F' : Hp} {kn kw kn2 kw2 : List (Key × V)} {f : FSt} (d : BD K F kn kw kn2 kw2 f) (e : Same F F') : BD K F' kn kw kn2 kw2 f :=
  ⟨d.rn.mono fun v b h => dp_mono e h, d.rw.mono fun v b h => dp_mono e h, d.rn2.mono fun v b h => dp_mono e h, d.rw2.mono fun v b h => dp_mono e h, d.few, d.caps⟩
def spSays (K : PySem.W.Frag) (A : Ad) : Sp := fun vs H Q _ => ∃ (F0 H0 F : Hp) (M : List (Addr × HO)) (p dx c n wr p2 c2 n2 w2 : Addr) (kn kw kn2 kw2 : List (Key × V)) (f : FSt), vs = [.ref p, .ref p2] ∧ BW K A F0 H0 F H M p dx c n wr p2 c2 n2 w2 kn kw kn2 kw2 f ∧ BD K F kn kw kn2 kw2 f ∧
  ∀ F' H', Same F F' → BW K A F0 H0 F' H' M p dx c n wr p2 c2 n2 w2 kn kw kn2 kw2 f → Q (.bl true) H'
theorem al_ns {n : Nat} {ns : List Int} (h : ns.length ≤ 1000000) : AL (n + 1) (encNs ns) := .tup (fun d hd => by obtain ⟨i, _, rfl⟩ := List.mem_map.mp hd; exact .int i) (by rw [List.length_map]; exact h)
theorem ok_L_says (T : Txt K mg A) : FnOk P w K mg base CX0 6 A.a_L_says A.d_L_says ["_law_ledger", "_law_model"] (spSays K A) := by
  refine T.F_L_says.ok sc_L_says (fun vs H Q E h => ?_) (fun cdv A' outer s H vs Q E hr h => ?_)
  · obtain ⟨F0, H0, F, M, p, dx, c, n, wr, p2, c2, n2, w2, kn, kw, kn2, kw2, f, rfl, _⟩ := h; rfl
  · obtain ⟨F0, H0, F, M, p, dx, c, n, wr, p2, c2, n2, w2, kn, kw, kn2, kw2, f, rfl, w0, D, k⟩ := h
    have hu64 := hu64_of hr
    have hu65 := hu65_of hr
    have hcl := D.caps
    refine ⟨_, pss_cons (ps_if (PW.pt (pw_or (pt_not (pt_val (pe_callB (call_isiK1 (K := K) rfl) (by rfl) T.n_isinstance (by decide +kernel) (pa_cons (pe_fldK (K := K) rfl (pv 0) rfl) (pa_cons (pe_bltn (v := .ty "list") (by rfl) T.n_list (by decide +kernel) rfl) pa_nil))))) (pw_or1 (pt_not (pt_val (pe_call (ok_L_alikeN T 3) (hr.mono (by decide)) rfl T.g_L_alike T.F_L_alike.kp T.b_L_alike .nil pass0 (pa_cons (pe_callTy (call_tupleK (K := K) rfl) (by rfl) T.n_tuple (by decide +kernel) (pa_cons (pe_fldK (K := K) rfl (pv 0) rfl) pa_nil)) (pa_cons (pe_callTy (call_tupleK (K := K) rfl) (by rfl) T.n_tuple (by decide +kernel) (pa_cons (pe_ix (ix_K (K := K) rfl) (pv 1) (pe_int) (fun _ _ => rfl)) pa_nil)) pa_nil)))))))) (pss_one (ps_ret (pe_bl))) (pss_nil))
  (pss_cons (ps_if (PW.pt (pw_or (pt_not (pt_val (pe_callB (call_isiK1 (K := K) rfl) (by rfl) T.n_isinstance (by decide +kernel) (pa_cons (pe_fldK (K := K) rfl (pv 0) rfl) (pa_cons (pe_bltn (v := .ty "dict") (by rfl) T.n_dict (by decide +kernel) rfl) pa_nil))))) (pw_or1 (pt_cmpR (op_neK (K := K) rfl hu64) (pe_callB call_lenD (by rfl) T.n_len (by decide +kernel) (pa_cons (pe_fldK (K := K) rfl (pv 0) rfl) pa_nil)) (pe_callB call_lenD (by rfl) T.n_len (by decide +kernel) (pa_cons (pe_ix (ix_K (K := K) rfl) (pv 1) (pe_int) (fun _ _ => rfl)) pa_nil)) (nomark _))))) (pss_one (ps_ret (pe_bl))) (pss_nil))
  (pss_cons (ps_lock (ps_for PassesOwn.never rfl (pi_keys (pe_ix (ix_K (K := K) rfl) (pv 1) (pe_int) (fun _ _ => rfl))) (pg_name (i := 2) sc_L_says.nd rfl (Or.inl rfl)) (pss_one (ps_if (PW.pt (pw_or (pt_cmp (pc_dnotin (PW.hu1_of hu64) (pv 2) (pe_fldK (K := K) rfl (pv 0) rfl))) (pw_or1 (pt_not (pt_val (pe_call (ok_L_alikeN T 3) (hr.mono (by decide)) rfl T.g_L_alike T.F_L_alike.kp T.b_L_alike .nil pass0 (pa_cons (pe_dget (PW.hu1_of hu64) (pe_fldK (K := K) rfl (pv 0) rfl) (pv 2) (fun _ _ => rfl)) (pa_cons (pe_dget (PW.hu1_of hu64) (pe_ix (ix_K (K := K) rfl) (pv 1) (pe_int) (fun _ _ => rfl)) (pv 2) (fun _ _ => rfl)) pa_nil)))))))) (pss_one (ps_ret (pe_bl))) (pss_nil)))))
  (pss_cons (ps_if (PW.pt (pw_or (pt_not (pt_val (pe_callB (call_isiK1 (K := K) rfl) (by rfl) T.n_isinstance (by decide +kernel) (pa_cons (pe_fldK (K := K) rfl (pv 0) rfl) (pa_cons (pe_bltn (v := .ty "dict") (by rfl) T.n_dict (by decide +kernel) rfl) pa_nil))))) (pw_or1 (pt_cmpR (op_neK (K := K) rfl hu64) (pe_callB call_lenD (by rfl) T.n_len (by decide +kernel) (pa_cons (pe_fldK (K := K) rfl (pv 0) rfl) pa_nil)) (pe_callB call_lenD (by rfl) T.n_len (by decide +kernel) (pa_cons (pe_ix (ix_K (K := K) rfl) (pv 1) (pe_int) (fun _ _ => rfl)) pa_nil)) (nomark _))))) (pss_one (ps_ret (pe_bl))) (pss_nil))
  (pss_cons (ps_lock (ps_for PassesOwn.never rfl (pi_keys (pe_ix (ix_K (K := K) rfl) (pv 1) (pe_int) (fun _ _ => rfl))) (pg_name (i := 3) sc_L_says.nd rfl (Or.inl rfl)) (pss_one (ps_if (PW.pt (pw_or (pt_cmp (pc_dnotin (PW.hu1_of hu64) (pv 3) (pe_fldK (K := K) rfl (pv 0) rfl))) (pw_or1 (pt_not (pt_val (pe_call (ok_L_alikeN T 3) (hr.mono (by decide)) rfl T.g_L_alike T.F_L_alike.kp T.b_L_alike .nil pass0 (pa_cons (pe_dget (PW.hu1_of hu64) (pe_fldK (K := K) rfl (pv 0) rfl) (pv 3) (fun _ _ => rfl)) (pa_cons (pe_dget (PW.hu1_of hu64) (pe_ix (ix_K (K := K) rfl) (pv 1) (pe_int) (fun _ _ => rfl)) (pv 3) (fun _ _ => rfl)) pa_nil)))))))) (pss_one (ps_ret (pe_bl))) (pss_nil)))))
  (pss_one (ps_ret (pe_and (pe_call (ok_L_is_integer T) (hr.mono (by decide)) rfl T.g_L_is_integer T.F_L_is_integer.kp T.b_L_is_integer .nil pass0 (pa_cons (pe_fldK (K := K) rfl (pv 0) rfl) pa_nil)) (pe_one (pe_cmpR (op_eqK (K := K) rfl hu64) (pe_fldK (K := K) rfl (pv 0) rfl) (pe_ix (ix_K (K := K) rfl) (pv 1) (pe_int) (fun _ _ => rfl)) (nomark _)))))))))), ?_⟩
    -- the caps
    refine ⟨_, rfl, p, _, dx, _, _, rfl, w0.atM (L := []), T.cl_Ledger, T.o_Ledger_caps, lf_caps .., .ref c, .ty "list", _, _, true, rfl, .ty "list", .base (.lst (w0.atM (L := [_]))), kit_ty (by decide +kernel), true, rfl, iteF ?_⟩
    refine ⟨_, rfl, p, _, dx, _, _, rfl, w0.atM (L := []), T.cl_Ledger, T.o_Ledger_caps, lf_caps .., c, _, rfl, .inl ⟨.of (w0.atM (L := [_])), fun t1 ht1 => ?_⟩⟩
    obtain ⟨w1, e1⟩ := w0.fix ht1 (.tup (f.caps.map V.int))
    refine ⟨_, rfl, .inl ⟨p2, _, 0, _, rfl, rfl, .of (w1.atM (L := [_, _, _, _])), atI_nat (j := 0) rfl, c2, _, rfl, .inl ⟨.of (w1.atM (L := [_, _, _, _, _])), fun t2 ht2 => ?_⟩⟩⟩
    obtain ⟨w2', e2⟩ := w1.fix ht2 (.tup (f.caps.map V.int))
    refine ⟨_, _, encNs f.caps, rfl, .tup (.of (w2'.fh _ _ (e2 _ _ upd_same))) dpa_of_ints, .tup (.of upd_same) dpa_of_ints, al_ns (by omega), fun H3 s3 => ⟨true, rfl, iteF ?_⟩⟩
    have w3 := w2'.same s3
    have D3 := D.mono (e1.trans e2)
    have e03 := e1.trans e2
    clear w0 w1 w2' D
    -- the names
    refine ⟨_, rfl, p, _, dx, _, _, rfl, w3.atM (L := []), T.cl_Ledger, T.o_Ledger_names, lf_names .., .ref n, .ty "dict", _, _, true, rfl, .ty "dict", .base (.dK (w3.atM (L := [_, _]))), kit_ty (by decide +kernel), true, rfl, iteF ?_⟩
    refine ⟨_, rfl, p, _, dx, _, _, rfl, w3.atM (L := []), T.cl_Ledger, T.o_Ledger_names, lf_names .., n, kn, rfl, w3.atM (L := [_, _]), _, rfl, .inl ⟨p2, _, 1, _, rfl, rfl, .of (w3.atM (L := [_, _, _, _])), atI_nat (j := 1) rfl, n2, kn2, rfl, w3.atM (L := [_, _, _, _, _, _]), .inl ⟨rfl, _, rfl, iteNS (by rw [D3.rn.len D3.rn2]) ?_⟩⟩⟩
    refine ⟨n2, .dK kn2, w3.atM (L := [_, _, _, _, _, _]), True.intro, fun od => ?_⟩
    have w4 := w3.setM (L := [_, _, _, _, _, _]) (.frz od (.dK kn2))
    refine ⟨_, rfl, .inl ⟨p2, _, 1, _, rfl, rfl, .of (w4.atM (L := [_, _, _, _])), atI_nat (j := 1) rfl, n2, od, rfl, .inl ⟨kn2, w4.atM (L := [_, _, _, _, _, _]), ?_⟩⟩⟩
    refine for_keys (fun i σ H' => ∃ (v2 v3 : Option V), σ = [some (.ref p), some (.ref p2), v2, v3] ∧ Wd F0 H0 _ H' ([(p, .ins A.A_Ledger dx (lf c n wr f.top)), (c, .lst (f.caps.map V.int)), (n, .dK kn), (wr, .dK kw), (p2, mdl c2 n2 w2 f.top), (c2, .lst (f.caps.map V.int)), (n2, .frz od (.dK kn2)), (w2, .dK kw2)] ++ M)) ⟨none, none, rfl, w4⟩ ?_ ?_ ?_
    · rintro i σ H' ⟨v2, v3, rfl, w5⟩
      exact w5.atM (L := [_, _, _, _, _, _])
    · rintro i ky v σ H' hk ⟨v2, v3, rfl, w5⟩
      obtain ⟨x, rfl⟩ := D3.rn2.key ky (List.mem_map.mpr ⟨_, List.mem_of_getElem? hk, rfl⟩)
      obtain ⟨ns, hns⟩ := Option.isSome_iff_exists.mp ((D3.rn2.mem x).mp (List.mem_map.mpr ⟨_, List.mem_of_getElem? hk, rfl⟩))
      obtain ⟨u1, hu1, d1⟩ := D3.rn.here x ns hns
      obtain ⟨u2, hu2, d2⟩ := D3.rn2.here x ns hns
      have hl100 := D3.few x ns hns
      refine ⟨_, rfl, _, rfl, p, _, dx, _, _, rfl, w5.atM (L := []), T.cl_Ledger, T.o_Ledger_names, lf_names .., n, _, rfl, dget_of (w5.atM (L := [_, _])) hu1, _, rfl, iteF ?_⟩
      refine ⟨_, rfl, p, _, dx, _, _, rfl, w5.atM (L := []), T.cl_Ledger, T.o_Ledger_names, lf_names .., _, rfl, n, _, rfl, dget_of (w5.atM (L := [_, _])) hu1, ?_⟩
      refine ⟨_, rfl, .inl ⟨p2, _, 1, _, rfl, rfl, .of (w5.atM (L := [_, _, _, _])), atI_nat (j := 1) rfl, _, rfl, n2, _, rfl, dget_frz (w5.atM (L := [_, _, _, _, _, _])) hu2, ?_⟩⟩
      refine ⟨_, _, encNs ns, rfl, dp_mono w5.fh d1, dp_mono w5.fh d2, al_ns (by omega), fun H6 s6 => ⟨true, rfl, iteF ?_⟩⟩
      exact ⟨_, _, rfl, w5.same s6⟩
    · rintro σ H' ⟨v2, v3, rfl, w5⟩
      refine ⟨w5.atM (L := [_, _, _, _, _, _]), ?_⟩
      have w6 := w5.setM (L := [_, _, _, _, _, _]) (.dK kn2)
      clear w3 w4 w5
      -- the wardens
      refine ⟨_, rfl, p, _, dx, _, _, rfl, w6.atM (L := []), T.cl_Ledger, T.o_Ledger_wardens, lf_wardens .., .ref wr, .ty "dict", _, _, true, rfl, .ty "dict", .base (.dK (w6.atM (L := [_, _, _]))), kit_ty (by decide +kernel), true, rfl, iteF ?_⟩
      refine ⟨_, rfl, p, _, dx, _, _, rfl, w6.atM (L := []), T.cl_Ledger, T.o_Ledger_wardens, lf_wardens .., wr, kw, rfl, w6.atM (L := [_, _, _]), _, rfl, .inl ⟨p2, _, 2, _, rfl, rfl, .of (w6.atM (L := [_, _, _, _])), atI_nat (j := 2) rfl, w2, kw2, rfl, w6.atM (L := [_, _, _, _, _, _, _]), .inl ⟨rfl, _, rfl, iteNS (by rw [D3.rw.len D3.rw2]) ?_⟩⟩⟩
      refine ⟨w2, .dK kw2, w6.atM (L := [_, _, _, _, _, _, _]), True.intro, fun od => ?_⟩
      have w7 := w6.setM (L := [_, _, _, _, _, _, _]) (.frz od (.dK kw2))
      refine ⟨_, rfl, .inl ⟨p2, _, 2, _, rfl, rfl, .of (w7.atM (L := [_, _, _, _])), atI_nat (j := 2) rfl, w2, od, rfl, .inl ⟨kw2, w7.atM (L := [_, _, _, _, _, _, _]), ?_⟩⟩⟩
      refine for_keys (fun i σ H' => ∃ (v2 v3 : Option V), σ = [some (.ref p), some (.ref p2), v2, v3] ∧ Wd F0 H0 _ H' ([(p, .ins A.A_Ledger dx (lf c n wr f.top)), (c, .lst (f.caps.map V.int)), (n, .dK kn), (wr, .dK kw), (p2, mdl c2 n2 w2 f.top), (c2, .lst (f.caps.map V.int)), (n2, .dK kn2), (w2, .frz od (.dK kw2))] ++ M)) ⟨_, _, rfl, w7⟩ ?_ ?_ ?_
      · rintro i σ H' ⟨v2, v3, rfl, w5⟩
        exact w5.atM (L := [_, _, _, _, _, _, _])
      · rintro i ky v σ H' hk ⟨v2, v3, rfl, w5⟩
        obtain ⟨x, rfl⟩ := D3.rw2.key ky (List.mem_map.mpr ⟨_, List.mem_of_getElem? hk, rfl⟩)
        obtain ⟨b, hb⟩ := Option.isSome_iff_exists.mp ((D3.rw2.mem x).mp (List.mem_map.mpr ⟨_, List.mem_of_getElem? hk, rfl⟩))
        obtain ⟨u1, hu1, d1⟩ := D3.rw.here x b hb
        obtain ⟨u2, hu2, d2⟩ := D3.rw2.here x b hb
        refine ⟨_, rfl, _, rfl, p, _, dx, _, _, rfl, w5.atM (L := []), T.cl_Ledger, T.o_Ledger_wardens, lf_wardens .., wr, _, rfl, dget_of (w5.atM (L := [_, _, _])) hu1, _, rfl, iteF ?_⟩
        refine ⟨_, rfl, p, _, dx, _, _, rfl, w5.atM (L := []), T.cl_Ledger, T.o_Ledger_wardens, lf_wardens .., _, rfl, wr, _, rfl, dget_of (w5.atM (L := [_, _, _])) hu1, ?_⟩
        refine ⟨_, rfl, .inl ⟨p2, _, 2, _, rfl, rfl, .of (w5.atM (L := [_, _, _, _])), atI_nat (j := 2) rfl, _, rfl, w2, _, rfl, dget_frz (w5.atM (L := [_, _, _, _, _, _, _])) hu2, ?_⟩⟩
        refine ⟨_, _, .tuple [.int b.1, .int b.2], rfl, dp_mono w5.fh d1, dp_mono w5.fh d2, al_ns (ns := [b.1, b.2]) (by show 2 ≤ 1000000; decide), fun H6 s6 => ⟨true, rfl, iteF ?_⟩⟩
        exact ⟨_, _, rfl, w5.same s6⟩
      · rintro σ H' ⟨v2, v3, rfl, w5⟩
        refine ⟨w5.atM (L := [_, _, _, _, _, _, _]), ?_⟩
        have w8 := w5.setM (L := [_, _, _, _, _, _, _]) (.dK kw2)
        -- the greatest number
        refine ⟨_, rfl, p, _, dx, _, _, rfl, w8.atM (L := []), T.cl_Ledger, T.o_Ledger_top, lf_top .., f.top, rfl, fun H9 s9 => ⟨true, rfl, iteT ?_⟩⟩
        have w9 := w8.same s9
        refine ⟨_, rfl, p, _, dx, _, _, rfl, w9.atM (L := []), T.cl_Ledger, T.o_Ledger_top, lf_top .., _, rfl, .inl ⟨p2, _, 3, _, rfl, rfl, .of (w9.atM (L := [_, _, _, _])), atI_nat (j := 3) rfl, .inl ⟨rfl, ?_⟩⟩⟩
        rw [decide_eq_true (rfl : V.int f.top = V.int f.top)]
        exact k _ _ e03 w9

end
end Q

set_option Elab.async false
set_option linter.all false
set_option maxRecDepth 100000
set_option maxHeartbeats 8000000
namespace Q
open PySem PySem.Spec PyProof.Rows L2 TL PW Rc
section
variable {P : Program} {w : World} {K : PySem.W.Frag} {mg : Str → Option Value} {base : Heap} {A : Ad}
/-! ### refused -/
def spNoOther (A : Ad) : Addr → Value → Option Addr → Sp := fun a cls d vs H Q _ => vs = [.ref a] ∧ cls = .ref A.A_NoStore ∧ d = none ∧ ∀ H', Same H H' → Q (.bl true) H'
theorem kitNo {K : PySem.W.Frag} {t c : Value} {cs : List Value} (h : PySem.W.kitOne K t c = some false) (hr : PySem.W.kitAny K t cs = some false) : PySem.W.kitAny K t (c :: cs) = some false := kitAny_cons h (fun _ => hr) (fun z => nomatch z)
theorem ok_L_no_other (T : Txt K mg A) : FnE P w K mg base 1 A.a_L_no_other A.d_L_no_other ["_law_e"] (spNoOther A) := by
  refine Fun.okE T.F_L_no_other sc_L_no_other (fun a cls d vs H Q E h => ?_) (fun cdv A' outer s H vs Q p cls d hz hf hr h => ?_)
  · obtain ⟨rfl, _⟩ := h; rfl
  · obtain ⟨rfl, rfl, rfl, k⟩ := h
    refine ⟨_, pss_cons (ps_if (pt_val (pe_callB (id := "isinstance") (PW.call_isCTK (K := K) rfl (a := p.1) (oe := p.2) List.mem_cons_self hz hf) (by rfl) T.n_isinstance (by decide +kernel) (pa_cons (pv 0) (pa_cons (pe_tup (pa_cons (pe_glob (v := .ref A.A_InvalidPool) rfl T.g_InvalidPool rfl) (pa_cons (pe_glob (v := .ref A.A_InvalidChoice) rfl T.g_InvalidChoice rfl) (pa_cons (pe_glob (v := .ref A.A_InvalidText) rfl T.g_InvalidText rfl) (pa_cons (pe_glob (v := .ref A.A_InvalidDeed) rfl T.g_InvalidDeed rfl) (pa_cons (pe_glob (v := .ref A.A_NothingToUndo) rfl T.g_NothingToUndo rfl) (pa_cons (pe_glob (v := .ref A.A_NothingToRedo) rfl T.g_NothingToRedo rfl) pa_nil))))))) pa_nil)))) (pss_one (ps_ret (pe_bl))) (pss_nil))
  (pss_cons (ps_if (pt_val (pe_callB (id := "isinstance") (PW.call_isCTK (K := K) rfl (a := p.1) (oe := p.2) List.mem_cons_self hz hf) (by rfl) T.n_isinstance (by decide +kernel) (pa_cons (pv 0) (pa_cons (pe_tup (pa_cons (pe_glob (v := .ref A.A_InvalidDealing) rfl T.g_InvalidDealing rfl) (pa_cons (pe_glob (v := .ref A.A_InvalidTarget) rfl T.g_InvalidTarget rfl) (pa_cons (pe_glob (v := .ref A.A_PowerCut) rfl T.g_PowerCut rfl) (pa_cons (pe_glob (v := .ref A.A_InvalidSends) rfl T.g_InvalidSends rfl) (pa_cons (pe_glob (v := .ref A.A_InvalidTable) rfl T.g_InvalidTable rfl) (pa_cons (pe_glob (v := .ref A.A_Unsafe) rfl T.g_Unsafe rfl) (pa_cons (pe_glob (v := .ref A.A_CannotHold) rfl T.g_CannotHold rfl) pa_nil)))))))) pa_nil)))) (pss_one (ps_ret (pe_bl))) (pss_nil))
  (pss_one (ps_ret (pe_not (pe_callB (id := "isinstance") (PW.call_isCTK (K := K) rfl (a := p.1) (oe := p.2) List.mem_cons_self hz hf) (by rfl) T.n_isinstance (by decide +kernel) (pa_cons (pv 0) (pa_cons (pe_tup (pa_cons (pe_glob (v := .ref A.A_Unfinished) rfl T.g_Unfinished rfl) (pa_cons (pe_glob (v := .ref A.A_InvalidName) rfl T.g_InvalidName rfl) (pa_cons (pe_glob (v := .ref A.A_Missing) rfl T.g_Missing rfl) (pa_cons (pe_glob (v := .ref A.A_Lost) rfl T.g_Lost rfl) (pa_cons (pe_glob (v := .ref A.A_InvalidSeats) rfl T.g_InvalidSeats rfl) (pa_cons (pe_glob (v := .ref A.A_InvalidCopy) rfl T.g_InvalidCopy rfl) (pa_cons (pe_glob (v := .ref A.A_InvalidLine) rfl T.g_InvalidLine rfl) pa_nil)))))))) pa_nil))))))), ?_⟩
    refine ⟨_, rfl, by show 6 ≤ sizeLine; decide, fun t1 h1 => ⟨_, t1, _, _, false, rfl, rfl, T.ec_NoStore, rfl, upd_same, .cons (.own _) (.cons (.own _) (.cons (.own _) (.cons (.own _) (.cons (.own _) (.cons (.own _) .nil))))), kitNo T.is_NoStore_InvalidPool (kitNo T.is_NoStore_InvalidChoice (kitNo T.is_NoStore_InvalidText (kitNo T.is_NoStore_InvalidDeed (kitNo T.is_NoStore_NothingToUndo (kitNo T.is_NoStore_NothingToRedo kitAny_nil))))), false, rfl, iteF ?_⟩⟩
    refine ⟨_, rfl, by show 7 ≤ sizeLine; decide, fun t2 h2 => ⟨_, t2, _, _, false, rfl, rfl, T.ec_NoStore, rfl, upd_same, .cons (.own _) (.cons (.own _) (.cons (.own _) (.cons (.own _) (.cons (.own _) (.cons (.own _) (.cons (.own _) .nil)))))), kitNo T.is_NoStore_InvalidDealing (kitNo T.is_NoStore_InvalidTarget (kitNo T.is_NoStore_PowerCut (kitNo T.is_NoStore_InvalidSends (kitNo T.is_NoStore_InvalidTable (kitNo T.is_NoStore_Unsafe (kitNo T.is_NoStore_CannotHold kitAny_nil)))))), false, rfl, iteF ?_⟩⟩
    refine ⟨_, rfl, by show 7 ≤ sizeLine; decide, fun t3 h3 => ⟨_, t3, _, _, false, rfl, rfl, T.ec_NoStore, rfl, upd_same, .cons (.own _) (.cons (.own _) (.cons (.own _) (.cons (.own _) (.cons (.own _) (.cons (.own _) (.cons (.own _) .nil)))))), kitNo T.is_NoStore_Unfinished (kitNo T.is_NoStore_InvalidName (kitNo T.is_NoStore_Missing (kitNo T.is_NoStore_Lost (kitNo T.is_NoStore_InvalidSeats (kitNo T.is_NoStore_InvalidCopy (kitNo T.is_NoStore_InvalidLine kitAny_nil)))))), false, rfl, ?_⟩⟩
    exact k _ ((same_new h1).trans ((same_new h2).trans (same_new h3)))
def spRefused (K : PySem.W.Frag) : Sp := fun vs H Q _ => ∃ (F : Hp) (a : Addr) (vr : List V) (recs : List Rec), vs = [.ref a] ∧ Same F H ∧ SqL K F a vr ∧ DpAll K F vr (recs.map encR) ∧ recs.length ≤ 100 ∧ noStore recs ∧ ∀ H', Same H H' → Q (.bl true) H'
theorem ok_L_refused (T : Txt K mg A) : FnOk P w K mg base CX0 6 A.a_L_refused A.d_L_refused ["_law_records"] (spRefused K) := by
  refine T.F_L_refused.ok sc_L_refused (fun vs H Q E h => ?_) (fun cdv A' outer s H vs Q E hr h => ?_)
  · obtain ⟨F, a, vr, recs, rfl, _⟩ := h; rfl
  · obtain ⟨F, a, vr, recs, rfl, eF, hs, da, hl, hn, k⟩ := h
    have hu64 := hu64_of hr
    refine ⟨_, pss_cons (ps_try_as (i := 1) rfl rfl sc_L_refused.nd rfl rfl ⟨rfl, by decide, .inl T.g_PoolError⟩ takes0 (fun W pn xe tk _ => pss_one (ps_expr (PW.pe_makeZ T.M_Ledger (ok_Ledger_init T) (hr.mono (by decide)) rfl T.g_Ledger T.b_Ledger_init (fun σ => passAt tk σ) (pa_cons (pv 0) pa_nil)))) (fun a oe cls d pn hz hf => pss_one (ps_ret (pe_and (pe_callB (id := "isinstance") (PW.call_isCK (K := K) rfl (a := a) (oe := oe) List.mem_cons_self hz hf) (by rfl) T.n_isinstance (by decide +kernel) (pa_cons (pv 1) (pa_cons (pe_glob (v := .ref A.A_NoStore) rfl T.g_NoStore rfl) pa_nil))) (pe_and (pe_callB (id := "isinstance") (PW.call_isCK (K := K) rfl (a := a) (oe := oe) List.mem_cons_self hz hf) (by rfl) T.n_isinstance (by decide +kernel) (pa_cons (pv 1) (pa_cons (pe_bltn (v := .ty "ValueError") (by rfl) T.n_ValueError (by decide +kernel) rfl) pa_nil))) (pe_one (PW.pe_callE (ok_L_no_other T) (PW.room_suite (hr.mono (j := 1) (by decide))) (a := a) (oe := oe) List.mem_cons_self hz hf rfl T.g_L_no_other T.F_L_no_other.kp T.b_L_no_other (pa_cons (pv 1) pa_nil))))))))
  (pss_one (ps_ret (pe_bl))), ?_⟩
    refine ⟨_, rfl, fun p dx hp hdx hne => ?_⟩
    have w0 := Wd.start eF
    have w1 := w0.own hdx (.own p)
    have hp' : upd H dx (.own p) p = none := by rw [upd_ne (Ne.symm hne)]; exact hp
    have w2 := w1.own hp' (.ins A.A_Ledger dx [])
    have e02 : Same H (upd (upd H dx (.own p)) p (.ins A.A_Ledger dx [])) := (same_new hdx).trans (same_new hp')
    refine ⟨F, H, F, [(dx, .own p)], p, dx, a, vr, recs, rfl, w2, hs, da, hl, fun _ => ?_, fun caps names ws rest e => ?_⟩
    · refine ⟨true, T.xm_NoStore_PoolError, fun _ a' ha' => ?_, fun q => nomatch q⟩
      refine ⟨_, rfl, _, .ref A.A_NoStore, .ref A.A_NoStore, true, rfl, rfl, T.ec_NoStore, rfl, .own _, T.is_NoStore_NoStore, true, rfl, iteT ?_⟩
      refine ⟨_, rfl, _, .ty "ValueError", _, true, rfl, rfl, T.ec_NoStore, rfl, .ty "ValueError", T.is_NoStore_ValueError, true, rfl, iteT ?_⟩
      exact ⟨_, rfl, rfl, rfl, rfl, fun H' s' => k H' (e02.trans s')⟩
    · exact absurd rfl (hn _ (by rw [e]; rfl))

end
end Q

set_option Elab.async false
set_option linter.all false
set_option maxRecDepth 100000
set_option maxHeartbeats 8000000
namespace Q
open PySem PySem.Spec PyProof.Rows L2 TL PW Rc
section
variable {P : Program} {w : World} {K : PySem.W.Frag} {mg : Str → Option Value} {base : Heap} {A : Ad}
/-! ### told -/
theorem canlay_rec {r : Rec} (h : RecOk r) : (encR r).canLay0 = true := by
  have lit : ∀ x : String, (∀ c ∈ x.toList.map Char.toNat, c < 128) → PyData.strOk (x : Str) = true := fun x hx => asc_ok (asc_lit x hx)
  cases r with
  | picture caps names ws =>
    show PyData.canLay0 (.tuple [.str wPicture, .tuple _, .tuple _, .tuple _]) = true
    have h2 := canlay_all (f := encName) fun p hp => canlay_name (h.2.2.2.1 p hp).1
    simp only [PyData.canLay0, PyData.canLayAll0, lit "picture" (by decide), canlay_ints, canlay_ws, h2]
    rfl
  | put n ns ws =>
    show PyData.canLay0 (.tuple [.str wPut, .str n, .tuple _, .tuple _]) = true
    simp only [PyData.canLay0, PyData.canLayAll0, lit "put" (by decide), asc_ok (asc_name h.1), canlay_ints, canlay_ws]
    rfl
  | erase n =>
    show PyData.canLay0 (.tuple [.str wErase, .str n]) = true
    simp only [PyData.canLay0, PyData.canLayAll0, lit "erase" (by decide), asc_ok (asc_name h)]
    rfl
  | deal ws =>
    show PyData.canLay0 (.tuple [.str wDeal, .tuple _]) = true
    simp only [PyData.canLay0, PyData.canLayAll0, lit "deal" (by decide), canlay_ws]
    rfl
  | cap s c ws =>
    show PyData.canLay0 (.tuple [.str wCap, .int s, .int c, .tuple _]) = true
    simp only [PyData.canLay0, PyData.canLayAll0, lit "cap" (by decide), canlay_ws]
    rfl
theorem depth_ws (ws : List (Int × Int × Int)) : (encWs ws).depth ≤ 3 := by
  have := depth_all (f := encW) (k := 2) (l := ws) fun x _ => depth_w x
  show PyData.depth (.tuple _) ≤ 3
  rw [PyData.depth]; omega
theorem depth_rec (r : Rec) : (encR r).depth ≤ 60 := by
  cases r with
  | picture caps names ws =>
    have h1 := depth_ns caps
    have h2 := depth_all (f := encName) (k := 3) (l := names) fun x _ => depth_name x
    have h3 : (encWs (Rec.picture caps names ws).ws).depth ≤ 3 := depth_ws ws
    show PyData.depth (.tuple [_, _, .tuple _, _]) ≤ 60
    simp only [PyData.depth, PyData.depthAll]
    omega
  | put n ns ws =>
    have h1 := depth_ns ns
    have h3 : (encWs (Rec.put n ns ws).ws).depth ≤ 3 := depth_ws ws
    show PyData.depth (.tuple [_, _, _, _]) ≤ 60
    simp only [PyData.depth, PyData.depthAll]
    omega
  | erase n =>
    show PyData.depth (.tuple [_, _]) ≤ 60
    simp only [PyData.depth, PyData.depthAll]
    omega
  | deal ws =>
    have h3 : (encWs (Rec.deal ws).ws).depth ≤ 3 := depth_ws ws
    show PyData.depth (.tuple [_, _]) ≤ 60
    simp only [PyData.depth, PyData.depthAll]
    omega
  | cap s c ws =>
    have h3 : (encWs (Rec.cap s c ws).ws).depth ≤ 3 := depth_ws ws
    show PyData.depth (.tuple [_, _, _, _]) ≤ 60
    simp only [PyData.depth, PyData.depthAll]
    omega
theorem shaped_recs {rs : List Rec} (h : ∀ r ∈ rs, RecOk r) : SeqAt.shaped (.list (rs.map encR)) = true :=
  shaped_of (by rw [PyData.canLay0]; exact canlay_all fun r hr => canlay_rec (h r hr)) (by
    have := depth_all (f := encR) (k := 60) (l := rs) fun x _ => depth_rec x
    rw [PyData.depth]; omega)
theorem eqv_recs {rs : List Rec} (h : ∀ r ∈ rs, RecOk r) : PyData.eqv (.list (rs.map encR)) (.list (rs.map encR)) = true := SeqAt.eqv_refl _ (by rw [PyData.canLay0]; exact canlay_all fun r hr => canlay_rec (h r hr))
theorem al_rec {caps : List Int} {names : List (Str × List Int)} {ws : List (Int × Int × Int)} (h : RecOk (.picture caps names ws)) : AL 5 (encR (.picture caps names ws)) := by
  obtain ⟨h1, h2, h3, h4, h5, h6, h7⟩ := h
  refine .tup (fun d hd => ?_) (by show 4 ≤ 1000000; decide)
  have hd' : d ∈ [PyData.str wPicture, encNs caps, .tuple (names.map encName), encWs ws] := hd
  simp only [List.mem_cons, List.not_mem_nil, or_false] at hd'
  rcases hd' with rfl | rfl | rfl | rfl
  · exact .str _
  · exact al_ns (by omega)
  · refine .tup (fun d hd => ?_) (by rw [List.length_map]; omega)
    obtain ⟨q, hq, rfl⟩ := List.mem_map.mp hd
    refine .tup (fun d hd => ?_) (by show 2 ≤ 1000000; decide)
    have hd' : d ∈ [PyData.str q.1, encNs q.2] := hd
    simp only [List.mem_cons, List.not_mem_nil, or_false] at hd'
    rcases hd' with rfl | rfl
    · exact .str _
    · exact al_ns (by have := (h4 q hq).2.few; omega)
  · refine .tup (fun d hd => ?_) (by rw [List.length_map]; have := h7.few; omega)
    obtain ⟨q, hq, rfl⟩ := List.mem_map.mp hd
    exact al_ns (ns := [q.1, q.2.1, q.2.2]) (by show 3 ≤ 1000000; decide)
def l4 (A : Ad) (p dx c n wr : Addr) (kn kw : List (Key × V)) (f : FSt) : List (Addr × HO) := [(p, .ins A.A_Ledger dx (lf c n wr f.top)), (c, .lst (f.caps.map V.int)), (n, .dK kn), (wr, .dK kw)]
def m4 (p c n wr : Addr) (kn kw : List (Key × V)) (f : FSt) : List (Addr × HO) := [(p, mdl c n wr f.top), (c, .lst (f.caps.map V.int)), (n, .dK kn), (wr, .dK kw)]
def spTold (K : PySem.W.Frag) : Sp := fun vs H Q _ => ∃ (F0 H0 F : Hp) (M : List (Addr × HO)) (p c n wr : Addr) (m : Nat) (f : FSt) (xs : List Str) (B : Int) (a : Addr) (vr : List V) (rs : List Rec), vs = [.ref a, .ref p] ∧ MW K F0 H0 F H M p c n wr m f ∧ Good xs B f ∧ xs.length = 8 ∧ B ≤ 900000000 ∧ (∀ x ∈ xs, NameOk x) ∧
  (a, HO.lst vr) ∈ M ∧ DpAll K F vr (rs.map encR) ∧ RunOk rs f ∧ rs.length ≤ 99 ∧ ∀ F' H', Same F F' → MW K F0 H0 F' H' M p c n wr m f → Q (.bl true) H'
theorem run_pic {rs : List Rec} {f : FSt} (h : RunOk rs f) : ¬ noStore rs := by
  obtain ⟨⟨caps, names, ws, rest, rfl, _⟩, _⟩ := h
  intro z
  exact z _ rfl rfl
theorem run_row {rs : List Rec} {f : FSt} (h : RunOk rs f) {caps : List Int} {names : List (Str × List Int)} {ws : List (Int × Int × Int)} {rest : List Rec} (e : rs = .picture caps names ws :: rest) : RecOk (.picture caps names ws) ∧ RowOk caps rest := by
  obtain ⟨⟨caps', names', ws', rest', e', h1, h2, _⟩, _⟩ := h
  rw [e] at e'
  cases e'
  exact ⟨h1, h2⟩
theorem ok_L_is_told (T : Txt K mg A) : FnOk P w K mg base CX0 8 A.a_L_is_told A.d_L_is_told ["_law_records", "_law_model"] (spTold K) := by
  refine T.F_L_is_told.ok sc_L_is_told (fun vs H Q E h => ?_) (fun cdv A' outer s H vs Q E hr h => ?_)
  · obtain ⟨F0, H0, F, M, p, c, n, wr, m, f, xs, B, a, vr, rs, rfl, _⟩ := h; rfl
  · obtain ⟨F0, H0, F, M, p, c, n, wr, m, f, xs, B, a, vr, rs, rfl, ⟨kn2, kw2, w0, rn2, rw2, hl2⟩, g, x8, hB, hxs, hM, da, run, hrl, k⟩ := h
    have hu64 := hu64_of hr
    have few := g.few (Nat.le_of_eq x8)
    obtain ⟨fw1, fw2, fw3, fw4, fw5⟩ := id few
    have hcp6 := g.caps6
    have fewn : ∀ x ns, f.names x = some ns → ns.length ≤ 100 := fun x ns h => by have := (g.nm x ns h).2.2.1; omega
    have hrec := run.ok
    refine ⟨_, pss_cons (ps_set (i := 2) sc_L_is_told.nd rfl (Or.inl rfl) (pe_callTy (call_listK (K := K) rfl) (by rfl) T.n_list (by decide +kernel) (pa_cons (pv 0) pa_nil)))
  (pss_cons (ps_set (i := 3) sc_L_is_told.nd rfl (Or.inl rfl) (pe_make T.M_Ledger (ok_Ledger_init T) (hr.mono (by decide)) rfl T.g_Ledger T.b_Ledger_init .nil pass_E0 (pa_cons (pv 2) pa_nil)))
  (pss_cons (ps_if (PW.pt (pw_or (pt_not (pt_val (pe_call (ok_L_says T) (hr.mono (by decide)) rfl T.g_L_says T.F_L_says.kp T.b_L_says .nil pass0 (pa_cons (pv 3) (pa_cons (pv 1) pa_nil))))) (pw_or1 (pt_cmpR (op_neK (K := K) rfl hu64) (pv 2) (pv 0) (nomark _))))) (pss_one (ps_ret (pe_bl))) (pss_nil))
  (pss_cons (ps_set (i := 4) sc_L_is_told.nd rfl (Or.inl rfl) (pe_call (ok_L_picture T) (hr.mono (by decide)) rfl T.g_L_picture T.F_L_picture.kp T.b_L_picture .nil pass0 (pa_cons (pv 1) pa_nil)))
  (pss_cons (ps_if (pt_not (pt_val (pe_call (ok_L_alikeN T 5) (hr.mono (by decide)) rfl T.g_L_alike T.F_L_alike.kp T.b_L_alike .nil pass0 (pa_cons (pe_meth0 (pv 3) T.cl_Ledger T.m_Ledger_to_picture (ok_Ledger_to_picture T) (hr.mono (by decide)) T.b_Ledger_to_picture .nil pass0) (pa_cons (pv 4) pa_nil))))) (pss_one (ps_ret (pe_bl))) (pss_nil))
  (pss_one (ps_ret (pe_call (ok_L_says T) (hr.mono (by decide)) rfl T.g_L_says T.F_L_says.kp T.b_L_says .nil pass0 (pa_cons (pe_make T.M_Ledger (ok_Ledger_init T) (hr.mono (by decide)) rfl T.g_Ledger T.b_Ledger_init .nil pass_E0 (pa_cons (pe_lst (pa_cons (pe_meth0 (pv 3) T.cl_Ledger T.m_Ledger_to_picture (ok_Ledger_to_picture T) (hr.mono (by decide)) T.b_Ledger_to_picture .nil pass0) pa_nil)) pa_nil)) (pa_cons (pe_lst (pa_cons (pe_ix (ix_K (K := K) rfl) (pv 1) (pe_int) (fun _ _ => rfl)) (pa_cons (pe_ix (ix_K (K := K) rfl) (pv 1) (pe_int) (fun _ _ => rfl)) (pa_cons (pe_ix (ix_K (K := K) rfl) (pv 1) (pe_int) (fun _ _ => rfl)) (pa_cons (pe_call (ok_L_top T) (hr.mono (by decide)) rfl T.g_L_top T.F_L_top.kp T.b_L_top .nil pass0 (pa_cons (pv 1) pa_nil)) pa_nil))))) pa_nil))))))))), ?_⟩
    -- the list handed in
    have haH : ∀ {F' H' : Hp} {M' : List (Addr × HO)}, Wd F0 H0 F' H' M' → (a, HO.lst vr) ∈ M' → H' a = some (.lst vr) := fun w hm => (w.mt _ hm).2.1
    refine ⟨_, rfl, a, _, rfl, .inl (.of (haH w0 (List.mem_append_right _ hM))), fun q hq => ?_⟩
    obtain ⟨w1, e1⟩ := w0.fix hq (.lst vr)
    -- the ledger
    refine ⟨_, rfl, fun pl dx hpl hdx hne => ?_⟩
    have w2 := w1.own hdx (.own pl)
    have hpl' : upd (upd H q (.lst vr)) dx (.own pl) pl = none := by rw [upd_ne (Ne.symm hne)]; exact hpl
    have w3 := w2.own hpl' (.ins A.A_Ledger dx [])
    refine ⟨F0, H0, _, _, pl, dx, q, vr, rs, rfl, w3, .of upd_same, dpa_mono e1 da, by omega, fun z => (run_pic run z).elim, fun caps names ws rest e => ⟨(run_row run e).1, (run_row run e).2, fun F4 H4 cl nl wl e4 L4 => ⟨rfl, ?_⟩⟩⟩
    rw [run.rep] at L4
    obtain ⟨kn, kw, w4, rn, rw', hl⟩ := L4
    have e04 := e1.trans e4
    have D4 : BD K F4 kn kw kn2 kw2 f := ⟨rn, rw', rn2.mono fun v b h => dp_mono e04 h, rw2.mono fun v b h => dp_mono e04 h, fewn, by omega⟩
    have b4 : BW K A F0 H0 F4 H4 ((dx, .own pl) :: M) pl dx cl nl wl p c n wr kn kw kn2 kw2 f := w4.perm (List.Perm.append_left _ List.perm_middle.symm)
    refine ⟨_, rfl, _, rfl, F0, H0, F4, _, pl, dx, cl, nl, wl, p, c, n, wr, kn, kw, kn2, kw2, f, rfl, b4, D4, fun F5 H5 e5 b5 => ⟨true, rfl, iteF ?_⟩⟩
    have hM5 : (a, HO.lst vr) ∈ l4 A pl dx cl nl wl kn kw f ++ (m4 p c n wr kn2 kw2 f ++ ((dx, HO.own pl) :: M)) := by simp [hM]
    refine ⟨_, rfl, _, rfl, .inr ⟨.list (rs.map encR), .list (rs.map encR), .lst (.of (b5.fh _ _ ((e4.trans e5) _ _ upd_same))) (dpa_mono ((e04.trans e5).trans b5.fh) da), .lst (.of (haH b5 hM5)) (dpa_mono ((e04.trans e5).trans b5.fh) da), shaped_recs hrec, shaped_recs hrec, ?_⟩⟩
    rw [eqv_recs hrec]
    refine ⟨_, rfl, iteF ?_⟩
    have D5 := D4.mono e5
    -- the model's picture
    have w5 : Wd F0 H0 F5 H5 (m4 p c n wr kn2 kw2 f ++ (l4 A pl dx cl nl wl kn kw f ++ ((dx, HO.own pl) :: M))) := b5.perm (List.perm_append_comm_assoc (l4 A pl dx cl nl wl kn kw f) (m4 p c n wr kn2 kw2 f) ((dx, HO.own pl) :: M))
    refine ⟨_, rfl, F0, H0, F5, _, p, c, n, wr, _, f, xs, numsOf xs f, rfl, ⟨kn2, kw2, w5, D5.rn2, D5.rw2, Nat.le_refl _⟩, few, fun names ws v6 F6 H6 pic e6 L6 Dv6 => ?_⟩
    obtain ⟨kn3, kw3, w6, rn3, rw3, hl3⟩ := L6
    have w6' : Wd F0 H0 F6 H6 (l4 A pl dx cl nl wl kn kw f ++ (m4 p c n wr kn3 kw3 f ++ ((dx, HO.own pl) :: M))) := w6.perm (List.perm_append_comm_assoc (m4 p c n wr kn3 kw3 f) (l4 A pl dx cl nl wl kn kw f) ((dx, HO.own pl) :: M))
    have okp := picOk g hB (Nat.le_of_eq x8) hxs pic
    have noT : ∀ t, (lf cl nl wl t).lookup ("to_picture" : Str) = none := fun t => lf_no _ _ _ _ (by decide +kernel) (by decide +kernel) (by decide +kernel) (by decide +kernel)
    -- the ledger's picture
    refine ⟨_, rfl, pl, dx, _, rfl, w6'.atM (L := []), noT _, F0, H0, F6, _, pl, dx, cl, nl, wl, _, f, xs, numsOf xs f, rfl, ⟨kn, kw, w6', D5.rn.mono fun v b h => dp_mono e6 h, D5.rw.mono fun v b h => dp_mono e6 h, Nat.le_refl _⟩, few, fun names' ws' v7 F7 H7 pic' e7 L7 Dv7 => ?_⟩
    obtain ⟨rfl, rfl⟩ := pic_same pic pic'
    obtain ⟨kn4, kw4, w7, rn4, rw4, hl4⟩ := L7
    refine ⟨_, rfl, v7, v6, _, rfl, dp_mono w7.fh Dv7, dp_mono (e7.trans w7.fh) Dv6, al_rec okp, fun H8 s8 => ⟨true, rfl, iteF ?_⟩⟩
    have w8 := w7.same s8
    -- once more, for the ledger of it
    refine ⟨_, rfl, pl, dx, _, rfl, w8.atM (L := []), noT _, F0, H0, F7, _, pl, dx, cl, nl, wl, _, f, xs, numsOf xs f, rfl, ⟨kn4, kw4, w8, rn4, rw4, Nat.le_refl _⟩, few, fun names' ws' v9 F9 H9 pic' e9 L9 Dv9 => ?_⟩
    obtain ⟨rfl, rfl⟩ := pic_same pic pic'
    obtain ⟨kn5, kw5, w9, rn5, rw5, hl5⟩ := L9
    refine ⟨by show 1 ≤ sizeLine; decide, fun qq hqq => ?_⟩
    obtain ⟨w10, e10⟩ := w9.fix hqq (.lst [v9])
    refine fun pl2 dx2 hpl2 hdx2 hne2 => ?_
    have w11 := w10.own hdx2 (.own pl2)
    have hpl2' : upd (upd H9 qq (.lst [v9])) dx2 (.own pl2) pl2 = none := by rw [upd_ne (Ne.symm hne2)]; exact hpl2
    have w12 := w11.own hpl2' (.ins A.A_Ledger dx2 [])
    refine ⟨F0, H0, _, _, pl2, dx2, qq, [v9], [.picture f.caps names ws], rfl, w12, .of upd_same, dpa_one (dp_mono e10 Dv9), by show 1 ≤ 100; decide, fun z => (z _ rfl rfl).elim, fun caps' names' ws' rest' e => ?_⟩
    cases e
    refine ⟨okp, ⟨(fun r h => nomatch h), (fun s c ws h => nomatch h)⟩, fun F13 H13 cl2 nl2 wl2 e13 L13 => ⟨rfl, ?_⟩⟩
    obtain ⟨t0, ht0, eT⟩ := ofPic_any g pic
    have eT' : replay [.picture f.caps names ws] = { f with top := t0 } := eT
    rw [eT'] at L13
    obtain ⟨kn6, kw6, w13, rn6, rw6, hl6⟩ := L13
    have w13' : Wd F0 H0 F13 H13 (m4 p c n wr kn3 kw3 f ++ (l4 A pl2 dx2 cl2 nl2 wl2 kn6 kw6 { f with top := t0 } ++ ((dx2, HO.own pl2) :: (l4 A pl dx cl nl wl kn5 kw5 f ++ ((dx, HO.own pl) :: M))))) := by
      refine w13.perm ?_
      have p1 : (l4 A pl dx cl nl wl kn5 kw5 f ++ (m4 p c n wr kn3 kw3 f ++ ((dx, HO.own pl) :: M))).Perm (m4 p c n wr kn3 kw3 f ++ (l4 A pl dx cl nl wl kn5 kw5 f ++ ((dx, HO.own pl) :: M))) := List.perm_append_comm_assoc _ _ _
      refine (List.Perm.append_left _ ((List.Perm.cons _ p1).trans List.perm_middle.symm)).trans ?_
      exact List.perm_append_comm_assoc (l4 A pl2 dx2 cl2 nl2 wl2 kn6 kw6 { f with top := t0 }) (m4 p c n wr kn3 kw3 f) _
    have e613 : Same F6 F13 := e7.trans (e9.trans (e10.trans e13))
    -- the list of the model's parts
    refine ⟨_, rfl, .inl ⟨p, _, 0, _, rfl, rfl, mat w13', atI_nat (j := 0) rfl, ?_⟩⟩
    refine ⟨_, rfl, .inl ⟨p, _, 1, _, rfl, rfl, mat w13', atI_nat (j := 1) rfl, ?_⟩⟩
    refine ⟨_, rfl, .inl ⟨p, _, 2, _, rfl, rfl, mat w13', atI_nat (j := 2) rfl, ?_⟩⟩
    refine ⟨_, rfl, F0, H0, F13, _, p, c, n, wr, _, f, numsOf xs f, rfl, ⟨kn3, kw3, w13', rn3.mono fun v b h => dp_mono e613 h, rw3.mono fun v b h => dp_mono e613 h, Nat.le_refl _⟩, fw3, fw4, fun t H14 ht s14 => ?_⟩
    have := top_one ht ht0
    subst this
    have w14 := w13'.same s14
    refine ⟨by show 4 ≤ sizeLine; decide, fun p3 hp3 => ?_⟩
    have w15 := w14.own hp3 (mdl c n wr t)
    have b15 : BW K A F0 H0 F13 (upd H14 p3 (mdl c n wr t)) ((p, mdl c n wr f.top) :: (dx2, HO.own pl2) :: (l4 A pl dx cl nl wl kn5 kw5 f ++ ((dx, HO.own pl) :: M))) pl2 dx2 cl2 nl2 wl2 p3 c n wr kn6 kw6 kn3 kw3 { f with top := t } := by
      refine w15.re fun a => ?_
      simp only [l4, m4, List.cons_append, List.nil_append, cn_app, cn_cons, cn_nil, Nat.add_comm, Nat.add_left_comm, Nat.add_assoc]
    refine ⟨F0, H0, F13, _, pl2, dx2, cl2, nl2, wl2, p3, c, n, wr, kn6, kw6, kn3, kw3, { f with top := t }, rfl, b15, ⟨rn6, rw6, rn3.mono fun v b h => dp_mono e613 h, rw3.mono fun v b h => dp_mono e613 h, fewn, by show f.caps.length ≤ 100; omega⟩, fun F16 H16 e16 b16 => ?_⟩
    have e0 : Same F F16 := e04.trans (e5.trans (e6.trans (e613.trans e16)))
    refine k F16 H16 e0 ⟨kn3, kw3, ?_, rn3.mono fun v b (h : nmR K F6 v b) => dp_mono (e613.trans e16) h, rw3.mono fun v b (h : wdR K F6 v b) => dp_mono (e613.trans e16) h, ?_⟩
    · have w17 : Wd F0 H0 F16 H16 ([(p3, mdl c n wr t), (dx2, HO.own pl2), (dx, HO.own pl)] ++ (l4 A pl2 dx2 cl2 nl2 wl2 kn6 kw6 { f with top := t } ++ (l4 A pl dx cl nl wl kn5 kw5 f ++ (m4 p c n wr kn3 kw3 f ++ M)))) := by
        refine b16.re fun a => ?_
        simp only [l4, m4, List.cons_append, List.nil_append, cn_app, cn_cons, cn_nil, Nat.add_comm, Nat.add_left_comm, Nat.add_assoc]
      exact w17.sub ((List.sublist_append_right _ _).trans ((List.sublist_append_right _ _).trans (List.sublist_append_right _ _)))
    · have a1 := (rn2.perm rn3).length_eq
      have a2 := (rw2.perm rw3).length_eq
      rw [List.length_map, List.length_map] at a1 a2
      omega

end
end Q

set_option Elab.async false
set_option linter.all false
set_option maxRecDepth 100000
set_option maxHeartbeats 8000000
namespace Q
open PySem PySem.Spec PyProof.Rows L2 TL PW Rc
section
variable {P : Program} {w : World} {K : PySem.W.Frag} {mg : Str → Option Value} {base : Heap} {A : Ad}
/-! ### the law -/
def spLaw (K : PySem.W.Frag) : Sp := fun vs H Q _ => ∃ (a : Addr) (ns : List Int), vs = [.ref a] ∧ SqL K H a (ns.map V.int) ∧ ns.length ≤ 63 ∧ ∀ H', Q (.bl true) H'
theorem lastRun_len (rs : List Rec) : (lastRun rs).length ≤ rs.length := by
  have key : ∀ (l : List Rec) (acc : List Rec), (l.foldl (fun acc r => if r.isPic = true then [r] else acc ++ [r]) acc).length ≤ acc.length + l.length := by
    intro l
    induction l with
    | nil => intro acc; exact Nat.le_refl _
    | cons r l ih =>
      intro acc
      rw [List.foldl_cons]
      refine Nat.le_trans (ih _) ?_
      split
      · rw [List.length_cons]; simp; omega
      · rw [List.length_append, List.length_cons]; simp; omega
  have := key rs []
  unfold lastRun
  simpa using this
def szD : List Int := [5, 8, 41, 41, 41, 41, 41, 41]
theorem szK_ok : ∀ s ∈ szK, 0 < s ∧ s < 1073741824 := by decide
theorem szD_ok : ∀ s ∈ szD, 0 < s ∧ s < 1073741824 := by decide
/-- behind each record -/
structure LJ (K : PySem.W.Frag) (H F1 F H' : Hp) (xs : List Str) (Rr Tx p c n wr : Addr) (vr : List V) (all : List Rec) (m : Nat) (B : Int) (f : FSt) : Prop where
  ff : Same F1 F
  mw : MW K H H F H' [(Rr, .lst vr), (Tx, .lst ((all.map recText).map V.str))] p c n wr m f
  g : Good xs B f
  da : DpAll K F vr ((lastRun all).map encR)
  run : RunOk (lastRun all) f
  np : ∀ r ∈ (lastRun all).tail, r.isPic = false
  ok : ∀ r ∈ all, RecOk r
  h0 : ∀ r, all[0]? = some r → r.isPic = true
theorem LJ.same {H F1 F H' H'' : Hp} {xs : List Str} {Rr Tx p c n wr : Addr} {vr : List V} {all : List Rec} {m : Nat} {B : Int} {f : FSt} (L : LJ K H F1 F H' xs Rr Tx p c n wr vr all m B f) (e : Same H' H'') : LJ K H F1 F H'' xs Rr Tx p c n wr vr all m B f := by
  obtain ⟨kn, kw, w, a, b, d⟩ := L.mw
  exact ⟨L.ff, ⟨kn, kw, w.same e, a, b, d⟩, L.g, L.da, L.run, L.np, L.ok, L.h0⟩
theorem LJ.step {H F1 F H' F2 H2 : Hp} {xs : List Str} {Rr Tx p c n wr : Addr} {vr : List V} {all : List Rec} {m : Nat} {B : Int} {f : FSt} (L : LJ K H F1 F H' xs Rr Tx p c n wr vr all m B f) (s : Step F H' F2 H2) : LJ K H F1 F2 H2 xs Rr Tx p c n wr vr all m B f := by
  obtain ⟨kn, kw, w, a, b, d⟩ := L.mw
  exact ⟨L.ff.trans s.ff, ⟨kn, kw, w.step s, a.mono fun v b h => dp_mono s.ff h, b.mono fun v b h => dp_mono s.ff h, d⟩, L.g, dpa_mono s.ff L.da, L.run, L.np, L.ok, L.h0⟩
theorem log_of {H : Hp} {p : Addr} {all : List Rec} (h : SqL K H p ((all.map recText).map V.str)) (ok : ∀ r ∈ all, RecOk r) : LogAt K H p (all.map recText) (all.map some) := by
  refine ⟨h, by rw [List.length_map, List.length_map], fun i x o hx ho => ?_⟩
  rw [List.getElem?_map] at hx ho
  cases q : all[i]? with
  | none => rw [q] at hx; cases hx
  | some r =>
    rw [q] at hx ho
    cases hx
    cases ho
    have hr := ok r (List.mem_of_getElem? q)
    exact ⟨⟨rfl, hr⟩, Nat.le_trans (recText_len hr) (by decide)⟩
theorem ok_law (T : Txt K mg A) : FnOk P w K mg base CX0 20 A.a_law A.d_law ["_law_script"] (spLaw K) := by
  suffices G : FnOk P w K mg base CX0 10 A.a_law A.d_law ["_law_script"] (spLaw K) from G.mono (by decide)
  refine T.F_law.ok sc_law (fun vs H Q E h => ?_) (fun cdv A' outer s H vs Q E hr h => ?_)
  · obtain ⟨a, ns, rfl, _⟩ := h; rfl
  · obtain ⟨a, ns, rfl, hs, hn, k⟩ := h
    have hu64 := hu64_of hr
    have w := Wd.start (Same.refl H)
    refine ⟨_, pss_cons (ps_set (i := 1) sc_law.nd rfl (Or.inl rfl) (pe_op (op_addK (K := K) rfl) (pe_call (ok_L_names T) (hr.mono (by decide)) rfl T.g_L_names T.F_L_names.kp T.b_L_names .nil pass0 (pa_cons (pe_call (ok_L_cell T) (hr.mono (by decide)) rfl T.g_L_cell T.F_L_cell.kp T.b_L_cell .nil pass0 (pa_cons (pv 0) (pa_cons (pe_int) pa_nil))) pa_nil)) (pe_call (ok_L_names T) (hr.mono (by decide)) rfl T.g_L_names T.F_L_names.kp T.b_L_names .nil pass0 (pa_cons (pe_op (op_addK (K := K) rfl) (pe_call (ok_L_cell T) (hr.mono (by decide)) rfl T.g_L_cell T.F_L_cell.kp T.b_L_cell .nil pass0 (pa_cons (pv 0) (pa_cons (pe_int) pa_nil))) (pe_int)) pa_nil))))
  (pss_cons (ps_set (i := 2) sc_law.nd rfl (Or.inl rfl) (pe_op (op_addK (K := K) rfl) (pe_lst (pa_cons (pe_int) (pa_cons (pe_int) (pa_cons (pe_int) (pa_cons (pe_int) (pa_cons (pe_int) (pa_cons (pe_int) (pa_cons (pe_int) pa_nil)))))))) (pe_op op_mulU (pe_lst (pa_cons (pe_int) pa_nil)) (pe_int))))
  (pss_cons (ps_set (i := 3) sc_law.nd rfl (Or.inr rfl) (pe_call (ok_L_draws T) (hr.mono (by decide)) rfl T.g_L_draws T.F_L_draws.kp T.b_L_draws .nil pass0 (pa_cons (pe_op (op_addK (K := K) rfl) (pe_call (ok_L_cell T) (hr.mono (by decide)) rfl T.g_L_cell T.F_L_cell.kp T.b_L_cell .nil pass0 (pa_cons (pv 0) (pa_cons (pe_int) pa_nil))) (pe_int)) (pa_cons (pe_op (op_addK (K := K) rfl) (pe_lst (pa_cons (pe_int) (pa_cons (pe_int) pa_nil))) (pe_op op_mulU (pe_lst (pa_cons (pe_int) pa_nil)) (pe_int))) pa_nil))))
  (pss_cons (ps_set (i := 4) sc_law.nd rfl (Or.inl rfl) (pe_lst (pa_cons (pe_lc (own := [("_law_k", 5)]) rfl sc_law.nd (pi_range1 rfl T.n_range (pa_cons (pe_op (op_addK (K := K) rfl) (pe_ix (ix_K (K := K) rfl) (pv 3) (pe_int) (fun _ _ => rfl)) (pe_int)) pa_nil)) (blkOk_by (own := [("_law_k", 5)]) (N := ["_law_script", "_law_names_here", "_law_sizes", "_law_drawn", "_law_model", "_law_k", "_law_row", "_law_records", "_law_texts", "_law_record_here", "_law_ledger", "_law_first"]) (sc := defScope s_law) (by decide +kernel)) (fun _ _ _ _ _ => pg_name (i := 5) sc_law.nd rfl (Or.inl rfl)) (fun _ _ _ _ _ => pts_nil) (fun _ _ _ _ _ => pe_ix (ix_K (K := K) rfl) (pv 3) (pe_op (op_addK (K := K) rfl) (pe_int) (pv 5)) (fun _ _ => rfl))) (pa_cons (pe_dnewK) (pa_cons (pe_dnewK) (pa_cons (pe_int) pa_nil))))))
  (pss_cons (ps_for PassesOwn.never rfl (pi_range1 rfl T.n_range (pa_cons (pe_ix (ix_K (K := K) rfl) (pv 3) (pe_int) (fun _ _ => rfl)) pa_nil)) (pg_name (i := 5) sc_law.nd rfl (Or.inl rfl)) (pss_cons (ps_set (i := 6) sc_law.nd rfl (Or.inl rfl) (pe_call (ok_L_draws T) (hr.mono (by decide)) rfl T.g_L_draws T.F_L_draws.kp T.b_L_draws .nil pass0 (pa_cons (pe_op (op_addK (K := K) rfl) (pe_op (op_addK (K := K) rfl) (pe_call (ok_L_cell T) (hr.mono (by decide)) rfl T.g_L_cell T.F_L_cell.kp T.b_L_cell .nil pass0 (pa_cons (pv 0) (pa_cons (pe_op (op_addK (K := K) rfl) (pe_int) (pv 5)) pa_nil))) (pe_op op_mulU (pe_int) (pv 5))) (pe_int)) (pa_cons (pv 2) pa_nil))))
    (pss_one (ps_expr (pe_call (ok_L_put T) (hr.mono (by decide)) rfl T.g_L_put T.F_L_put.kp T.b_L_put .nil pass0 (pa_cons (pv 4) (pa_cons (pe_ix (ix_K (K := K) rfl) (pv 1) (pe_ix (ix_K (K := K) rfl) (pv 6) (pe_int) (fun _ _ => rfl)) (fun _ _ => rfl)) (pa_cons (pv 6) pa_nil))))))))
  (pss_cons (ps_asg (pe_call (ok_L_top T) (hr.mono (by decide)) rfl T.g_L_top T.F_L_top.kp T.b_L_top .nil pass0 (pa_cons (pv 4) pa_nil)) (pg_sub (pv 4) (pe_int) set_list))
  (pss_cons (ps_set (i := 7) sc_law.nd rfl (Or.inl rfl) (pe_lst (pa_cons (pe_call (ok_L_picture T) (hr.mono (by decide)) rfl T.g_L_picture T.F_L_picture.kp T.b_L_picture .nil pass0 (pa_cons (pv 4) pa_nil)) pa_nil)))
  (pss_cons (ps_set (i := 8) sc_law.nd rfl (Or.inl rfl) (pe_lst (pa_cons (pe_call (ok_record_text T) (hr.mono (by decide)) rfl T.g_record_text T.F_record_text.kp T.b_record_text .nil pass0 (pa_cons (pe_ix (ix_K (K := K) rfl) (pv 7) (pe_int) (fun _ _ => rfl)) pa_nil)) pa_nil)))
  (pss_cons (ps_if (pt_not (pt_val (pe_call (ok_L_is_told T) (hr.mono (by decide)) rfl T.g_L_is_told T.F_L_is_told.kp T.b_L_is_told .nil pass0 (pa_cons (pv 7) (pa_cons (pv 4) pa_nil))))) (pss_one (ps_ret (pe_bl))) (pss_nil))
  (pss_cons (ps_for PassesOwn.never rfl (pi_range1 rfl T.n_range (pa_cons (pe_callB (call_min2 rfl) (by rfl) T.n_min (by decide +kernel) (pa_cons (pe_int) (pa_cons (pe_callB (call_max2 rfl) (by rfl) T.n_max (by decide +kernel) (pa_cons (pe_int) (pa_cons (pe_op op_sub (pe_callB (call_lenK (K := K) rfl) (by rfl) T.n_len (by decide +kernel) (pa_cons (pv 0) pa_nil)) (pe_int)) pa_nil))) pa_nil))) pa_nil)) (pg_name (i := 5) sc_law.nd rfl (Or.inl rfl)) (pss_cons (ps_set (i := 6) sc_law.nd rfl (Or.inl rfl) (pe_call (ok_L_draws T) (hr.mono (by decide)) rfl T.g_L_draws T.F_L_draws.kp T.b_L_draws .nil pass0 (pa_cons (pe_op (op_addK (K := K) rfl) (pe_call (ok_L_cell T) (hr.mono (by decide)) rfl T.g_L_cell T.F_L_cell.kp T.b_L_cell .nil pass0 (pa_cons (pv 0) (pa_cons (pe_op (op_addK (K := K) rfl) (pe_int) (pv 5)) pa_nil))) (pe_op op_mulU (pe_int) (pv 5))) (pa_cons (pv 2) pa_nil))))
    (pss_cons (ps_set (i := 9) sc_law.nd rfl (Or.inl rfl) (pe_call (ok_L_record T) (hr.mono (by decide)) rfl T.g_L_record T.F_L_record.kp T.b_L_record .nil pass0 (pa_cons (pv 4) (pa_cons (pv 1) (pa_cons (pv 6) pa_nil)))))
    (pss_cons (ps_expr (pe_bm PySem.F.plainAttrs_list PySem.F.slot_list_append PySem.F.type_list_append mt_append (pv 8) (pa_cons (pe_call (ok_record_text T) (hr.mono (by decide)) rfl T.g_record_text T.F_record_text.kp T.b_record_text .nil pass0 (pa_cons (pv 9) pa_nil)) pa_nil)))
    (Evl.pss_cut (ps_if (pt_cmpR (op_eqK (K := K) rfl hu64) (pe_ix (ix_K (K := K) rfl) (pv 9) (pe_int) (fun _ _ => rfl)) (pe_str) (nomark _)) (pss_one (ps_set (i := 7) sc_law.nd rfl (Or.inl rfl) (pe_lst (pa_nil)))) (pss_nil))
    (pss_cons (ps_expr (pe_bm PySem.F.plainAttrs_list PySem.F.slot_list_append PySem.F.type_list_append mt_append (pv 7) (pa_cons (pv 9) pa_nil)))
    (pss_one (ps_if (pt_not (pt_val (pe_call (ok_L_is_told T) (hr.mono (by decide)) rfl T.g_L_is_told T.F_L_is_told.kp T.b_L_is_told .nil pass0 (pa_cons (pv 7) (pa_cons (pv 4) pa_nil))))) (pss_one (ps_ret (pe_bl))) (pss_nil)))))))))
  (pss_cons (ps_set (i := 10) sc_law.nd rfl (Or.inl rfl) (pe_make T.M_Ledger (ok_Ledger_init T) (hr.mono (by decide)) rfl T.g_Ledger T.b_Ledger_init .nil pass_E0 (pa_cons (pe_call (ok_read_log T) (hr.mono (by decide)) rfl T.g_read_log T.F_read_log.kp T.b_read_log .nil pass0 (pa_cons (pv 8) pa_nil)) pa_nil)))
  (pss_cons (ps_if (PW.pt (pw_or (pt_not (pt_val (pe_call (ok_L_says T) (hr.mono (by decide)) rfl T.g_L_says T.F_L_says.kp T.b_L_says .nil pass0 (pa_cons (pv 10) (pa_cons (pv 4) pa_nil))))) (pw_or1 (pt_not (pt_val (pe_call (ok_L_alikeN T 5) (hr.mono (by decide)) rfl T.g_L_alike T.F_L_alike.kp T.b_L_alike .nil pass0 (pa_cons (pe_meth0 (pv 10) T.cl_Ledger T.m_Ledger_to_picture (ok_Ledger_to_picture T) (hr.mono (by decide)) T.b_Ledger_to_picture .nil pass0) (pa_cons (pe_call (ok_L_picture T) (hr.mono (by decide)) rfl T.g_L_picture T.F_L_picture.kp T.b_L_picture .nil pass0 (pa_cons (pv 4) pa_nil)) pa_nil)))))))) (pss_one (ps_ret (pe_bl))) (pss_nil))
  (pss_cons (ps_if (pt_not (pt_val (pe_call (ok_L_says T) (hr.mono (by decide)) rfl T.g_L_says T.F_L_says.kp T.b_L_says .nil pass0 (pa_cons (pe_make T.M_Ledger (ok_Ledger_init T) (hr.mono (by decide)) rfl T.g_Ledger T.b_Ledger_init .nil pass_E0 (pa_cons (pe_lst (pa_cons (pe_tup (pa_cons (pe_str) (pa_cons (pe_tup (pa_cons (pe_int) pa_nil)) (pa_cons (pe_tup (pa_nil)) (pa_cons (pe_tup (pa_nil)) pa_nil))))) pa_nil)) pa_nil)) (pa_cons (pe_lst (pa_cons (pe_lst (pa_cons (pe_int) pa_nil)) (pa_cons (pe_dnewK) (pa_cons (pe_dnewK) (pa_cons (pe_int) pa_nil))))) pa_nil))))) (pss_one (ps_ret (pe_bl))) (pss_nil))
  (pss_cons (ps_if (PW.pt (pw_or (pt_not (pt_val (pe_call (ok_L_says T) (hr.mono (by decide)) rfl T.g_L_says T.F_L_says.kp T.b_L_says .nil pass0 (pa_cons (pv 10) (pa_cons (pv 4) pa_nil))))) (pw_or1 (pt_not (pt_val (pe_call (ok_L_alikeN T 5) (hr.mono (by decide)) rfl T.g_L_alike T.F_L_alike.kp T.b_L_alike .nil pass0 (pa_cons (pe_meth0 (pv 10) T.cl_Ledger T.m_Ledger_to_picture (ok_Ledger_to_picture T) (hr.mono (by decide)) T.b_Ledger_to_picture .nil pass0) (pa_cons (pe_call (ok_L_picture T) (hr.mono (by decide)) rfl T.g_L_picture T.F_L_picture.kp T.b_L_picture .nil pass0 (pa_cons (pv 4) pa_nil)) pa_nil)))))))) (pss_one (ps_ret (pe_bl))) (pss_nil))
  (Evl.pss_cut (ps_if (PW.pt (pw_and (pt_cmpR (op_gtK (K := K) rfl) (pe_callB (call_lenK (K := K) rfl) (by rfl) T.n_len (by decide +kernel) (pa_cons (pv 7) pa_nil)) (pe_int) (nomark _)) (pw_and1 (pt_not (pt_val (pe_call (ok_L_refused T) (hr.mono (by decide)) rfl T.g_L_refused T.F_L_refused.kp T.b_L_refused .nil pass0 (pa_cons (pe_slice (sl_K (K := K) rfl) (pv 7) (po_some (pe_int)) po_none) pa_nil))))))) (pss_one (ps_ret (pe_bl))) (pss_nil))
  (pss_cons (ps_for PassesOwn.never rfl (pi_listK (K := K) rfl (pe_lst (pa_cons (pe_tup (pa_cons (pe_str) (pa_cons (pe_ix (ix_K (K := K) rfl) (pv 1) (pe_int) (fun _ _ => rfl)) pa_nil))) (pa_cons (pe_tup (pa_cons (pe_str) (pa_cons (pe_ix (ix_K (K := K) rfl) (pv 1) (pe_int) (fun _ _ => rfl)) (pa_cons (pe_tup (pa_nil)) (pa_cons (pe_tup (pa_nil)) pa_nil))))) (pa_cons (pe_tup (pa_cons (pe_str) (pa_cons (pe_tup (pa_nil)) pa_nil))) (pa_cons (pe_tup (pa_cons (pe_str) (pa_cons (pe_int) (pa_cons (pe_int) (pa_cons (pe_tup (pa_nil)) pa_nil))))) pa_nil)))))) (pg_name (i := 11) sc_law.nd rfl (Or.inl rfl)) (pss_one (ps_if (pt_not (pt_val (pe_call (ok_L_refused T) (hr.mono (by decide)) rfl T.g_L_refused T.F_L_refused.kp T.b_L_refused .nil pass0 (pa_cons (pe_op (op_addK (K := K) rfl) (pe_lst (pa_cons (pv 11) pa_nil)) (pv 7)) pa_nil)))) (pss_one (ps_ret (pe_bl))) (pss_nil))))
  (pss_one (ps_ret (pe_call (ok_L_refused T) (hr.mono (by decide)) rfl T.g_L_refused T.F_L_refused.kp T.b_L_refused .nil pass0 (pa_cons (pe_lst (pa_nil)) pa_nil))))))))))))))))))), ?_⟩
    -- the names
    refine ⟨_, rfl, a, ns, 0, rfl, hs, by decide, fun H1 s1 => ?_⟩
    have w1 := w.same s1
    refine ⟨H, _, rfl, w1.fh, fun q1 F2 H2 xs st2 hx4 hxn hq1 => ?_⟩
    have w2 := w1.step st2
    refine ⟨_, rfl, a, ns, 13, rfl, w2.hh.seq hs, by decide, fun H3 s3 => .inl ⟨_, _, rfl, rfl, ?_⟩⟩
    have w3 := w2.same s3
    refine ⟨F2, _, rfl, w3.fh, fun q2 F4 H4 ys st4 hy4 hyn hq2 => ?_⟩
    have w4 := w3.step st4
    refine .inr (.inr (.inl ⟨q1, q2, _, _, rfl, rfl, w4.fh _ _ (st4.ff _ _ hq1), w4.fh _ _ hq2, by rw [List.length_map, List.length_map, hx4, hy4]; decide, fun nq hnq => ?_⟩))
    rw [show xs.map V.str ++ ys.map V.str = (xs ++ ys).map V.str from (List.map_append ..).symm]
    obtain ⟨w5, e5⟩ := w4.fix hnq (.lst ((xs ++ ys).map V.str))
    obtain ⟨xs8, hxe⟩ : ∃ l, xs ++ ys = l := ⟨_, rfl⟩
    have hx8' : xs8.length = 8 := by rw [← hxe, List.length_append, hx4, hy4]
    have hx8 : xs8.length ≤ 8 := Nat.le_of_eq hx8'
    have hxs : ∀ x ∈ xs8, NameOk x := fun x hx => by
      rw [← hxe] at hx
      rcases List.mem_append.mp hx with hx | hx
      · exact hxn x hx
      · exact hyn x hx
    rw [hxe] at w5 e5 ⊢
    -- the sizes
    refine ⟨by show 7 ≤ sizeLine; decide, fun p6 h6 => ?_⟩
    obtain ⟨w6, e6⟩ := w5.fix h6 (.lst [.int 8, .int 8, .int 8, .int 4, .int 41, .int 60, .int 32])
    refine ⟨by show 1 ≤ sizeLine; decide, fun p7 h7 => ?_⟩
    obtain ⟨w7, e7⟩ := w6.fix h7 (.lst [.int 840])
    refine .inr ⟨p7, 5, _, rfl, rfl, upd_same, by decide, by decide, by show 1 * 5 ≤ sizeLine; decide, fun p8 h8 => ?_⟩
    obtain ⟨w8, e8⟩ := w7.fix h8 (.lst (List.replicate (5 : Int).toNat [V.int 840]).flatten)
    refine .inr (.inr (.inl ⟨p6, p8, _, _, rfl, rfl, w8.fh _ _ ((e7.trans e8) _ _ upd_same), upd_same, by show 7 + 5 ≤ sizeLine; decide, fun sz hsz => ?_⟩))
    obtain ⟨w9, e9⟩ := w8.fix hsz (.lst (szK.map V.int))
    -- the beginning
    refine ⟨_, rfl, a, ns, 1, rfl, w9.hh.seq hs, by decide, fun H10 s10 => .inl ⟨_, _, rfl, rfl, ?_⟩⟩
    have w10 := w9.same s10
    refine ⟨by show 2 ≤ sizeLine; decide, fun p11 h11 => ?_⟩
    obtain ⟨w11, e11⟩ := w10.fix h11 (.lst [.int 5, .int 8])
    refine ⟨by show 1 ≤ sizeLine; decide, fun p12 h12 => ?_⟩
    obtain ⟨w12, e12⟩ := w11.fix h12 (.lst [.int 41])
    refine .inr ⟨p12, 6, _, rfl, rfl, upd_same, by decide, by decide, by show 1 * 6 ≤ sizeLine; decide, fun p13 h13 => ?_⟩
    obtain ⟨w13, e13⟩ := w12.fix h13 (.lst (List.replicate (6 : Int).toNat [V.int 41]).flatten)
    refine .inr (.inr (.inl ⟨p11, p13, _, _, rfl, rfl, w13.fh _ _ ((e12.trans e13) _ _ upd_same), upd_same, by show 2 + 6 ≤ sizeLine; decide, fun p14 h14 => ?_⟩))
    obtain ⟨w14, e14⟩ := w13.fix h14 (.lst (szD.map V.int))
    refine ⟨_, _, p14, szD, rfl, .of upd_same, szD_ok, by decide, w14.fh, fun dq F15 H15 ds st15 dr15 hdq => ?_⟩
    have w15 := w14.step st15
    have eN : Same (upd F4 nq (.lst (xs8.map V.str))) F15 := e6.trans (e7.trans (e8.trans (e9.trans (e11.trans (e12.trans (e13.trans (e14.trans st15.ff)))))))
    have eS := e11.trans (e12.trans (e13.trans (e14.trans st15.ff)))
    have hnq15 : SqL K F15 nq (xs8.map V.str) := .of (eN _ _ upd_same)
    have hsz15 : SqL K F15 sz (szK.map V.int) := .of (eS _ _ upd_same)
    clear eN eS e5 e6 e7 e8 e9 e11 e12 e13 e14 w w1 w2 w3 w4 w5 w6 w7 w8 w9 w10 w11 w12 w13 w14
    obtain ⟨d0, D0, b0, c0⟩ := drawn_at dr15 (i := 0) (s := 5) rfl
    obtain ⟨d1, D1, b1, c1⟩ := drawn_at dr15 (i := 1) (s := 8) rfl
    have at41 : ∀ i : Nat, i < 6 → ∃ d, ds[2 + i]? = some d ∧ 0 ≤ d ∧ d < 41 := fun i hi => by
      refine drawn_at dr15 ?_
      have : i = 0 ∨ i = 1 ∨ i = 2 ∨ i = 3 ∨ i = 4 ∨ i = 5 := by omega
      rcases this with rfl | rfl | rfl | rfl | rfl | rfl <;> rfl
    -- the model
    refine ⟨_, rfl, row_ix (same_l w15.fh hdq) D0 rfl (.inl ⟨_, _, rfl, rfl, d0 + 2, rfl, by omega, by omega, fun c hc => ?_⟩)⟩
    obtain ⟨caps, hcapsE⟩ : ∃ caps : List Int, caps = (List.range (d0 + 2).toNat).map fun i => ds.getD (2 + i) 0 := ⟨_, rfl⟩
    have hcl : caps.length = (d0 + 2).toNat := by rw [hcapsE]; simp
    have hcat : ∀ (i : Nat) (x : Int), caps[i]? = some x → ds[2 + i]? = some x ∧ 0 ≤ x ∧ x < 41 := fun i x hx => by
      have hi : i < (d0 + 2).toNat := by rw [← hcl]; exact (List.getElem?_eq_some_iff.mp hx).1
      obtain ⟨d, hd, h1, h2⟩ := at41 i (by omega)
      rw [hcapsE] at hx
      obtain ⟨_, e⟩ := range_at hx
      rw [List.getD_eq_getElem?_getD, hd] at e
      have e : x = d := e
      subst e
      exact ⟨hd, h1, h2⟩
    refine lc_wdR (K := K) (lo := 0) (n := (d0 + 2).toNat) (caps.map PyData.int) (by rw [List.length_map, hcl]) w15 hc (by omega) ?_ ?_
    · intro i d F H' acc Q1 hi hd e1 w1 kk
      obtain ⟨x, hx, rfl⟩ := item_map hd
      obtain ⟨hx1, _, _⟩ := hcat i x hx
      exact ⟨rfl, _, rfl, _, rfl, .inl ⟨_, _, rfl, rfl, row_ix (same_l (e1.trans w1.fh) hdq) hx1 (by omega) (kk _ F H' (.refl w1.fh) (.int _))⟩⟩
    intro cv F16 H16 e16 w16 da16
    have ev := dpa_ints da16
    subst ev
    refine fun n hn0 => ?_
    have w17 := w16.own hn0 (.dK [])
    refine fun wr hwr => ?_
    have w18 := w17.own hwr (.dK [])
    refine ⟨by show 4 ≤ sizeLine; decide, fun p hp => ?_⟩
    have w19 := w18.own hp (mdl c n wr 0)
    have L0 : MW K H H F16 _ [] p c n wr 0 (FSt.zero caps) := ⟨[], [], w19.re fun a => by
      show cn [(p, mdl c n wr 0), (wr, .dK []), (n, .dK []), (c, .lst (caps.map V.int))] a = cn [(p, mdl c n wr 0), (c, .lst (caps.map V.int)), (n, .dK []), (wr, .dK [])] a
      simp only [cn_cons, cn_nil, Nat.add_comm, Nat.add_left_comm, Nat.add_assoc], .nil, .nil, Nat.le_refl _⟩
    have g0 : Good xs8 0 (FSt.zero caps) := by
      refine ⟨by show 2 ≤ caps.length; omega, by show caps.length ≤ 6; omega, fun x hx => ?_, (fun x ns h => nomatch h), (fun x y ns ms i h => nomatch h), (fun i u h => nomatch h), (fun i h => nomatch h), ⟨Int.le_refl _, Int.le_refl _⟩⟩
      obtain ⟨i, hi⟩ := List.mem_iff_getElem?.mp hx
      have := hcat i x hi
      unfold NumOk
      omega
    have hnq16 : SqL K F16 nq (xs8.map V.str) := same_l e16 hnq15
    have hsz16 : SqL K F16 sz (szK.map V.int) := same_l e16 hsz15
    have hdq16 := same_l e16 hdq
    -- the first puts
    refine ⟨_, rfl, row_ix (same_l (mw_fh L0) hdq16) D1 rfl ⟨d1, rfl, by omega, by omega, for_range (lo := 0) (n := d1.toNat) (fun i σ H' => ∃ (F : Hp) (f : FSt) (v5 v6 : Option V), σ = [some (.ref a), some (.ref nq), some (.ref sz), some (.ref dq), some (.ref p), v5, v6, none, none, none, none, none] ∧ Same F16 F ∧ MW K H H F H' [] p c n wr (20 * i) f ∧ Good xs8 (50010 * (i : Int)) f)
      ⟨F16, FSt.zero caps, _, _, rfl, .refl _, L0, g0.mono (by omega)⟩ ?_ ?_⟩⟩
    · rintro i σ H1 hi ⟨F, f, v5, v6, rfl, eF, L, g⟩
      have hsH : SqL K H1 a (ns.map V.int) := by obtain ⟨kn, kw, w, _⟩ := L; exact w.hh.seq hs
      refine ⟨_, rfl, _, rfl, .inl ⟨_, _, rfl, rfl, a, ns, _, rfl, hsH, by omega, fun H2 s2 => ?_⟩⟩
      refine ⟨_, rfl, .inl ⟨_, _, rfl, rfl, .inl ⟨by decide, by decide⟩, .inl ⟨_, _, rfl, rfl, .inl ⟨_, _, rfl, rfl, ?_⟩⟩⟩⟩
      obtain ⟨kn, kw, w1, r1, r2, hl⟩ := L
      have w2 := w1.same s2
      refine ⟨_, rfl, _, _, sz, szK, rfl, same_l (eF.trans w2.fh) hsz16, szK_ok, by decide, w2.fh, fun ro F3 H3 R st3 dr hro => ?_⟩
      have L3 : MW K H H F3 H3 [] p c n wr (20 * i) f := ⟨kn, kw, w2.step st3, r1.mono fun v b h => dp_mono st3.ff h, r2.mono fun v b h => dp_mono st3.ff h, hl⟩
      obtain ⟨x1, R1, b1', c1'⟩ := drawn_at dr (i := 1) (s := 8) rfl
      obtain ⟨x, hx⟩ : ∃ x, xs8[x1.toNat]? = some x := ⟨_, List.getElem?_eq_getElem (by omega)⟩
      have hxm := List.mem_of_getElem? hx
      obtain ⟨fw1, fw2, fw3, fw4, fw5⟩ := g.few hx8
      have hcp6 := g.caps6
      have eH3 := mw_fh L3
      refine ⟨_, rfl, _, rfl, _, rfl, row_ix (same_l eH3 hro) R1 rfl (str_ix (same_l ((eF.trans st3.ff).trans eH3) hnq16) b1' hx ⟨_, rfl, H, H, F3, [], p, c, n, wr, 20 * i, f, numsOf xs8 f, x, ro, R, rfl, L3, g.held x, hro, dr, fw3, fw4, g.le, g.caps2, by omega, by omega, fun v F' H' o kk ws o0 o1 k5 e' ent L' D' => ?_⟩)⟩
      exact ⟨F', _, _, _, rfl, eF.trans (st3.ff.trans e'), by rw [Nat.mul_succ]; exact L', (g.put hxm o0 o1 k5 ent).mono (by omega)⟩
    · rintro σ H1 ⟨F, f, v5, v6, rfl, eF, L, g⟩
      have g := g.mono (B' := 400000) (by omega)
      have L := mw_more (m' := 200) (by omega) L
      have hB8 : (400000 : Int) ≤ 900000000 := by decide
      obtain ⟨fw1, fw2, fw3, fw4, fw5⟩ := g.few hx8
      -- the first picture
      refine ⟨_, rfl, H, H, F, [], p, c, n, wr, 200, f, numsOf xs8 f, rfl, L, fw3, fw4, fun t H2 ht s2 => ?_⟩
      obtain ⟨kn, kw, w1, r1, r2, hl⟩ := L
      have w2 := w1.same s2
      refine ⟨_, rfl, p, _, _, 3, rfl, rfl, w2.atM (L := []), rfl, ?_⟩
      rw [mdl_top]
      have L2 : MW K H H F _ [] p c n wr 200 { f with top := t } := ⟨kn, kw, w2.setM (L := []) (mdl c n wr t), r1, r2, hl⟩
      have g2 := g.topOf ht
      refine ⟨_, rfl, H, H, F, [], p, c, n, wr, 200, _, xs8, numsOf xs8 f, rfl, L2, g2.few hx8, fun names ws v F3 H3 pic e3 L3 D3 => ⟨by show 1 ≤ sizeLine; decide, fun Rr hRr => ?_⟩⟩
      have okp := picOk g2 hB8 hx8 hxs pic
      obtain ⟨kn, kw, w3, r1, r2, hl⟩ := L3
      have w4 := w3.own hRr (.lst [v])
      have D4 := dp_mono w4.fh D3
      refine ⟨_, rfl, .inl ⟨Rr, _, 0, _, rfl, rfl, .of w4.at_, atI_nat (j := 0) rfl, v, _, rfl, D4, okp, fun H5 s5 => ⟨by show 1 ≤ sizeLine; decide, fun Tx hTx => ?_⟩⟩⟩
      have w6 := (w4.same s5).own hTx (.lst [.str (recText (.picture f.caps names ws))])
      have J0 : LJ K H F16 F3 (upd H5 Tx (.lst [.str (recText (.picture f.caps names ws))])) xs8 Rr Tx p c n wr [v] [.picture f.caps names ws] 200 400000 { f with top := t } := by
        refine ⟨eF.trans e3, ⟨kn, kw, w6.re fun a => ?_, r1, r2, hl⟩, g2, dpa_one D3, RunOk.one g2 hB8 hx8 hxs ht pic, (fun r h => nomatch h), fun r hr => ?_, fun r hr => ?_⟩
        · show cn ((Tx, .lst [.str (recText (.picture f.caps names ws))]) :: (Rr, .lst [v]) :: ([(p, mdl c n wr t), (c, .lst (f.caps.map V.int)), (n, .dK kn), (wr, .dK kw)] ++ [])) a = cn ([(p, mdl c n wr t), (c, .lst (f.caps.map V.int)), (n, .dK kn), (wr, .dK kw)] ++ [(Rr, .lst [v]), (Tx, .lst [.str (recText (.picture f.caps names ws))])]) a
          simp only [List.append_eq, List.cons_append, List.nil_append, cn_app, cn_cons, cn_nil, Nat.add_comm, Nat.add_left_comm, Nat.add_assoc]
        · rw [List.mem_singleton.mp hr]; exact okp
        · cases hr; rfl
      refine ⟨_, rfl, _, rfl, H, H, F3, _, p, c, n, wr, 200, _, xs8, 400000, Rr, [v], _, rfl, J0.mw, J0.g, hx8', hB8, hxs, by simp, J0.da, J0.run, by show 1 ≤ 99; decide, fun F7 H7 e7 L7 => ⟨true, rfl, iteF ?_⟩⟩
      have J7 : LJ K H F16 F7 H7 xs8 Rr Tx p c n wr [v] [.picture f.caps names ws] 200 400000 { f with top := t } := ⟨J0.ff.trans e7, L7, J0.g, dpa_mono e7 J0.da, J0.run, J0.np, J0.ok, J0.h0⟩
      clear J0 L7 w6 w4 D4
      have hsH : SqL K H7 a (ns.map V.int) := by obtain ⟨kn, kw, w, _⟩ := J7.mw; exact w.hh.seq hs
      -- the records
      refine ⟨_, rfl, _, _, rfl, .inl ⟨_, hsH, rfl⟩, _, _, rfl, rfl, _, _, rfl, _, _, rfl, ?_⟩
      rw [List.length_map]
      generalize hj : (if (if (ns.length : Int) - 3 > 3 then (ns.length : Int) - 3 else 3) < 10 then (if (ns.length : Int) - 3 > 3 then (ns.length : Int) - 3 else 3) else 10) = j
      have hj10 : 0 ≤ j ∧ j ≤ 10 := by rw [← hj]; split <;> (try split) <;> omega
      refine ⟨j, rfl, by omega, by omega, for_range (lo := 0) (n := j.toNat) (fun i σ H' => ∃ (F : Hp) (f : FSt) (Rr : Addr) (vr : List V) (all : List Rec) (v5 v6 v9 : Option V), σ = [some (.ref a), some (.ref nq), some (.ref sz), some (.ref dq), some (.ref p), v5, v6, some (.ref Rr), some (.ref Tx), v9, none, none] ∧
        LJ K H F16 F H' xs8 Rr Tx p c n wr vr all (200 + 20 * i) (400000 + 50010 * (i : Int)) f ∧ all.length = i + 1) ?_ ?_ ?_⟩
      · exact ⟨F7, _, Rr, [v], _, _, _, none, rfl, J7, rfl⟩
      · clear J7 hsH
        rintro i σ H1 hi ⟨F, f, Rr, vr, all, v5, v6, v9, rfl, J, hall⟩
        have hsH : SqL K H1 a (ns.map V.int) := by obtain ⟨kn, kw, w, _⟩ := J.mw; exact w.hh.seq hs
        refine ⟨_, rfl, _, rfl, .inl ⟨_, _, rfl, rfl, a, ns, _, rfl, hsH, by omega, fun H2 s2 => ?_⟩⟩
        refine ⟨_, rfl, .inl ⟨_, _, rfl, rfl, .inl ⟨by decide, by decide⟩, .inl ⟨_, _, rfl, rfl, ?_⟩⟩⟩
        have J2 := J.same s2
        refine ⟨_, rfl, _, _, sz, szK, rfl, same_l (J2.ff.trans (mw_fh J2.mw)) hsz16, szK_ok, by decide, mw_fh J2.mw, fun ro F3 H3 R st3 dr hro => ?_⟩
        have J3 := J2.step st3
        have hBi : (400000 : Int) + 50010 * (i : Int) ≤ 900000000 := by omega
        refine ⟨_, rfl, _, rfl, _, rfl, H, H, F3, _, p, c, n, wr, 200 + 20 * i, f, xs8, _, nq, ro, R, rfl, J3.mw, J3.g, hx8', hxs, same_l J3.ff hnq16, hro, dr, by omega, hBi, fun v F4 H4 r f' e4 L4 D4 g4 okr hpic hnp => ?_⟩
        have hll := lastRun_len all
        have da4 := dpa_mono e4 J3.da
        have hvl : vr.length ≤ 11 := by rw [dpa_len da4, List.length_map]; omega
        have w4f := mw_fh L4
        -- its text
        obtain ⟨kn, kw, w4, r1, r2, hl⟩ := L4
        refine ⟨_, rfl, .inl ⟨rfl, _, .of (w4.atM (L := [_, _, _, _, _]))⟩, _, rfl, v, r, rfl, dp_mono w4f D4, okr, fun H5 s5 => ?_⟩
        have w5 := w4.same s5
        refine ⟨Tx, _, _, rfl, rfl, w5.atM (L := [_, _, _, _, _]), small' (by rw [List.length_map, List.length_map]; omega), ?_⟩
        have w6 := w5.setM (L := [_, _, _, _, _]) (.lst ((all.map recText).map V.str ++ [.str (recText r)]))
        have eT : (all.map recText).map V.str ++ [V.str (recText r)] = ((all ++ [r]).map recText).map V.str := by rw [List.map_append, List.map_append]; rfl
        rw [eT] at w6 ⊢
        obtain ⟨qv, x0, xv, rfl, hqv, hx0⟩ := rec0_at D4
        -- the records begin anew at a picture
        refine ⟨fun σ' H' => ∃ (Rr' : Addr), σ' = [some (.ref a), some (.ref nq), some (.ref sz), some (.ref dq), some (.ref p), some (.int (0 + (i : Int))), some (.ref ro), some (.ref Rr'), some (.ref Tx), some (.ref qv), none, none] ∧
          Wd H H F4 H' ([(p, mdl c n wr f'.top), (c, .lst (f'.caps.map V.int)), (n, .dK kn), (wr, .dK kw)] ++ [(Rr', .lst (if r.isPic = true then [] else vr)), (Tx, .lst (((all ++ [r]).map recText).map V.str))]), ?_, ?_⟩
        · refine ⟨_, rfl, .inr (.inl ⟨qv, _, 0, _, rfl, rfl, same_t w6.fh hqv, atI_nat (j := 0) rfl, .inl ⟨rfl, _, rfl, iteD (fun cc => ?_) (fun cc => ?_)⟩⟩)⟩
          · have pc : r.isPic = true := hx0.mp (V.str.inj cc)
            refine ⟨Nat.zero_le _, fun R2 hR2 => ⟨R2, rfl, ?_⟩⟩
            have w7 := w6.own hR2 (.lst [])
            rw [if_pos pc]
            have w8 : Wd H H F4 _ ((Rr, HO.lst vr) :: ([(p, mdl c n wr f'.top), (c, .lst (f'.caps.map V.int)), (n, .dK kn), (wr, .dK kw)] ++ [(R2, .lst []), (Tx, .lst (((all ++ [r]).map recText).map V.str))])) := w7.re fun a => by
              simp only [List.append_eq, List.cons_append, List.nil_append, cn_app, cn_cons, cn_nil, Nat.add_comm, Nat.add_left_comm, Nat.add_assoc]
            exact w8.drop
          · have pc : ¬ r.isPic = true := fun z => cc (by rw [hx0.mpr z])
            rw [if_neg pc]
            exact ⟨Rr, rfl, w6⟩
        rintro σ' H6 ⟨Rr', rfl, w7⟩
        have hvl2 : (if r.isPic = true then [] else vr).length ≤ 11 := by split
                                                                          · exact Nat.zero_le _
                                                                          · exact hvl
        refine ⟨_, rfl, .inl ⟨rfl, _, .of (w7.atM (L := [_, _, _, _]))⟩, _, rfl, Rr', _, _, rfl, rfl, w7.atM (L := [_, _, _, _]), small' (by omega), ?_⟩
        have w8 := w7.setM (L := [_, _, _, _]) (.lst ((if r.isPic = true then [] else vr) ++ [.ref qv]))
        have hlr : lastRun (all ++ [r]) = (if r.isPic = true then [] else lastRun all) ++ [r] := by
          rw [lastRun_snoc]
          split <;> rfl
        have J8 : LJ K H F16 F4 (upd H6 Rr' (.lst ((if r.isPic = true then [] else vr) ++ [.ref qv]))) xs8 Rr' Tx p c n wr ((if r.isPic = true then [] else vr) ++ [.ref qv]) (all ++ [r]) (200 + 20 * (i + 1)) (400000 + 50010 * ((i + 1 : Nat) : Int)) f' := by
          refine ⟨J3.ff.trans e4, ⟨kn, kw, w8, r1, r2, by omega⟩, g4.mono (by omega), ?_, ?_, ?_, fun x hx => ?_, fun x hx => ?_⟩
          · rw [hlr, List.map_append]
            refine dpa_snoc ?_ D4
            split
            · exact .nil
            · exact da4
          · by_cases pc : r.isPic = true
            · obtain ⟨names', ws', hre, hpo, hto⟩ := hpic pc
              rw [hlr, if_pos pc, hre]
              exact RunOk.one g4 (by omega) hx8 hxs hto hpo
            · have pc' : r.isPic = false := by simpa using pc
              obtain ⟨hf, hcp⟩ := hnp pc'
              rw [hlr, if_neg pc, hf]
              exact J3.run.snoc okr hcp
          · rw [hlr]
            split
            · intro x hx; cases hx
            · rename_i pc
              intro x hx
              have hne : lastRun all ≠ [] := lastRun_ne fun z => by rw [z] at hall; cases hall
              rw [List.tail_append_of_ne_nil hne] at hx
              rcases List.mem_append.mp hx with hx | hx
              · exact J3.np x hx
              · rw [List.mem_singleton.mp hx]; simpa using pc
          · rcases List.mem_append.mp hx with hx | hx
            · exact J3.ok x hx
            · rw [List.mem_singleton.mp hx]; exact okr
          · refine J3.h0 x ?_
            rwa [List.getElem?_append_left (by omega)] at hx
        refine ⟨_, rfl, _, rfl, H, H, F4, _, p, c, n, wr, _, f', xs8, _, Rr', _, _, rfl, J8.mw, J8.g, hx8', by omega, hxs, by simp, J8.da, J8.run, by have := lastRun_len (all ++ [r]); rw [List.length_append] at this; simp at this; omega, fun F9 H9 e9 L9 => ⟨true, rfl, iteF ?_⟩⟩
        exact ⟨F9, f', Rr', _, _, _, _, _, rfl, ⟨J8.ff.trans e9, L9, J8.g, dpa_mono e9 J8.da, J8.run, J8.np, J8.ok, J8.h0⟩, by rw [List.length_append, hall]; rfl⟩
      -- behind the loop
      clear J7 hsH L2 g2 okp pic w3 w2 w1 r1 r2 hl D3 g fw1 fw2 fw3 fw4 fw5 ht
      rintro σ H1 ⟨F, f, Rr, vr, all, v5, v6, v9, rfl, J, hall⟩
      have hB8 : (400000 : Int) + 50010 * ((j.toNat : Nat) : Int) ≤ 900000000 := by omega
      have g := J.g
      have few := g.few hx8
      have hcp6 := g.caps6
      have fewn : ∀ x ns, f.names x = some ns → ns.length ≤ 100 := fun x ns h => by have := (g.nm x ns h).2.2.1; omega
      have hll := lastRun_len all
      obtain ⟨kn, kw, w0, rn, rw', hl⟩ := J.mw
      have hTx := w0.atM (L := [_, _, _, _, _])
      -- the ledger of the texts
      refine ⟨_, rfl, F, Tx, _, all.map some, rfl, log_of (.of hTx) J.ok, by rw [List.length_map]; omega, w0.fh, fun v F2 H2 st2 D2 => ?_⟩
      have hc : (countN (all.map some) (all.map some).length).1 = lastRun all := by
        have h := count_whole (n := 0) J.h0
        rw [List.replicate_zero, List.append_nil, Nat.add_zero] at h
        rw [List.length_map, h]
      rw [hc] at D2
      have w2 := w0.step st2
      obtain ⟨lq, lv, rfl, hlq, dlv⟩ := dp_list D2
      refine fun pl dx hpl hdx hne => ?_
      have w3 := w2.own hdx (.own pl)
      have hpl' : upd H2 dx (.own pl) pl = none := by rw [upd_ne (Ne.symm hne)]; exact hpl
      have w4 := w3.own hpl' (.ins A.A_Ledger dx [])
      refine ⟨H, H, F2, _, pl, dx, lq, lv, lastRun all, rfl, w4, hlq, dlv, by omega, fun z => (run_pic J.run z).elim, fun caps' names' ws' rest' e => ⟨(run_row J.run e).1, (run_row J.run e).2, fun F5 H5 cl nl wl e5 L5 => ⟨rfl, ?_⟩⟩⟩
      rw [J.run.rep] at L5
      obtain ⟨lkn, lkw, w5, lrn, lrw, hl5⟩ := L5
      obtain ⟨M2, hM2⟩ : ∃ M2, M2 = [(Rr, HO.lst vr), (Tx, HO.lst ((all.map recText).map V.str))] := ⟨_, rfl⟩
      have e05 := st2.ff.trans e5
      have b5 : BW K A H H F5 H5 ((dx, HO.own pl) :: M2) pl dx cl nl wl p c n wr lkn lkw kn kw f := w5.re fun a => by
        rw [hM2]
        simp only [List.append_eq, List.cons_append, List.nil_append, cn_app, cn_cons, cn_nil, Nat.add_comm, Nat.add_left_comm, Nat.add_assoc]
      have D5 : BD K F5 lkn lkw kn kw f := ⟨lrn, lrw, rn.mono fun v b h => dp_mono e05 h, rw'.mono fun v b h => dp_mono e05 h, fewn, by omega⟩
      have noT : ∀ t, (lf cl nl wl t).lookup ("to_picture" : Str) = none := fun t => lf_no _ _ _ _ (by decide +kernel) (by decide +kernel) (by decide +kernel) (by decide +kernel)
      clear w5 w4 w3 w2
      -- ledger and model, once more
      refine ⟨_, rfl, _, rfl, H, H, F5, _, pl, dx, cl, nl, wl, p, c, n, wr, lkn, lkw, kn, kw, f, rfl, b5, D5, fun Fa1 Ha1 ea1 ba1 => ⟨true, rfl, iteF ?_⟩⟩
      have Da1 := BD.mono D5 ea1
      refine ⟨_, rfl, pl, dx, _, rfl, ba1.atM (L := []), noT _, H, H, Fa1, _, pl, dx, cl, nl, wl, _, f, xs8, numsOf xs8 f, rfl, ⟨lkn, lkw, ba1, Da1.rn, Da1.rw, Nat.le_refl _⟩, few, fun namesa2 wsa2 va2 Fa2 Ha2 pica2 ea2 La2 Dva2 => ?_⟩
      obtain ⟨kna2, kwa2, wa2, rna2, rwa2, hla2⟩ := La2
      have wa2' : Wd H H Fa2 Ha2 (m4 p c n wr kn kw f ++ (l4 A pl dx cl nl wl kna2 kwa2 f ++ ((dx, HO.own pl) :: M2))) := wa2.re fun a => by
        simp only [l4, m4, List.append_eq, List.cons_append, List.nil_append, cn_app, cn_cons, cn_nil, Nat.add_comm, Nat.add_left_comm, Nat.add_assoc]
      refine ⟨_, rfl, H, H, Fa2, _, p, c, n, wr, _, f, xs8, numsOf xs8 f, rfl, ⟨kn, kw, wa2', Da1.rn2.mono fun v b (h : nmR K Fa1 v b) => dp_mono ea2 h, Da1.rw2.mono fun v b (h : wdR K Fa1 v b) => dp_mono ea2 h, Nat.le_refl _⟩, few, fun namesa3 wsa3 va3 Fa3 Ha3 pica3 ea3 La3 Dva3 => ?_⟩
      obtain ⟨rfl, rfl⟩ := pic_same pica2 pica3
      obtain ⟨mna3, mwa3, wa3, rma3, rva3, hla3⟩ := La3
      have okpa3 := picOk g hB8 hx8 hxs pica2
      refine ⟨va2, va3, _, rfl, dp_mono (ea3.trans wa3.fh) Dva2, dp_mono wa3.fh Dva3, al_rec okpa3, fun Ha4 sa4 => ⟨true, rfl, iteF ?_⟩⟩
      have ba4 : BW K A H H Fa3 Ha4 ((dx, HO.own pl) :: M2) pl dx cl nl wl p c n wr kna2 kwa2 mna3 mwa3 f := (wa3.same sa4).re fun a => by
        simp only [l4, m4, List.append_eq, List.cons_append, List.nil_append, cn_app, cn_cons, cn_nil, Nat.add_comm, Nat.add_left_comm, Nat.add_assoc]
      have Da4 : BD K Fa3 kna2 kwa2 mna3 mwa3 f := ⟨rna2.mono fun v b h => dp_mono ea3 h, rwa2.mono fun v b h => dp_mono ea3 h, rma3, rva3, D5.few, D5.caps⟩
      have Ea4 := ea1.trans (ea2.trans ea3)
      -- another ledger
      refine ⟨by show 1 ≤ sizeLine; decide, fun t1 h1 => ?_⟩
      obtain ⟨Fx1, x1, g1, ig1⟩ := ba4.fixE h1 (.tup [.int 7])
      refine ⟨Nat.zero_le _, fun t2 h2 => ?_⟩
      obtain ⟨Fx2, x2, g2, ig2⟩ := x1.fixE h2 (.tup [])
      refine ⟨Nat.zero_le _, fun t3 h3 => ?_⟩
      obtain ⟨Fx3, x3, g3, ig3⟩ := x2.fixE h3 (.tup [])
      refine ⟨by show 4 ≤ sizeLine; decide, fun t4 h4 => ?_⟩
      obtain ⟨Fx4, x4, g4, ig4⟩ := x3.fixE h4 (.tup [.str wPicture, .ref t1, .ref t2, .ref t3])
      refine ⟨by show 1 ≤ sizeLine; decide, fun t5 h5 => ?_⟩
      obtain ⟨Fx5, x5, g5, ig5⟩ := x4.fixE h5 (.lst [.ref t4])
      refine fun pl2 dx2 hpl2 hdx2 hne2 => ?_
      have x6 := x5.own hdx2 (.own pl2)
      have hpl2' := (upd_ne (o := HO.own pl2) (Ne.symm hne2)).trans hpl2
      have x7 := x6.own hpl2' (.ins A.A_Ledger dx2 [])
      have D7 : Dp K Fx5 (.ref t4) (encR (.picture [7] [] [])) := .tup (.of (g5 _ _ ig4)) (.cons (.str _) (.cons (.tup (.of ((g2.trans (g3.trans (g4.trans g5))) _ _ ig1)) (.cons (.int 7) .nil)) (.cons (.tup (.of ((g3.trans (g4.trans g5)) _ _ ig2)) .nil) (.cons (.tup (.of ((g4.trans g5) _ _ ig3)) .nil) .nil))))
      have ok7 : RecOk (.picture [7] [] []) := ⟨(fun z => nomatch z), (fun x hx => by rw [List.mem_singleton.mp hx]; unfold NumOk; omega), by decide, (fun p h => nomatch h), List.Pairwise.nil, by decide, ⟨(fun x h => nomatch h), (fun x h => nomatch h), List.Pairwise.nil, by decide⟩⟩
      refine ⟨H, H, _, _, pl2, dx2, t5, [.ref t4], [.picture [7] [] []], rfl, x7, .of ig5, dpa_one D7, by decide, fun z => (z _ rfl rfl).elim, fun caps'' names'' ws'' rest'' e => ?_⟩
      cases e
      refine ⟨ok7, ⟨(fun r h => nomatch h), (fun s c ws h => nomatch h)⟩, fun F8 H8 cl2 nl2 wl2 e8 L8 => ⟨rfl, ?_⟩⟩
      have L8 : LW K A H H F8 H8 _ pl2 dx2 cl2 nl2 wl2 20000 (FSt.zero [7]) := L8
      obtain ⟨zkn, zkw, x8, zrn, zrw, zl⟩ := L8
      refine ⟨by show 1 ≤ sizeLine; decide, fun c3 hc3 => ?_⟩
      have x9 := x8.own hc3 (.lst ([7].map V.int))
      refine fun n3 hn3 => ?_
      have x10 := x9.own hn3 (.dK [])
      refine fun w3' hw3 => ?_
      have x11 := x10.own hw3 (.dK [])
      refine ⟨by show 4 ≤ sizeLine; decide, fun p3 hp3 => ?_⟩
      have x12 := x11.own hp3 (mdl c3 n3 w3' 0)
      have b12 : BW K A H H F8 _ ((dx2, HO.own pl2) :: (l4 A pl dx cl nl wl kna2 kwa2 f ++ (m4 p c n wr mna3 mwa3 f ++ ((dx, HO.own pl) :: M2)))) pl2 dx2 cl2 nl2 wl2 p3 c3 n3 w3' zkn zkw [] [] (FSt.zero [7]) := x12.re fun a => by
        show cn ((p3, mdl c3 n3 w3' 0) :: (w3', .dK []) :: (n3, .dK []) :: (c3, .lst ([7].map V.int)) :: ([(pl2, .ins A.A_Ledger dx2 (lf cl2 nl2 wl2 (FSt.zero [7]).top)), (cl2, .lst ((FSt.zero [7]).caps.map V.int)), (nl2, .dK zkn), (wl2, .dK zkw)] ++ ((dx2, HO.own pl2) :: (l4 A pl dx cl nl wl kna2 kwa2 f ++ (m4 p c n wr mna3 mwa3 f ++ ((dx, HO.own pl) :: M2)))))) a = cn ([(pl2, .ins A.A_Ledger dx2 (lf cl2 nl2 wl2 (FSt.zero [7]).top)), (cl2, .lst ((FSt.zero [7]).caps.map V.int)), (nl2, .dK zkn), (wl2, .dK zkw), (p3, mdl c3 n3 w3' 0), (c3, .lst ([7].map V.int)), (n3, .dK []), (w3', .dK [])] ++ ((dx2, HO.own pl2) :: (l4 A pl dx cl nl wl kna2 kwa2 f ++ (m4 p c n wr mna3 mwa3 f ++ ((dx, HO.own pl) :: M2))))) a
        generalize ((dx2, HO.own pl2) :: (l4 A pl dx cl nl wl kna2 kwa2 f ++ (m4 p c n wr mna3 mwa3 f ++ ((dx, HO.own pl) :: M2)))) = R
        simp only [l4, m4, List.append_eq, List.cons_append, List.nil_append, cn_app, cn_cons, cn_nil, Nat.add_comm, Nat.add_left_comm, Nat.add_assoc]
      refine ⟨H, H, F8, _, pl2, dx2, cl2, nl2, wl2, p3, c3, n3, w3', zkn, zkw, [], [], FSt.zero [7], rfl, b12, ⟨zrn, zrw, .nil, .nil, (fun x ns h => nomatch h), by decide⟩, fun F13 H13 e13 b13 => ⟨true, rfl, iteF ?_⟩⟩
      have e0 := g1.trans (g2.trans (g3.trans (g4.trans (g5.trans (e8.trans e13)))))
      have b14 : BW K A H H F13 H13 ((dx, HO.own pl) :: M2) pl dx cl nl wl p c n wr kna2 kwa2 mna3 mwa3 f := by
        have z : Wd H H F13 H13 ([(pl2, .ins A.A_Ledger dx2 (lf cl2 nl2 wl2 (FSt.zero [7]).top)), (cl2, .lst ((FSt.zero [7]).caps.map V.int)), (nl2, .dK zkn), (wl2, .dK zkw), (p3, mdl c3 n3 w3' 0), (c3, .lst ([7].map V.int)), (n3, .dK []), (w3', .dK []), (dx2, HO.own pl2)] ++ (l4 A pl dx cl nl wl kna2 kwa2 f ++ (m4 p c n wr mna3 mwa3 f ++ ((dx, HO.own pl) :: M2)))) := b13
        exact z.sub (List.sublist_append_right _ _)
      have D14 := Da4.mono e0
      -- ledger and model, once more
      refine ⟨_, rfl, _, rfl, H, H, F13, _, pl, dx, cl, nl, wl, p, c, n, wr, kna2, kwa2, mna3, mwa3, f, rfl, b14, D14, fun Fd1 Hd1 ed1 bd1 => ⟨true, rfl, iteF ?_⟩⟩
      have Dd1 := BD.mono D14 ed1
      refine ⟨_, rfl, pl, dx, _, rfl, bd1.atM (L := []), noT _, H, H, Fd1, _, pl, dx, cl, nl, wl, _, f, xs8, numsOf xs8 f, rfl, ⟨kna2, kwa2, bd1, Dd1.rn, Dd1.rw, Nat.le_refl _⟩, few, fun namesd2 wsd2 vd2 Fd2 Hd2 picd2 ed2 Ld2 Dvd2 => ?_⟩
      obtain ⟨knd2, kwd2, wd2, rnd2, rwd2, hld2⟩ := Ld2
      have wd2' : Wd H H Fd2 Hd2 (m4 p c n wr mna3 mwa3 f ++ (l4 A pl dx cl nl wl knd2 kwd2 f ++ ((dx, HO.own pl) :: M2))) := wd2.re fun a => by
        simp only [l4, m4, List.append_eq, List.cons_append, List.nil_append, cn_app, cn_cons, cn_nil, Nat.add_comm, Nat.add_left_comm, Nat.add_assoc]
      refine ⟨_, rfl, H, H, Fd2, _, p, c, n, wr, _, f, xs8, numsOf xs8 f, rfl, ⟨mna3, mwa3, wd2', Dd1.rn2.mono fun v b (h : nmR K Fd1 v b) => dp_mono ed2 h, Dd1.rw2.mono fun v b (h : wdR K Fd1 v b) => dp_mono ed2 h, Nat.le_refl _⟩, few, fun namesd3 wsd3 vd3 Fd3 Hd3 picd3 ed3 Ld3 Dvd3 => ?_⟩
      obtain ⟨rfl, rfl⟩ := pic_same picd2 picd3
      obtain ⟨mnd3, mwd3, wd3, rmd3, rvd3, hld3⟩ := Ld3
      have okpd3 := picOk g hB8 hx8 hxs picd2
      refine ⟨vd2, vd3, _, rfl, dp_mono (ed3.trans wd3.fh) Dvd2, dp_mono wd3.fh Dvd3, al_rec okpd3, fun Hd4 sd4 => ⟨true, rfl, iteF ?_⟩⟩
      have bd4 : BW K A H H Fd3 Hd4 ((dx, HO.own pl) :: M2) pl dx cl nl wl p c n wr knd2 kwd2 mnd3 mwd3 f := (wd3.same sd4).re fun a => by
        simp only [l4, m4, List.append_eq, List.cons_append, List.nil_append, cn_app, cn_cons, cn_nil, Nat.add_comm, Nat.add_left_comm, Nat.add_assoc]
      have Dd4 : BD K Fd3 knd2 kwd2 mnd3 mwd3 f := ⟨rnd2.mono fun v b h => dp_mono ed3 h, rwd2.mono fun v b h => dp_mono ed3 h, rmd3, rvd3, D14.few, D14.caps⟩
      have Ed4 := ed1.trans (ed2.trans ed3)
      -- refused
      have hM2s : List.Sublist M2 (l4 A pl dx cl nl wl knd2 kwd2 f ++ (m4 p c n wr mnd3 mwd3 f ++ ((dx, HO.own pl) :: M2))) := (List.sublist_cons_self _ _).trans ((List.sublist_append_right _ _).trans (List.sublist_append_right _ _))
      have y0 : Wd H H Fd3 Hd4 M2 := (show Wd H H Fd3 Hd4 (l4 A pl dx cl nl wl knd2 kwd2 f ++ (m4 p c n wr mnd3 mwd3 f ++ ((dx, HO.own pl) :: M2))) from bd4).sub hM2s
      have eY : Same F Fd3 := e05.trans (Ea4.trans (e0.trans Ed4))
      rw [hM2] at y0
      clear hM2s
      have daY := dpa_mono eY J.da
      have hvl : vr.length = (lastRun all).length := by rw [dpa_len daY, List.length_map]
      have hnqY : SqL K Fd3 nq (xs8.map V.str) := same_l (J.ff.trans eY) hnq16
      refine ⟨fun σ' H' => σ' = [some (.ref a), some (.ref nq), some (.ref sz), some (.ref dq), some (.ref p), v5, v6, some (.ref Rr), some (.ref Tx), v9, some (.ref pl), none] ∧ ∃ F', Same Fd3 F' ∧ Wd H H F' H' [(Rr, .lst vr), (Tx, .lst ((all.map recText).map V.str))], ?_, ?_⟩
      · refine ⟨_, rfl, _, _, rfl, .inl ⟨_, .of y0.at_, rfl⟩, .inl ⟨_, _, rfl, rfl, _, rfl, iteD (fun cc => ?_) (fun cc => ?_)⟩⟩
        · refine ⟨_, rfl, _, rfl, .inr (.inl ⟨Rr, _, rfl, .of y0.at_, fun b hb => ?_⟩)⟩
          obtain ⟨u1, h1⟩ := y0.fix hb (.lst (cutV vr (some 1) none))
          cases hlr : lastRun all with
          | nil => rw [hlr] at hvl; rw [hvl] at cc; cases cc
          | cons r0 rest =>
            rw [hlr] at daY
            have daY' := daY
            cases daY' with | cons da0 daR =>
            rename_i v0 vt
            have ec : cutV (v0 :: vt) (some 1) none = vt := cutV_tail v0 vt
            have hnp := J.np
            rw [hlr] at hnp
            refine ⟨_, b, vt, rest, rfl, u1.fh, by rw [ec]; exact .of upd_same, dpa_mono h1 daR, by rw [hlr] at hll; rw [List.length_cons] at hll; omega, fun r hr => by have := hnp r (List.mem_of_getElem? hr); simp [this], fun H' s' => ⟨true, rfl, iteF ⟨rfl, _, h1, u1.same s'⟩⟩⟩
        · exact ⟨rfl, Fd3, .refl _, y0⟩
      clear y0
      rintro σ' H2 ⟨rfl, F2, e2, y0⟩
      have hx0 : ∃ x, xs8[(0 : Int).toNat]? = some x := ⟨_, List.getElem?_eq_getElem (by show 0 < xs8.length; omega)⟩
      obtain ⟨x, hx⟩ := hx0
      have da2 := dpa_mono e2 daY
      have hnq2 := same_l e2 hnqY
      -- four first records
      refine ⟨_, rfl, str_ix (same_l y0.fh hnq2) (by decide) hx ⟨by show 2 ≤ sizeLine; decide, fun t1 h1 => ?_⟩⟩
      obtain ⟨Fy1, y1, g1, ig1⟩ := y0.fixE h1 (.tup [.str wErase, .str x])
      refine ⟨_, rfl, str_ix (same_l (g1.trans y1.fh) hnq2) (by decide) hx ⟨Nat.zero_le _, fun u1 k1 => ?_⟩⟩
      obtain ⟨Fy2, y2, g2, ig2⟩ := y1.fixE k1 (.tup [])
      refine ⟨Nat.zero_le _, fun u2 k2 => ?_⟩
      obtain ⟨Fy3, y3, g3, ig3⟩ := y2.fixE k2 (.tup [])
      refine ⟨by show 4 ≤ sizeLine; decide, fun t2 h2 => ?_⟩
      obtain ⟨Fy4, y4, g4, ig4⟩ := y3.fixE h2 (.tup [.str wPut, .str x, .ref u1, .ref u2])
      refine ⟨Nat.zero_le _, fun u3 k3 => ?_⟩
      obtain ⟨Fy5, y5, g5, ig5⟩ := y4.fixE k3 (.tup [])
      refine ⟨by show 2 ≤ sizeLine; decide, fun t3 h3 => ?_⟩
      obtain ⟨Fy6, y6, g6, ig6⟩ := y5.fixE h3 (.tup [.str wDeal, .ref u3])
      refine ⟨Nat.zero_le _, fun u4 k4 => ?_⟩
      obtain ⟨Fy7, y7, g7, ig7⟩ := y6.fixE k4 (.tup [])
      refine ⟨by show 4 ≤ sizeLine; decide, fun t4 h4 => ?_⟩
      obtain ⟨Fy8, y8, g8, ig8⟩ := y7.fixE h4 (.tup [.str wCap, .int 0, .int 1, .ref u4])
      refine ⟨by show 4 ≤ sizeLine; decide, fun l hl => ?_⟩
      obtain ⟨Fy9, y9, g9, ig9⟩ := y8.fixE hl (.lst [.ref t1, .ref t2, .ref t3, .ref t4])
      have i78 := g7.trans (g8.trans g9)
      have i58 := g5.trans (g6.trans i78)
      have hfour : ∀ v ∈ [V.ref t1, V.ref t2, V.ref t3, V.ref t4], ∃ r, Dp K Fy9 v (encR r) ∧ r.isPic = false := by
        intro v hv
        simp only [List.mem_cons, List.not_mem_nil, or_false] at hv
        rcases hv with rfl | rfl | rfl | rfl
        · exact ⟨.erase x, .tup (.of ((g2.trans (g3.trans (g4.trans i58))) _ _ ig1)) (.cons (.str _) (.cons (.str _) .nil)), rfl⟩
        · exact ⟨.put x [] [], .tup (.of (i58 _ _ ig4)) (.cons (.str _) (.cons (.str _) (.cons (.tup (.of ((g3.trans (g4.trans i58)) _ _ ig2)) .nil) (.cons (.tup (.of ((g4.trans i58) _ _ ig3)) .nil) .nil)))), rfl⟩
        · exact ⟨.deal [], .tup (.of (i78 _ _ ig6)) (.cons (.str _) (.cons (.tup (.of ((g6.trans i78) _ _ ig5)) .nil) .nil)), rfl⟩
        · exact ⟨.cap 0 1 [], .tup (.of (g9 _ _ ig8)) (.cons (.str _) (.cons (.int _) (.cons (.int _) (.cons (.tup (.of ((g8.trans g9) _ _ ig7)) .nil) .nil)))), rfl⟩
      have e29 := g1.trans (g2.trans (g3.trans (g4.trans i58)))
      have da9 := dpa_mono e29 da2
      refine ⟨l, rfl, ⟨_, .of upd_same⟩, ?_⟩
      refine for_list (xs := [V.ref t1, V.ref t2, V.ref t3, V.ref t4]) (fun i σ H' => ∃ (F' : Hp) (v11 : Option V), σ = [some (.ref a), some (.ref nq), some (.ref sz), some (.ref dq), some (.ref p), v5, v6, some (.ref Rr), some (.ref Tx), v9, some (.ref pl), v11] ∧ Same Fy9 F' ∧ Wd H H F' H' [(Rr, .lst vr), (Tx, .lst ((all.map recText).map V.str))]) ⟨_, _, rfl, .refl _, y9⟩ ?_ ?_ ?_
      · rintro i σ H' _ ⟨F', v11, rfl, eF, z⟩
        exact .of (z.fh _ _ (eF _ _ ig9))
      · rintro i v σ H' hv ⟨F', v11, rfl, eF, z⟩
        obtain ⟨r, Dr, hp⟩ := hfour v (List.mem_of_getElem? hv)
        refine ⟨_, rfl, by show 1 ≤ sizeLine; decide, fun q hq => ?_⟩
        obtain ⟨z1, f1⟩ := z.fix hq (.lst [v])
        refine ⟨_, rfl, .inr (.inr (.inl ⟨q, Rr, _, _, rfl, rfl, upd_same, z1.at_, by rw [hvl]; show 1 + _ ≤ _; exact small (by omega), fun q2 hq2 => ?_⟩))⟩
        obtain ⟨z2, f2⟩ := z1.fix hq2 (.lst ([v] ++ vr))
        refine ⟨_, q2, v :: vr, r :: lastRun all, rfl, z2.fh, .of upd_same, .cons (dp_mono (eF.trans (f1.trans f2)) Dr) (dpa_mono (eF.trans (f1.trans f2)) da9), by rw [List.length_cons]; omega, fun r' hr' => by cases hr'; simp [hp], fun H3 s3 => ⟨true, rfl, iteF ⟨_, _, rfl, eF.trans (f1.trans f2), z2.same s3⟩⟩⟩
      · rintro σ H' ⟨F', v11, rfl, eF, z⟩
        refine ⟨Nat.zero_le _, fun q hq => ?_⟩
        obtain ⟨z1, f1⟩ := z.fix hq (.lst [])
        exact ⟨_, q, [], [], rfl, z1.fh, .of upd_same, .nil, by decide, (fun r hr => nomatch hr), fun H3 s3 => k H3⟩

end
end Q

set_option Elab.async false
set_option linter.all false
set_option maxRecDepth 100000
set_option maxHeartbeats 8000000
namespace Q
open PySem PySem.Spec PyProof.Rows L2 TL PW Rc
theorem all_mk {P : Program} {w : World} {K : PySem.W.Frag} {h : Heap} {mg : Str → Option Value} {fa f_L_draws f_L_top f_Ledger__set_wardens f_Ledger__forget f_Ledger__set_name f_Ledger__take f_Ledger_init f_L_no_other f_L_refused f_L_names f_L_forget f_L_pairs f_L_bits f_L_entries f_L_set f_L_put f_L_picture f_warden_text f_list_text f_named_text f_head_words f_record_text f_L_is_integer f_L_alike f_L_says f_Ledger_to_picture f_L_is_told f_L_record f_number_of f_read_list f_is_name f_is_rising f_read_named f_read_cap f_read_picture f_read_head f_read_warden f_read_wardens f_read_record f_counted f_read_log f_L_cell f_law C_Ledger C_PoolError C_InvalidPool C_InvalidChoice C_InvalidText C_InvalidDeed C_NothingToUndo C_NothingToRedo C_InvalidDealing C_InvalidTarget C_NoStore C_PowerCut C_InvalidSends C_InvalidTable C_Unsafe C_CannotHold C_Unfinished C_InvalidName C_Missing C_Lost C_InvalidSeats C_InvalidCopy C_InvalidLine : Addr} (X : K.In h) (G : h.Ns mainGlobals mg) (hfa : mg "law" = some (.ref fa))
    {od_L_draws an_L_draws od_L_top an_L_top od_Ledger__set_wardens an_Ledger__set_wardens od_Ledger__forget an_Ledger__forget od_Ledger__set_name an_Ledger__set_name od_Ledger__take an_Ledger__take od_Ledger_init an_Ledger_init od_L_no_other an_L_no_other od_L_refused an_L_refused od_L_names an_L_names od_L_forget an_L_forget od_L_pairs an_L_pairs od_L_bits an_L_bits od_L_entries an_L_entries od_L_set an_L_set od_L_put an_L_put od_L_picture an_L_picture od_warden_text an_warden_text od_list_text an_list_text od_named_text an_named_text od_head_words an_head_words od_record_text an_record_text od_L_is_integer an_L_is_integer od_L_alike an_L_alike od_L_says an_L_says od_Ledger_to_picture an_Ledger_to_picture od_L_is_told an_L_is_told od_L_record an_L_record od_number_of an_number_of od_read_list an_read_list od_is_name an_is_name od_is_rising an_is_rising od_read_named an_read_named od_read_cap an_read_cap od_read_picture an_read_picture od_read_head an_read_head od_read_warden an_read_warden od_read_wardens an_read_wardens od_read_record an_read_record od_counted an_counted od_read_log an_read_log od_L_cell an_L_cell od_law an_law : Option Addr} {sl_L_draws sl_L_top sl_Ledger__set_wardens sl_Ledger__forget sl_Ledger__set_name sl_Ledger__take sl_Ledger_init sl_L_no_other sl_L_refused sl_L_names sl_L_forget sl_L_pairs sl_L_bits sl_L_entries sl_L_set sl_L_put sl_L_picture sl_warden_text sl_list_text sl_named_text sl_head_words sl_record_text sl_L_is_integer sl_L_alike sl_L_says sl_Ledger_to_picture sl_L_is_told sl_L_record sl_number_of sl_read_list sl_is_name sl_is_rising sl_read_named sl_read_cap sl_read_picture sl_read_head sl_read_warden sl_read_wardens sl_read_record sl_counted sl_read_log sl_L_cell sl_law : Array (Option Value)} {oc_L_draws kV_L_draws dc_L_draws pm_L_draws cd_L_draws ct_L_draws oc_L_top kV_L_top dc_L_top pm_L_top cd_L_top ct_L_top oc_Ledger__set_wardens kV_Ledger__set_wardens dc_Ledger__set_wardens pm_Ledger__set_wardens cd_Ledger__set_wardens ct_Ledger__set_wardens oc_Ledger__forget kV_Ledger__forget dc_Ledger__forget pm_Ledger__forget cd_Ledger__forget ct_Ledger__forget oc_Ledger__set_name kV_Ledger__set_name dc_Ledger__set_name pm_Ledger__set_name cd_Ledger__set_name ct_Ledger__set_name oc_Ledger__take kV_Ledger__take dc_Ledger__take pm_Ledger__take cd_Ledger__take ct_Ledger__take oc_Ledger_init kV_Ledger_init dc_Ledger_init pm_Ledger_init cd_Ledger_init ct_Ledger_init oc_L_no_other kV_L_no_other dc_L_no_other pm_L_no_other cd_L_no_other ct_L_no_other oc_L_refused kV_L_refused dc_L_refused pm_L_refused cd_L_refused ct_L_refused oc_L_names kV_L_names dc_L_names pm_L_names cd_L_names ct_L_names oc_L_forget kV_L_forget dc_L_forget pm_L_forget cd_L_forget ct_L_forget oc_L_pairs kV_L_pairs dc_L_pairs pm_L_pairs cd_L_pairs ct_L_pairs oc_L_bits kV_L_bits dc_L_bits pm_L_bits cd_L_bits ct_L_bits oc_L_entries kV_L_entries dc_L_entries pm_L_entries cd_L_entries ct_L_entries oc_L_set kV_L_set dc_L_set pm_L_set cd_L_set ct_L_set oc_L_put kV_L_put dc_L_put pm_L_put cd_L_put ct_L_put oc_L_picture kV_L_picture dc_L_picture pm_L_picture cd_L_picture ct_L_picture oc_warden_text kV_warden_text dc_warden_text pm_warden_text cd_warden_text ct_warden_text oc_list_text kV_list_text dc_list_text pm_list_text cd_list_text ct_list_text oc_named_text kV_named_text dc_named_text pm_named_text cd_named_text ct_named_text oc_head_words kV_head_words dc_head_words pm_head_words cd_head_words ct_head_words oc_record_text kV_record_text dc_record_text pm_record_text cd_record_text ct_record_text oc_L_is_integer kV_L_is_integer dc_L_is_integer pm_L_is_integer cd_L_is_integer ct_L_is_integer oc_L_alike kV_L_alike dc_L_alike pm_L_alike cd_L_alike ct_L_alike oc_L_says kV_L_says dc_L_says pm_L_says cd_L_says ct_L_says oc_Ledger_to_picture kV_Ledger_to_picture dc_Ledger_to_picture pm_Ledger_to_picture cd_Ledger_to_picture ct_Ledger_to_picture oc_L_is_told kV_L_is_told dc_L_is_told pm_L_is_told cd_L_is_told ct_L_is_told oc_L_record kV_L_record dc_L_record pm_L_record cd_L_record ct_L_record oc_number_of kV_number_of dc_number_of pm_number_of cd_number_of ct_number_of oc_read_list kV_read_list dc_read_list pm_read_list cd_read_list ct_read_list oc_is_name kV_is_name dc_is_name pm_is_name cd_is_name ct_is_name oc_is_rising kV_is_rising dc_is_rising pm_is_rising cd_is_rising ct_is_rising oc_read_named kV_read_named dc_read_named pm_read_named cd_read_named ct_read_named oc_read_cap kV_read_cap dc_read_cap pm_read_cap cd_read_cap ct_read_cap oc_read_picture kV_read_picture dc_read_picture pm_read_picture cd_read_picture ct_read_picture oc_read_head kV_read_head dc_read_head pm_read_head cd_read_head ct_read_head oc_read_warden kV_read_warden dc_read_warden pm_read_warden cd_read_warden ct_read_warden oc_read_wardens kV_read_wardens dc_read_wardens pm_read_wardens cd_read_wardens ct_read_wardens oc_read_record kV_read_record dc_read_record pm_read_record cd_read_record ct_read_record oc_counted kV_counted dc_counted pm_counted cd_counted ct_counted oc_read_log kV_read_log dc_read_log pm_read_log cd_read_log ct_read_log oc_L_cell kV_L_cell dc_L_cell pm_L_cell cd_L_cell ct_L_cell oc_law kV_law dc_law pm_law cd_law ct_law : Value}
    (A_Ledger : PySem.W.nsIn K mainGlobals "Ledger" = some (some (.ref C_Ledger)))
    (A_PoolError : PySem.W.nsIn K mainGlobals "PoolError" = some (some (.ref C_PoolError)))
    (A_InvalidPool : PySem.W.nsIn K mainGlobals "InvalidPool" = some (some (.ref C_InvalidPool)))
    (A_InvalidChoice : PySem.W.nsIn K mainGlobals "InvalidChoice" = some (some (.ref C_InvalidChoice)))
    (A_InvalidText : PySem.W.nsIn K mainGlobals "InvalidText" = some (some (.ref C_InvalidText)))
    (A_InvalidDeed : PySem.W.nsIn K mainGlobals "InvalidDeed" = some (some (.ref C_InvalidDeed)))
    (A_NothingToUndo : PySem.W.nsIn K mainGlobals "NothingToUndo" = some (some (.ref C_NothingToUndo)))
    (A_NothingToRedo : PySem.W.nsIn K mainGlobals "NothingToRedo" = some (some (.ref C_NothingToRedo)))
    (A_InvalidDealing : PySem.W.nsIn K mainGlobals "InvalidDealing" = some (some (.ref C_InvalidDealing)))
    (A_InvalidTarget : PySem.W.nsIn K mainGlobals "InvalidTarget" = some (some (.ref C_InvalidTarget)))
    (A_NoStore : PySem.W.nsIn K mainGlobals "NoStore" = some (some (.ref C_NoStore)))
    (A_PowerCut : PySem.W.nsIn K mainGlobals "PowerCut" = some (some (.ref C_PowerCut)))
    (A_InvalidSends : PySem.W.nsIn K mainGlobals "InvalidSends" = some (some (.ref C_InvalidSends)))
    (A_InvalidTable : PySem.W.nsIn K mainGlobals "InvalidTable" = some (some (.ref C_InvalidTable)))
    (A_Unsafe : PySem.W.nsIn K mainGlobals "Unsafe" = some (some (.ref C_Unsafe)))
    (A_CannotHold : PySem.W.nsIn K mainGlobals "CannotHold" = some (some (.ref C_CannotHold)))
    (A_Unfinished : PySem.W.nsIn K mainGlobals "Unfinished" = some (some (.ref C_Unfinished)))
    (A_InvalidName : PySem.W.nsIn K mainGlobals "InvalidName" = some (some (.ref C_InvalidName)))
    (A_Missing : PySem.W.nsIn K mainGlobals "Missing" = some (some (.ref C_Missing)))
    (A_Lost : PySem.W.nsIn K mainGlobals "Lost" = some (some (.ref C_Lost)))
    (A_InvalidSeats : PySem.W.nsIn K mainGlobals "InvalidSeats" = some (some (.ref C_InvalidSeats)))
    (A_InvalidCopy : PySem.W.nsIn K mainGlobals "InvalidCopy" = some (some (.ref C_InvalidCopy)))
    (A_InvalidLine : PySem.W.nsIn K mainGlobals "InvalidLine" = some (some (.ref C_InvalidLine)))
    (a_L_draws : PySem.W.nsIn K mainGlobals "_law_draws" = some (some (.ref f_L_draws)))
    (l_L_draws : K.lookup f_L_draws = some ⟨oc_L_draws, od_L_draws, .func (PySem.W.fnOf "_law_draws" "_law_draws" (defArgs s_L_draws) (defBody s_L_draws) (defScope s_L_draws) .none kV_L_draws dc_L_draws pm_L_draws an_L_draws cd_L_draws ct_L_draws), sl_L_draws⟩)
    (c_L_draws : PySem.W.codeIn K cd_L_draws "_law_draws" = true)
    (k_L_draws : PySem.W.keepIn K (.ref f_L_draws) = true)
    (a_L_top : PySem.W.nsIn K mainGlobals "_law_top" = some (some (.ref f_L_top)))
    (l_L_top : K.lookup f_L_top = some ⟨oc_L_top, od_L_top, .func (PySem.W.fnOf "_law_top" "_law_top" (defArgs s_L_top) (defBody s_L_top) (defScope s_L_top) .none kV_L_top dc_L_top pm_L_top an_L_top cd_L_top ct_L_top), sl_L_top⟩)
    (c_L_top : PySem.W.codeIn K cd_L_top "_law_top" = true)
    (k_L_top : PySem.W.keepIn K (.ref f_L_top) = true)
    (a_Ledger__set_wardens : PySem.W.findIn K (.ref C_Ledger) "_set_wardens" = some (some (.ref f_Ledger__set_wardens)))
    (i_Ledger__set_wardens : PySem.W.isFn K (.ref f_Ledger__set_wardens) = true)
    (l_Ledger__set_wardens : K.lookup f_Ledger__set_wardens = some ⟨oc_Ledger__set_wardens, od_Ledger__set_wardens, .func (PySem.W.fnOf "_set_wardens" "Ledger._set_wardens" (defArgs s_Ledger__set_wardens) (defBody s_Ledger__set_wardens) (defScope s_Ledger__set_wardens) .none kV_Ledger__set_wardens dc_Ledger__set_wardens pm_Ledger__set_wardens an_Ledger__set_wardens cd_Ledger__set_wardens ct_Ledger__set_wardens), sl_Ledger__set_wardens⟩)
    (c_Ledger__set_wardens : PySem.W.codeIn K cd_Ledger__set_wardens "Ledger._set_wardens" = true)
    (k_Ledger__set_wardens : PySem.W.keepIn K (.ref f_Ledger__set_wardens) = true)
    (a_Ledger__forget : PySem.W.findIn K (.ref C_Ledger) "_forget" = some (some (.ref f_Ledger__forget)))
    (i_Ledger__forget : PySem.W.isFn K (.ref f_Ledger__forget) = true)
    (l_Ledger__forget : K.lookup f_Ledger__forget = some ⟨oc_Ledger__forget, od_Ledger__forget, .func (PySem.W.fnOf "_forget" "Ledger._forget" (defArgs s_Ledger__forget) (defBody s_Ledger__forget) (defScope s_Ledger__forget) .none kV_Ledger__forget dc_Ledger__forget pm_Ledger__forget an_Ledger__forget cd_Ledger__forget ct_Ledger__forget), sl_Ledger__forget⟩)
    (c_Ledger__forget : PySem.W.codeIn K cd_Ledger__forget "Ledger._forget" = true)
    (k_Ledger__forget : PySem.W.keepIn K (.ref f_Ledger__forget) = true)
    (a_Ledger__set_name : PySem.W.findIn K (.ref C_Ledger) "_set_name" = some (some (.ref f_Ledger__set_name)))
    (i_Ledger__set_name : PySem.W.isFn K (.ref f_Ledger__set_name) = true)
    (l_Ledger__set_name : K.lookup f_Ledger__set_name = some ⟨oc_Ledger__set_name, od_Ledger__set_name, .func (PySem.W.fnOf "_set_name" "Ledger._set_name" (defArgs s_Ledger__set_name) (defBody s_Ledger__set_name) (defScope s_Ledger__set_name) .none kV_Ledger__set_name dc_Ledger__set_name pm_Ledger__set_name an_Ledger__set_name cd_Ledger__set_name ct_Ledger__set_name), sl_Ledger__set_name⟩)
    (c_Ledger__set_name : PySem.W.codeIn K cd_Ledger__set_name "Ledger._set_name" = true)
    (k_Ledger__set_name : PySem.W.keepIn K (.ref f_Ledger__set_name) = true)
    (a_Ledger__take : PySem.W.findIn K (.ref C_Ledger) "_take" = some (some (.ref f_Ledger__take)))
    (i_Ledger__take : PySem.W.isFn K (.ref f_Ledger__take) = true)
    (l_Ledger__take : K.lookup f_Ledger__take = some ⟨oc_Ledger__take, od_Ledger__take, .func (PySem.W.fnOf "_take" "Ledger._take" (defArgs s_Ledger__take) (defBody s_Ledger__take) (defScope s_Ledger__take) .none kV_Ledger__take dc_Ledger__take pm_Ledger__take an_Ledger__take cd_Ledger__take ct_Ledger__take), sl_Ledger__take⟩)
    (c_Ledger__take : PySem.W.codeIn K cd_Ledger__take "Ledger._take" = true)
    (k_Ledger__take : PySem.W.keepIn K (.ref f_Ledger__take) = true)
    (a_Ledger_init : PySem.W.findIn K (.ref C_Ledger) "__init__" = some (some (.ref f_Ledger_init)))
    (i_Ledger_init : PySem.W.isFn K (.ref f_Ledger_init) = true)
    (l_Ledger_init : K.lookup f_Ledger_init = some ⟨oc_Ledger_init, od_Ledger_init, .func (PySem.W.fnOf "__init__" "Ledger.__init__" (defArgs s_Ledger_init) (defBody s_Ledger_init) (defScope s_Ledger_init) .none kV_Ledger_init dc_Ledger_init pm_Ledger_init an_Ledger_init cd_Ledger_init ct_Ledger_init), sl_Ledger_init⟩)
    (c_Ledger_init : PySem.W.codeIn K cd_Ledger_init "Ledger.__init__" = true)
    (k_Ledger_init : PySem.W.keepIn K (.ref f_Ledger_init) = true)
    (a_L_no_other : PySem.W.nsIn K mainGlobals "_law_no_other" = some (some (.ref f_L_no_other)))
    (l_L_no_other : K.lookup f_L_no_other = some ⟨oc_L_no_other, od_L_no_other, .func (PySem.W.fnOf "_law_no_other" "_law_no_other" (defArgs s_L_no_other) (defBody s_L_no_other) (defScope s_L_no_other) .none kV_L_no_other dc_L_no_other pm_L_no_other an_L_no_other cd_L_no_other ct_L_no_other), sl_L_no_other⟩)
    (c_L_no_other : PySem.W.codeIn K cd_L_no_other "_law_no_other" = true)
    (k_L_no_other : PySem.W.keepIn K (.ref f_L_no_other) = true)
    (a_L_refused : PySem.W.nsIn K mainGlobals "_law_refused" = some (some (.ref f_L_refused)))
    (l_L_refused : K.lookup f_L_refused = some ⟨oc_L_refused, od_L_refused, .func (PySem.W.fnOf "_law_refused" "_law_refused" (defArgs s_L_refused) (defBody s_L_refused) (defScope s_L_refused) .none kV_L_refused dc_L_refused pm_L_refused an_L_refused cd_L_refused ct_L_refused), sl_L_refused⟩)
    (c_L_refused : PySem.W.codeIn K cd_L_refused "_law_refused" = true)
    (k_L_refused : PySem.W.keepIn K (.ref f_L_refused) = true)
    (a_L_names : PySem.W.nsIn K mainGlobals "_law_names" = some (some (.ref f_L_names)))
    (l_L_names : K.lookup f_L_names = some ⟨oc_L_names, od_L_names, .func (PySem.W.fnOf "_law_names" "_law_names" (defArgs s_L_names) (defBody s_L_names) (defScope s_L_names) .none kV_L_names dc_L_names pm_L_names an_L_names cd_L_names ct_L_names), sl_L_names⟩)
    (c_L_names : PySem.W.codeIn K cd_L_names "_law_names" = true)
    (k_L_names : PySem.W.keepIn K (.ref f_L_names) = true)
    (a_L_forget : PySem.W.nsIn K mainGlobals "_law_forget" = some (some (.ref f_L_forget)))
    (l_L_forget : K.lookup f_L_forget = some ⟨oc_L_forget, od_L_forget, .func (PySem.W.fnOf "_law_forget" "_law_forget" (defArgs s_L_forget) (defBody s_L_forget) (defScope s_L_forget) .none kV_L_forget dc_L_forget pm_L_forget an_L_forget cd_L_forget ct_L_forget), sl_L_forget⟩)
    (c_L_forget : PySem.W.codeIn K cd_L_forget "_law_forget" = true)
    (k_L_forget : PySem.W.keepIn K (.ref f_L_forget) = true)
    (a_L_pairs : PySem.W.nsIn K mainGlobals "_law_pairs" = some (some (.ref f_L_pairs)))
    (l_L_pairs : K.lookup f_L_pairs = some ⟨oc_L_pairs, od_L_pairs, .func (PySem.W.fnOf "_law_pairs" "_law_pairs" (defArgs s_L_pairs) (defBody s_L_pairs) (defScope s_L_pairs) .none kV_L_pairs dc_L_pairs pm_L_pairs an_L_pairs cd_L_pairs ct_L_pairs), sl_L_pairs⟩)
    (c_L_pairs : PySem.W.codeIn K cd_L_pairs "_law_pairs" = true)
    (k_L_pairs : PySem.W.keepIn K (.ref f_L_pairs) = true)
    (a_L_bits : PySem.W.nsIn K mainGlobals "_law_bits" = some (some (.ref f_L_bits)))
    (l_L_bits : K.lookup f_L_bits = some ⟨oc_L_bits, od_L_bits, .func (PySem.W.fnOf "_law_bits" "_law_bits" (defArgs s_L_bits) (defBody s_L_bits) (defScope s_L_bits) .none kV_L_bits dc_L_bits pm_L_bits an_L_bits cd_L_bits ct_L_bits), sl_L_bits⟩)
    (c_L_bits : PySem.W.codeIn K cd_L_bits "_law_bits" = true)
    (k_L_bits : PySem.W.keepIn K (.ref f_L_bits) = true)
    (a_L_entries : PySem.W.nsIn K mainGlobals "_law_entries" = some (some (.ref f_L_entries)))
    (l_L_entries : K.lookup f_L_entries = some ⟨oc_L_entries, od_L_entries, .func (PySem.W.fnOf "_law_entries" "_law_entries" (defArgs s_L_entries) (defBody s_L_entries) (defScope s_L_entries) .none kV_L_entries dc_L_entries pm_L_entries an_L_entries cd_L_entries ct_L_entries), sl_L_entries⟩)
    (c_L_entries : PySem.W.codeIn K cd_L_entries "_law_entries" = true)
    (k_L_entries : PySem.W.keepIn K (.ref f_L_entries) = true)
    (a_L_set : PySem.W.nsIn K mainGlobals "_law_set" = some (some (.ref f_L_set)))
    (l_L_set : K.lookup f_L_set = some ⟨oc_L_set, od_L_set, .func (PySem.W.fnOf "_law_set" "_law_set" (defArgs s_L_set) (defBody s_L_set) (defScope s_L_set) .none kV_L_set dc_L_set pm_L_set an_L_set cd_L_set ct_L_set), sl_L_set⟩)
    (c_L_set : PySem.W.codeIn K cd_L_set "_law_set" = true)
    (k_L_set : PySem.W.keepIn K (.ref f_L_set) = true)
    (a_L_put : PySem.W.nsIn K mainGlobals "_law_put" = some (some (.ref f_L_put)))
    (l_L_put : K.lookup f_L_put = some ⟨oc_L_put, od_L_put, .func (PySem.W.fnOf "_law_put" "_law_put" (defArgs s_L_put) (defBody s_L_put) (defScope s_L_put) .none kV_L_put dc_L_put pm_L_put an_L_put cd_L_put ct_L_put), sl_L_put⟩)
    (c_L_put : PySem.W.codeIn K cd_L_put "_law_put" = true)
    (k_L_put : PySem.W.keepIn K (.ref f_L_put) = true)
    (a_L_picture : PySem.W.nsIn K mainGlobals "_law_picture" = some (some (.ref f_L_picture)))
    (l_L_picture : K.lookup f_L_picture = some ⟨oc_L_picture, od_L_picture, .func (PySem.W.fnOf "_law_picture" "_law_picture" (defArgs s_L_picture) (defBody s_L_picture) (defScope s_L_picture) .none kV_L_picture dc_L_picture pm_L_picture an_L_picture cd_L_picture ct_L_picture), sl_L_picture⟩)
    (c_L_picture : PySem.W.codeIn K cd_L_picture "_law_picture" = true)
    (k_L_picture : PySem.W.keepIn K (.ref f_L_picture) = true)
    (a_warden_text : PySem.W.nsIn K mainGlobals "warden_text" = some (some (.ref f_warden_text)))
    (l_warden_text : K.lookup f_warden_text = some ⟨oc_warden_text, od_warden_text, .func (PySem.W.fnOf "warden_text" "warden_text" (defArgs s_warden_text) (defBody s_warden_text) (defScope s_warden_text) .none kV_warden_text dc_warden_text pm_warden_text an_warden_text cd_warden_text ct_warden_text), sl_warden_text⟩)
    (c_warden_text : PySem.W.codeIn K cd_warden_text "warden_text" = true)
    (k_warden_text : PySem.W.keepIn K (.ref f_warden_text) = true)
    (a_list_text : PySem.W.nsIn K mainGlobals "list_text" = some (some (.ref f_list_text)))
    (l_list_text : K.lookup f_list_text = some ⟨oc_list_text, od_list_text, .func (PySem.W.fnOf "list_text" "list_text" (defArgs s_list_text) (defBody s_list_text) (defScope s_list_text) .none kV_list_text dc_list_text pm_list_text an_list_text cd_list_text ct_list_text), sl_list_text⟩)
    (c_list_text : PySem.W.codeIn K cd_list_text "list_text" = true)
    (k_list_text : PySem.W.keepIn K (.ref f_list_text) = true)
    (a_named_text : PySem.W.nsIn K mainGlobals "named_text" = some (some (.ref f_named_text)))
    (l_named_text : K.lookup f_named_text = some ⟨oc_named_text, od_named_text, .func (PySem.W.fnOf "named_text" "named_text" (defArgs s_named_text) (defBody s_named_text) (defScope s_named_text) .none kV_named_text dc_named_text pm_named_text an_named_text cd_named_text ct_named_text), sl_named_text⟩)
    (c_named_text : PySem.W.codeIn K cd_named_text "named_text" = true)
    (k_named_text : PySem.W.keepIn K (.ref f_named_text) = true)
    (a_head_words : PySem.W.nsIn K mainGlobals "head_words" = some (some (.ref f_head_words)))
    (l_head_words : K.lookup f_head_words = some ⟨oc_head_words, od_head_words, .func (PySem.W.fnOf "head_words" "head_words" (defArgs s_head_words) (defBody s_head_words) (defScope s_head_words) .none kV_head_words dc_head_words pm_head_words an_head_words cd_head_words ct_head_words), sl_head_words⟩)
    (c_head_words : PySem.W.codeIn K cd_head_words "head_words" = true)
    (k_head_words : PySem.W.keepIn K (.ref f_head_words) = true)
    (a_record_text : PySem.W.nsIn K mainGlobals "record_text" = some (some (.ref f_record_text)))
    (l_record_text : K.lookup f_record_text = some ⟨oc_record_text, od_record_text, .func (PySem.W.fnOf "record_text" "record_text" (defArgs s_record_text) (defBody s_record_text) (defScope s_record_text) .none kV_record_text dc_record_text pm_record_text an_record_text cd_record_text ct_record_text), sl_record_text⟩)
    (c_record_text : PySem.W.codeIn K cd_record_text "record_text" = true)
    (k_record_text : PySem.W.keepIn K (.ref f_record_text) = true)
    (a_L_is_integer : PySem.W.nsIn K mainGlobals "_law_is_integer" = some (some (.ref f_L_is_integer)))
    (l_L_is_integer : K.lookup f_L_is_integer = some ⟨oc_L_is_integer, od_L_is_integer, .func (PySem.W.fnOf "_law_is_integer" "_law_is_integer" (defArgs s_L_is_integer) (defBody s_L_is_integer) (defScope s_L_is_integer) .none kV_L_is_integer dc_L_is_integer pm_L_is_integer an_L_is_integer cd_L_is_integer ct_L_is_integer), sl_L_is_integer⟩)
    (c_L_is_integer : PySem.W.codeIn K cd_L_is_integer "_law_is_integer" = true)
    (k_L_is_integer : PySem.W.keepIn K (.ref f_L_is_integer) = true)
    (a_L_alike : PySem.W.nsIn K mainGlobals "_law_alike" = some (some (.ref f_L_alike)))
    (l_L_alike : K.lookup f_L_alike = some ⟨oc_L_alike, od_L_alike, .func (PySem.W.fnOf "_law_alike" "_law_alike" (defArgs s_L_alike) (defBody s_L_alike) (defScope s_L_alike) .none kV_L_alike dc_L_alike pm_L_alike an_L_alike cd_L_alike ct_L_alike), sl_L_alike⟩)
    (c_L_alike : PySem.W.codeIn K cd_L_alike "_law_alike" = true)
    (k_L_alike : PySem.W.keepIn K (.ref f_L_alike) = true)
    (a_L_says : PySem.W.nsIn K mainGlobals "_law_says" = some (some (.ref f_L_says)))
    (l_L_says : K.lookup f_L_says = some ⟨oc_L_says, od_L_says, .func (PySem.W.fnOf "_law_says" "_law_says" (defArgs s_L_says) (defBody s_L_says) (defScope s_L_says) .none kV_L_says dc_L_says pm_L_says an_L_says cd_L_says ct_L_says), sl_L_says⟩)
    (c_L_says : PySem.W.codeIn K cd_L_says "_law_says" = true)
    (k_L_says : PySem.W.keepIn K (.ref f_L_says) = true)
    (a_Ledger_to_picture : PySem.W.findIn K (.ref C_Ledger) "to_picture" = some (some (.ref f_Ledger_to_picture)))
    (i_Ledger_to_picture : PySem.W.isFn K (.ref f_Ledger_to_picture) = true)
    (l_Ledger_to_picture : K.lookup f_Ledger_to_picture = some ⟨oc_Ledger_to_picture, od_Ledger_to_picture, .func (PySem.W.fnOf "to_picture" "Ledger.to_picture" (defArgs s_Ledger_to_picture) (defBody s_Ledger_to_picture) (defScope s_Ledger_to_picture) .none kV_Ledger_to_picture dc_Ledger_to_picture pm_Ledger_to_picture an_Ledger_to_picture cd_Ledger_to_picture ct_Ledger_to_picture), sl_Ledger_to_picture⟩)
    (c_Ledger_to_picture : PySem.W.codeIn K cd_Ledger_to_picture "Ledger.to_picture" = true)
    (k_Ledger_to_picture : PySem.W.keepIn K (.ref f_Ledger_to_picture) = true)
    (a_L_is_told : PySem.W.nsIn K mainGlobals "_law_is_told" = some (some (.ref f_L_is_told)))
    (l_L_is_told : K.lookup f_L_is_told = some ⟨oc_L_is_told, od_L_is_told, .func (PySem.W.fnOf "_law_is_told" "_law_is_told" (defArgs s_L_is_told) (defBody s_L_is_told) (defScope s_L_is_told) .none kV_L_is_told dc_L_is_told pm_L_is_told an_L_is_told cd_L_is_told ct_L_is_told), sl_L_is_told⟩)
    (c_L_is_told : PySem.W.codeIn K cd_L_is_told "_law_is_told" = true)
    (k_L_is_told : PySem.W.keepIn K (.ref f_L_is_told) = true)
    (a_L_record : PySem.W.nsIn K mainGlobals "_law_record" = some (some (.ref f_L_record)))
    (l_L_record : K.lookup f_L_record = some ⟨oc_L_record, od_L_record, .func (PySem.W.fnOf "_law_record" "_law_record" (defArgs s_L_record) (defBody s_L_record) (defScope s_L_record) .none kV_L_record dc_L_record pm_L_record an_L_record cd_L_record ct_L_record), sl_L_record⟩)
    (c_L_record : PySem.W.codeIn K cd_L_record "_law_record" = true)
    (k_L_record : PySem.W.keepIn K (.ref f_L_record) = true)
    (a_number_of : PySem.W.nsIn K mainGlobals "number_of" = some (some (.ref f_number_of)))
    (l_number_of : K.lookup f_number_of = some ⟨oc_number_of, od_number_of, .func (PySem.W.fnOf "number_of" "number_of" (defArgs s_number_of) (defBody s_number_of) (defScope s_number_of) .none kV_number_of dc_number_of pm_number_of an_number_of cd_number_of ct_number_of), sl_number_of⟩)
    (c_number_of : PySem.W.codeIn K cd_number_of "number_of" = true)
    (k_number_of : PySem.W.keepIn K (.ref f_number_of) = true)
    (a_read_list : PySem.W.nsIn K mainGlobals "read_list" = some (some (.ref f_read_list)))
    (l_read_list : K.lookup f_read_list = some ⟨oc_read_list, od_read_list, .func (PySem.W.fnOf "read_list" "read_list" (defArgs s_read_list) (defBody s_read_list) (defScope s_read_list) .none kV_read_list dc_read_list pm_read_list an_read_list cd_read_list ct_read_list), sl_read_list⟩)
    (c_read_list : PySem.W.codeIn K cd_read_list "read_list" = true)
    (k_read_list : PySem.W.keepIn K (.ref f_read_list) = true)
    (a_is_name : PySem.W.nsIn K mainGlobals "is_name" = some (some (.ref f_is_name)))
    (l_is_name : K.lookup f_is_name = some ⟨oc_is_name, od_is_name, .func (PySem.W.fnOf "is_name" "is_name" (defArgs s_is_name) (defBody s_is_name) (defScope s_is_name) .none kV_is_name dc_is_name pm_is_name an_is_name cd_is_name ct_is_name), sl_is_name⟩)
    (c_is_name : PySem.W.codeIn K cd_is_name "is_name" = true)
    (k_is_name : PySem.W.keepIn K (.ref f_is_name) = true)
    (a_is_rising : PySem.W.nsIn K mainGlobals "is_rising" = some (some (.ref f_is_rising)))
    (l_is_rising : K.lookup f_is_rising = some ⟨oc_is_rising, od_is_rising, .func (PySem.W.fnOf "is_rising" "is_rising" (defArgs s_is_rising) (defBody s_is_rising) (defScope s_is_rising) .none kV_is_rising dc_is_rising pm_is_rising an_is_rising cd_is_rising ct_is_rising), sl_is_rising⟩)
    (c_is_rising : PySem.W.codeIn K cd_is_rising "is_rising" = true)
    (k_is_rising : PySem.W.keepIn K (.ref f_is_rising) = true)
    (a_read_named : PySem.W.nsIn K mainGlobals "read_named" = some (some (.ref f_read_named)))
    (l_read_named : K.lookup f_read_named = some ⟨oc_read_named, od_read_named, .func (PySem.W.fnOf "read_named" "read_named" (defArgs s_read_named) (defBody s_read_named) (defScope s_read_named) .none kV_read_named dc_read_named pm_read_named an_read_named cd_read_named ct_read_named), sl_read_named⟩)
    (c_read_named : PySem.W.codeIn K cd_read_named "read_named" = true)
    (k_read_named : PySem.W.keepIn K (.ref f_read_named) = true)
    (a_read_cap : PySem.W.nsIn K mainGlobals "read_cap" = some (some (.ref f_read_cap)))
    (l_read_cap : K.lookup f_read_cap = some ⟨oc_read_cap, od_read_cap, .func (PySem.W.fnOf "read_cap" "read_cap" (defArgs s_read_cap) (defBody s_read_cap) (defScope s_read_cap) .none kV_read_cap dc_read_cap pm_read_cap an_read_cap cd_read_cap ct_read_cap), sl_read_cap⟩)
    (c_read_cap : PySem.W.codeIn K cd_read_cap "read_cap" = true)
    (k_read_cap : PySem.W.keepIn K (.ref f_read_cap) = true)
    (a_read_picture : PySem.W.nsIn K mainGlobals "read_picture" = some (some (.ref f_read_picture)))
    (l_read_picture : K.lookup f_read_picture = some ⟨oc_read_picture, od_read_picture, .func (PySem.W.fnOf "read_picture" "read_picture" (defArgs s_read_picture) (defBody s_read_picture) (defScope s_read_picture) .none kV_read_picture dc_read_picture pm_read_picture an_read_picture cd_read_picture ct_read_picture), sl_read_picture⟩)
    (c_read_picture : PySem.W.codeIn K cd_read_picture "read_picture" = true)
    (k_read_picture : PySem.W.keepIn K (.ref f_read_picture) = true)
    (a_read_head : PySem.W.nsIn K mainGlobals "read_head" = some (some (.ref f_read_head)))
    (l_read_head : K.lookup f_read_head = some ⟨oc_read_head, od_read_head, .func (PySem.W.fnOf "read_head" "read_head" (defArgs s_read_head) (defBody s_read_head) (defScope s_read_head) .none kV_read_head dc_read_head pm_read_head an_read_head cd_read_head ct_read_head), sl_read_head⟩)
    (c_read_head : PySem.W.codeIn K cd_read_head "read_head" = true)
    (k_read_head : PySem.W.keepIn K (.ref f_read_head) = true)
    (a_read_warden : PySem.W.nsIn K mainGlobals "read_warden" = some (some (.ref f_read_warden)))
    (l_read_warden : K.lookup f_read_warden = some ⟨oc_read_warden, od_read_warden, .func (PySem.W.fnOf "read_warden" "read_warden" (defArgs s_read_warden) (defBody s_read_warden) (defScope s_read_warden) .none kV_read_warden dc_read_warden pm_read_warden an_read_warden cd_read_warden ct_read_warden), sl_read_warden⟩)
    (c_read_warden : PySem.W.codeIn K cd_read_warden "read_warden" = true)
    (k_read_warden : PySem.W.keepIn K (.ref f_read_warden) = true)
    (a_read_wardens : PySem.W.nsIn K mainGlobals "read_wardens" = some (some (.ref f_read_wardens)))
    (l_read_wardens : K.lookup f_read_wardens = some ⟨oc_read_wardens, od_read_wardens, .func (PySem.W.fnOf "read_wardens" "read_wardens" (defArgs s_read_wardens) (defBody s_read_wardens) (defScope s_read_wardens) .none kV_read_wardens dc_read_wardens pm_read_wardens an_read_wardens cd_read_wardens ct_read_wardens), sl_read_wardens⟩)
    (c_read_wardens : PySem.W.codeIn K cd_read_wardens "read_wardens" = true)
    (k_read_wardens : PySem.W.keepIn K (.ref f_read_wardens) = true)
    (a_read_record : PySem.W.nsIn K mainGlobals "read_record" = some (some (.ref f_read_record)))
    (l_read_record : K.lookup f_read_record = some ⟨oc_read_record, od_read_record, .func (PySem.W.fnOf "read_record" "read_record" (defArgs s_read_record) (defBody s_read_record) (defScope s_read_record) .none kV_read_record dc_read_record pm_read_record an_read_record cd_read_record ct_read_record), sl_read_record⟩)
    (c_read_record : PySem.W.codeIn K cd_read_record "read_record" = true)
    (k_read_record : PySem.W.keepIn K (.ref f_read_record) = true)
    (a_counted : PySem.W.nsIn K mainGlobals "counted" = some (some (.ref f_counted)))
    (l_counted : K.lookup f_counted = some ⟨oc_counted, od_counted, .func (PySem.W.fnOf "counted" "counted" (defArgs s_counted) (defBody s_counted) (defScope s_counted) .none kV_counted dc_counted pm_counted an_counted cd_counted ct_counted), sl_counted⟩)
    (c_counted : PySem.W.codeIn K cd_counted "counted" = true)
    (k_counted : PySem.W.keepIn K (.ref f_counted) = true)
    (a_read_log : PySem.W.nsIn K mainGlobals "read_log" = some (some (.ref f_read_log)))
    (l_read_log : K.lookup f_read_log = some ⟨oc_read_log, od_read_log, .func (PySem.W.fnOf "read_log" "read_log" (defArgs s_read_log) (defBody s_read_log) (defScope s_read_log) .none kV_read_log dc_read_log pm_read_log an_read_log cd_read_log ct_read_log), sl_read_log⟩)
    (c_read_log : PySem.W.codeIn K cd_read_log "read_log" = true)
    (k_read_log : PySem.W.keepIn K (.ref f_read_log) = true)
    (a_L_cell : PySem.W.nsIn K mainGlobals "_law_cell" = some (some (.ref f_L_cell)))
    (l_L_cell : K.lookup f_L_cell = some ⟨oc_L_cell, od_L_cell, .func (PySem.W.fnOf "_law_cell" "_law_cell" (defArgs s_L_cell) (defBody s_L_cell) (defScope s_L_cell) .none kV_L_cell dc_L_cell pm_L_cell an_L_cell cd_L_cell ct_L_cell), sl_L_cell⟩)
    (c_L_cell : PySem.W.codeIn K cd_L_cell "_law_cell" = true)
    (k_L_cell : PySem.W.keepIn K (.ref f_L_cell) = true)
    (a_law : PySem.W.nsIn K mainGlobals "law" = some (some (.ref f_law)))
    (l_law : K.lookup f_law = some ⟨oc_law, od_law, .func (PySem.W.fnOf "law" "law" (defArgs s_law) (defBody s_law) (defScope s_law) .none kV_law dc_law pm_law an_law cd_law ct_law), sl_law⟩)
    (c_law : PySem.W.codeIn K cd_law "law" = true)
    (k_law : PySem.W.keepIn K (.ref f_law) = true)
    (pg_Ledger : PySem.W.plainGet K C_Ledger Str.empty = true)
    (hd_Ledger : PySem.W.hasDictIn K C_Ledger = true)
    (po_Ledger : PySem.W.plainOver K C_Ledger = true)
    (sa_Ledger : PySem.W.findIn K (.ref C_Ledger) "__setattr__" = some (some (.builtin "object.__setattr__")))
    (mk_Ledger : PySem.W.makesIn K C_Ledger = true)
    (kc_Ledger : PySem.W.keepIn K (.ref C_Ledger) = true)
    (o_Ledger_caps : PySem.W.findIn K (.ref C_Ledger) "caps" = some none)
    (o_Ledger_names : PySem.W.findIn K (.ref C_Ledger) "names" = some none)
    (o_Ledger_wardens : PySem.W.findIn K (.ref C_Ledger) "wardens" = some none)
    (o_Ledger_top : PySem.W.findIn K (.ref C_Ledger) "top" = some none)
    (x_PoolError : PySem.W.excIn K C_PoolError [.type "ValueError", .type "Exception", .type "BaseException", .type "object"] "ValueError.__new__" = true)
    (xk_PoolError : PySem.W.keepIn K (.ref C_PoolError) = true)
    (xb_PoolError : PySem.W.subIn K (.ref C_PoolError) (.type "BaseException") = some true)
    (xt_PoolError : PySem.W.typeIn K (.ref C_PoolError) = some (.type "type"))
    (xi_PoolError : PySem.W.isClsIn K C_PoolError = true)
    (xs_PoolError : PySem.W.subIn K (.ref C_PoolError) (.ref C_PoolError) = some true)
    (x_NoStore : PySem.W.excIn K C_NoStore [.type "ValueError", .type "Exception", .type "BaseException", .type "object"] "ValueError.__new__" = true)
    (xk_NoStore : PySem.W.keepIn K (.ref C_NoStore) = true)
    (xb_NoStore : PySem.W.subIn K (.ref C_NoStore) (.type "BaseException") = some true)
    (xt_NoStore : PySem.W.typeIn K (.ref C_NoStore) = some (.type "type"))
    (xi_NoStore : PySem.W.isClsIn K C_NoStore = true)
    (xs_NoStore : PySem.W.subIn K (.ref C_NoStore) (.ref C_NoStore) = some true)
    (ec_NoStore_hg : PySem.W.findIn K (.ref C_NoStore) "__getattribute__" = some (some (.builtin "BaseException.__getattribute__")))
    (ec_NoStore_hk : PySem.W.findIn K (.ref C_NoStore) "__getattr__" = some none)
    (ec_NoStore_hs : PySem.W.subIn K (.ref C_NoStore) (.type "BaseException") = some true)
    (ec_NoStore_hd : PySem.W.hasDictIn K C_NoStore = true)
    (ec_NoStore_ha : PySem.W.findIn K (.ref C_NoStore) "__class__" = some (some (.builtin "object.__class__")))
    (ec_NoStore_hn : PySem.W.specialIn K (.builtin "object.__class__") "__get__" = some (some (.builtin "getset_descriptor.__get__")))
    (ec_NoStore_ht : PySem.W.takesIn K (.builtin "object.__class__") = some true)
    (ec_NoStore_hm : PySem.W.mroIn K C_NoStore (.type "object") = some true)
    (kis_NoStore_NoStore : PySem.W.kitOne K (.ref C_NoStore) (.ref C_NoStore) = some true)
    (kis_NoStore_ValueError : PySem.W.kitOne K (.ref C_NoStore) (.type "ValueError") = some true)
    (kis_NoStore_InvalidPool : PySem.W.kitOne K (.ref C_NoStore) (.ref C_InvalidPool) = some false)
    (kis_NoStore_InvalidChoice : PySem.W.kitOne K (.ref C_NoStore) (.ref C_InvalidChoice) = some false)
    (kis_NoStore_InvalidText : PySem.W.kitOne K (.ref C_NoStore) (.ref C_InvalidText) = some false)
    (kis_NoStore_InvalidDeed : PySem.W.kitOne K (.ref C_NoStore) (.ref C_InvalidDeed) = some false)
    (kis_NoStore_NothingToUndo : PySem.W.kitOne K (.ref C_NoStore) (.ref C_NothingToUndo) = some false)
    (kis_NoStore_NothingToRedo : PySem.W.kitOne K (.ref C_NoStore) (.ref C_NothingToRedo) = some false)
    (kis_NoStore_InvalidDealing : PySem.W.kitOne K (.ref C_NoStore) (.ref C_InvalidDealing) = some false)
    (kis_NoStore_InvalidTarget : PySem.W.kitOne K (.ref C_NoStore) (.ref C_InvalidTarget) = some false)
    (kis_NoStore_PowerCut : PySem.W.kitOne K (.ref C_NoStore) (.ref C_PowerCut) = some false)
    (kis_NoStore_InvalidSends : PySem.W.kitOne K (.ref C_NoStore) (.ref C_InvalidSends) = some false)
    (kis_NoStore_InvalidTable : PySem.W.kitOne K (.ref C_NoStore) (.ref C_InvalidTable) = some false)
    (kis_NoStore_Unsafe : PySem.W.kitOne K (.ref C_NoStore) (.ref C_Unsafe) = some false)
    (kis_NoStore_CannotHold : PySem.W.kitOne K (.ref C_NoStore) (.ref C_CannotHold) = some false)
    (kis_NoStore_Unfinished : PySem.W.kitOne K (.ref C_NoStore) (.ref C_Unfinished) = some false)
    (kis_NoStore_InvalidName : PySem.W.kitOne K (.ref C_NoStore) (.ref C_InvalidName) = some false)
    (kis_NoStore_Missing : PySem.W.kitOne K (.ref C_NoStore) (.ref C_Missing) = some false)
    (kis_NoStore_Lost : PySem.W.kitOne K (.ref C_NoStore) (.ref C_Lost) = some false)
    (kis_NoStore_InvalidSeats : PySem.W.kitOne K (.ref C_NoStore) (.ref C_InvalidSeats) = some false)
    (kis_NoStore_InvalidCopy : PySem.W.kitOne K (.ref C_NoStore) (.ref C_InvalidCopy) = some false)
    (kis_NoStore_InvalidLine : PySem.W.kitOne K (.ref C_NoStore) (.ref C_InvalidLine) = some false)
    (kx_NoStore_PoolError : PySem.W.subIn K (.ref C_NoStore) (.ref C_PoolError) = some true)
    (n_abs : PySem.W.nsIn K mainGlobals "abs" = some none)
    (n_range : PySem.W.nsIn K mainGlobals "range" = some none)
    (n_int : PySem.W.nsIn K mainGlobals "int" = some none)
    (n_len : PySem.W.nsIn K mainGlobals "len" = some none)
    (n_max : PySem.W.nsIn K mainGlobals "max" = some none)
    (n_sorted : PySem.W.nsIn K mainGlobals "sorted" = some none)
    (n_tuple : PySem.W.nsIn K mainGlobals "tuple" = some none)
    (n_list : PySem.W.nsIn K mainGlobals "list" = some none)
    (n_isinstance : PySem.W.nsIn K mainGlobals "isinstance" = some none)
    (n_ValueError : PySem.W.nsIn K mainGlobals "ValueError" = some none)
    (n_min : PySem.W.nsIn K mainGlobals "min" = some none)
    (n_str : PySem.W.nsIn K mainGlobals "str" = some none)
    (n_bool : PySem.W.nsIn K mainGlobals "bool" = some none)
    (n_dict : PySem.W.nsIn K mainGlobals "dict" = some none) :
    ∃ fd : FuncData, (∀ (s : Shared) (v : Value), BindsTo s fd ⟨[v], []⟩ [("_law_script", v)]) ∧ ∀ base : Heap, K.In base → base.Ns mainGlobals mg → FnOk P w K mg base CX0 20 fa fd ["_law_script"] (spLaw K) := by
  have e := hfa.symm.trans (PySem.W.mg_of X G a_law)
  cases e
  have F_L_draws := fun_mk (st := s_L_draws) l_L_draws c_L_draws k_L_draws
  have F_L_top := fun_mk (st := s_L_top) l_L_top c_L_top k_L_top
  have F_Ledger__set_wardens := fun_mk (st := s_Ledger__set_wardens) l_Ledger__set_wardens c_Ledger__set_wardens k_Ledger__set_wardens
  have F_Ledger__forget := fun_mk (st := s_Ledger__forget) l_Ledger__forget c_Ledger__forget k_Ledger__forget
  have F_Ledger__set_name := fun_mk (st := s_Ledger__set_name) l_Ledger__set_name c_Ledger__set_name k_Ledger__set_name
  have F_Ledger__take := fun_mk (st := s_Ledger__take) l_Ledger__take c_Ledger__take k_Ledger__take
  have F_Ledger_init := fun_mk (st := s_Ledger_init) l_Ledger_init c_Ledger_init k_Ledger_init
  have F_L_no_other := fun_mk (st := s_L_no_other) l_L_no_other c_L_no_other k_L_no_other
  have F_L_refused := fun_mk (st := s_L_refused) l_L_refused c_L_refused k_L_refused
  have F_L_names := fun_mk (st := s_L_names) l_L_names c_L_names k_L_names
  have F_L_forget := fun_mk (st := s_L_forget) l_L_forget c_L_forget k_L_forget
  have F_L_pairs := fun_mk (st := s_L_pairs) l_L_pairs c_L_pairs k_L_pairs
  have F_L_bits := fun_mk (st := s_L_bits) l_L_bits c_L_bits k_L_bits
  have F_L_entries := fun_mk (st := s_L_entries) l_L_entries c_L_entries k_L_entries
  have F_L_set := fun_mk (st := s_L_set) l_L_set c_L_set k_L_set
  have F_L_put := fun_mk (st := s_L_put) l_L_put c_L_put k_L_put
  have F_L_picture := fun_mk (st := s_L_picture) l_L_picture c_L_picture k_L_picture
  have F_warden_text := fun_mk (st := s_warden_text) l_warden_text c_warden_text k_warden_text
  have F_list_text := fun_mk (st := s_list_text) l_list_text c_list_text k_list_text
  have F_named_text := fun_mk (st := s_named_text) l_named_text c_named_text k_named_text
  have F_head_words := fun_mk (st := s_head_words) l_head_words c_head_words k_head_words
  have F_record_text := fun_mk (st := s_record_text) l_record_text c_record_text k_record_text
  have F_L_is_integer := fun_mk (st := s_L_is_integer) l_L_is_integer c_L_is_integer k_L_is_integer
  have F_L_alike := fun_mk (st := s_L_alike) l_L_alike c_L_alike k_L_alike
  have F_L_says := fun_mk (st := s_L_says) l_L_says c_L_says k_L_says
  have F_Ledger_to_picture := fun_mk (st := s_Ledger_to_picture) l_Ledger_to_picture c_Ledger_to_picture k_Ledger_to_picture
  have F_L_is_told := fun_mk (st := s_L_is_told) l_L_is_told c_L_is_told k_L_is_told
  have F_L_record := fun_mk (st := s_L_record) l_L_record c_L_record k_L_record
  have F_number_of := fun_mk (st := s_number_of) l_number_of c_number_of k_number_of
  have F_read_list := fun_mk (st := s_read_list) l_read_list c_read_list k_read_list
  have F_is_name := fun_mk (st := s_is_name) l_is_name c_is_name k_is_name
  have F_is_rising := fun_mk (st := s_is_rising) l_is_rising c_is_rising k_is_rising
  have F_read_named := fun_mk (st := s_read_named) l_read_named c_read_named k_read_named
  have F_read_cap := fun_mk (st := s_read_cap) l_read_cap c_read_cap k_read_cap
  have F_read_picture := fun_mk (st := s_read_picture) l_read_picture c_read_picture k_read_picture
  have F_read_head := fun_mk (st := s_read_head) l_read_head c_read_head k_read_head
  have F_read_warden := fun_mk (st := s_read_warden) l_read_warden c_read_warden k_read_warden
  have F_read_wardens := fun_mk (st := s_read_wardens) l_read_wardens c_read_wardens k_read_wardens
  have F_read_record := fun_mk (st := s_read_record) l_read_record c_read_record k_read_record
  have F_counted := fun_mk (st := s_counted) l_counted c_counted k_counted
  have F_read_log := fun_mk (st := s_read_log) l_read_log c_read_log k_read_log
  have F_L_cell := fun_mk (st := s_L_cell) l_L_cell c_L_cell k_L_cell
  have F_law := fun_mk (st := s_law) l_law c_law k_law
  have T : Txt K mg { a_L_draws := f_L_draws, d_L_draws := _, a_L_top := f_L_top, d_L_top := _, a_Ledger__set_wardens := f_Ledger__set_wardens, d_Ledger__set_wardens := _, a_Ledger__forget := f_Ledger__forget, d_Ledger__forget := _, a_Ledger__set_name := f_Ledger__set_name, d_Ledger__set_name := _, a_Ledger__take := f_Ledger__take, d_Ledger__take := _, a_Ledger_init := f_Ledger_init, d_Ledger_init := _, a_L_no_other := f_L_no_other, d_L_no_other := _, a_L_refused := f_L_refused, d_L_refused := _, a_L_names := f_L_names, d_L_names := _, a_L_forget := f_L_forget, d_L_forget := _, a_L_pairs := f_L_pairs, d_L_pairs := _, a_L_bits := f_L_bits, d_L_bits := _, a_L_entries := f_L_entries, d_L_entries := _, a_L_set := f_L_set, d_L_set := _, a_L_put := f_L_put, d_L_put := _, a_L_picture := f_L_picture, d_L_picture := _, a_warden_text := f_warden_text, d_warden_text := _, a_list_text := f_list_text, d_list_text := _, a_named_text := f_named_text, d_named_text := _, a_head_words := f_head_words, d_head_words := _, a_record_text := f_record_text, d_record_text := _, a_L_is_integer := f_L_is_integer, d_L_is_integer := _, a_L_alike := f_L_alike, d_L_alike := _, a_L_says := f_L_says, d_L_says := _, a_Ledger_to_picture := f_Ledger_to_picture, d_Ledger_to_picture := _, a_L_is_told := f_L_is_told, d_L_is_told := _, a_L_record := f_L_record, d_L_record := _, a_number_of := f_number_of, d_number_of := _, a_read_list := f_read_list, d_read_list := _, a_is_name := f_is_name, d_is_name := _, a_is_rising := f_is_rising, d_is_rising := _, a_read_named := f_read_named, d_read_named := _, a_read_cap := f_read_cap, d_read_cap := _, a_read_picture := f_read_picture, d_read_picture := _, a_read_head := f_read_head, d_read_head := _, a_read_warden := f_read_warden, d_read_warden := _, a_read_wardens := f_read_wardens, d_read_wardens := _, a_read_record := f_read_record, d_read_record := _, a_counted := f_counted, d_counted := _, a_read_log := f_read_log, d_read_log := _, a_L_cell := f_L_cell, d_L_cell := _, a_law := fa, d_law := _, A_Ledger := C_Ledger, A_PoolError := C_PoolError, A_InvalidPool := C_InvalidPool, A_InvalidChoice := C_InvalidChoice, A_InvalidText := C_InvalidText, A_InvalidDeed := C_InvalidDeed, A_NothingToUndo := C_NothingToUndo, A_NothingToRedo := C_NothingToRedo, A_InvalidDealing := C_InvalidDealing, A_InvalidTarget := C_InvalidTarget, A_NoStore := C_NoStore, A_PowerCut := C_PowerCut, A_InvalidSends := C_InvalidSends, A_InvalidTable := C_InvalidTable, A_Unsafe := C_Unsafe, A_CannotHold := C_CannotHold, A_Unfinished := C_Unfinished, A_InvalidName := C_InvalidName, A_Missing := C_Missing, A_Lost := C_Lost, A_InvalidSeats := C_InvalidSeats, A_InvalidCopy := C_InvalidCopy, A_InvalidLine := C_InvalidLine } := {
    F_L_draws := F_L_draws
    b_L_draws := F_L_draws.binds (ps := ["_law_cell_here", "_law_sizes"]) fun _ _ _ _ _ _ us hl => match us, hl with | [_, _], _ => rfl
    g_L_draws := PySem.W.mg_of X G a_L_draws
    F_L_top := F_L_top
    b_L_top := F_L_top.binds (ps := ["_law_model"]) fun _ _ _ _ _ _ us hl => match us, hl with | [_], _ => rfl
    g_L_top := PySem.W.mg_of X G a_L_top
    F_Ledger__set_wardens := F_Ledger__set_wardens
    b_Ledger__set_wardens := F_Ledger__set_wardens.binds (ps := ["self", "entries"]) fun _ _ _ _ _ _ us hl => match us, hl with | [_, _], _ => rfl
    m_Ledger__set_wardens := ⟨a_Ledger__set_wardens, i_Ledger__set_wardens, k_Ledger__set_wardens⟩
    F_Ledger__forget := F_Ledger__forget
    b_Ledger__forget := F_Ledger__forget.binds (ps := ["self", "name"]) fun _ _ _ _ _ _ us hl => match us, hl with | [_, _], _ => rfl
    m_Ledger__forget := ⟨a_Ledger__forget, i_Ledger__forget, k_Ledger__forget⟩
    F_Ledger__set_name := F_Ledger__set_name
    b_Ledger__set_name := F_Ledger__set_name.binds (ps := ["self", "name", "numbers"]) fun _ _ _ _ _ _ us hl => match us, hl with | [_, _, _], _ => rfl
    m_Ledger__set_name := ⟨a_Ledger__set_name, i_Ledger__set_name, k_Ledger__set_name⟩
    F_Ledger__take := F_Ledger__take
    b_Ledger__take := F_Ledger__take.binds (ps := ["self", "record"]) fun _ _ _ _ _ _ us hl => match us, hl with | [_, _], _ => rfl
    m_Ledger__take := ⟨a_Ledger__take, i_Ledger__take, k_Ledger__take⟩
    F_Ledger_init := F_Ledger_init
    b_Ledger_init := F_Ledger_init.binds (ps := ["self", "records"]) fun _ _ _ _ _ _ us hl => match us, hl with | [_, _], _ => rfl
    M_Ledger := ⟨mk_Ledger, a_Ledger_init, i_Ledger_init, kc_Ledger⟩
    F_L_no_other := F_L_no_other
    b_L_no_other := F_L_no_other.binds (ps := ["_law_e"]) fun _ _ _ _ _ _ us hl => match us, hl with | [_], _ => rfl
    g_L_no_other := PySem.W.mg_of X G a_L_no_other
    F_L_refused := F_L_refused
    b_L_refused := F_L_refused.binds (ps := ["_law_records"]) fun _ _ _ _ _ _ us hl => match us, hl with | [_], _ => rfl
    g_L_refused := PySem.W.mg_of X G a_L_refused
    F_L_names := F_L_names
    b_L_names := F_L_names.binds (ps := ["_law_cell_here"]) fun _ _ _ _ _ _ us hl => match us, hl with | [_], _ => rfl
    g_L_names := PySem.W.mg_of X G a_L_names
    F_L_forget := F_L_forget
    b_L_forget := F_L_forget.binds (ps := ["_law_model", "_law_name"]) fun _ _ _ _ _ _ us hl => match us, hl with | [_, _], _ => rfl
    g_L_forget := PySem.W.mg_of X G a_L_forget
    F_L_pairs := F_L_pairs
    b_L_pairs := F_L_pairs.binds (ps := ["_law_seats"]) fun _ _ _ _ _ _ us hl => match us, hl with | [_], _ => rfl
    g_L_pairs := PySem.W.mg_of X G a_L_pairs
    F_L_bits := F_L_bits
    b_L_bits := F_L_bits.binds (ps := ["_law_mask", "_law_count"]) fun _ _ _ _ _ _ us hl => match us, hl with | [_, _], _ => rfl
    g_L_bits := PySem.W.mg_of X G a_L_bits
    F_L_entries := F_L_entries
    b_L_entries := F_L_entries.binds (ps := ["_law_model", "_law_row", "_law_numbers"]) fun _ _ _ _ _ _ us hl => match us, hl with | [_, _, _], _ => rfl
    g_L_entries := PySem.W.mg_of X G a_L_entries
    F_L_set := F_L_set
    b_L_set := F_L_set.binds (ps := ["_law_model", "_law_entries_here"]) fun _ _ _ _ _ _ us hl => match us, hl with | [_, _], _ => rfl
    g_L_set := PySem.W.mg_of X G a_L_set
    F_L_put := F_L_put
    b_L_put := F_L_put.binds (ps := ["_law_model", "_law_name", "_law_row"]) fun _ _ _ _ _ _ us hl => match us, hl with | [_, _, _], _ => rfl
    g_L_put := PySem.W.mg_of X G a_L_put
    F_L_picture := F_L_picture
    b_L_picture := F_L_picture.binds (ps := ["_law_model"]) fun _ _ _ _ _ _ us hl => match us, hl with | [_], _ => rfl
    g_L_picture := PySem.W.mg_of X G a_L_picture
    F_warden_text := F_warden_text
    b_warden_text := F_warden_text.binds (ps := ["entries"]) fun _ _ _ _ _ _ us hl => match us, hl with | [_], _ => rfl
    g_warden_text := PySem.W.mg_of X G a_warden_text
    F_list_text := F_list_text
    b_list_text := F_list_text.binds (ps := ["numbers"]) fun _ _ _ _ _ _ us hl => match us, hl with | [_], _ => rfl
    g_list_text := PySem.W.mg_of X G a_list_text
    F_named_text := F_named_text
    b_named_text := F_named_text.binds (ps := ["name", "numbers"]) fun _ _ _ _ _ _ us hl => match us, hl with | [_, _], _ => rfl
    g_named_text := PySem.W.mg_of X G a_named_text
    F_head_words := F_head_words
    b_head_words := F_head_words.binds (ps := ["record"]) fun _ _ _ _ _ _ us hl => match us, hl with | [_], _ => rfl
    g_head_words := PySem.W.mg_of X G a_head_words
    F_record_text := F_record_text
    b_record_text := F_record_text.binds (ps := ["record"]) fun _ _ _ _ _ _ us hl => match us, hl with | [_], _ => rfl
    g_record_text := PySem.W.mg_of X G a_record_text
    F_L_is_integer := F_L_is_integer
    b_L_is_integer := F_L_is_integer.binds (ps := ["_law_actual"]) fun _ _ _ _ _ _ us hl => match us, hl with | [_], _ => rfl
    g_L_is_integer := PySem.W.mg_of X G a_L_is_integer
    F_L_alike := F_L_alike
    b_L_alike := F_L_alike.binds (ps := ["_law_actual", "_law_due"]) fun _ _ _ _ _ _ us hl => match us, hl with | [_, _], _ => rfl
    g_L_alike := PySem.W.mg_of X G a_L_alike
    F_L_says := F_L_says
    b_L_says := F_L_says.binds (ps := ["_law_ledger", "_law_model"]) fun _ _ _ _ _ _ us hl => match us, hl with | [_, _], _ => rfl
    g_L_says := PySem.W.mg_of X G a_L_says
    F_Ledger_to_picture := F_Ledger_to_picture
    b_Ledger_to_picture := F_Ledger_to_picture.binds (ps := ["self"]) fun _ _ _ _ _ _ us hl => match us, hl with | [_], _ => rfl
    m_Ledger_to_picture := ⟨a_Ledger_to_picture, i_Ledger_to_picture, k_Ledger_to_picture⟩
    F_L_is_told := F_L_is_told
    b_L_is_told := F_L_is_told.binds (ps := ["_law_records", "_law_model"]) fun _ _ _ _ _ _ us hl => match us, hl with | [_, _], _ => rfl
    g_L_is_told := PySem.W.mg_of X G a_L_is_told
    F_L_record := F_L_record
    b_L_record := F_L_record.binds (ps := ["_law_model", "_law_names_here", "_law_row"]) fun _ _ _ _ _ _ us hl => match us, hl with | [_, _, _], _ => rfl
    g_L_record := PySem.W.mg_of X G a_L_record
    F_number_of := F_number_of
    b_number_of := F_number_of.binds (ps := ["text"]) fun _ _ _ _ _ _ us hl => match us, hl with | [_], _ => rfl
    g_number_of := PySem.W.mg_of X G a_number_of
    F_read_list := F_read_list
    b_read_list := F_read_list.binds (ps := ["text"]) fun _ _ _ _ _ _ us hl => match us, hl with | [_], _ => rfl
    g_read_list := PySem.W.mg_of X G a_read_list
    F_is_name := F_is_name
    b_is_name := F_is_name.binds (ps := ["text"]) fun _ _ _ _ _ _ us hl => match us, hl with | [_], _ => rfl
    g_is_name := PySem.W.mg_of X G a_is_name
    F_is_rising := F_is_rising
    b_is_rising := F_is_rising.binds (ps := ["numbers"]) fun _ _ _ _ _ _ us hl => match us, hl with | [_], _ => rfl
    g_is_rising := PySem.W.mg_of X G a_is_rising
    F_read_named := F_read_named
    b_read_named := F_read_named.binds (ps := ["word"]) fun _ _ _ _ _ _ us hl => match us, hl with | [_], _ => rfl
    g_read_named := PySem.W.mg_of X G a_read_named
    F_read_cap := F_read_cap
    b_read_cap := F_read_cap.binds (ps := ["words"]) fun _ _ _ _ _ _ us hl => match us, hl with | [_], _ => rfl
    g_read_cap := PySem.W.mg_of X G a_read_cap
    F_read_picture := F_read_picture
    b_read_picture := F_read_picture.binds (ps := ["words"]) fun _ _ _ _ _ _ us hl => match us, hl with | [_], _ => rfl
    g_read_picture := PySem.W.mg_of X G a_read_picture
    F_read_head := F_read_head
    b_read_head := F_read_head.binds (ps := ["words"]) fun _ _ _ _ _ _ us hl => match us, hl with | [_], _ => rfl
    g_read_head := PySem.W.mg_of X G a_read_head
    F_read_warden := F_read_warden
    b_read_warden := F_read_warden.binds (ps := ["word"]) fun _ _ _ _ _ _ us hl => match us, hl with | [_], _ => rfl
    g_read_warden := PySem.W.mg_of X G a_read_warden
    F_read_wardens := F_read_wardens
    b_read_wardens := F_read_wardens.binds (ps := ["words"]) fun _ _ _ _ _ _ us hl => match us, hl with | [_], _ => rfl
    g_read_wardens := PySem.W.mg_of X G a_read_wardens
    F_read_record := F_read_record
    b_read_record := F_read_record.binds (ps := ["text"]) fun _ _ _ _ _ _ us hl => match us, hl with | [_], _ => rfl
    g_read_record := PySem.W.mg_of X G a_read_record
    F_counted := F_counted
    b_counted := F_counted.binds (ps := ["log"]) fun _ _ _ _ _ _ us hl => match us, hl with | [_], _ => rfl
    g_counted := PySem.W.mg_of X G a_counted
    F_read_log := F_read_log
    b_read_log := F_read_log.binds (ps := ["log"]) fun _ _ _ _ _ _ us hl => match us, hl with | [_], _ => rfl
    g_read_log := PySem.W.mg_of X G a_read_log
    F_L_cell := F_L_cell
    b_L_cell := F_L_cell.binds (ps := ["_law_script", "_law_k"]) fun _ _ _ _ _ _ us hl => match us, hl with | [_, _], _ => rfl
    g_L_cell := PySem.W.mg_of X G a_L_cell
    F_law := F_law
    b_law := F_law.binds (ps := ["_law_script"]) fun _ _ _ _ _ _ us hl => match us, hl with | [_], _ => rfl
    g_law := PySem.W.mg_of X G a_law
    cl_Ledger := ⟨pg_Ledger, hd_Ledger, po_Ledger, sa_Ledger⟩
    g_Ledger := PySem.W.mg_of X G A_Ledger
    o_Ledger_caps := o_Ledger_caps
    o_Ledger_names := o_Ledger_names
    o_Ledger_wardens := o_Ledger_wardens
    o_Ledger_top := o_Ledger_top
    g_PoolError := PySem.W.mg_of X G A_PoolError
    x_PoolError := x_PoolError
    k_PoolError := xk_PoolError
    xb_PoolError := xb_PoolError
    xt_PoolError := xt_PoolError
    xe_PoolError := PW.exm_self xb_PoolError xi_PoolError xt_PoolError xs_PoolError
    g_InvalidPool := PySem.W.mg_of X G A_InvalidPool
    g_InvalidChoice := PySem.W.mg_of X G A_InvalidChoice
    g_InvalidText := PySem.W.mg_of X G A_InvalidText
    g_InvalidDeed := PySem.W.mg_of X G A_InvalidDeed
    g_NothingToUndo := PySem.W.mg_of X G A_NothingToUndo
    g_NothingToRedo := PySem.W.mg_of X G A_NothingToRedo
    g_InvalidDealing := PySem.W.mg_of X G A_InvalidDealing
    g_InvalidTarget := PySem.W.mg_of X G A_InvalidTarget
    g_NoStore := PySem.W.mg_of X G A_NoStore
    x_NoStore := x_NoStore
    k_NoStore := xk_NoStore
    xb_NoStore := xb_NoStore
    xt_NoStore := xt_NoStore
    xe_NoStore := PW.exm_self xb_NoStore xi_NoStore xt_NoStore xs_NoStore
    g_PowerCut := PySem.W.mg_of X G A_PowerCut
    g_InvalidSends := PySem.W.mg_of X G A_InvalidSends
    g_InvalidTable := PySem.W.mg_of X G A_InvalidTable
    g_Unsafe := PySem.W.mg_of X G A_Unsafe
    g_CannotHold := PySem.W.mg_of X G A_CannotHold
    g_Unfinished := PySem.W.mg_of X G A_Unfinished
    g_InvalidName := PySem.W.mg_of X G A_InvalidName
    g_Missing := PySem.W.mg_of X G A_Missing
    g_Lost := PySem.W.mg_of X G A_Lost
    g_InvalidSeats := PySem.W.mg_of X G A_InvalidSeats
    g_InvalidCopy := PySem.W.mg_of X G A_InvalidCopy
    g_InvalidLine := PySem.W.mg_of X G A_InvalidLine
    ec_NoStore := ⟨ec_NoStore_hg, ec_NoStore_hk, ec_NoStore_hs, ec_NoStore_hd, ec_NoStore_ha, ec_NoStore_hn, ec_NoStore_ht, ec_NoStore_hm⟩
    is_NoStore_NoStore := kis_NoStore_NoStore
    is_NoStore_ValueError := kis_NoStore_ValueError
    is_NoStore_InvalidPool := kis_NoStore_InvalidPool
    is_NoStore_InvalidChoice := kis_NoStore_InvalidChoice
    is_NoStore_InvalidText := kis_NoStore_InvalidText
    is_NoStore_InvalidDeed := kis_NoStore_InvalidDeed
    is_NoStore_NothingToUndo := kis_NoStore_NothingToUndo
    is_NoStore_NothingToRedo := kis_NoStore_NothingToRedo
    is_NoStore_InvalidDealing := kis_NoStore_InvalidDealing
    is_NoStore_InvalidTarget := kis_NoStore_InvalidTarget
    is_NoStore_PowerCut := kis_NoStore_PowerCut
    is_NoStore_InvalidSends := kis_NoStore_InvalidSends
    is_NoStore_InvalidTable := kis_NoStore_InvalidTable
    is_NoStore_Unsafe := kis_NoStore_Unsafe
    is_NoStore_CannotHold := kis_NoStore_CannotHold
    is_NoStore_Unfinished := kis_NoStore_Unfinished
    is_NoStore_InvalidName := kis_NoStore_InvalidName
    is_NoStore_Missing := kis_NoStore_Missing
    is_NoStore_Lost := kis_NoStore_Lost
    is_NoStore_InvalidSeats := kis_NoStore_InvalidSeats
    is_NoStore_InvalidCopy := kis_NoStore_InvalidCopy
    is_NoStore_InvalidLine := kis_NoStore_InvalidLine
    xm_NoStore_PoolError := PW.exm_sub xb_PoolError xi_PoolError xt_PoolError kx_NoStore_PoolError
    n_abs := PySem.W.mg_none_of X G n_abs
    n_range := PySem.W.mg_none_of X G n_range
    n_int := PySem.W.mg_none_of X G n_int
    n_len := PySem.W.mg_none_of X G n_len
    n_max := PySem.W.mg_none_of X G n_max
    n_sorted := PySem.W.mg_none_of X G n_sorted
    n_tuple := PySem.W.mg_none_of X G n_tuple
    n_list := PySem.W.mg_none_of X G n_list
    n_isinstance := PySem.W.mg_none_of X G n_isinstance
    n_ValueError := PySem.W.mg_none_of X G n_ValueError
    n_min := PySem.W.mg_none_of X G n_min
    n_str := PySem.W.mg_none_of X G n_str
    n_bool := PySem.W.mg_none_of X G n_bool
    n_dict := PySem.W.mg_none_of X G n_dict }
  exact ⟨_, fun s v => .of_eq rfl, fun base _ _ => ok_law T⟩
theorem walk {l : PySem.W.OpenLaw} {q : Program} {loose : List Str} {XP : (Str → Option Value) → Heap → Prop} {YP : World → Heap → Prop} {d : DefRec} {K : Params → PySem.W.Frag} (hn : l.most = some 63) (hdf : d.params.defaults = [])
    (hY : ∀ (w : World) (h : Heap), YP w h → (K w.params).In h)
    (F : ∀ (w : World) (mg : Str → Option Value) (fa : Addr) (h : Heap), (K w.params).In h → h.Ns mainGlobals mg → mg d.name = some (.ref fa) →
      ∃ fd : FuncData, (∀ (s : Shared) (u : Value), BindsTo s fd ⟨[u], []⟩ [("_law_script", u)]) ∧ ∀ base : Heap, (K w.params).In base → base.Ns mainGlobals mg → FnOk l.prog w (K w.params) mg base CX0 20 fa fd ["_law_script"] (spLaw (K w.params))) :
    PySem.W.WalkO q loose XP YP l.row.toRowW d [] (fun f vs => PySem.call f vs) :=
  L2.walk_of (n := 63) (k := 20) (x := "_law_script") (CX := fun _ => CX0) (sp := fun w => spLaw (K w.params)) hn (by decide) hdf ⟨rfl, by decide, by decide⟩ hY F (fun _ _ a ns hl _ hS => ⟨a, ns, rfl, hS, hl, fun _ => rfl⟩) fun _ _ _ _ _ z => z
end Q
open PySem PySem.W PyProof.Rows
set_option maxRecDepth 100000 in
set_option maxHeartbeats 0 in
theorem PySem.Challenge.cw_pairwarden_k64_whole_ledger_holds : PySem.Challenge.rw_pairwarden_k64_whole_ledger.Holds := by
  w_on; o_law; k_head; (case hw => w_witness2)
  k_fill
  refine Q.walk (l := PySem.Challenge.rw_pairwarden_k64_whole_ledger) rfl rfl (fun w h Y => PySem.W.kIn_of Y) ?F
  case F =>
    intro w mg fa h KX G hmg
    refine' Q.all_mk KX G hmg ?A_Ledger ?A_PoolError ?A_InvalidPool ?A_InvalidChoice ?A_InvalidText ?A_InvalidDeed ?A_NothingToUndo ?A_NothingToRedo ?A_InvalidDealing ?A_InvalidTarget ?A_NoStore ?A_PowerCut ?A_InvalidSends ?A_InvalidTable ?A_Unsafe ?A_CannotHold ?A_Unfinished ?A_InvalidName ?A_Missing ?A_Lost ?A_InvalidSeats ?A_InvalidCopy ?A_InvalidLine ?a_L_draws ?l_L_draws ?c_L_draws ?k_L_draws ?a_L_top ?l_L_top ?c_L_top ?k_L_top ?a_Ledger__set_wardens ?i_Ledger__set_wardens ?l_Ledger__set_wardens ?c_Ledger__set_wardens ?k_Ledger__set_wardens ?a_Ledger__forget ?i_Ledger__forget ?l_Ledger__forget ?c_Ledger__forget ?k_Ledger__forget ?a_Ledger__set_name ?i_Ledger__set_name ?l_Ledger__set_name ?c_Ledger__set_name ?k_Ledger__set_name ?a_Ledger__take ?i_Ledger__take ?l_Ledger__take ?c_Ledger__take ?k_Ledger__take ?a_Ledger_init ?i_Ledger_init ?l_Ledger_init ?c_Ledger_init ?k_Ledger_init ?a_L_no_other ?l_L_no_other ?c_L_no_other ?k_L_no_other ?a_L_refused ?l_L_refused ?c_L_refused ?k_L_refused ?a_L_names ?l_L_names ?c_L_names ?k_L_names ?a_L_forget ?l_L_forget ?c_L_forget ?k_L_forget ?a_L_pairs ?l_L_pairs ?c_L_pairs ?k_L_pairs ?a_L_bits ?l_L_bits ?c_L_bits ?k_L_bits ?a_L_entries ?l_L_entries ?c_L_entries ?k_L_entries ?a_L_set ?l_L_set ?c_L_set ?k_L_set ?a_L_put ?l_L_put ?c_L_put ?k_L_put ?a_L_picture ?l_L_picture ?c_L_picture ?k_L_picture ?a_warden_text ?l_warden_text ?c_warden_text ?k_warden_text ?a_list_text ?l_list_text ?c_list_text ?k_list_text ?a_named_text ?l_named_text ?c_named_text ?k_named_text ?a_head_words ?l_head_words ?c_head_words ?k_head_words ?a_record_text ?l_record_text ?c_record_text ?k_record_text ?a_L_is_integer ?l_L_is_integer ?c_L_is_integer ?k_L_is_integer ?a_L_alike ?l_L_alike ?c_L_alike ?k_L_alike ?a_L_says ?l_L_says ?c_L_says ?k_L_says ?a_Ledger_to_picture ?i_Ledger_to_picture ?l_Ledger_to_picture ?c_Ledger_to_picture ?k_Ledger_to_picture ?a_L_is_told ?l_L_is_told ?c_L_is_told ?k_L_is_told ?a_L_record ?l_L_record ?c_L_record ?k_L_record ?a_number_of ?l_number_of ?c_number_of ?k_number_of ?a_read_list ?l_read_list ?c_read_list ?k_read_list ?a_is_name ?l_is_name ?c_is_name ?k_is_name ?a_is_rising ?l_is_rising ?c_is_rising ?k_is_rising ?a_read_named ?l_read_named ?c_read_named ?k_read_named ?a_read_cap ?l_read_cap ?c_read_cap ?k_read_cap ?a_read_picture ?l_read_picture ?c_read_picture ?k_read_picture ?a_read_head ?l_read_head ?c_read_head ?k_read_head ?a_read_warden ?l_read_warden ?c_read_warden ?k_read_warden ?a_read_wardens ?l_read_wardens ?c_read_wardens ?k_read_wardens ?a_read_record ?l_read_record ?c_read_record ?k_read_record ?a_counted ?l_counted ?c_counted ?k_counted ?a_read_log ?l_read_log ?c_read_log ?k_read_log ?a_L_cell ?l_L_cell ?c_L_cell ?k_L_cell ?a_law ?l_law ?c_law ?k_law ?pg_Ledger ?hd_Ledger ?po_Ledger ?sa_Ledger ?mk_Ledger ?kc_Ledger ?o_Ledger_caps ?o_Ledger_names ?o_Ledger_wardens ?o_Ledger_top ?x_PoolError ?xk_PoolError ?xb_PoolError ?xt_PoolError ?xi_PoolError ?xs_PoolError ?x_NoStore ?xk_NoStore ?xb_NoStore ?xt_NoStore ?xi_NoStore ?xs_NoStore ?ec_NoStore_hg ?ec_NoStore_hk ?ec_NoStore_hs ?ec_NoStore_hd ?ec_NoStore_ha ?ec_NoStore_hn ?ec_NoStore_ht ?ec_NoStore_hm ?kis_NoStore_NoStore ?kis_NoStore_ValueError ?kis_NoStore_InvalidPool ?kis_NoStore_InvalidChoice ?kis_NoStore_InvalidText ?kis_NoStore_InvalidDeed ?kis_NoStore_NothingToUndo ?kis_NoStore_NothingToRedo ?kis_NoStore_InvalidDealing ?kis_NoStore_InvalidTarget ?kis_NoStore_PowerCut ?kis_NoStore_InvalidSends ?kis_NoStore_InvalidTable ?kis_NoStore_Unsafe ?kis_NoStore_CannotHold ?kis_NoStore_Unfinished ?kis_NoStore_InvalidName ?kis_NoStore_Missing ?kis_NoStore_Lost ?kis_NoStore_InvalidSeats ?kis_NoStore_InvalidCopy ?kis_NoStore_InvalidLine ?kx_NoStore_PoolError ?n_abs ?n_range ?n_int ?n_len ?n_max ?n_sorted ?n_tuple ?n_list ?n_isinstance ?n_ValueError ?n_min ?n_str ?n_bool ?n_dict
    (case A_Ledger => k_is)
    (case A_PoolError => k_is)
    (case A_InvalidPool => k_is)
    (case A_InvalidChoice => k_is)
    (case A_InvalidText => k_is)
    (case A_InvalidDeed => k_is)
    (case A_NothingToUndo => k_is)
    (case A_NothingToRedo => k_is)
    (case A_InvalidDealing => k_is)
    (case A_InvalidTarget => k_is)
    (case A_NoStore => k_is)
    (case A_PowerCut => k_is)
    (case A_InvalidSends => k_is)
    (case A_InvalidTable => k_is)
    (case A_Unsafe => k_is)
    (case A_CannotHold => k_is)
    (case A_Unfinished => k_is)
    (case A_InvalidName => k_is)
    (case A_Missing => k_is)
    (case A_Lost => k_is)
    (case A_InvalidSeats => k_is)
    (case A_InvalidCopy => k_is)
    (case A_InvalidLine => k_is)
    (case a_L_draws => k_is)
    (case l_L_draws => k_is)
    (case c_L_draws => k_is)
    (case k_L_draws => k_is)
    (case a_L_top => k_is)
    (case l_L_top => k_is)
    (case c_L_top => k_is)
    (case k_L_top => k_is)
    (case a_Ledger__set_wardens => k_is)
    (case i_Ledger__set_wardens => k_is)
    (case l_Ledger__set_wardens => k_is)
    (case c_Ledger__set_wardens => k_is)
    (case k_Ledger__set_wardens => k_is)
    (case a_Ledger__forget => k_is)
    (case i_Ledger__forget => k_is)
    (case l_Ledger__forget => k_is)
    (case c_Ledger__forget => k_is)
    (case k_Ledger__forget => k_is)
    (case a_Ledger__set_name => k_is)
    (case i_Ledger__set_name => k_is)
    (case l_Ledger__set_name => k_is)
    (case c_Ledger__set_name => k_is)
    (case k_Ledger__set_name => k_is)
    (case a_Ledger__take => k_is)
    (case i_Ledger__take => k_is)
    (case l_Ledger__take => k_is)
    (case c_Ledger__take => k_is)
    (case k_Ledger__take => k_is)
    (case a_Ledger_init => k_is)
    (case i_Ledger_init => k_is)
    (case l_Ledger_init => k_is)
    (case c_Ledger_init => k_is)
    (case k_Ledger_init => k_is)
    (case a_L_no_other => k_is)
    (case l_L_no_other => k_is)
    (case c_L_no_other => k_is)
    (case k_L_no_other => k_is)
    (case a_L_refused => k_is)
    (case l_L_refused => k_is)
    (case c_L_refused => k_is)
    (case k_L_refused => k_is)
    (case a_L_names => k_is)
    (case l_L_names => k_is)
    (case c_L_names => k_is)
    (case k_L_names => k_is)
    (case a_L_forget => k_is)
    (case l_L_forget => k_is)
    (case c_L_forget => k_is)
    (case k_L_forget => k_is)
    (case a_L_pairs => k_is)
    (case l_L_pairs => k_is)
    (case c_L_pairs => k_is)
    (case k_L_pairs => k_is)
    (case a_L_bits => k_is)
    (case l_L_bits => k_is)
    (case c_L_bits => k_is)
    (case k_L_bits => k_is)
    (case a_L_entries => k_is)
    (case l_L_entries => k_is)
    (case c_L_entries => k_is)
    (case k_L_entries => k_is)
    (case a_L_set => k_is)
    (case l_L_set => k_is)
    (case c_L_set => k_is)
    (case k_L_set => k_is)
    (case a_L_put => k_is)
    (case l_L_put => k_is)
    (case c_L_put => k_is)
    (case k_L_put => k_is)
    (case a_L_picture => k_is)
    (case l_L_picture => k_is)
    (case c_L_picture => k_is)
    (case k_L_picture => k_is)
    (case a_warden_text => k_is)
    (case l_warden_text => k_is)
    (case c_warden_text => k_is)
    (case k_warden_text => k_is)
    (case a_list_text => k_is)
    (case l_list_text => k_is)
    (case c_list_text => k_is)
    (case k_list_text => k_is)
    (case a_named_text => k_is)
    (case l_named_text => k_is)
    (case c_named_text => k_is)
    (case k_named_text => k_is)
    (case a_head_words => k_is)
    (case l_head_words => k_is)
    (case c_head_words => k_is)
    (case k_head_words => k_is)
    (case a_record_text => k_is)
    (case l_record_text => k_is)
    (case c_record_text => k_is)
    (case k_record_text => k_is)
    (case a_L_is_integer => k_is)
    (case l_L_is_integer => k_is)
    (case c_L_is_integer => k_is)
    (case k_L_is_integer => k_is)
    (case a_L_alike => k_is)
    (case l_L_alike => k_is)
    (case c_L_alike => k_is)
    (case k_L_alike => k_is)
    (case a_L_says => k_is)
    (case l_L_says => k_is)
    (case c_L_says => k_is)
    (case k_L_says => k_is)
    (case a_Ledger_to_picture => k_is)
    (case i_Ledger_to_picture => k_is)
    (case l_Ledger_to_picture => k_is)
    (case c_Ledger_to_picture => k_is)
    (case k_Ledger_to_picture => k_is)
    (case a_L_is_told => k_is)
    (case l_L_is_told => k_is)
    (case c_L_is_told => k_is)
    (case k_L_is_told => k_is)
    (case a_L_record => k_is)
    (case l_L_record => k_is)
    (case c_L_record => k_is)
    (case k_L_record => k_is)
    (case a_number_of => k_is)
    (case l_number_of => k_is)
    (case c_number_of => k_is)
    (case k_number_of => k_is)
    (case a_read_list => k_is)
    (case l_read_list => k_is)
    (case c_read_list => k_is)
    (case k_read_list => k_is)
    (case a_is_name => k_is)
    (case l_is_name => k_is)
    (case c_is_name => k_is)
    (case k_is_name => k_is)
    (case a_is_rising => k_is)
    (case l_is_rising => k_is)
    (case c_is_rising => k_is)
    (case k_is_rising => k_is)
    (case a_read_named => k_is)
    (case l_read_named => k_is)
    (case c_read_named => k_is)
    (case k_read_named => k_is)
    (case a_read_cap => k_is)
    (case l_read_cap => k_is)
    (case c_read_cap => k_is)
    (case k_read_cap => k_is)
    (case a_read_picture => k_is)
    (case l_read_picture => k_is)
    (case c_read_picture => k_is)
    (case k_read_picture => k_is)
    (case a_read_head => k_is)
    (case l_read_head => k_is)
    (case c_read_head => k_is)
    (case k_read_head => k_is)
    (case a_read_warden => k_is)
    (case l_read_warden => k_is)
    (case c_read_warden => k_is)
    (case k_read_warden => k_is)
    (case a_read_wardens => k_is)
    (case l_read_wardens => k_is)
    (case c_read_wardens => k_is)
    (case k_read_wardens => k_is)
    (case a_read_record => k_is)
    (case l_read_record => k_is)
    (case c_read_record => k_is)
    (case k_read_record => k_is)
    (case a_counted => k_is)
    (case l_counted => k_is)
    (case c_counted => k_is)
    (case k_counted => k_is)
    (case a_read_log => k_is)
    (case l_read_log => k_is)
    (case c_read_log => k_is)
    (case k_read_log => k_is)
    (case a_L_cell => k_is)
    (case l_L_cell => k_is)
    (case c_L_cell => k_is)
    (case k_L_cell => k_is)
    (case a_law => k_is)
    (case l_law => k_is)
    (case c_law => k_is)
    (case k_law => k_is)
    (case pg_Ledger => k_is)
    (case hd_Ledger => k_is)
    (case po_Ledger => k_is)
    (case sa_Ledger => k_is)
    (case mk_Ledger => k_is)
    (case kc_Ledger => k_is)
    (case o_Ledger_caps => k_is)
    (case o_Ledger_names => k_is)
    (case o_Ledger_wardens => k_is)
    (case o_Ledger_top => k_is)
    (case x_PoolError => k_exc)
    (case xk_PoolError => k_is)
    (case xb_PoolError => k_is)
    (case xt_PoolError => k_is)
    (case xi_PoolError => k_is)
    (case xs_PoolError => first | rfl | k_is)
    (case x_NoStore => k_exc)
    (case xk_NoStore => k_is)
    (case xb_NoStore => k_is)
    (case xt_NoStore => k_is)
    (case xi_NoStore => k_is)
    (case xs_NoStore => first | rfl | k_is)
    (case ec_NoStore_hg => k_is)
    (case ec_NoStore_hk => k_is)
    (case ec_NoStore_hs => k_is)
    (case ec_NoStore_hd => k_is)
    (case ec_NoStore_ha => k_is)
    (case ec_NoStore_hn => k_is)
    (case ec_NoStore_ht => k_is)
    (case ec_NoStore_hm => k_is)
    (case kis_NoStore_NoStore => kit_is)
    (case kis_NoStore_ValueError => kit_is)
    (case kis_NoStore_InvalidPool => kit_is)
    (case kis_NoStore_InvalidChoice => kit_is)
    (case kis_NoStore_InvalidText => kit_is)
    (case kis_NoStore_InvalidDeed => kit_is)
    (case kis_NoStore_NothingToUndo => kit_is)
    (case kis_NoStore_NothingToRedo => kit_is)
    (case kis_NoStore_InvalidDealing => kit_is)
    (case kis_NoStore_InvalidTarget => kit_is)
    (case kis_NoStore_PowerCut => kit_is)
    (case kis_NoStore_InvalidSends => kit_is)
    (case kis_NoStore_InvalidTable => kit_is)
    (case kis_NoStore_Unsafe => kit_is)
    (case kis_NoStore_CannotHold => kit_is)
    (case kis_NoStore_Unfinished => kit_is)
    (case kis_NoStore_InvalidName => kit_is)
    (case kis_NoStore_Missing => kit_is)
    (case kis_NoStore_Lost => kit_is)
    (case kis_NoStore_InvalidSeats => kit_is)
    (case kis_NoStore_InvalidCopy => kit_is)
    (case kis_NoStore_InvalidLine => kit_is)
    (case kx_NoStore_PoolError => k_is)
    (case n_abs => k_is)
    (case n_range => k_is)
    (case n_int => k_is)
    (case n_len => k_is)
    (case n_max => k_is)
    (case n_sorted => k_is)
    (case n_tuple => k_is)
    (case n_list => k_is)
    (case n_isinstance => k_is)
    (case n_ValueError => k_is)
    (case n_min => k_is)
    (case n_str => k_is)
    (case n_bool => k_is)
    (case n_dict => k_is)
