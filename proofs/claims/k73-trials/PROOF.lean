import PyProof.Rows.All
import Wide.All
import OpenK.AllK
import Wide.FinOn
import HandS.ForMost
import HandS.ForExc
import HandS.FStr
import HandS.TupAny
import HandS.Deep
import HandS.IsInst
import HandS.More
import HandS.SortInts
import HandS.Evl
import KE.SortData
import HandS.WordsDict
import HandS.Small
import HandS.ExcIs
import HandS.HotCalls
import HandS.TryOnly
import HandS.ClsMeth
import HandS.Conv
import HandS.Zip
import PySem.Challenge.RW_pairwarden_k73_counts_and_trials
set_option Elab.async false
set_option linter.all false
set_option maxRecDepth 100000
set_option maxHeartbeats 4000000
/-! PW0: operators as unions, the worlds of a body (frozen part, own lists), data as a whole. -/
namespace PW
open PySem PySem.Spec PyProof.Rows L2

/-! ### operators as unions -/
section
variable {X : Cx}
def rAddU (K : PySem.W.Frag) : R2 := fun x y H Q => rI0 (fun i j => .int (i + j)) x y H Q ∨ (∃ i j : Str, x = .str i ∧ y = .str j ∧ i.length + j.length ≤ sizeLine ∧ Q (.str (i ++ j)) H) ∨ rCat x y H Q ∨ rCatA K x y H Q
theorem op_addU : OpR X (binaryOp .Add) (rAddU X.K) := op_add.or (op_add_str.or (op_cat.or op_catA))
def rMulU : R2 := fun x y H Q => rI CMul (fun i j => .int (i * j)) x y H Q ∨ rRep x y H Q
theorem op_mulU : OpR X (binaryOp .Mult) rMulU := op_mul.or op_rep
def rEqU (K : PySem.W.Frag) : R2 := fun x y H Q => rEq x y H Q ∨ rEqD K x y H Q
theorem op_eqU (hu : X.A.units + 64 < cLine) : OpR X (compareOp .Eq) (rEqU X.K) := op_eq.or (op_eqD hu)
def rNeU (K : PySem.W.Frag) : R2 := fun x y H Q => rNe x y H Q ∨ rNeD K x y H Q
theorem op_neU (hu : X.A.units + 64 < cLine) : OpR X (compareOp .NotEq) (rNeU X.K) := op_ne.or (op_neD hu)
def rLtU (K : PySem.W.Frag) : R2 := fun x y H Q => rI0 (fun i j => .bl (decide (i < j))) x y H Q ∨ (∃ i j : Str, x = .str i ∧ y = .str j ∧ Q (.bl (decide (i.cps.toList < j.cps.toList))) H)
theorem op_ltU : OpR X (compareOp .Lt) (rLtU X.K) := op_lt.or op_lt_str
def rLeU (K : PySem.W.Frag) : R2 := fun x y H Q => rI0 (fun i j => .bl (decide (i ≤ j))) x y H Q ∨ (∃ i j : Str, x = .str i ∧ y = .str j ∧ Q (.bl (!decide (j.cps.toList < i.cps.toList))) H)
theorem op_leU : OpR X (compareOp .LtE) (rLeU X.K) := op_le.or op_le_str
def rGtU (K : PySem.W.Frag) : R2 := fun x y H Q => rI0 (fun i j => .bl (decide (j < i))) x y H Q ∨ (∃ i j : Str, x = .str i ∧ y = .str j ∧ Q (.bl (decide (j.cps.toList < i.cps.toList))) H)
theorem op_gtU : OpR X (compareOp .Gt) (rGtU X.K) := op_gt.or op_gt_str
def rGeU (K : PySem.W.Frag) : R2 := fun x y H Q => rI0 (fun i j => .bl (decide (j ≤ i))) x y H Q ∨ (∃ i j : Str, x = .str i ∧ y = .str j ∧ Q (.bl (!decide (i.cps.toList < j.cps.toList))) H)
theorem op_geU : OpR X (compareOp .GtE) (rGeU X.K) := op_ge.or op_ge_str
def rInU (K : PySem.W.Frag) : R2 := fun x y H Q => rIn K false x y H Q ∨ (∃ (c : Nat) (z : Str), x = .str ⟨#[c]⟩ ∧ y = .str z ∧ Q (.bl (decide (c ∈ z.cps.toList))) H) ∨ rNoneIn K false x y H Q ∨ rInD K x y H Q
def rNotInU (K : PySem.W.Frag) : R2 := fun x y H Q => rIn K true x y H Q ∨ (∃ (c : Nat) (z : Str), x = .str ⟨#[c]⟩ ∧ y = .str z ∧ Q (.bl (!decide (c ∈ z.cps.toList))) H) ∨ rNoneIn K true x y H Q ∨ rNotInD K x y H Q
theorem op_inU (hu : X.A.units + 65 < cLine) : OpR X (compareOp .In) (rInU X.K) := op_in_seq.or (op_in_sign.or ((op_noneIn (by omega)).or (op_inD hu)))
theorem op_notInU (hu : X.A.units + 65 < cLine) : OpR X (compareOp .NotIn) (rNotInU X.K) := op_notIn_seq.or (op_notIn_sign.or ((op_noneNotIn (by omega)).or (op_notInD hu)))
def rSlU (K : PySem.W.Frag) : V → Option Int → Option Int → Hp → VK → Prop := fun x lo hi H Q => rSlS x lo hi H Q ∨ rSlL K x lo hi H Q ∨ rSlA K x lo hi H Q
theorem sl_U : SlR X (rSlU X.K) := sl_str.or (sl_list.or sl_tupA)
def rIntU : List V → Hp → VK → Prop := fun xs H Q => (∃ i, xs = [.int i] ∧ Q (.int i) H) ∨ (∃ (a : Str) (n : Int), xs = [.str a] ∧ PySem.intText? a = some n ∧ a.length ≤ 640 ∧ Q (.int n) H)
theorem call_intU : CallR X (.type "int") rIntU := by
  intro pins s σ H xs us Q I r h
  rcases h with ⟨i, e, q⟩ | h
  · exact call_int1 pins s σ H xs us Q I r (.inl ⟨i, e, q⟩)
  · exact call_int_str pins s σ H xs us Q I r h
end

/-! ### data as a whole, kept -/
theorem same_rd {H H' : Hp} {a : Addr} {u : HO} (e : Same H H') (h : Rd H a u) : Rd H' a u := by
  rcases h with h | ⟨o, h⟩
  · exact Or.inl (e a _ h)
  · exact Or.inr ⟨o, e a _ h⟩
theorem same_l {K : PySem.W.Frag} {H H' : Hp} {a : Addr} {xs : List V} (e : Same H H') (h : SqL K H a xs) : SqL K H' a xs := by
  rcases h with h | h
  · exact Or.inl (same_rd e h)
  · exact Or.inr h
theorem same_t {K : PySem.W.Frag} {H H' : Hp} {a : Addr} {xs : List V} (e : Same H H') (h : SqT K H a xs) : SqT K H' a xs := by
  rcases h with h | h
  · exact Or.inl (same_rd e h)
  · exact Or.inr h
mutual
theorem dp_mono {K : PySem.W.Frag} {H H' : Hp} (e : Same H H') : ∀ {v : V} {d : PyData}, Dp K H v d → Dp K H' v d
  | _, _, .non => .non
  | _, _, .bl b => .bl b
  | _, _, .int i => .int i
  | _, _, .str x => .str x
  | _, _, .lst h a => .lst (same_l e h) (dpa_mono e a)
  | _, _, .tup h a => .tup (same_t e h) (dpa_mono e a)
theorem dpa_mono {K : PySem.W.Frag} {H H' : Hp} (e : Same H H') : ∀ {vs : List V} {ds : List PyData}, DpAll K H vs ds → DpAll K H' vs ds
  | _, _, .nil => .nil
  | _, _, .cons h a => .cons (dp_mono e h) (dpa_mono e a)
end
section
variable {K : PySem.W.Frag} {H H' F F' : Hp} {v : V} {vs ws : List V} {d : PyData} {ds es : List PyData} {p : Addr}
theorem dpa_len (h : DpAll K H vs ds) : vs.length = ds.length := by
  induction ds generalizing vs with
  | nil => cases h; rfl
  | cons d ds ih => cases h with | cons a b => rw [List.length_cons, List.length_cons, ih b]
theorem dpa_get {i : Nat} (h : DpAll K H vs ds) (e : vs[i]? = some v) : ∃ d, ds[i]? = some d ∧ Dp K H v d := by
  induction ds generalizing vs i with
  | nil => cases h; simp at e
  | cons d ds ih =>
    cases h with
    | cons a b =>
      cases i with
      | zero => simp at e; subst e; exact ⟨d, by simp, a⟩
      | succ i =>
        obtain ⟨d', h1, h2⟩ := ih b (i := i) (by simpa using e)
        exact ⟨d', by simpa using h1, h2⟩
theorem dpa_at {i : Nat} (h : DpAll K H vs ds) (e : ds[i]? = some d) : ∃ v, vs[i]? = some v ∧ Dp K H v d := by
  have hl := dpa_len h
  have hi : i < vs.length := by rw [hl]; exact (List.getElem?_eq_some_iff.mp e).1
  obtain ⟨d', h1, h2⟩ := dpa_get h (List.getElem?_eq_getElem hi)
  rw [e] at h1
  cases h1
  exact ⟨_, List.getElem?_eq_getElem hi, h2⟩
theorem dpa_app (h : DpAll K H vs ds) (h' : DpAll K H ws es) : DpAll K H (vs ++ ws) (ds ++ es) := by
  induction ds generalizing vs with
  | nil => cases h; exact h'
  | cons d ds ih => cases h with | cons a b => exact .cons a (ih b)
theorem dpa_one (h : Dp K H v d) : DpAll K H [v] [d] := .cons h .nil
theorem dpa_snoc (h : DpAll K H vs ds) (h' : Dp K H v d) : DpAll K H (vs ++ [v]) (ds ++ [d]) := dpa_app h (dpa_one h')
theorem dp_int {i : Int} (h : Dp K H v (.int i)) : v = .int i := by cases h; rfl
theorem dp_bool {b : Bool} (h : Dp K H v (.bool b)) : v = .bl b := by cases h; rfl
theorem dp_str {x : Str} (h : Dp K H v (.str x)) : v = .str x := by cases h; rfl
theorem dp_none (h : Dp K H v .none) : v = .non := by cases h; rfl
theorem dp_list (h : Dp K H v (.list ds)) : ∃ a xs, v = .ref a ∧ SqL K H a xs ∧ DpAll K H xs ds := by cases h with | lst h a => exact ⟨_, _, rfl, h, a⟩
theorem dp_tup (h : Dp K H v (.tuple ds)) : ∃ a xs, v = .ref a ∧ SqT K H a xs ∧ DpAll K H xs ds := by cases h with | tup h a => exact ⟨_, _, rfl, h, a⟩
theorem dpa_ints {ns : List Int} (h : DpAll K H vs (ns.map PyData.int)) : vs = ns.map V.int := by
  induction ns generalizing vs with
  | nil => cases h; rfl
  | cons n ns ih => cases h with | cons a b => rw [dp_int a, ih b]; rfl
theorem dpa_strs {ns : List Str} (h : DpAll K H vs (ns.map PyData.str)) : vs = ns.map V.str := by
  induction ns generalizing vs with
  | nil => cases h; rfl
  | cons n ns ih => cases h with | cons a b => rw [dp_str a, ih b]; rfl
theorem dpa_of_ints {ns : List Int} : DpAll K H (ns.map V.int) (ns.map PyData.int) := by
  induction ns with
  | nil => exact .nil
  | cons n ns ih => exact .cons (.int n) ih
theorem dpa_of_strs {ns : List Str} : DpAll K H (ns.map V.str) (ns.map PyData.str) := by
  induction ns with
  | nil => exact .nil
  | cons n ns ih => exact .cons (.str n) ih
end

/-! ### worlds: F the part that stays as it is, H the heap, F0 H0 those at the entry, M the lists that are one's own -/
structure Step (F H F' H' : Hp) : Prop where
  ff : Same F F'
  fh : Same F' H'
  hh : Same H H'
  sep : ∀ b, F b = none → H b ≠ none → F' b = none
structure Wd (F0 H0 F H : Hp) (M : List (Addr × HO)) : Prop where
  ff : Same F0 F
  fh : Same F H
  hh : Same H0 H
  sep : ∀ b, F0 b = none → H0 b ≠ none → F b = none
  mt : ∀ m ∈ M, F m.1 = none ∧ H m.1 = some m.2 ∧ H0 m.1 = none
  nd : (M.map (·.1)).Nodup
section
variable {K : PySem.W.Frag} {F0 H0 F H F' H' F2 H2 : Hp} {M : List (Addr × HO)} {p : Addr} {o o' : HO}
theorem Step.refl (e : Same F H) : Step F H F H := ⟨.refl F, e, .refl H, fun _ h _ => h⟩
theorem Step.trans (a : Step F H F' H') (b : Step F' H' F2 H2) : Step F H F2 H2 :=
  ⟨a.ff.trans b.ff, b.fh, a.hh.trans b.hh, fun c h1 h2 => b.sep c (a.sep c h1 h2) fun z => by
    cases q : H c with
    | none => exact h2 q
    | some o => rw [a.hh c o q] at z; cases z⟩
theorem Wd.start (e : Same F H) : Wd F H F H [] := ⟨.refl F, e, .refl H, fun _ h _ => h, fun _ h => by simp at h, List.nodup_nil⟩
theorem Wd.done (w : Wd F0 H0 F H M) : Step F0 H0 F H := ⟨w.ff, w.fh, w.hh, w.sep⟩
theorem Wd.step (w : Wd F0 H0 F H M) (s : Step F H F' H') : Wd F0 H0 F' H' M := by
  refine ⟨w.ff.trans s.ff, s.fh, w.hh.trans s.hh, fun b h1 h2 => s.sep b (w.sep b h1 h2) fun z => ?_, fun m hm => ?_, w.nd⟩
  · cases q : H0 b with
    | none => exact h2 q
    | some o => rw [w.hh b o q] at z; cases z
  · obtain ⟨a, b, c⟩ := w.mt m hm
    exact ⟨s.sep _ a (by rw [b]; simp), s.hh _ _ b, c⟩
theorem Wd.free (w : Wd F0 H0 F H M) (h : H p = none) : F p = none ∧ H0 p = none ∧ ∀ m ∈ M, m.1 ≠ p := by
  refine ⟨w.fh.free h, w.hh.free h, fun m hm z => ?_⟩
  obtain ⟨_, b, _⟩ := w.mt m hm
  rw [z, h] at b
  cases b
theorem same_new (h : H p = none) : Same H (upd H p o) := fun b u e => by rw [upd_ne (ne_of_none e h)]; exact e
theorem same_upd (e : Same F H) : Same (upd F p o) (upd H p o) := fun b u h => by
  unfold upd at h ⊢
  split
  · rename_i hb; rw [if_pos hb] at h; exact h
  · rename_i hb; rw [if_neg hb] at h; exact e b u h
/-- a new object that will not change: it joins the frozen part -/
theorem Wd.fix (w : Wd F0 H0 F H M) (h : H p = none) (o : HO) : Wd F0 H0 (upd F p o) (upd H p o) M ∧ Same F (upd F p o) := by
  obtain ⟨f, h0, hm⟩ := w.free h
  refine ⟨⟨w.ff.trans (same_new f), same_upd w.fh, w.hh.trans (same_new h), fun b h1 h2 => ?_, fun m hm' => ?_, w.nd⟩, same_new f⟩
  · have : b ≠ p := fun z => h2 (by rw [z]; exact h0)
    rw [upd_ne this]
    exact w.sep b h1 h2
  · obtain ⟨a, b, c⟩ := w.mt m hm'
    rw [upd_ne (hm m hm'), upd_ne (hm m hm')]
    exact ⟨a, b, c⟩
/-- a new list of one's own -/
theorem Wd.own (w : Wd F0 H0 F H M) (h : H p = none) (o : HO) : Wd F0 H0 F (upd H p o) ((p, o) :: M) := by
  obtain ⟨f, h0, hm⟩ := w.free h
  refine ⟨w.ff, w.fh.trans (same_new h), w.hh.trans (same_new h), w.sep, fun m hm' => ?_, ?_⟩
  · rcases List.mem_cons.mp hm' with rfl | hm'
    · exact ⟨f, upd_same, h0⟩
    · obtain ⟨a, b, c⟩ := w.mt m hm'
      rw [upd_ne (hm m hm')]
      exact ⟨a, b, c⟩
  · rw [List.map_cons, List.nodup_cons]
    refine ⟨fun z => ?_, w.nd⟩
    obtain ⟨m, hm', e⟩ := List.mem_map.mp z
    exact hm m hm' e
theorem Wd.at_ (w : Wd F0 H0 F H ((p, o) :: M)) : H p = some o := (w.mt _ List.mem_cons_self).2.1
theorem Wd.set (w : Wd F0 H0 F H ((p, o) :: M)) (o' : HO) : Wd F0 H0 F (upd H p o') ((p, o') :: M) := by
  obtain ⟨f, hp, h0⟩ := w.mt _ List.mem_cons_self
  have nd := w.nd
  rw [List.map_cons, List.nodup_cons] at nd
  refine ⟨w.ff, fun b u e => ?_, fun b u e => ?_, w.sep, fun m hm => ?_, w.nd⟩
  · rw [upd_ne (ne_of_none e f)]
    exact w.fh b u e
  · rw [upd_ne (ne_of_none e h0)]
    exact w.hh b u e
  · rcases List.mem_cons.mp hm with rfl | hm
    · exact ⟨f, upd_same, h0⟩
    · obtain ⟨a, b, c⟩ := w.mt m (List.mem_cons_of_mem _ hm)
      have : m.1 ≠ p := fun z => nd.1 (z ▸ List.mem_map_of_mem (f := (·.1)) hm)
      rw [upd_ne this]
      exact ⟨a, b, c⟩
theorem Wd.swap {q : Addr} {u : HO} (w : Wd F0 H0 F H ((p, o) :: (q, u) :: M)) : Wd F0 H0 F H ((q, u) :: (p, o) :: M) := by
  refine ⟨w.ff, w.fh, w.hh, w.sep, fun m hm => w.mt m ?_, ?_⟩
  · simp only [List.mem_cons] at hm ⊢
    rcases hm with h | h | h
    · exact .inr (.inl h)
    · exact .inl h
    · exact .inr (.inr h)
  · have nd := w.nd
    simp only [List.map_cons, List.nodup_cons, List.mem_cons, not_or] at nd ⊢
    exact ⟨⟨fun z => nd.1.1 z.symm, nd.2.1⟩, nd.1.2, nd.2.2⟩
theorem Wd.drop (w : Wd F0 H0 F H ((p, o) :: M)) : Wd F0 H0 F H M := by
  have nd := w.nd
  rw [List.map_cons, List.nodup_cons] at nd
  exact ⟨w.ff, w.fh, w.hh, w.sep, fun m hm => w.mt m (List.mem_cons_of_mem _ hm), nd.2⟩
/-- a list of one's own changes no more -/
theorem Wd.freeze (w : Wd F0 H0 F H ((p, o) :: M)) : Wd F0 H0 (upd F p o) H M ∧ Same F (upd F p o) := by
  obtain ⟨f, hp, h0⟩ := w.mt _ List.mem_cons_self
  have nd := w.nd
  rw [List.map_cons, List.nodup_cons] at nd
  refine ⟨⟨w.ff.trans (same_new f), fun b u e => ?_, w.hh, fun b h1 h2 => ?_, fun m hm => ?_, nd.2⟩, same_new f⟩
  · by_cases hb : b = p
    · subst hb; rw [upd_same] at e; cases e; exact hp
    · rw [upd_ne hb] at e; exact w.fh b u e
  · have : b ≠ p := fun z => h2 (by rw [z]; exact h0)
    rw [upd_ne this]
    exact w.sep b h1 h2
  · obtain ⟨a, b, c⟩ := w.mt m (List.mem_cons_of_mem _ hm)
    have : m.1 ≠ p := fun z => nd.1 (z ▸ List.mem_map_of_mem (f := (·.1)) hm)
    rw [upd_ne this]
    exact ⟨a, b, c⟩
end
/-! ### an exception class meets itself -/
theorem exm_self {K : PySem.W.Frag} {S : Addr} (h1 : PySem.W.subIn K (.ref S) (.type "BaseException") = some true) (h2 : PySem.W.isClsIn K S = true) (h3 : PySem.W.typeIn K (.ref S) = some (.type "type")) (h4 : PySem.W.subIn K (.ref S) (.ref S) = some true) :
    PySem.W.exmOne K (.ref S) (.ref S) = some true := by
  have e1 : (PySem.W.subIn K (.ref S) (.type "BaseException") == some true) = true := by rw [h1] <;> rfl
  have e2 : ((PySem.W.clsIn K S).isSome && PySem.W.typeIn K (.ref S) == some (.type "type")) = true := by
    have h2' : (PySem.W.clsIn K S).isSome = true := h2
    rw [h2', h3] <;> rfl
  show (if (PySem.W.subIn K (.ref S) (.type "BaseException") == some true) = true then (if ((PySem.W.clsIn K S).isSome && PySem.W.typeIn K (.ref S) == some (.type "type")) = true then PySem.W.subIn K (.ref S) (.ref S) else none) else none) = some true
  rw [if_pos e1, if_pos e2]
  exact h4
end PW

set_option Elab.async false
set_option linter.all false
set_option maxRecDepth 100000
set_option maxHeartbeats 4000000
/-! PW1: comprehensions and loops over worlds. -/
namespace PW
open PySem PySem.Spec PyProof.Rows L2

theorem hu65_of {A : Around} {k : Nat} (hr : Room k A) : A.units + 65 < cLine := by have := hr.un; omega
theorem hu64_of {A : Around} {k : Nat} (hr : Room k A) : A.units + 64 < cLine := by have := hr.un; omega
theorem iteYes {c A B : Prop} [Decidable c] (h : c) (x : A) : if decide c = true then A else B := by rw [decide_eq_true h]; exact iteT x
theorem iteNo {c A B : Prop} [Decidable c] (h : ¬ c) (x : B) : if decide c = true then A else B := by rw [decide_eq_false h]; exact iteF x
theorem iteNY {c A B : Prop} [Decidable c] (h : ¬ c) (x : A) : if (!decide c) = true then A else B := by rw [decide_eq_false h]; exact iteT x
theorem iteD {c A B : Prop} [Decidable c] (h1 : c → A) (h2 : ¬ c → B) : if decide c = true then A else B := by
  by_cases h : c
  · exact iteYes h (h1 h)
  · exact iteNo h (h2 h)
theorem iteND {c A B : Prop} [Decidable c] (h1 : ¬ c → A) (h2 : c → B) : if (!decide c) = true then A else B := by
  by_cases h : c
  · exact iteNS h (h2 h)
  · exact iteNY h (h1 h)
theorem iteB {b : Bool} {A B : Prop} (h1 : b = true → A) (h2 : b = false → B) : if b = true then A else B := by
  cases b with
  | true => exact iteT (h1 rfl)
  | false => exact iteF (h2 rfl)
theorem small {n : Nat} (h : n ≤ 1000000) : n ≤ sizeLine := Nat.le_trans h (by decide)
theorem small' {n : Nat} (h : n ≤ 1000000) : n < sizeLine := Nat.lt_of_le_of_lt h (by decide)
theorem take_more {α : Type} {l : List α} {i : Nat} {x : α} (h : l[i]? = some x) : l.take (i + 1) = l.take i ++ [x] := by
  rw [List.take_succ, h]; rfl
section
variable {K : PySem.W.Frag} {F0 H0 F H F' H' F1 H1 F2 H2 : Hp} {M : List (Addr × HO)} {p : Addr} {o o' : HO}
theorem Wd.same (w : Wd F0 H0 F H M) (e : Same H H') : Wd F0 H0 F H' M :=
  ⟨w.ff, w.fh.trans e, w.hh.trans e, w.sep, fun m hm => by
    obtain ⟨a, b, c⟩ := w.mt m hm
    exact ⟨a, e _ _ b, c⟩, w.nd⟩
theorem Step.same (e : Same F H) (e2 : Same H H') : Step F H F H' := ⟨.refl F, e.trans e2, e2, fun _ h _ => h⟩
theorem Wd.l (w : Wd F0 H0 F H M) {a : Addr} {xs : List V} (h : SqL K F a xs) : SqL K H a xs := same_l w.fh h
theorem Wd.t (w : Wd F0 H0 F H M) {a : Addr} {xs : List V} (h : SqT K F a xs) : SqT K H a xs := same_t w.fh h
theorem Wd.d (w : Wd F0 H0 F H M) {v : V} {d : PyData} (h : Dp K F v d) : Dp K H v d := dp_mono w.fh h

/-! ### comprehensions: the new list at D, its items data -/
theorem lc_wdL {a : Addr} {xs : List V} {g : TG} {te : TE} {vs : List Nat} {σ : L2.St} {D : Addr} {Qd : Hp → Prop} (ds : List PyData) (hl : ds.length = xs.length) (w : Wd F0 H0 F1 H1 M) (hD : H1 D = none) (hx : SqL K F1 a xs) (hz : xs.length ≤ 1000000)
    (hs : ∀ (i : Nat) (x : V) (d : PyData) (F H : Hp) (acc : List V) (Q : VK), xs[i]? = some x → ds[i]? = some d → Same F1 F → Wd F0 H0 F H ((D, .lst acc) :: M) → (∀ y F4 H4, Step F H F4 H4 → Dp K F4 y d → Q y H4) → g x (wipe σ vs) H fun σ2 H2 => wipe σ2 vs = wipe σ vs ∧ te σ2 H2 Q)
    (hd : ∀ vs' F' H', Same F1 F' → Wd F0 H0 F' H' ((D, .lst vs') :: M) → DpAll K F' vs' ds → Qd H') :
    ∃ W : Nat → Nat → Hp → Prop, (∃ m, W 0 m (upd H1 D (.lst []))) ∧ ∀ i m H, W i m H →
      ((Itl K a).stop i H ∧ Qd H) ∨ ((Itl K a).go i H ∧ ∃ Nx : Hp → Prop, (∀ H', Nx H' → ∃ m', m' < m ∧ W (i + 1) m' H') ∧ ∀ x H', (Itl K a).yld i H x H' → g x (wipe σ vs) H' fun σ2 H2 => wipe σ2 vs = wipe σ vs ∧ tYes σ2 H2 fun b H3 =>
        if b = true then te σ2 H3 fun y H4 => ∃ acc, H4 D = some (.lst acc) ∧ acc.length < sizeLine ∧ Nx (upd H4 D (.lst (acc ++ [y]))) else Nx H3) := by
  refine lc_list (xs := xs) (fun i H => ∃ acc F, Same F1 F ∧ Wd F0 H0 F H ((D, .lst acc) :: M) ∧ DpAll K F acc (ds.take i)) ⟨[], F1, .refl F1, w.own hD _, .nil⟩ (fun i H _ ⟨acc, F, e, w', _⟩ => w'.l (same_l e hx)) (fun i x H hi ⟨acc, F, e, w', da⟩ => ?_) (fun H ⟨acc, F, e, w', da⟩ => ?_)
  · have hil : i < ds.length := by rw [hl]; exact (List.getElem?_eq_some_iff.mp hi).1
    have hdi := List.getElem?_eq_getElem hil
    refine hs i x _ F H acc _ hi hdi e w' fun y F4 H4 st dy => ?_
    have w4 := w'.step st
    refine ⟨acc, w4.at_, ?_, acc ++ [y], F4, e.trans st.ff, w4.set _, ?_⟩
    · have := dpa_len da
      rw [List.length_take] at this
      exact small' (by omega)
    · rw [take_more hdi]
      exact dpa_snoc (dpa_mono st.ff da) dy
  · rw [← hl, List.take_length] at da
    exact hd acc F H e w' da
theorem lc_wdT {a : Addr} {xs : List V} {g : TG} {te : TE} {vs : List Nat} {σ : L2.St} {D : Addr} {Qd : Hp → Prop} (ds : List PyData) (hl : ds.length = xs.length) (w : Wd F0 H0 F1 H1 M) (hD : H1 D = none) (hx : SqT K F1 a xs) (hz : xs.length ≤ 1000000)
    (hs : ∀ (i : Nat) (x : V) (d : PyData) (F H : Hp) (acc : List V) (Q : VK), xs[i]? = some x → ds[i]? = some d → Same F1 F → Wd F0 H0 F H ((D, .lst acc) :: M) → (∀ y F4 H4, Step F H F4 H4 → Dp K F4 y d → Q y H4) → g x (wipe σ vs) H fun σ2 H2 => wipe σ2 vs = wipe σ vs ∧ te σ2 H2 Q)
    (hd : ∀ vs' F' H', Same F1 F' → Wd F0 H0 F' H' ((D, .lst vs') :: M) → DpAll K F' vs' ds → Qd H') :
    ∃ W : Nat → Nat → Hp → Prop, (∃ m, W 0 m (upd H1 D (.lst []))) ∧ ∀ i m H, W i m H →
      ((Itt K a).stop i H ∧ Qd H) ∨ ((Itt K a).go i H ∧ ∃ Nx : Hp → Prop, (∀ H', Nx H' → ∃ m', m' < m ∧ W (i + 1) m' H') ∧ ∀ x H', (Itt K a).yld i H x H' → g x (wipe σ vs) H' fun σ2 H2 => wipe σ2 vs = wipe σ vs ∧ tYes σ2 H2 fun b H3 =>
        if b = true then te σ2 H3 fun y H4 => ∃ acc, H4 D = some (.lst acc) ∧ acc.length < sizeLine ∧ Nx (upd H4 D (.lst (acc ++ [y]))) else Nx H3) := by
  refine lc_tup (xs := xs) (fun i H => ∃ acc F, Same F1 F ∧ Wd F0 H0 F H ((D, .lst acc) :: M) ∧ DpAll K F acc (ds.take i)) ⟨[], F1, .refl F1, w.own hD _, .nil⟩ (fun i H _ ⟨acc, F, e, w', _⟩ => w'.t (same_t e hx)) (fun i x H hi ⟨acc, F, e, w', da⟩ => ?_) (fun H ⟨acc, F, e, w', da⟩ => ?_)
  · have hil : i < ds.length := by rw [hl]; exact (List.getElem?_eq_some_iff.mp hi).1
    have hdi := List.getElem?_eq_getElem hil
    refine hs i x _ F H acc _ hi hdi e w' fun y F4 H4 st dy => ?_
    have w4 := w'.step st
    refine ⟨acc, w4.at_, ?_, acc ++ [y], F4, e.trans st.ff, w4.set _, ?_⟩
    · have := dpa_len da
      rw [List.length_take] at this
      exact small' (by omega)
    · rw [take_more hdi]
      exact dpa_snoc (dpa_mono st.ff da) dy
  · rw [← hl, List.take_length] at da
    exact hd acc F H e w' da
end
/-- for c in s -/
theorem for_str {z : Str} {g : TG} {tb : TS} {D : Ends} {σ : L2.St} {H : Hp} (Pv : Nat → L2.St → Hp → Prop) (h0 : Pv 0 σ H)
    (hs : ∀ (i : Nat) (c : Nat) σ H, z.cps.toList[i]? = some c → Pv i σ H → g (.str ⟨#[c]⟩) σ H fun σ2 H2 => tb { D with nx := Pv (i + 1), ct := Pv (i + 1), bk := D.nx } σ2 H2) (hd : ∀ σ H, Pv z.cps.toList.length σ H → D.nx σ H) :
    ∃ W : Nat → Nat → L2.St → Hp → Prop, (∃ m, W 0 m σ H) ∧ ∀ i m σ H, W i m σ H →
      ((Its z).stop i H ∧ D.nx σ H) ∨ ((Its z).go i H ∧ ∃ N : L2.St → Hp → Prop, (∀ σ' H', N σ' H' → ∃ m', m' < m ∧ W (i + 1) m' σ' H') ∧ ∀ x H', (Its z).yld i H x H' → g x σ H' fun σ2 H2 => tb { D with nx := N, ct := N, bk := D.nx } σ2 H2) := by
  have hz : z.cps.size = z.cps.toList.length := by simp
  refine ⟨fun i m σ H => m = z.cps.toList.length - i ∧ i ≤ z.cps.toList.length ∧ Pv i σ H, ⟨z.cps.toList.length, by simp, Nat.zero_le _, h0⟩, ?_⟩
  rintro i m σ H ⟨rfl, hi, p⟩
  by_cases hlt : i < z.cps.toList.length
  · refine .inr ⟨by show i < z.cps.size; omega, Pv (i + 1), fun σ' H' p' => ⟨z.cps.toList.length - (i + 1), by omega, rfl, hlt, p'⟩, fun x H' y => ?_⟩
    obtain ⟨e, c, hc, ev⟩ := y
    subst e ev
    exact hs i c σ _ (by rw [← hc]; simp) p
  · have e : i = z.cps.toList.length := by omega
    subst e
    exact .inl ⟨by show z.cps.size ≤ _; omega, hd σ H p⟩
section
variable {K : PySem.W.Frag} {F0 H0 F H F' H' F1 H1 F2 H2 : Hp} {M : List (Addr × HO)} {p : Addr} {o o' : HO}
theorem lc_wdR {lo : Int} {n : Nat} {g : TG} {te : TE} {vs : List Nat} {σ : L2.St} {D : Addr} {Qd : Hp → Prop} (ds : List PyData) (hl : ds.length = n) (w : Wd F0 H0 F1 H1 M) (hD : H1 D = none) (hz : n ≤ 1000000)
    (hs : ∀ (i : Nat) (d : PyData) (F H : Hp) (acc : List V) (Q : VK), i < n → ds[i]? = some d → Same F1 F → Wd F0 H0 F H ((D, .lst acc) :: M) → (∀ y F4 H4, Step F H F4 H4 → Dp K F4 y d → Q y H4) → g (.int (lo + i)) (wipe σ vs) H fun σ2 H2 => wipe σ2 vs = wipe σ vs ∧ te σ2 H2 Q)
    (hd : ∀ vs' F' H', Same F1 F' → Wd F0 H0 F' H' ((D, .lst vs') :: M) → DpAll K F' vs' ds → Qd H') :
    ∃ W : Nat → Nat → Hp → Prop, (∃ m, W 0 m (upd H1 D (.lst []))) ∧ ∀ i m H, W i m H →
      ((Itr lo n).stop i H ∧ Qd H) ∨ ((Itr lo n).go i H ∧ ∃ Nx : Hp → Prop, (∀ H', Nx H' → ∃ m', m' < m ∧ W (i + 1) m' H') ∧ ∀ x H', (Itr lo n).yld i H x H' → g x (wipe σ vs) H' fun σ2 H2 => wipe σ2 vs = wipe σ vs ∧ tYes σ2 H2 fun b H3 =>
        if b = true then te σ2 H3 fun y H4 => ∃ acc, H4 D = some (.lst acc) ∧ acc.length < sizeLine ∧ Nx (upd H4 D (.lst (acc ++ [y]))) else Nx H3) := by
  refine lc_range (fun i H => ∃ acc F, Same F1 F ∧ Wd F0 H0 F H ((D, .lst acc) :: M) ∧ DpAll K F acc (ds.take i)) ⟨[], F1, .refl F1, w.own hD _, .nil⟩ (fun i H hi ⟨acc, F, e, w', da⟩ => ?_) (fun H ⟨acc, F, e, w', da⟩ => ?_)
  · have hil : i < ds.length := by rw [hl]; exact hi
    have hdi := List.getElem?_eq_getElem hil
    refine hs i _ F H acc _ hi hdi e w' fun y F4 H4 st dy => ?_
    have w4 := w'.step st
    refine ⟨acc, w4.at_, ?_, acc ++ [y], F4, e.trans st.ff, w4.set _, ?_⟩
    · have := dpa_len da
      rw [List.length_take] at this
      exact small' (by omega)
    · rw [take_more hdi]
      exact dpa_snoc (dpa_mono st.ff da) dy
  · rw [← hl, List.take_length] at da
    exact hd acc F H e w' da
end
def tJoined (ts : List TE) : TE := fun σ H Q => tJs ts Str.empty σ H fun out H1 => Q (.str out) H1
theorem pe_joinedN {X : Cx} {v1 v2 : Expr} {rest : List Expr} {ts : List TE} {pos : Pos} (h : PJ X (v1 :: v2 :: rest) ts) : PE X (.JoinedStr (v1 :: v2 :: rest) pos) (tJoined ts) := pe_joined h
theorem cutV_tail (x : V) (r : List V) : cutV (x :: r) (some 1) none = r := by
  have e1 : HT.sIx (x :: r).length 0 (some ((1 : Nat) : Int)) = 1 := by rw [HT.sIx_nat]; simp
  have e2 : HT.sIx (x :: r).length (x :: r).length none = r.length + 1 := HT.sIx_none _ _
  show ((x :: r).drop (HT.sIx (x :: r).length 0 (some ((1 : Nat) : Int)))).take (HT.sIx (x :: r).length (x :: r).length none - HT.sIx (x :: r).length 0 (some ((1 : Nat) : Int))) = r
  rw [e1, e2]
  show r.take (r.length + 1 - 1) = r
  rw [Nat.add_sub_cancel, List.take_length]
theorem cutV_front {xs ys : List V} {n : Nat} (h : xs.length = n) : cutV (xs ++ ys) none (some (n : Int)) = xs := by
  have e1 : HT.sIx (xs ++ ys).length 0 none = 0 := HT.sIx_none _ _
  have e2 : HT.sIx (xs ++ ys).length (xs ++ ys).length (some (n : Int)) = n := by rw [HT.sIx_nat, List.length_append]; omega
  unfold cutV
  rw [e1, e2, Nat.sub_zero, List.drop_zero, ← h, List.take_left]
theorem cutV_back {xs ys : List V} {n : Nat} (h : xs.length = n) : cutV (xs ++ ys) (some (n : Int)) none = ys := by
  have e1 : HT.sIx (xs ++ ys).length 0 (some (n : Int)) = n := by rw [HT.sIx_nat, List.length_append]; omega
  have e2 : HT.sIx (xs ++ ys).length (xs ++ ys).length none = (xs ++ ys).length := HT.sIx_none _ _
  unfold cutV
  rw [e1, e2, ← h, List.drop_left, List.length_append, Nat.add_sub_cancel_left, List.take_length]
/-- a chain's two tests, both told -/
theorem andB {t u : TT} {σ : L2.St} {H : Hp} {Q : Bool → Hp → Prop} (b1 b2 : Bool) (h1 : ∀ R : Bool → Hp → Prop, R b1 H → t σ H R) (h2 : b1 = true → ∀ R : Bool → Hp → Prop, R b2 H → u σ H R) (q : Q (b1 && b2) H) : tAnd t u σ H Q := by
  refine h1 _ ?_
  cases b1 with
  | true => exact iteT (h2 rfl _ q)
  | false => exact iteF q
theorem orB {t u : TT} {σ : L2.St} {H : Hp} {Q : Bool → Hp → Prop} (b1 b2 : Bool) (h1 : ∀ R : Bool → Hp → Prop, R b1 H → t σ H R) (h2 : b1 = false → ∀ R : Bool → Hp → Prop, R b2 H → u σ H R) (q : Q (b1 || b2) H) : tOr t u σ H Q := by
  refine h1 _ ?_
  cases b1 with
  | true => exact iteT q
  | false => exact iteF (h2 rfl _ q)
/-! ### the same rules, K told apart (within a comprehension's block) -/
section
variable {X : Cx} {K : PySem.W.Frag}
theorem op_addK (h : X.K = K) : OpR X (binaryOp .Add) (rAddU K) := h ▸ op_addU
theorem op_eqK (h : X.K = K) (hu : X.A.units + 64 < cLine) : OpR X (compareOp .Eq) (rEqU K) := h ▸ op_eqU hu
theorem op_neK (h : X.K = K) (hu : X.A.units + 64 < cLine) : OpR X (compareOp .NotEq) (rNeU K) := h ▸ op_neU hu
theorem op_ltK (h : X.K = K) : OpR X (compareOp .Lt) (rLtU K) := h ▸ op_ltU
theorem op_leK (h : X.K = K) : OpR X (compareOp .LtE) (rLeU K) := h ▸ op_leU
theorem op_gtK (h : X.K = K) : OpR X (compareOp .Gt) (rGtU K) := h ▸ op_gtU
theorem op_geK (h : X.K = K) : OpR X (compareOp .GtE) (rGeU K) := h ▸ op_geU
theorem op_inK (h : X.K = K) (hu : X.A.units + 65 < cLine) : OpR X (compareOp .In) (rInU K) := h ▸ op_inU hu
theorem op_notInK (h : X.K = K) (hu : X.A.units + 65 < cLine) : OpR X (compareOp .NotIn) (rNotInU K) := h ▸ op_notInU hu
theorem sl_K (h : X.K = K) : SlR X (rSlU K) := h ▸ sl_U
theorem ix_K (h : X.K = K) : IxR X (rIx K) := h ▸ ix_seq
def rLn (K : PySem.W.Frag) : List V → Hp → VK → Prop := fun xs H Q => ∃ x n, xs = [x] ∧ LenV K x H n ∧ Q (.int n) H
theorem call_lenK (h : X.K = K) : CallR X (.builtin "len") (rLn K) := h ▸ call_len
def rTupOf (K : PySem.W.Frag) : List V → Hp → VK → Prop := fun xs H Q => ∃ p ys, xs = [.ref p] ∧ ((SqL K H p ys ∧ ∀ l, H l = none → Q (.ref l) (upd H l (.tup ys))) ∨ (SqT K H p ys ∧ Q (.ref p) H))
theorem call_tupleK (h : X.K = K) : CallR X (.type "tuple") (rTupOf K) := h ▸ call_tuple_of
def rListOf (K : PySem.W.Frag) : List V → Hp → VK → Prop := fun xs H Q => ∃ p ys, xs = [.ref p] ∧ (SqL K H p ys ∨ SqT K H p ys) ∧ ∀ l, H l = none → Q (.ref l) (upd H l (.lst ys))
theorem call_listK (h : X.K = K) : CallR X (.type "list") (rListOf K) := h ▸ call_list_of
theorem cr_sumK (h : X.K = K) (hc : X.calm = true) : CallR X (.builtin "sum") (rSum K) := h ▸ cr_sum hc
theorem call_isiK1 (h : X.K = K) : CallR X (.builtin "isinstance") (rIsi K) := h ▸ call_isi
theorem cr_sortedK (h : X.K = K) : CallR X (.builtin "sorted") (rSortedI K) := h ▸ cr_sortedI
theorem pi_listK {tg l : Expr} {tl : TE} (h : X.K = K) (hl : PE X l tl) : PI X tg l (iList K tl) := h ▸ pi_list hl
theorem pi_tupK {tg l : Expr} {tl : TE} (h : X.K = K) (hl : PE X l tl) : PI X tg l (iTup K tl) := h ▸ pi_tup hl
theorem pg_tupK {es : List Expr} {k : Nat} {t : TGs} {n : Nat} {pos : Pos} (h : X.K = K) (hc : X.calm = true) (hg : PGs X es t)
    (hn : (assignEach es X.env).length = n := by rfl) (hst : (assignEach es X.env).findIdx? (·.1) = none := by rfl) : PG X (.Tuple es k pos) (gTup K n t) := h ▸ pg_tup hc hg hn hst
theorem pe_fldK {e : Expr} {ta : TE} {f : Str} {pos : Pos} (h : X.K = K) (he : PE X e ta) (hb : attributeBase e f X.env (eval e X.env) = eval e X.env) : PE X (.Attribute e f pos) (tFld K ta f) := h ▸ pe_fld he hb
end
end PW

set_option Elab.async false
set_option linter.all false
set_option maxRecDepth 100000
set_option maxHeartbeats 4000000
/-! PW2: sorted(xs) of data of any kind. -/
namespace PW
open PySem PySem.Spec PyProof.Rows L2
def sortD (xs : List V) (ds : List PyData) : List (V × PyData) := (xs.zip ds).mergeSort (PySem.W.dataLe false (·.2))
def rSortedD (K : PySem.W.Frag) : List V → Hp → VK → Prop := fun vs H Q => ∃ (a : Addr) (xs : List V) (ds : List PyData), vs = [.ref a] ∧ SqL K H a xs ∧ DpAll K H xs ds ∧ PySem.W.AllAlike ds ∧ PySem.W.Sortable ds ∧ (∀ d ∈ ds, d.depth ≤ 60) ∧
  ∀ p, H p = none → Q (.ref p) (upd H p (.lst ((sortD xs ds).map (·.1))))
theorem each_rel : ∀ {its : List Value} {xs : List V} {ds : List PyData}, Vals xs its → xs.length = ds.length → PySem.W.EachIs (fun v (b : V × PyData) => RelV b.1 v) its (xs.zip ds)
  | _, _, [], .nil, _ => .nil
  | _, _, _ :: _, .nil, h => by simp at h
  | _, _, [], .cons _ _, h => by simp at h
  | _, _, _ :: _, .cons r t, h => .cons r (each_rel t (by simpa using h))
theorem each_reads {h : Heap} : ∀ {its : List Value} {xs : List V} {ds : List PyData} {as : List Addr}, ReadsAll h its ds as → xs.length = ds.length → PySem.W.EachIs (fun v (b : V × PyData) => ∃ as, Reads h v b.2 as) its (xs.zip ds)
  | _, [], [], _, r, _ => by cases r; exact .nil
  | _, [], _ :: _, _, _, h => by simp at h
  | _, _ :: _, [], _, _, h => by simp at h
  | _, _ :: xs, _ :: ds, _, r, h => by
    cases r with
    | cons r1 r2 => exact .cons ⟨_, r1⟩ (each_reads r2 (by simpa using h))
theorem zip_snd : ∀ {xs : List V} {ds : List PyData}, xs.length = ds.length → (xs.zip ds).map (·.2) = ds
  | [], [], _ => rfl
  | [], _ :: _, h => by simp at h
  | _ :: _, [], h => by simp at h
  | _ :: xs, _ :: ds, h => by
    show _ :: (xs.zip ds).map (·.2) = _
    rw [zip_snd (by simpa using h)]
theorem zip_fst : ∀ {xs : List V} {ds : List PyData}, xs.length = ds.length → (xs.zip ds).map (·.1) = xs
  | [], [], _ => rfl
  | [], _ :: _, h => by simp at h
  | _ :: _, [], h => by simp at h
  | _ :: xs, _ :: ds, h => by
    show _ :: (xs.zip ds).map (·.1) = _
    rw [zip_fst (by simpa using h)]
theorem vals_each : ∀ {out : List Value} {l : List (V × PyData)}, PySem.W.EachIs (fun v (b : V × PyData) => RelV b.1 v) out l → Vals (l.map (·.1)) out
  | _, _, .nil => .nil
  | _, _, .cons r t => .cons r (vals_each t)
theorem cr_sortedD {X : Cx} (hu : X.A.units + 64 < cLine) : CallR X (.builtin "sorted") (rSortedD X.K) := by
  intro pins s σ H vs us Q I r h
  obtain ⟨a, xs, ds, rfl, hs, da, hal, hso, hdp, q⟩ := h
  obtain ⟨its, rv, hl, hz⟩ := I.list hs
  rw [Vals.ref1 r]
  have hlen := dpa_len da
  obtain ⟨as, hra⟩ := Dp.readsAll I ds _ its da rv
  have hmap : (xs.zip ds).map (·.2) = ds := zip_snd hlen
  refine PySem.W.sorted_data (bs := xs.zip ds) (enc := (·.2)) (R := fun v (b : V × PyData) => RelV b.1 v) hl.isList (each_rel rv hlen) (each_reads hra hlen) (by rw [hmap]; exact hal) (by rw [hmap]; exact hso) (by rw [List.length_zip]; omega) (fun b hb => ?_) fun out ho eo => ?_
  · have : b.2 ∈ ds := by rw [← hmap]; exact List.mem_map_of_mem (f := (·.2)) hb
    have := hdp _ this
    omega
  · obtain ⟨ep, he'⟩ := PyProof.Rows.sortedAll_at s.heap its out.toArray
    have hlen2 : ((sortD xs ds).map (·.1)).length ≤ sizeLine := by
      unfold sortD
      rw [List.length_map, List.length_mergeSort, List.length_zip]
      omega
    exact ⟨.ref _, upd H (s.heap.objs.size + 1) (.lst ((sortD xs ds).map (·.1))), I.laid (t' := s.toks) (fun _ _ => PyProof.Rows.sortedAll_old) (Nat.le_succ _) ⟨hlen2, out, ep, vals_each eo, he'⟩, rfl, q _ (I.hok.fresh (Nat.le_succ _))⟩
theorem cr_sortedDK {X : Cx} {K : PySem.W.Frag} (h : X.K = K) (hu : X.A.units + 64 < cLine) : CallR X (.builtin "sorted") (rSortedD K) := h ▸ cr_sortedD hu
/-- what comes out: the same pairs in another order, each not above the next -/
theorem sortD_perm (xs : List V) (ds : List PyData) : (sortD xs ds).Perm (xs.zip ds) := List.mergeSort_perm _ _
theorem dpa_pairs {K : PySem.W.Frag} {H : Hp} : ∀ {l : List (V × PyData)}, (∀ b ∈ l, Dp K H b.1 b.2) → DpAll K H (l.map (·.1)) (l.map (·.2))
  | [], _ => .nil
  | b :: l, h => .cons (h b (by simp)) (dpa_pairs fun c hc => h c (List.mem_cons_of_mem _ hc))
theorem pairs_dpa {K : PySem.W.Frag} {H : Hp} : ∀ {xs : List V} {ds : List PyData}, DpAll K H xs ds → ∀ b ∈ xs.zip ds, Dp K H b.1 b.2
  | _, _, .nil, b, hb => by simp at hb
  | _, _, .cons h t, b, hb => by
    rcases List.mem_cons.mp (by simpa using hb) with rfl | hb
    · exact h
    · exact pairs_dpa t b hb
theorem sortD_dpa {K : PySem.W.Frag} {H : Hp} {xs : List V} {ds : List PyData} (da : DpAll K H xs ds) : DpAll K H ((sortD xs ds).map (·.1)) ((sortD xs ds).map (·.2)) :=
  dpa_pairs fun b hb => pairs_dpa da b ((sortD_perm xs ds).mem_iff.mp hb)
/-- o.m(e, ..) within a try: what it raises is wished for at the slots as they stand -/
def tMethZ (C : Addr) (sp : Sp) (E : L2.St → XK) (m : Str) (ta : TE) (t : TA) : TE := fun σ H Q => ta σ H fun x H1 => ∃ a dx fs, x = .ref a ∧ H1 a = some (.ins C dx fs) ∧ fs.lookup m = none ∧ t σ H1 fun vs H2 => sp (x :: vs) H2 Q (E σ)
theorem pe_methZ {X : Cx} {CX : CXT} {k : Nat} {f C : Addr} {fd : FuncData} {ps : List Str} {sp : Sp} {E : L2.St → XK} {m : Str} {pos apos : Pos} {e o : Expr} {es : List Expr} {ta : TE} {t : TA} {pl : Sem Bool} (he : PE X o ta) (c : Cls X.K C) (hm : Meth X.K C m f)
    (F : FnOk X.prog X.w X.K X.mg X.base CX k f fd ps sp) (hr : Room k X.A) (hb : Binds X.K fd ps []) (hx : ∀ σ, PassesAt CX X σ (E σ)) (ha : PA X (e :: es) t)
    (hst : starEach (e :: es) X.env = (false, eval e X.env) :: starEach es X.env := by rfl) (hpl : (backTo pos (starEach es X.env)).any (·.1) = false := by rfl)
    (ht : eval (.Call (.Attribute o m apos) (e :: es) [] pos) X.env = (do
      let ov ← eval o X.env
      standAt apos.atName
      let (f, first) ← holding [ov] (getMethod ov m pl)
      callWith pos f first (backTo pos (starEach (e :: es) X.env)) (backToKw pos (keywordEach [] X.env))) := by rfl) :
    PE X (.Call (.Attribute o m apos) (e :: es) [] pos) (tMethZ C sp E m ta t) := by
  refine ⟨fun pins s σ H Q I h => ?_⟩
  refine PySem.W.methodCall_KW (pl := pl) (thn (he.run pins s σ H _ I h) fun u s1 ⟨x, H1, I1, rx, a, dx, fs, ex, ea, l, q⟩ => ?_) ht
  subst ex
  obtain rfl : u = Value.ref a := rx
  refine getmeth_ok I1 ea c hm l ?_
  refine PySem.W.callWith_K (first := [.ref a]) (h₀ := X.base) I.ok.mod.kin hm.kp (thn (ha.run pos pins s1 σ H1 _ I1 q) fun us s2 ⟨vs, H2, I2, r, q2⟩ => ⟨I2.kIn, ?_⟩) hst hpl
  exact run_fnS (us := .ref a :: us) (vs := .ref a :: vs) F hr hb (hx σ) I2 (.cons rfl r) q2
/-! ### a made object, turning the own part -/
theorem Wd.perm {F0 H0 F H : Hp} {M M' : List (Addr × HO)} (w : Wd F0 H0 F H M) (h : M.Perm M') : Wd F0 H0 F H M' :=
  ⟨w.ff, w.fh, w.hh, w.sep, fun m hm => w.mt m (h.mem_iff.mpr hm), (h.map _).nodup_iff.mp w.nd⟩
theorem Wd.roll {F0 H0 F H : Hp} {x : Addr × HO} {M : List (Addr × HO)} (w : Wd F0 H0 F H (x :: M)) : Wd F0 H0 F H (M ++ [x]) := w.perm (List.perm_append_comm (l₁ := [x]) (l₂ := M))
theorem Wd.made {F0 H0 F H H' : Hp} {M : List (Addr × HO)} {p l : Addr} {o ol op : HO} (w : Wd F0 H0 F H ((p, o) :: M)) (keep : ∀ b u, H b = some u → b ≠ p → H' b = some u) (hl : H l = none) (hlp : l ≠ p) (e1 : H' l = some ol) (e2 : H' p = some op) :
    Wd F0 H0 F H' ((l, ol) :: (p, op) :: M) := by
  obtain ⟨f, hp, h0⟩ := w.mt _ List.mem_cons_self
  have nd := w.nd
  obtain ⟨fl, hl0, hm⟩ := w.free hl
  refine ⟨w.ff, fun b u e => keep b u (w.fh b u e) (ne_of_none e f), fun b u e => keep b u (w.hh b u e) (ne_of_none e h0), w.sep, fun m hm' => ?_, ?_⟩
  · rcases List.mem_cons.mp hm' with rfl | hm'
    · exact ⟨fl, e1, hl0⟩
    · rcases List.mem_cons.mp hm' with rfl | hm'
      · exact ⟨f, e2, h0⟩
      · obtain ⟨a, b, c⟩ := w.mt m (List.mem_cons_of_mem _ hm')
        rw [List.map_cons, List.nodup_cons] at nd
        exact ⟨a, keep _ _ b (fun z => nd.1 (z ▸ List.mem_map_of_mem (f := (·.1)) hm')), c⟩
  · rw [List.map_cons, List.map_cons] at *
    rw [List.nodup_cons]
    refine ⟨fun z => ?_, by simpa using nd⟩
    rcases List.mem_cons.mp z with z | z
    · exact hlp z
    · obtain ⟨m, hm', e⟩ := List.mem_map.mp z
      exact hm m (List.mem_cons_of_mem _ hm') e
end PW

set_option Elab.async false
set_option linter.all false
set_option maxRecDepth 100000
set_option maxHeartbeats 4000000
/-! PW3: dicts as maps. -/
namespace PW
open PySem PySem.Spec PyProof.Rows L2
theorem valV_drop (k j : Key) : ∀ kvs : List (Key × V), valV (dropK kvs k) j = if j = k then none else valV kvs j
  | [] => by show valV [] j = _; rw [valV_nil]; split <;> rfl
  | p :: r => by
    have ih := valV_drop k j r
    by_cases h : p.1 = k
    · rw [dropK_pos h, ih]
      by_cases e : j = k
      · rw [if_pos e, if_pos e]
      · rw [if_neg e, if_neg e, valV_neg (fun z => e (z.symm.trans h))]
    · rw [dropK_neg h]
      by_cases e : p.1 = j
      · rw [valV_pos e, if_neg (fun z => h (e.trans z)), valV_pos e]
      · rw [valV_neg e, valV_neg e, ih]
theorem mem_keys (k : Key) : ∀ kvs : List (Key × V), k ∈ kvs.map (·.1) ↔ (valV kvs k).isSome = true
  | [] => by simp [valV_nil]
  | p :: r => by
    rw [List.map_cons, List.mem_cons]
    by_cases e : p.1 = k
    · rw [valV_pos e]; exact ⟨fun _ => rfl, fun _ => .inl e.symm⟩
    · rw [valV_neg e, ← mem_keys k r]
      exact ⟨fun h => h.resolve_left fun z => e z.symm, .inr⟩
theorem nodup_put {kvs : List (Key × V)} {k : Key} {v : V} (h : (kvs.map (·.1)).Nodup) : ((putK kvs k v).map (·.1)).Nodup := by
  cases q : valV kvs k with
  | none => exact nd_putK v h q
  | some x =>
    unfold putK
    rw [valV_any, q]
    rw [if_pos (show (some x).isSome = true from rfl), List.map_map]
    have e : ((fun kv : Key × V => kv.1) ∘ fun kv => if kv.1 = k then (kv.1, v) else kv) = fun kv => kv.1 := by
      funext kv
      show (if kv.1 = k then (kv.1, v) else kv).1 = kv.1
      split <;> rfl
    rw [e]
    exact h
theorem nodup_drop {kvs : List (Key × V)} {k : Key} (h : (kvs.map (·.1)).Nodup) : ((dropK kvs k).map (·.1)).Nodup := h.sublist (List.filter_sublist.map _)
/-- a dict as a map: its keys by e, its values by R -/
structure DRep {α β : Type} (e : α → Key) (R : V → β → Prop) (kvs : List (Key × V)) (g : α → Option β) : Prop where
  nd : (kvs.map (·.1)).Nodup
  here : ∀ x b, g x = some b → ∃ v, valV kvs (e x) = some v ∧ R v b
  gone : ∀ x, g x = none → valV kvs (e x) = none
  key : ∀ k ∈ kvs.map (·.1), ∃ x, k = e x
section
variable {α β : Type} [DecidableEq α] {e : α → Key} {R R' : V → β → Prop} {kvs kvs' : List (Key × V)} {g : α → Option β}
theorem DRep.nil : DRep e R [] (fun _ => none) := ⟨List.nodup_nil, (fun x b h => nomatch h), fun x _ => rfl, fun k h => nomatch h⟩
theorem DRep.mono (d : DRep e R kvs g) (h : ∀ v b, R v b → R' v b) : DRep e R' kvs g := ⟨d.nd, fun x b hx => by obtain ⟨v, h1, h2⟩ := d.here x b hx; exact ⟨v, h1, h _ _ h2⟩, d.gone, d.key⟩
theorem DRep.put (d : DRep e R kvs g) (inj : ∀ x y, e x = e y → x = y) {v : V} {x : α} {b : β} (r : R v b) : DRep e R (putK kvs (e x) v) (fun y => if y = x then some b else g y) := by
  refine ⟨nodup_put d.nd, fun y c h => ?_, fun y h => ?_, fun k hk => ?_⟩
  · rw [valV_put]
    by_cases q : y = x
    · rw [if_pos q] at h; cases h
      rw [if_pos (by rw [q])]; exact ⟨v, rfl, r⟩
    · rw [if_neg q] at h
      rw [if_neg (fun z => q (inj _ _ z))]; exact d.here y c h
  · rw [valV_put]
    by_cases q : y = x
    · rw [if_pos q] at h; cases h
    · rw [if_neg q] at h
      rw [if_neg (fun z => q (inj _ _ z))]; exact d.gone y h
  · rw [mem_keys, valV_put] at hk
    by_cases q : k = e x
    · exact ⟨x, q⟩
    · rw [if_neg q, ← mem_keys] at hk
      exact d.key k hk
theorem DRep.drop (d : DRep e R kvs g) (inj : ∀ x y, e x = e y → x = y) (x : α) : DRep e R (dropK kvs (e x)) (fun y => if y = x then none else g y) := by
  refine ⟨nodup_drop d.nd, fun y c h => ?_, fun y h => ?_, fun k hk => ?_⟩
  · by_cases q : y = x
    · rw [if_pos q] at h; cases h
    · rw [if_neg q] at h
      rw [valV_drop, if_neg (fun z => q (inj _ _ z))]; exact d.here y c h
  · rw [valV_drop]
    by_cases q : y = x
    · rw [if_pos (by rw [q])]
    · rw [if_neg q] at h
      rw [if_neg (fun z => q (inj _ _ z))]; exact d.gone y h
  · rw [mem_keys, valV_drop] at hk
    by_cases q : k = e x
    · exact ⟨x, q⟩
    · rw [if_neg q, ← mem_keys] at hk
      exact d.key k hk
theorem DRep.mem (d : DRep e R kvs g) (x : α) : e x ∈ kvs.map (·.1) ↔ (g x).isSome = true := by
  rw [mem_keys]
  cases q : g x with
  | none => rw [d.gone x q]; exact ⟨(fun h => nomatch h), (fun h => nomatch h)⟩
  | some b => obtain ⟨v, h, _⟩ := d.here x b q; rw [h]; exact ⟨fun _ => rfl, fun _ => rfl⟩
theorem DRep.perm (d : DRep e R kvs g) (d' : DRep e R' kvs' g) : (kvs.map (·.1)).Perm (kvs'.map (·.1)) := by
  refine (List.perm_ext_iff_of_nodup d.nd d'.nd).mpr fun k => ⟨fun h => ?_, fun h => ?_⟩
  · obtain ⟨x, rfl⟩ := d.key k h
    exact (d'.mem x).mpr ((d.mem x).mp h)
  · obtain ⟨x, rfl⟩ := d'.key k h
    exact (d.mem x).mpr ((d'.mem x).mp h)
theorem DRep.len (d : DRep e R kvs g) (d' : DRep e R' kvs' g) : kvs.length = kvs'.length := by
  have := (d.perm d').length_eq
  rwa [List.length_map, List.length_map] at this
theorem DRep.keys (d : DRep e R kvs g) (inj : ∀ x y, e x = e y → x = y) : ∃ ks : List α, kvs.map (·.1) = ks.map e ∧ ks.Nodup ∧ ∀ x, x ∈ ks ↔ (g x).isSome = true := by
  have key : ∀ l : List Key, (∀ k ∈ l, ∃ x, k = e x) → ∃ ks : List α, l = ks.map e := by
    intro l
    induction l with
    | nil => intro _; exact ⟨[], rfl⟩
    | cons k l ih =>
      intro h
      obtain ⟨x, rfl⟩ := h k (by simp)
      obtain ⟨ks, rfl⟩ := ih fun j hj => h j (by simp [hj])
      exact ⟨x :: ks, rfl⟩
  obtain ⟨ks, hks⟩ := key _ d.key
  refine ⟨ks, hks, ?_, fun x => ?_⟩
  · have := d.nd
    rw [hks] at this
    exact (List.pairwise_map.mp this).imp fun h z => h (by rw [z])
  · rw [← d.mem x, hks]
    exact ⟨fun h => List.mem_map_of_mem h, fun h => by obtain ⟨y, hy, q⟩ := List.mem_map.mp h; rwa [← inj _ _ q]⟩
theorem DRep.congr (d : DRep e R kvs g) {g' : α → Option β} (h : ∀ x, g x = g' x) : DRep e R kvs g' := by
  have : g = g' := funext h
  rwa [← this]
end
/-! ### an object of one's own in the middle -/
theorem hu1_of {u : Nat} (h : u + 64 < cLine) : u + 1 < cLine := by omega
theorem Wd.setM {F0 H0 F H : Hp} {L M : List (Addr × HO)} {p : Addr} {o : HO} (w : Wd F0 H0 F H (L ++ (p, o) :: M)) (o' : HO) : Wd F0 H0 F (upd H p o') (L ++ (p, o') :: M) :=
  ((w.perm (List.perm_middle (l₁ := L) (l₂ := M) (a := (p, o)))).set o').perm (List.perm_middle (l₁ := L) (l₂ := M) (a := (p, o'))).symm
theorem Wd.atM {F0 H0 F H : Hp} {L M : List (Addr × HO)} {p : Addr} {o : HO} (w : Wd F0 H0 F H (L ++ (p, o) :: M)) : H p = some o := (w.mt _ (List.mem_append.mpr (.inr (.head _)))).2.1
theorem pass_E0 {X : Cx} : Passes (L2.CX X.prog X.w) X E0 := passes_call (W := fun _ _ _ _ => False) takes0 fun _ _ _ _ h => h
end PW

set_option Elab.async false
set_option linter.all false
set_option maxRecDepth 100000
set_option maxHeartbeats 4000000
/-! PW4: a caught exception that is asked for its class, here or in a def that it is handed to. -/
namespace PW
open PySem PySem.Spec PyProof.Rows L2
/-- the caught object is an instance of the own class at D, without a dict -/
def IsE (D : Addr) (p : Addr × Obj) : Prop := Zc (.ref D) none p.2 ∧ ∃ vs, p.2.data = .fields vs
theorem inst_pin {X : Cx} {pins : List (Addr × Obj)} {σ : L2.St} {H : Hp} {s : Shared} {p : Addr × Obj} {D : Addr} (I : Inv X pins σ H s) (hp : p ∈ X.pn) (h : IsE D p) : PySem.W.InstAt s.heap p.1 p.2 D none := by
  obtain ⟨hget, _⟩ := I.pin p (List.mem_append.mpr (.inl hp))
  obtain ⟨pa, oe⟩ := p
  obtain ⟨⟨z1, z2⟩, vs, z3⟩ := h
  obtain ⟨oc, od, oda, osl⟩ := oe
  dsimp only at z1 z2 z3 hget ⊢
  subst z1 z2 z3
  exact ⟨hget, rfl, rfl, trivial⟩
/-- isinstance(e, c) of the caught e -/
def rIsC (K : PySem.W.Frag) (a : Addr) (cls : Value) (d : Option Addr) : List V → Hp → VK → Prop := fun xs H Q =>
  ∃ (D : Addr) (c : V) (u : Value) (b : Bool), cls = .ref D ∧ d = none ∧ ExcC K D ∧ xs = [.ref a, c] ∧ ClsV c u ∧ PySem.W.kitOne K (.ref D) u = some b ∧ Q (.bl b) H
theorem call_isC {X : Cx} {a : Addr} {oe : Obj} {cls : Value} {d : Option Addr} (hp : (a, oe) ∈ X.pn) (hz : Zc cls d oe) (hf : ∃ vs, oe.data = .fields vs) : CallR X (.builtin "isinstance") (rIsC X.K a cls d) := by
  intro pins s σ H xs us Q I r h
  obtain ⟨D, c, u, b, rfl, rfl, C, rfl, k, e, q⟩ := h
  have hE : IsE D (a, oe) := ⟨hz, hf⟩
  obtain ⟨u1, u2, rfl, r1, r2⟩ := vals2 r
  cases (show u1 = Value.ref a from r1)
  have e2 := k.eq r2
  subst e2
  exact PySem.W.kia_one (PySem.W.handS_kitx_exc C.hg C.hk C.hs C.hd C.ha C.hn C.ht C.hm) I.kIn (inst_pin I hp hE) e (fun z => nomatch z) fun tk => ⟨.bl b, H, I.kept (t' := tk) fun _ _ z => z, rfl, q⟩
/-- isinstance(e, (c1, c2, ..)) of the caught e -/
def rIsCT (K : PySem.W.Frag) (a : Addr) (cls : Value) (d : Option Addr) : List V → Hp → VK → Prop := fun xs H Q =>
  ∃ (D tp : Addr) (cs : List V) (us : List Value) (b : Bool), cls = .ref D ∧ d = none ∧ ExcC K D ∧ xs = [.ref a, .ref tp] ∧ H tp = some (.tup cs) ∧ Paired ClsV cs us ∧ PySem.W.kitAny K (.ref D) us = some b ∧ Q (.bl b) H
theorem call_isCT {X : Cx} {a : Addr} {oe : Obj} {cls : Value} {d : Option Addr} (hp : (a, oe) ∈ X.pn) (hz : Zc cls d oe) (hf : ∃ vs, oe.data = .fields vs) : CallR X (.builtin "isinstance") (rIsCT X.K a cls d) := by
  intro pins s σ H xs us Q I r h
  obtain ⟨D, tp, cs, ws, b, rfl, rfl, C, rfl, hT, k, e, q⟩ := h
  have hE : IsE D (a, oe) := ⟨hz, hf⟩
  obtain ⟨u1, u2, rfl, r1, r2⟩ := vals2 r
  cases (show u1 = Value.ref a from r1)
  cases (show u2 = Value.ref tp from r2)
  obtain ⟨_, its, rv, o, h1, h2, n, h3⟩ := (show ObjOk X.prog X.w H s.heap tp (.tup cs) from I.hok tp _ hT)
  have e3 := ClsV.all k rv
  subst e3
  obtain ⟨oc, od, dt, sl⟩ := o
  simp only at h2 h3
  subst h2 h3
  exact PySem.W.kia_tup (PySem.W.handS_kitx_exc C.hg C.hk C.hs C.hd C.ha C.hn C.ht C.hm) I.kIn (inst_pin I hp hE) h1 e (fun z => nomatch z) fun tk => ⟨.bl b, H, I.kept (t' := tk) fun _ _ z => z, rfl, q⟩
theorem exm_sub {K : PySem.W.Frag} {S C : Addr} (h1 : PySem.W.subIn K (.ref C) (.type "BaseException") = some true) (h2 : PySem.W.isClsIn K C = true) (h3 : PySem.W.typeIn K (.ref C) = some (.type "type")) (h4 : PySem.W.subIn K (.ref S) (.ref C) = some true) :
    PySem.W.exmOne K (.ref S) (.ref C) = some true := by
  have e1 : (PySem.W.subIn K (.ref C) (.type "BaseException") == some true) = true := by rw [h1] <;> rfl
  have e2 : ((PySem.W.clsIn K C).isSome && PySem.W.typeIn K (.ref C) == some (.type "type")) = true := by
    have h2' : (PySem.W.clsIn K C).isSome = true := h2
    rw [h2', h3] <;> rfl
  show (if (PySem.W.subIn K (.ref C) (.type "BaseException") == some true) = true then (if ((PySem.W.clsIn K C).isSome && PySem.W.typeIn K (.ref C) == some (.type "type")) = true then PySem.W.subIn K (.ref S) (.ref C) else none) else none) = some true
  rw [if_pos e1, if_pos e2]
  exact h4
theorem call_isCK {X : Cx} {K : PySem.W.Frag} {a : Addr} {oe : Obj} {cls : Value} {d : Option Addr} (e : X.K = K) (hp : (a, oe) ∈ X.pn) (hz : Zc cls d oe) (hf : ∃ vs, oe.data = .fields vs) : CallR X (.builtin "isinstance") (rIsC K a cls d) := e ▸ call_isC hp hz hf
theorem call_isCTK {X : Cx} {K : PySem.W.Frag} {a : Addr} {oe : Obj} {cls : Value} {d : Option Addr} (e : X.K = K) (hp : (a, oe) ∈ X.pn) (hz : Zc cls d oe) (hf : ∃ vs, oe.data = .fields vs) : CallR X (.builtin "isinstance") (rIsCT K a cls d) := e ▸ call_isCT hp hz hf
theorem room_suite {X : Cx} {k : Nat} {a : Addr} {pn : List (Addr × Obj)} (hr : Room k X.A) : L2H.RoomH k (X.suite a pn).A := ⟨hr.dp, hr.un⟩
/-- a def that is called while p's exception is handled, with p in sight; it lets no exception out -/
structure FnE (P : Program) (w : World) (K : PySem.W.Frag) (mg : Str → Option Value) (base : Heap) (k : Nat) (f : Addr) (fd : FuncData) (ps : List Str) (sp : Addr → Value → Option Addr → Sp) : Prop where
  len : ∀ a cls d vs H Q E, sp a cls d vs H Q E → vs.length = ps.length
  run : ∀ (A : Around) (outer : List Env) (s : Shared) (H : Hp) (args : Args) (us : List Value) (vs : List V) (Q : VK) (p : Addr × Obj) (cls : Value) (d : Option Addr), Zc cls d p.2 → (∃ vs, p.2.data = .fields vs) → L2H.RoomH k A → L2H.PinOk outer H s p → Env0 P w K mg base A outer s H → BindsTo s fd args (ps.zip us) → Vals vs us → sp p.1 cls d vs H Q E0 →
    codeAny (model P w) A (.call (.ref f) args) (CR CX0 outer P w H s Q E0) s
section
variable {P : Program} {w : World} {K : PySem.W.Frag} {mg : Str → Option Value} {base : Heap}
theorem Fun.okE {x qual : Str} {st : Stmt} {f : Addr} {fd : FuncData} {N ps : List Str} {k : Nat} {sp : Addr → Value → Option Addr → Sp} (F : Fun K x qual st f fd) (S : FnScope N ps (defScope st)) (len : ∀ a cls d vs H Q E, sp a cls d vs H Q E → vs.length = ps.length)
    (hbody : ∀ (cdv : Value) (A : Around) (outer : List Env) (s : Shared) (H : Hp) (vs : List V) (Q : VK) (p : Addr × Obj) (cls : Value) (d : Option Addr), Zc cls d p.2 → (∃ vs, p.2.data = .fields vs) → L2H.RoomH k (A.deeper (envOfC qual (defScope st) s.heap.objs.size f cdv)) → sp p.1 cls d vs H Q E0 →
      ∃ t, PSs (L2H.cxH CX0 P w K mg base N qual (defScope st) f cdv A outer s H E0 p) (defBody st) t ∧ t { nx := fun _ H' => Q .non H', rt := Q } (start N vs) H) : FnE P w K mg base (k + 1) f fd ps sp := by
  obtain ⟨oc, od, kV, doc, pm, an, cdv, ct, osl, rfl, lk, hcd⟩ := F.ex
  refine ⟨len, fun A outer s H args us vs Q p cls d hz hf room pin e0 bnd rv hs => ?_⟩
  have hlen := len _ _ _ _ _ _ _ hs
  have hKs : K.In s.heap := e0.mod.kin.keeps fun b o e => (e0.bs b o e).1
  have hlim : s.heap.NoLimit := e0.mod.nolimit.keeps fun b o e => (e0.bs b o e).1
  refine codeAny_call_function room.depth (hKs _ _ lk) rfl S.co S.gen rfl (PySem.W.codeRec_of hKs hcd) (bnd _ _ _ _ ?_)
  refine wpAny_newFunctionEnv_cells S.kind (fun y hy => ?_) fun env he s1 x => ?_
  · rcases S.par y.1 (List.of_mem_zip hy).1 with q | q
    · exact .inl q
    · exact .inr ⟨q, PySem.W.cellsFrom_some _ _ _ (.inl q)⟩
  subst he
  refine ⟨hlim.keeps x.toInCall.keep, codeAny_func ?_⟩
  obtain ⟨t, ht, hq⟩ := hbody cdv A outer s H vs Q p cls d hz hf (room.deeper _) hs
  have J := L2H.inv_startH (CX := CX0) (E := E0) S pin e0 hlen rv x
  refine wpAny_mono (ht.run [] s1 (L2.start N vs) H _ J hq) (fun fl s' hfl => ?_) fun e s' he => he
  cases fl with
  | ret u =>
    obtain ⟨v, σ', H', I', rv', q⟩ := hfl
    exact ⟨v, H', I'.os, I'.bare, I'.base, I'.hok, rv', q⟩
  | next =>
    obtain ⟨σ', H', I', q⟩ := hfl
    exact ⟨.non, H', I'.os, I'.bare, I'.base, I'.hok, rfl, q⟩
  | brk =>
    obtain ⟨_, _, _, q⟩ := hfl
    exact q.elim
  | cont =>
    obtain ⟨_, _, _, q⟩ := hfl
    exact q.elim
end
/-- f(e), e the caught exception -/
def tCallE (sp : Addr → Value → Option Addr → Sp) (a : Addr) (cls : Value) (d : Option Addr) (t : TA) : TE := fun σ H Q => t σ H fun vs H1 => sp a cls d vs H1 Q E0
section
variable {X : Cx} {k : Nat} {f : Addr} {fd : FuncData} {ps : List Str} {sp : Addr → Value → Option Addr → Sp} {x : Str} {q pos : Pos} {e : Expr} {es : List Expr} {t : TA} {a : Addr} {oe : Obj} {cls : Value} {d : Option Addr}
theorem pe_callE (F : FnE X.prog X.w X.K X.mg X.base k f fd ps sp) (room : L2H.RoomH k X.A) (hp : (a, oe) ∈ X.pn) (hz : Zc cls d oe) (hf : ∃ vs, oe.data = .fields vs) (hg : Gl X x) (hm : X.mg x = some (.ref f)) (hk : PySem.W.keepIn X.K (.ref f) = true) (hb : Binds X.K fd ps []) (ha : PA X (e :: es) t)
    (hdb : (x == ("__debug__" : Str)) = false := by decide) (he : starEach (e :: es) X.env = (false, eval e X.env) :: starEach es X.env := by rfl) (hpl : (backTo pos (starEach es X.env)).any (·.1) = false := by rfl) :
    PE X (.Call (.Name x q) (e :: es) [] pos) (tCallE sp a cls d t) := by
  refine ⟨fun pins s σ H Q I h => ?_⟩
  refine wpAny_Call_Name_kw (ld_glob I hg hm ?_ hdb)
  refine PySem.W.callWith_K (h₀ := X.base) I.ok.mod.kin hk (thn (ha.run pos pins s σ H _ I h) fun us s1 hus => ?_) he hpl
  obtain ⟨vs, H1, I1, rv, hs⟩ := hus
  refine ⟨I1.kIn, ?_⟩
  have hl : us.length = ps.length := rv.length.symm.trans (F.len _ _ _ _ _ _ _ hs)
  have b := hb s1 us I1.kIn (by rw [List.append_nil]; exact hl)
  rw [List.append_nil] at b
  obtain ⟨a1, a2, a3, a4, a5⟩ := I1.pin (a, oe) (List.mem_append_left _ hp)
  have pin : L2H.PinOk X.stack H1 s1 (a, oe) := ⟨a1, a2, fun hm => (List.mem_cons.mp (I1.stkSub a hm)).elim a3 a4, a5⟩
  refine wpAny_call (codeAny_mono (F.run X.A X.stack s1 H1 ⟨us, []⟩ us vs Q (a, oe) cls d hz hf room pin I1.env0 b rv hs) fun r s' hr => ?_)
  cases r with
  | error _ => exact hr.elim
  | ok fl =>
    cases fl with
    | ret _ => exact I1.after hr
    | next => exact hr.elim
    | brk => exact hr.elim
    | cont => exact hr.elim
/-- C(e, ..) within a try: what __init__ raises is wished for at the slots -/
def tMakeZ (C : Addr) (sp : Sp) (E : L2.St → XK) (t : TA) : TE := fun σ H Q => t σ H fun vs H1 => ∀ x dx, H1 x = none → H1 dx = none → dx ≠ x →
  sp (.ref x :: vs) (upd (upd H1 dx (.own x)) x (.ins C dx [])) (fun v H2 => v = .non ∧ Q (.ref x) H2) (E σ)
theorem pe_makeZ {C : Addr} {CX : CXT} {E : L2.St → XK} {sp : Sp} (M : Mk X.K C f) (F : FnOk X.prog X.w X.K X.mg X.base CX k f fd ps sp) (room : Room (k + 1) X.A) (hg : Gl X x) (hm : X.mg x = some (.ref C)) (hb : Binds X.K fd ps []) (hx : ∀ σ, PassesAt CX X σ (E σ)) (ha : PA X (e :: es) t)
    (hdb : (x == ("__debug__" : Str)) = false := by decide) (he : starEach (e :: es) X.env = (false, eval e X.env) :: starEach es X.env := by rfl) (hpl : (backTo pos (starEach es X.env)).any (·.1) = false := by rfl) :
    PE X (.Call (.Name x q) (e :: es) [] pos) (tMakeZ C sp E t) := by
  refine ⟨fun pins s σ H Q I h => ?_⟩
  refine wpAny_Call_Name_kw (ld_glob I hg hm ?_ hdb)
  refine PySem.W.callWith_K (h₀ := X.base) I.ok.mod.kin M.kp (thn (ha.run pos pins s σ H _ I h) fun us s1 hus => ?_) he hpl
  obtain ⟨vs, H1, I1, rv, hs⟩ := hus
  refine ⟨I1.kIn, ?_⟩
  have goal := hs (s1.heap.objs.size + 1) s1.heap.objs.size (I1.hok.fresh (Nat.le_succ _)) (I1.hok.fresh (Nat.le_refl _)) (Nat.ne_of_lt (Nat.lt_succ_self _))
  have J := Inv.made (C := C) I1
  have rv2 : Vals (V.ref (s1.heap.objs.size + 1) :: vs) (Value.ref (s1.heap.objs.size + 1) :: us) := .cons rfl rv
  have hlen : (Value.ref (s1.heap.objs.size + 1) :: us).length = ps.length := rv2.length.symm.trans (F.len _ _ _ _ goal)
  have b := hb _ (Value.ref (s1.heap.objs.size + 1) :: us) J.kIn (by rw [List.append_nil]; exact hlen)
  rw [List.append_nil] at b
  refine wpAny_call (make_map (f := f) I1.kIn M.makes M.init (beq_iff_eq.mp M.fn) (codeAny_mono (F.run _ X.stack _ _ ⟨Value.ref (s1.heap.objs.size + 1) :: us, []⟩ _ _ _ (E σ) (room.make C us []) (J.env0.make C us []) b rv2 goal) fun r s' hr => ?_))
  cases r with
  | error er => exact hx σ pins _ _ er s' J hr
  | ok fl =>
    cases fl with
    | ret u =>
      obtain ⟨v, H', I3, rv3, ev, q3⟩ := J.after hr
      subst ev
      exact ⟨rv3, ⟨V.ref (s1.heap.objs.size + 1), H', I3, rfl, q3⟩⟩
    | next => exact hr.elim
    | brk => exact hr.elim
    | cont => exact hr.elim
end
/-- for k in d, d locked -/
theorem for_keys {d : Addr} {o : Obj} {kvs : List (Key × V)} {g : TG} {tb : TS} {D : Ends} {σ : L2.St} {H : Hp} (Pv : Nat → L2.St → Hp → Prop) (h0 : Pv 0 σ H) (hl : ∀ i σ H, Pv i σ H → H d = some (.frz o (.dK kvs)))
    (hs : ∀ (i : Nat) (k : Key) (v : V) σ H, kvs[i]? = some (k, v) → Pv i σ H → g (kV k) σ H fun σ2 H2 => tb { D with nx := Pv (i + 1), ct := Pv (i + 1), bk := D.nx } σ2 H2) (hd : ∀ σ H, Pv kvs.length σ H → D.nx σ H) :
    ∃ W : Nat → Nat → L2.St → Hp → Prop, (∃ m, W 0 m σ H) ∧ ∀ i m σ H, W i m σ H →
      ((Itk d o kvs).stop i H ∧ D.nx σ H) ∨ ((Itk d o kvs).go i H ∧ ∃ N : L2.St → Hp → Prop, (∀ σ' H', N σ' H' → ∃ m', m' < m ∧ W (i + 1) m' σ' H') ∧ ∀ x H', (Itk d o kvs).yld i H x H' → g x σ H' fun σ2 H2 => tb { D with nx := N, ct := N, bk := D.nx } σ2 H2) := by
  refine ⟨fun i m σ H => m = kvs.length - i ∧ i ≤ kvs.length ∧ Pv i σ H, ⟨kvs.length, by simp, Nat.zero_le _, h0⟩, ?_⟩
  rintro i m σ H ⟨rfl, hi, p⟩
  by_cases hlt : i < kvs.length
  · refine .inr ⟨⟨hl _ _ _ p, hlt⟩, Pv (i + 1), fun σ' H' p' => ⟨kvs.length - (i + 1), by omega, rfl, hlt, p'⟩, fun x H' y => ?_⟩
    obtain ⟨e, k, v, hk, ev⟩ := y
    subst e ev
    exact hs i k v σ _ hk p
  · have e : i = kvs.length := by omega
    subst e
    exact .inl ⟨⟨hl _ _ _ p, Nat.le_refl _⟩, hd σ H p⟩
theorem dget_frz {H : Hp} {a : Addr} {od : Obj} {kvs : List (Key × V)} {k : Key} {v : V} (h : H a = some (.frz od (.dK kvs))) (hv : valV kvs k = some v) : DGet H a (kV k) (some v) := .inl ⟨kvs, k, .inr ⟨od, h⟩, rfl, hv.symm⟩
/-! ### the own part, in another order, or a part of it -/
open Classical in
noncomputable def cn {α : Type} (l : List α) (a : α) : Nat := l.count a
open Classical in
noncomputable def c1 {α : Type} (x a : α) : Nat := if x = a then 1 else 0
theorem cn_nil {α : Type} (a : α) : cn ([] : List α) a = 0 := rfl
theorem cn_cons {α : Type} (x : α) (l : List α) (a : α) : cn (x :: l) a = cn l a + c1 x a := by
  classical
  unfold cn c1
  rw [List.count_cons]
  congr 1
  by_cases h : x = a
  · simp [h]
  · simp [h]
theorem cn_app {α : Type} (l m : List α) (a : α) : cn (l ++ m) a = cn l a + cn m a := by classical exact List.count_append
open Classical in
theorem perm_cn {α : Type} {l m : List α} (h : ∀ a, cn l a = cn m a) : l.Perm m := List.perm_iff_count.mpr h
theorem Wd.re {F0 H0 F H : Hp} {M M' : List (Addr × HO)} (w : Wd F0 H0 F H M) (h : ∀ a, cn M a = cn M' a) : Wd F0 H0 F H M' := w.perm (perm_cn h)
theorem Wd.sub {F0 H0 F H : Hp} {M M' : List (Addr × HO)} (w : Wd F0 H0 F H M) (h : M'.Sublist M) : Wd F0 H0 F H M' :=
  ⟨w.ff, w.fh, w.hh, w.sep, fun m hm => w.mt m (h.subset hm), w.nd.sublist (h.map _)⟩
/-- a new object that will not change, the frozen part by a name -/
theorem Wd.fixE {F0 H0 F H : Hp} {M : List (Addr × HO)} {p : Addr} (w : Wd F0 H0 F H M) (h : H p = none) (o : HO) : ∃ F', Wd F0 H0 F' (upd H p o) M ∧ Same F F' ∧ F' p = some o :=
  ⟨_, (w.fix h o).1, (w.fix h o).2, upd_same⟩
end PW

set_option Elab.async false
set_option linter.all false
set_option maxRecDepth 100000
set_option maxHeartbeats 4000000
/-! PW5: small things that every law wants; lists of numbers as data; classmethods. -/
namespace PW
open PySem PySem.Spec PyProof.Rows L2
theorem item_int {ns : List Int} {i : Nat} {y : V} (hi : (ns.map V.int)[i]? = some y) : ∃ z, ns[i]? = some z ∧ y = V.int z := by
  rw [List.getElem?_map] at hi
  cases e : ns[i]? with
  | none => rw [e] at hi; cases hi
  | some z => rw [e] at hi; exact ⟨z, rfl, (Option.some.inj hi).symm⟩
theorem item_map {α β : Type} {f : α → β} {ns : List α} {i : Nat} {y : β} (hi : (ns.map f)[i]? = some y) : ∃ z, ns[i]? = some z ∧ y = f z := by
  rw [List.getElem?_map] at hi
  cases e : ns[i]? with
  | none => rw [e] at hi; cases hi
  | some z => rw [e] at hi; exact ⟨z, rfl, (Option.some.inj hi).symm⟩
theorem sum_le {α : Type} {f : α → Nat} {k : Nat} : ∀ {l : List α}, (∀ x ∈ l, f x ≤ k) → (l.map f).sum ≤ l.length * k
  | [], _ => by simp
  | a :: l, h => by
    have h1 := h a (by simp)
    have h2 := sum_le (l := l) fun x hx => h x (List.mem_cons_of_mem _ hx)
    rw [List.map_cons, List.sum_cons, List.length_cons, Nat.add_mul]
    omega


theorem shaped_of {d : PyData} (h : d.canLay0 = true) (h2 : d.depth ≤ 64) : SeqAt.shaped d = true := by
  unfold SeqAt.shaped
  rw [h, decide_eq_true h2]
  rfl

theorem none_ints (ns : List Int) : inV .non (ns.map V.int) = false := by
  unfold inV
  rw [List.any_eq_false]
  intro x hx
  obtain ⟨n, _, rfl⟩ := List.mem_map.mp hx
  simp [eqV]
theorem flat_ints (ns : List Int) : (ns.map V.int).all flatV = true := by
  rw [List.all_eq_true]
  intro x hx
  obtain ⟨n, _, rfl⟩ := List.mem_map.mp hx
  rfl


/-- a tuple is handed back: F the frozen part -/
def RetD (K : PySem.W.Frag) (F H : Hp) (Q : VK) (d : PyData) : Prop := ∀ v F' H', Step F H F' H' → Dp K F' v d → Q v H'

theorem canlay_str {x : Str} (h : PyData.strOk x = true) : PyData.canLay0 (.str x) = true := by rw [PyData.canLay0]; exact h


theorem canlay_ints (ns : List Int) : PyData.canLayAll0 (ns.map PyData.int) = true := by
  induction ns with
  | nil => rfl
  | cons n ns ih => rw [List.map_cons, PyData.canLayAll0, ih]; rfl

theorem canlay_all {α : Type} {f : α → PyData} {l : List α} (h : ∀ x ∈ l, (f x).canLay0 = true) : PyData.canLayAll0 (l.map f) = true := by
  induction l with
  | nil => rfl
  | cons n ns ih => rw [List.map_cons, PyData.canLayAll0, h n (by simp), ih fun x hx => h x (List.mem_cons_of_mem _ hx)]; rfl

theorem depth_all {α : Type} {f : α → PyData} {k : Nat} {l : List α} (h : ∀ x ∈ l, (f x).depth ≤ k) : PyData.depthAll (l.map f) ≤ k := by
  induction l with
  | nil => exact Nat.zero_le _
  | cons n ns ih =>
    rw [List.map_cons, PyData.depthAll]
    exact Nat.max_le.mpr ⟨h n (by simp), ih fun x hx => h x (List.mem_cons_of_mem _ hx)⟩


theorem tyx_tup {K : PySem.W.Frag} {H : Hp} {a : Addr} {xs : List V} (h : SqT K H a xs) : TyX K H (.ref a) (.type "tuple") := by
  rcases h with (h | ⟨o, h⟩) | ⟨o, its, n, h, hc, _⟩
  · exact .base (.tup h)
  · exact .fTuple h
  · exact .kTuple h hc


/-- drawn numbers: as many as the sizes, each below its size -/
def Drawn (szs ds : List Int) : Prop := ds.length = szs.length ∧ ∀ (i : Nat) (d s : Int), ds[i]? = some d → szs[i]? = some s → 0 ≤ d ∧ d < s

theorem drawn_at {szs ds : List Int} (h : Drawn szs ds) {i : Nat} {s : Int} (hs : szs[i]? = some s) : ∃ d, ds[i]? = some d ∧ 0 ≤ d ∧ d < s := by
  have hi : i < ds.length := by rw [h.1]; exact (List.getElem?_eq_some_iff.mp hs).1
  exact ⟨_, List.getElem?_eq_getElem hi, h.2 i _ s (List.getElem?_eq_getElem hi) hs⟩

theorem range_at {α : Type} {f : Nat → α} {n i : Nat} {x : α} (h : ((List.range n).map f)[i]? = some x) : i < n ∧ x = f i := by
  rw [List.getElem?_map] at h
  by_cases c : i < n
  · rw [List.getElem?_range c] at h
    exact ⟨c, (Option.some.inj h).symm⟩
  · rw [List.getElem?_eq_none (by simpa using c)] at h
    cases h

theorem two_at {i : Nat} (h : i < 7) : ∃ d : Int, atI [V.int 1, .int 2, .int 4, .int 8, .int 16, .int 32, .int 64] (0 + (i : Int)) = some (.int d) ∧ 0 < d ∧ d < 1073741824 := by
  have : i = 0 ∨ i = 1 ∨ i = 2 ∨ i = 3 ∨ i = 4 ∨ i = 5 ∨ i = 6 := by omega
  rcases this with rfl | rfl | rfl | rfl | rfl | rfl | rfl
  · exact ⟨1, rfl, by decide, by decide⟩
  · exact ⟨2, rfl, by decide, by decide⟩
  · exact ⟨4, rfl, by decide, by decide⟩
  · exact ⟨8, rfl, by decide, by decide⟩
  · exact ⟨16, rfl, by decide, by decide⟩
  · exact ⟨32, rfl, by decide, by decide⟩
  · exact ⟨64, rfl, by decide, by decide⟩

theorem row_ix {K : PySem.W.Frag} {H : Hp} {p : Addr} {R : List Int} {j : Nat} {d z : Int} {Q : VK} (hs : SqL K H p (R.map V.int)) (hd : R[j]? = some d) (hz : z = (j : Int)) (q : Q (.int d) H) : rIx K (.ref p) (.int z) H Q := by
  subst hz
  exact .inl ⟨p, _, _, _, rfl, rfl, hs, atI_nat (by rw [List.getElem?_map, hd]; rfl), q⟩

theorem take_more1 {α : Type} {l : List α} {i : Nat} {x : α} (h : l[i]? = some x) : l.take (i + 1) = l.take i ++ [x] := by
  rw [List.take_succ, h]; rfl
/-- a tuple, a list of numbers -/
def encI (l : List Int) : PyData := .tuple (l.map PyData.int)
def encL (l : List Int) : PyData := .list (l.map PyData.int)
theorem canlay_I (l : List Int) : (encI l).canLay0 = true := by show PyData.canLay0 (.tuple _) = true; rw [PyData.canLay0]; exact canlay_ints l
theorem canlay_L (l : List Int) : (encL l).canLay0 = true := by show PyData.canLay0 (.list _) = true; rw [PyData.canLay0]; exact canlay_ints l
theorem depth_I (l : List Int) : (encI l).depth ≤ 2 := by
  have := depth_all (f := PyData.int) (k := 1) (l := l) fun x _ => by simp [PyData.depth]
  show PyData.depth (.tuple _) ≤ 2
  rw [PyData.depth]; omega
theorem depth_L (l : List Int) : (encL l).depth ≤ 2 := by
  have := depth_all (f := PyData.int) (k := 1) (l := l) fun x _ => by simp [PyData.depth]
  show PyData.depth (.list _) ≤ 2
  rw [PyData.depth]; omega
theorem shaped_L (l : List Int) : SeqAt.shaped (encL l) = true := shaped_of (canlay_L l) (by have := depth_L l; omega)
theorem shaped_I (l : List Int) : SeqAt.shaped (encI l) = true := shaped_of (canlay_I l) (by have := depth_I l; omega)
theorem canlay_LI (ls : List (List Int)) : PyData.canLay0 (.list (ls.map encI)) = true := by rw [PyData.canLay0]; exact canlay_all fun l _ => canlay_I l
theorem canlay_LL (ls : List (List Int)) : PyData.canLay0 (.list (ls.map encL)) = true := by rw [PyData.canLay0]; exact canlay_all fun l _ => canlay_L l
theorem shaped_LI (ls : List (List Int)) : SeqAt.shaped (.list (ls.map encI)) = true := shaped_of (canlay_LI ls) (by
  have := depth_all (f := encI) (k := 2) (l := ls) fun x _ => depth_I x
  rw [PyData.depth]; omega)
theorem shaped_LL (ls : List (List Int)) : SeqAt.shaped (.list (ls.map encL)) = true := shaped_of (canlay_LL ls) (by
  have := depth_all (f := encL) (k := 2) (l := ls) fun x _ => depth_L x
  rw [PyData.depth]; omega)
section
variable {K : PySem.W.Frag} {H : Hp} {v : V} {l : List Int} {ls : List (List Int)}
theorem dp_I (h : Dp K H v (encI l)) : ∃ a, v = .ref a ∧ SqT K H a (l.map V.int) := by
  obtain ⟨a, xs, rfl, hs, da⟩ := dp_tup h
  rw [dpa_ints da] at hs
  exact ⟨a, rfl, hs⟩
theorem dp_L (h : Dp K H v (encL l)) : ∃ a, v = .ref a ∧ SqL K H a (l.map V.int) := by
  obtain ⟨a, xs, rfl, hs, da⟩ := dp_list h
  rw [dpa_ints da] at hs
  exact ⟨a, rfl, hs⟩
theorem dp_I_of {a : Addr} (h : SqT K H a (l.map V.int)) : Dp K H (.ref a) (encI l) := .tup h dpa_of_ints
theorem dp_L_of {a : Addr} (h : SqL K H a (l.map V.int)) : Dp K H (.ref a) (encL l) := .lst h dpa_of_ints
end
/-- is a number in a row of numbers -/
theorem inV_ints (x : Int) (l : List Int) : inV (.int x) (l.map V.int) = decide (x ∈ l) := by
  unfold inV
  rw [Bool.eq_iff_iff, List.any_eq_true, decide_eq_true_iff]
  constructor
  · rintro ⟨y, hy, e⟩
    obtain ⟨z, hz, rfl⟩ := List.mem_map.mp hy
    have : z = x := by simpa [eqV] using e
    rw [← this]; exact hz
  · intro h
    exact ⟨.int x, List.mem_map_of_mem h, by simp [eqV]⟩
theorem list_ix {K : PySem.W.Frag} {H : Hp} {p : Addr} {xs : List V} {v : V} {z : Int} {Q : VK} (hs : SqL K H p xs) (h0 : 0 ≤ z) (hd : xs[z.toNat]? = some v) (q : Q v H) : rIx K (.ref p) (.int z) H Q := by
  have := atI_nat hd
  rw [Int.toNat_of_nonneg h0] at this
  exact .inl ⟨p, _, _, _, rfl, rfl, hs, this, q⟩
theorem tup_ix {K : PySem.W.Frag} {H : Hp} {p : Addr} {xs : List V} {v : V} {z : Int} {Q : VK} (hs : SqT K H p xs) (h0 : 0 ≤ z) (hd : xs[z.toNat]? = some v) (q : Q v H) : rIx K (.ref p) (.int z) H Q := by
  have := atI_nat hd
  rw [Int.toNat_of_nonneg h0] at this
  exact .inr (.inl ⟨p, _, _, _, rfl, rfl, hs, this, q⟩)
/-! ### a def by its address; a class by a local name -/
theorem toR {P : Program} {w : World} {K : PySem.W.Frag} {mg : Str → Option Value} {base : Heap} {CX : CXT} {k : Nat} {f : Addr} {fd : FuncData} {ps : List Str} {sp : Sp} (F : FnOk P w K mg base CX k f fd ps sp) (hb : Binds K fd ps []) : FnR P w K mg base CX k f sp := by
  intro A outer s H us vs Q E room e0 rv hs
  have hl : us.length = ps.length := rv.length.symm.trans (F.len _ _ _ _ hs)
  have b := hb s us (e0.mod.kin.keeps fun b o e => (e0.bs b o e).1) (by rw [List.append_nil]; exact hl)
  rw [List.append_nil] at b
  exact F.run A outer s H ⟨us, []⟩ us vs Q E room e0 b rv hs
def tMakeL (i : Nat) (C : Addr) (sp : Sp) (E : XK) (t : TA) : TE := fun σ H Q => σ[i]? = some (some (.ref C)) ∧ tMake C sp [] E t σ H Q
theorem pe_makeL {X : Cx} {CX : CXT} {k i : Nat} {f C : Addr} {fd : FuncData} {ps : List Str} {sp : Sp} {E : XK} {x : Str} {q pos : Pos} {e : Expr} {es : List Expr} {t : TA} (M : Mk X.K C f) (F : FnOk X.prog X.w X.K X.mg X.base CX k f fd ps sp) (room : Room (k + 1) X.A) (hN : X.N[i]? = some x) (hv : Vis X.env.scope x) (hb : Binds X.K fd ps [])
    (hx : Passes CX X E) (ha : PA X (e :: es) t) (hdb : (x == ("__debug__" : Str)) = false := by decide) (hcd : (x == ("__classdict__" : Str)) = false := by decide)
    (he : starEach (e :: es) X.env = (false, eval e X.env) :: starEach es X.env := by rfl) (hpl : (backTo pos (starEach es X.env)).any (·.1) = false := by rfl) : PE X (.Call (.Name x q) (e :: es) [] pos) (tMakeL i C sp E t) := by
  refine ⟨fun pins s σ H Q I h => ?_⟩
  obtain ⟨hs, ht⟩ := h
  refine wpAny_Call_Name_kw (thn ((pe_var (pos := q) hN hv hdb hcd).run pins s σ H (fun v H1 => v = .ref C ∧ H1 = H) I ⟨.ref C, hs, rfl, rfl⟩) fun u s1 hu => ?_)
  obtain ⟨v, H1, I1, r1, rfl, rfl⟩ := hu
  cases r1
  refine PySem.W.callWith_K (h₀ := X.base) I.ok.mod.kin M.kp (thn (ha.run pos pins s1 σ _ _ I1 ht) fun us s2 hus => ?_) he hpl
  obtain ⟨vs, H2, I2, r, q⟩ := hus
  exact ⟨I2.kIn, run_make M F room hb .nil hx I2 r q⟩
end PW

set_option Elab.async false
set_option linter.all false
set_option maxRecDepth 100000
set_option maxHeartbeats 4000000
/-! PW6: loops and comprehensions over anything, by one lemma for each kind of walk. -/
namespace PW
open PySem PySem.Spec PyProof.Rows L2
section
variable {K : PySem.W.Frag} {a d : Addr} {xs : List V} {od : Obj} {kvs : List (Key × V)} {Qd : Hp → Prop} {H1 : Hp} {Body : V → Hp → (Hp → Prop) → Prop}
/-- within a comprehension: no slots change -/
theorem in_list (Pv : Nat → Hp → Prop) (h0 : Pv 0 H1) (hl : ∀ i H, Pv i H → SqL K H a xs) (hs : ∀ i x H, xs[i]? = some x → Pv i H → Body x H (Pv (i + 1))) (hd : ∀ H, Pv xs.length H → Qd H) :
    ∃ W : Nat → Nat → Hp → Prop, (∃ m, W 0 m H1) ∧ ∀ i m H, W i m H →
      ((Itl K a).stop i H ∧ Qd H) ∨ ((Itl K a).go i H ∧ ∃ Nx : Hp → Prop, (∀ H', Nx H' → ∃ m', m' < m ∧ W (i + 1) m' H') ∧ ∀ x H', (Itl K a).yld i H x H' → Body x H' Nx) := by
  refine ⟨fun i m H => m = xs.length - i ∧ i ≤ xs.length ∧ Pv i H, ⟨xs.length, by simp, Nat.zero_le _, h0⟩, ?_⟩
  rintro i m H ⟨rfl, hi, p⟩
  have q := hl i H p
  by_cases hlt : i < xs.length
  · exact .inr ⟨⟨xs, xs[i], q, by simp [hlt]⟩, Pv (i + 1), fun H' p' => ⟨xs.length - (i + 1), by omega, rfl, hlt, p'⟩, fun x H' y => by
      obtain ⟨e, y⟩ := y
      subst e
      exact hs i x _ (y xs q) p⟩
  · have e : i = xs.length := by omega
    subst e
    exact .inl ⟨⟨xs, q, Nat.le_refl _⟩, hd H p⟩
theorem in_tup (Pv : Nat → Hp → Prop) (h0 : Pv 0 H1) (hl : ∀ i H, Pv i H → SqT K H a xs) (hs : ∀ i x H, xs[i]? = some x → Pv i H → Body x H (Pv (i + 1))) (hd : ∀ H, Pv xs.length H → Qd H) :
    ∃ W : Nat → Nat → Hp → Prop, (∃ m, W 0 m H1) ∧ ∀ i m H, W i m H →
      ((Itt K a).stop i H ∧ Qd H) ∨ ((Itt K a).go i H ∧ ∃ Nx : Hp → Prop, (∀ H', Nx H' → ∃ m', m' < m ∧ W (i + 1) m' H') ∧ ∀ x H', (Itt K a).yld i H x H' → Body x H' Nx) := by
  refine ⟨fun i m H => m = xs.length - i ∧ i ≤ xs.length ∧ Pv i H, ⟨xs.length, by simp, Nat.zero_le _, h0⟩, ?_⟩
  rintro i m H ⟨rfl, hi, p⟩
  have q := hl i H p
  by_cases hlt : i < xs.length
  · exact .inr ⟨⟨xs, xs[i], q, by simp [hlt]⟩, Pv (i + 1), fun H' p' => ⟨xs.length - (i + 1), by omega, rfl, hlt, p'⟩, fun x H' y => by
      obtain ⟨e, y⟩ := y
      subst e
      exact hs i x _ (y xs q) p⟩
  · have e : i = xs.length := by omega
    subst e
    exact .inl ⟨⟨xs, q, Nat.le_refl _⟩, hd H p⟩
theorem in_keys (Pv : Nat → Hp → Prop) (h0 : Pv 0 H1) (hl : ∀ i H, Pv i H → H d = some (.frz od (.dK kvs))) (hs : ∀ i k v H, kvs[i]? = some (k, v) → Pv i H → Body (kV k) H (Pv (i + 1))) (hd : ∀ H, Pv kvs.length H → Qd H) :
    ∃ W : Nat → Nat → Hp → Prop, (∃ m, W 0 m H1) ∧ ∀ i m H, W i m H →
      ((Itk d od kvs).stop i H ∧ Qd H) ∨ ((Itk d od kvs).go i H ∧ ∃ Nx : Hp → Prop, (∀ H', Nx H' → ∃ m', m' < m ∧ W (i + 1) m' H') ∧ ∀ x H', (Itk d od kvs).yld i H x H' → Body x H' Nx) := by
  refine ⟨fun i m H => m = kvs.length - i ∧ i ≤ kvs.length ∧ Pv i H, ⟨kvs.length, by simp, Nat.zero_le _, h0⟩, ?_⟩
  rintro i m H ⟨rfl, hi, p⟩
  have q := hl i H p
  by_cases hlt : i < kvs.length
  · exact .inr ⟨⟨q, hlt⟩, Pv (i + 1), fun H' p' => ⟨kvs.length - (i + 1), by omega, rfl, hlt, p'⟩, fun x H' y => by
      obtain ⟨e, k, v, hk, ev⟩ := y
      subst e ev
      exact hs i k v _ hk p⟩
  · have e : i = kvs.length := by omega
    subst e
    exact .inl ⟨⟨q, Nat.le_refl _⟩, hd H p⟩
theorem in_range {lo : Int} {n : Nat} (Pv : Nat → Hp → Prop) (h0 : Pv 0 H1) (hs : ∀ i H, i < n → Pv i H → Body (.int (lo + (i : Nat))) H (Pv (i + 1))) (hd : ∀ H, Pv n H → Qd H) :
    ∃ W : Nat → Nat → Hp → Prop, (∃ m, W 0 m H1) ∧ ∀ i m H, W i m H →
      ((Itr lo n).stop i H ∧ Qd H) ∨ ((Itr lo n).go i H ∧ ∃ Nx : Hp → Prop, (∀ H', Nx H' → ∃ m', m' < m ∧ W (i + 1) m' H') ∧ ∀ x H', (Itr lo n).yld i H x H' → Body x H' Nx) := by
  refine ⟨fun i m H => m = n - i ∧ i ≤ n ∧ Pv i H, ⟨n, by simp, Nat.zero_le _, h0⟩, ?_⟩
  rintro i m H ⟨rfl, hi, p⟩
  by_cases hlt : i < n
  · exact .inr ⟨hlt, Pv (i + 1), fun H' p' => ⟨n - (i + 1), by omega, rfl, hlt, p'⟩, fun x H' y => by
      obtain ⟨e, ev⟩ := y
      subst e ev
      exact hs i _ hlt p⟩
  · have e : i = n := by omega
    subst e
    exact .inl ⟨Nat.le_refl _, hd H p⟩
theorem in_enum (Pv : Nat → Hp → Prop) (h0 : Pv 0 H1) (hl : ∀ i H, Pv i H → SqL K H a xs) (hs : ∀ i x H, xs[i]? = some x → Pv i H → ∀ T, H T = none → Body (.ref T) (upd H T (.tup [.int (i : Nat), x])) (Pv (i + 1))) (hd : ∀ H, Pv xs.length H → Qd H) :
    ∃ W : Nat → Nat → Hp → Prop, (∃ m, W 0 m H1) ∧ ∀ i m H, W i m H →
      ((Ite K a).stop i H ∧ Qd H) ∨ ((Ite K a).go i H ∧ ∃ Nx : Hp → Prop, (∀ H', Nx H' → ∃ m', m' < m ∧ W (i + 1) m' H') ∧ ∀ x H', (Ite K a).yld i H x H' → Body x H' Nx) := by
  refine ⟨fun i m H => m = xs.length - i ∧ i ≤ xs.length ∧ Pv i H, ⟨xs.length, by simp, Nat.zero_le _, h0⟩, ?_⟩
  rintro i m H ⟨rfl, hi, p⟩
  have q := hl i H p
  by_cases hlt : i < xs.length
  · exact .inr ⟨⟨xs, xs[i], q, by simp [hlt]⟩, Pv (i + 1), fun H' p' => ⟨xs.length - (i + 1), by omega, rfl, hlt, p'⟩, fun x H' y => by
      obtain ⟨T, z, rfl, hT, rfl, hz⟩ := y
      exact hs i z _ (hz xs q) p T hT⟩
  · have e : i = xs.length := by omega
    subst e
    exact .inl ⟨⟨xs, q, Nat.le_refl _⟩, hd H p⟩
end
/-- for i, x in enumerate(xs) -/
theorem for_enum {K : PySem.W.Frag} {a : Addr} {xs : List V} {g : TG} {tb : TS} {D : Ends} {σ : L2.St} {H : Hp} (Pv : Nat → L2.St → Hp → Prop) (h0 : Pv 0 σ H) (hl : ∀ i σ H, Pv i σ H → SqL K H a xs)
    (hs : ∀ (i : Nat) (x : V) σ H, xs[i]? = some x → Pv i σ H → ∀ T, H T = none → g (.ref T) σ (upd H T (.tup [.int (i : Nat), x])) fun σ2 H2 => tb { D with nx := Pv (i + 1), ct := Pv (i + 1), bk := D.nx } σ2 H2) (hd : ∀ σ H, Pv xs.length σ H → D.nx σ H) :
    ∃ W : Nat → Nat → L2.St → Hp → Prop, (∃ m, W 0 m σ H) ∧ ∀ i m σ H, W i m σ H →
      ((Ite K a).stop i H ∧ D.nx σ H) ∨ ((Ite K a).go i H ∧ ∃ N : L2.St → Hp → Prop, (∀ σ' H', N σ' H' → ∃ m', m' < m ∧ W (i + 1) m' σ' H') ∧ ∀ x H', (Ite K a).yld i H x H' → g x σ H' fun σ2 H2 => tb { D with nx := N, ct := N, bk := D.nx } σ2 H2) := by
  refine ⟨fun i m σ H => m = xs.length - i ∧ i ≤ xs.length ∧ Pv i σ H, ⟨xs.length, by simp, Nat.zero_le _, h0⟩, ?_⟩
  rintro i m σ H ⟨rfl, hi, p⟩
  have q := hl i σ H p
  by_cases hlt : i < xs.length
  · exact .inr ⟨⟨xs, xs[i], q, by simp [hlt]⟩, Pv (i + 1), fun σ' H' p' => ⟨xs.length - (i + 1), by omega, rfl, hlt, p'⟩, fun x H' y => by
      obtain ⟨T, z, rfl, hT, rfl, hz⟩ := y
      exact hs i z σ _ (hz xs q) p T hT⟩
  · have e : i = xs.length := by omega
    subst e
    exact .inl ⟨⟨xs, q, Nat.le_refl _⟩, hd σ H p⟩
/-- rows sorted twice are the same -/
theorem up_eq : ∀ {l m : List Int}, l.Perm m → l.Pairwise (· ≤ ·) → m.Pairwise (· < ·) → l = m
  | [], m, p, _, _ => (List.nil_perm.mp p).symm
  | a :: l, [], p, _, _ => absurd p.length_eq (by simp)
  | a :: l, b :: m, p, h1, h2 => by
    have h1' := List.pairwise_cons.mp h1
    have h2' := List.pairwise_cons.mp h2
    have e : a = b := by
      have i1 : a ∈ b :: m := p.mem_iff.mp (by simp)
      have i2 : b ∈ a :: l := p.mem_iff.mpr (by simp)
      rcases List.mem_cons.mp i1 with e | i1
      · exact e
      · rcases List.mem_cons.mp i2 with e | i2
        · exact e.symm
        · have := h2'.1 a i1
          have := h1'.1 b i2
          omega
    subst e
    rw [up_eq (List.perm_cons a |>.mp p) h1'.2 h2'.2]
section
variable {K : PySem.W.Frag} {H : Hp} {p : Addr} {x : Int} {l : List Int} {Q : VK}
theorem in_ints (h : SqL K H p (l.map V.int) ∨ SqT K H p (l.map V.int)) (q : Q (.bl (decide (x ∈ l))) H) : rInU K (.int x) (.ref p) H Q :=
  .inl ⟨p, _, rfl, h, rfl, flat_ints l, by rw [if_neg Bool.false_ne_true, inV_ints]; exact q⟩
theorem notin_ints (h : SqL K H p (l.map V.int) ∨ SqT K H p (l.map V.int)) (q : Q (.bl (!decide (x ∈ l))) H) : rNotInU K (.int x) (.ref p) H Q :=
  .inl ⟨p, _, rfl, h, rfl, flat_ints l, by rw [if_pos rfl, inV_ints]; exact q⟩
end
/-- a dict of numbers -/
def iR : V → Int → Prop := fun v b => v = .int b
theorem inl_inj : ∀ x y : Int, (Sum.inl x : Key) = .inl y → x = y := fun _ _ h => Sum.inl.inj h
theorem dget_of {H : Hp} {a : Addr} {kvs : List (Key × V)} {k : Key} {v : V} (h : H a = some (.dK kvs)) (hv : valV kvs k = some v) : DGet H a (kV k) (some v) := by
  have := DGet.k (k := k) h
  rwa [hv] at this
/-- xs + ys of lists that stand anywhere -/
def rCatL (K : PySem.W.Frag) : R2 := fun x y H Q => ∃ a b xs zs, x = .ref a ∧ y = .ref b ∧ SqL K H a xs ∧ SqL K H b zs ∧ xs.length + zs.length ≤ sizeLine ∧ ∀ p, H p = none → Q (.ref p) (upd H p (.lst (xs ++ zs)))
theorem op_catL {X : Cx} : OpR X (binaryOp .Add) (rCatL X.K) := by
  intro pins s σ H x y v u Q I rx ry h
  obtain ⟨a, b, xs, zs, rfl, rfl, ha, hb, hz, q⟩ := h
  cases rx
  cases ry
  obtain ⟨its, r, pa, _⟩ := I.list ha
  obtain ⟨its2, r2, pb, _⟩ := I.list hb
  obtain ⟨⟨cls, dd, data, sl⟩, ho, hc, n, hd⟩ := pa.isList
  obtain ⟨⟨cls2, dd2, data2, sl2⟩, ho2, hc2, n2, hd2⟩ := pb.isList
  simp only at hc hd hc2 hd2
  subst hc hd hc2 hd2
  have l1 := r.length
  have l2 := r2.length
  have e : its.toArray ++ its2.toArray = (its ++ its2).toArray := by simp
  refine concat_meets ⟨_, ho, rfl⟩ ⟨_, ho2, rfl⟩ noFill_list_add seq_list_add PySem.F.slot_list_add PySem.F.entry_list_add (PySem.F.args_list_add_2 _ _) (PyProof.Rows.list_addW a b its.toArray its2.toArray n n2 dd dd2 sl sl2 (by simp; omega)) ⟨ho, ho2, ?_⟩
  rw [e]
  exact ⟨.ref _, _, I.lnew (t' := s.toks) (r.append r2) (by rw [List.length_append]; omega), rfl, q _ I.fresh⟩
theorem op_catLK {X : Cx} {K : PySem.W.Frag} (h : X.K = K) : OpR X (binaryOp .Add) (rCatL K) := h ▸ op_catL
/-- truth, K told -/
def tTru (K : PySem.W.Frag) (ta : TE) : TT := fun σ H Q => ta σ H fun x H' => ∃ k, TruV K x H' k ∧ Q k H'
theorem pt_truthK {X : Cx} {K : PySem.W.Frag} {a : Expr} {ta : TE} (h : X.K = K) (ha : PE X a ta) (he : ∀ whole, isTrue a X.env whole = (do let v ← whole; standAt a.pos; holding [v] (truthy v))) : PT X a (tTru K ta) := h ▸ pt_truth ha he
/-- t + (x,) -/
theorem wd_cat1 {K : PySem.W.Frag} {F0 H0 F H : Hp} {M : List (Addr × HO)} {a b : Addr} {xs : List V} {x : V} {Q : VK} (w : Wd F0 H0 F H M) (ha : SqT K F a xs) (hb : SqT K F b [x]) (hl : xs.length + 1 ≤ 1000000)
    (k : ∀ t F' H', Wd F0 H0 F' H' M → Same F F' → SqT K F' t (xs ++ [x]) → Q (.ref t) H') : rAddU K (.ref a) (.ref b) H Q :=
  .inr (.inr (.inr ⟨a, b, xs, [x], rfl, rfl, same_t w.fh ha, same_t w.fh hb, small hl, (fun h => by subst h; exact k b F H w (.refl F) hb), (fun _ h => nomatch h), fun _ _ p hp => by
    obtain ⟨F', w', e, i⟩ := w.fixE hp (.tup (xs ++ [x]))
    exact k p F' _ w' e (.of i)⟩))
theorem alike_ints : ∀ a b : List Int, PySem.W.alikeAll (a.map PyData.int) (b.map PyData.int) = true
  | [], _ => by simp [PySem.W.alikeAll]
  | _ :: _, [] => by simp [PySem.W.alikeAll]
  | x :: a, y :: b => by
    show (PySem.W.alike (.int x) (.int y) && PySem.W.alikeAll (a.map PyData.int) (b.map PyData.int)) = true
    rw [alike_ints a b]
    rfl
theorem alike_I (a b : List Int) : PySem.W.alike (encI a) (encI b) = true := alike_ints a b
end PW

set_option Elab.async false
set_option linter.all false
set_option maxRecDepth 100000
set_option maxHeartbeats 4000000
/-! M73: choices and losses: lots against roads, one lost seat at a time. -/
namespace Nt
open PySem PySem.Spec
/-- the first n numbers -/
def ntTo (n : Nat) : List Int := (List.range n).map fun (i : Nat) => (i : Int)
theorem mem_ntTo {n : Nat} {x : Int} : x ∈ ntTo n ↔ 0 ≤ x ∧ x < (n : Int) := by
  unfold ntTo
  rw [List.mem_map]
  constructor
  · rintro ⟨i, hi, rfl⟩
    have := List.mem_range.mp hi
    omega
  · rintro ⟨h0, h1⟩
    exact ⟨x.toNat, List.mem_range.mpr (by omega), by omega⟩
theorem ntTo_up (n : Nat) : (ntTo n).Pairwise (· < ·) := by
  unfold ntTo
  rw [List.pairwise_map]
  exact List.Pairwise.imp (fun {a b} h => by omega) (List.pairwise_lt_range (n := n))
theorem up_nd {l : List Int} (h : l.Pairwise (· < ·)) : l.Nodup := h.imp fun {a b} h => by omega
theorem ntTo_nd (n : Nat) : (ntTo n).Nodup := up_nd (ntTo_up n)
theorem ntTo_len (n : Nat) : (ntTo n).length = n := by unfold ntTo; simp
theorem nd_len {α : Type} [DecidableEq α] : ∀ {l m : List α}, l.Nodup → (∀ x ∈ l, x ∈ m) → l.length ≤ m.length
  | [], m, _, _ => Nat.zero_le _
  | x :: l, m, nd, h => by
    have hx : x ∈ m := h x (by simp)
    have nd' := List.nodup_cons.mp nd
    have ih := nd_len (l := l) (m := m.erase x) nd'.2 fun y hy => (List.mem_erase_of_ne (fun e : y = x => nd'.1 (by rw [← e]; exact hy))).mpr (h y (by simp [hy]))
    rw [List.length_erase_of_mem hx] at ih
    have := List.length_pos_of_mem hx
    rw [List.length_cons]
    omega
theorem nd_same {α : Type} [DecidableEq α] {l m : List α} (h1 : l.Nodup) (h2 : m.Nodup) (h : ∀ x, x ∈ l ↔ x ∈ m) : l.length = m.length :=
  Nat.le_antisymm (nd_len h1 fun x hx => (h x).mp hx) (nd_len h2 fun x hx => (h x).mpr hx)
/-! ### lots of rows -/
def living (lost row : List Int) : List Int := row.filter fun s => decide (s ∉ lost)
theorem mem_living {lost row : List Int} {s : Int} : s ∈ living lost row ↔ s ∈ row ∧ s ∉ lost := by unfold living; rw [List.mem_filter]; simp
def uni (U r : List Int) : List Int := U ++ r.filter fun s => decide (s ∉ U)
theorem mem_uni {U r : List Int} {s : Int} : s ∈ uni U r ↔ s ∈ U ∨ s ∈ r := by
  unfold uni
  rw [List.mem_append, List.mem_filter]
  by_cases h : s ∈ U
  · simp [h]
  · simp [h]
theorem uni_nd {U r : List Int} (h1 : U.Nodup) (h2 : r.Nodup) : (uni U r).Nodup := by
  unfold uni
  rw [List.nodup_append]
  refine ⟨h1, h2.sublist List.filter_sublist, fun a ha b hb e => ?_⟩
  subst e
  have := (List.mem_filter.mp hb).2
  simp at this
  exact this ha
theorem mem_unis {s : Int} : ∀ {L : List (List Int)} {U : List Int}, s ∈ L.foldl uni U ↔ s ∈ U ∨ ∃ r ∈ L, s ∈ r
  | [], U => by simp
  | r :: L, U => by
    rw [List.foldl_cons, mem_unis, mem_uni]
    simp only [List.mem_cons, exists_eq_or_imp, or_assoc]
theorem unis_nd : ∀ {L : List (List Int)} {U : List Int}, U.Nodup → (∀ r ∈ L, r.Nodup) → (L.foldl uni U).Nodup
  | [], U, h, _ => h
  | r :: L, U, h, hr => by
    rw [List.foldl_cons]
    exact unis_nd (uni_nd h (hr r (by simp))) fun x hx => hr x (by simp [hx])
/-- lots: how many rows, and all seats of them -/
def lotStep (ls : List (Int × List Int)) (r : List Int) : List (Int × List Int) := ls ++ ls.map fun q => (q.1 + 1, uni q.2 r)
def lots (Rs : List (List Int)) : List (Int × List Int) := Rs.foldl lotStep [(0, [])]
theorem lots_snoc (Rs : List (List Int)) (r : List Int) : lots (Rs ++ [r]) = lotStep (lots Rs) r := by unfold lots; rw [List.foldl_append]; rfl
theorem snoc_ind {α : Type} {P : List α → Prop} (h0 : P []) (hs : ∀ l a, P l → P (l ++ [a])) : ∀ l, P l := by
  intro l
  have key : ∀ k : List α, P k.reverse := by
    intro k
    induction k with
    | nil => exact h0
    | cons a k ih => rw [List.reverse_cons]; exact hs _ _ ih
  have := key l.reverse
  rwa [List.reverse_reverse] at this
theorem sub_one {α : Type} {l : List α} {a : α} (h : l.Sublist [a]) : l = [] ∨ l = [a] := by
  cases h with
  | cons _ h => exact .inl (List.sublist_nil.mp h)
  | cons_cons _ h => rw [List.sublist_nil.mp h]; exact .inr rfl
theorem mem_lots : ∀ (Rs : List (List Int)) (q : Int × List Int), q ∈ lots Rs ↔ ∃ L : List (List Int), L.Sublist Rs ∧ q = ((L.length : Int), L.foldl uni []) := by
  refine snoc_ind (fun q => ?_) (fun Rs r ih q => ?_)
  · constructor
    · intro h
      have h : q ∈ [((0 : Int), ([] : List Int))] := h
      rw [List.mem_singleton] at h
      exact ⟨[], List.Sublist.refl _, h⟩
    · rintro ⟨L, h, rfl⟩
      rw [List.sublist_nil.mp h]
      exact List.mem_singleton.mpr rfl
  · rw [lots_snoc]
    unfold lotStep
    rw [List.mem_append, List.mem_map]
    constructor
    · rintro (h | ⟨q', h, rfl⟩)
      · obtain ⟨L, hL, e⟩ := (ih q).mp h
        exact ⟨L, hL.trans (List.sublist_append_left _ _), e⟩
      · obtain ⟨L, hL, rfl⟩ := (ih q').mp h
        refine ⟨L ++ [r], List.Sublist.append hL (List.Sublist.refl _), ?_⟩
        rw [List.foldl_append, List.length_append]
        rfl
    · rintro ⟨L, hL, rfl⟩
      obtain ⟨l1, l2, rfl, h1, h2⟩ := List.sublist_append_iff.mp hL
      rcases sub_one h2 with rfl | rfl
      · rw [List.append_nil]
        exact .inl ((ih _).mpr ⟨l1, h1, rfl⟩)
      · refine .inr ⟨_, (ih _).mpr ⟨l1, h1, rfl⟩, ?_⟩
        rw [List.foldl_append, List.length_append]
        rfl
def Hall (cap : Int) (Rs : List (List Int)) : Prop := ∀ L : List (List Int), L.Sublist Rs → (L.length : Int) ≤ cap * ((L.foldl uni []).length : Int)
theorem hall_lots {cap : Int} {Rs : List (List Int)} : Hall cap Rs ↔ ∀ q ∈ lots Rs, ¬ cap * (q.2.length : Int) < q.1 := by
  constructor
  · intro h q hq
    obtain ⟨L, hL, rfl⟩ := (mem_lots Rs q).mp hq
    have := h L hL
    dsimp only
    omega
  · intro h L hL
    have := h _ ((mem_lots Rs _).mpr ⟨L, hL, rfl⟩)
    dsimp only at this
    omega
def seatRows (rows : List (List Int)) (lost : List Int) (s : Int) : List (List Int) := (rows.filter fun r => decide (s ∈ r)).map (living lost)
/-- all copies come back behind this loss -/
def CB (cap : Int) (rows : List (List Int)) (lost : List Int) : Prop := (∀ r ∈ rows, living lost r ≠ []) ∧ ∀ s ∈ lost, Hall cap (seatRows rows lost s)
/-! ### rows by number -/
/-- the numbers of the pieces at a seat -/
def atSeat (rows : List (List Int)) (s : Int) : List Nat := (List.range rows.length).filter fun j => decide (s ∈ rows.getD j [])
theorem rows_range (rows : List (List Int)) : (List.range rows.length).map (fun j => rows.getD j []) = rows := by
  apply List.ext_getElem?
  intro i
  rw [List.getElem?_map]
  by_cases h : i < rows.length
  · rw [List.getElem?_range h, List.getElem?_eq_getElem h]
    show some (rows.getD i []) = _
    rw [List.getD_eq_getElem?_getD, List.getElem?_eq_getElem h]
    rfl
  · rw [List.getElem?_eq_none (by simpa using h), List.getElem?_eq_none (by omega)]
    rfl
theorem seatRows_at (rows : List (List Int)) (lost : List Int) (s : Int) : seatRows rows lost s = (atSeat rows s).map fun j => living lost (rows.getD j []) := by
  unfold seatRows atSeat
  have e : rows.filter (fun r => decide (s ∈ r)) = ((List.range rows.length).filter fun j => decide (s ∈ rows.getD j [])).map fun j => rows.getD j [] := by
    have := List.filter_map (f := fun j => rows.getD j []) (l := List.range rows.length) (p := fun r => decide (s ∈ r))
    rw [rows_range] at this
    exact this
  rw [e, List.map_map]
  rfl
theorem mem_atSeat {rows : List (List Int)} {s : Int} {j : Nat} : j ∈ atSeat rows s ↔ ∃ r, rows[j]? = some r ∧ s ∈ r := by
  unfold atSeat
  rw [List.mem_filter, List.mem_range]
  constructor
  · rintro ⟨h, hs⟩
    have e := List.getElem?_eq_getElem h
    rw [List.getD_eq_getElem?_getD, e] at hs
    exact ⟨_, e, by simpa using hs⟩
  · rintro ⟨r, hr, hs⟩
    refine ⟨(List.getElem?_eq_some_iff.mp hr).1, ?_⟩
    rw [List.getD_eq_getElem?_getD, hr]
    simpa using hs
theorem getD_of {rows : List (List Int)} {j : Nat} {r : List Int} (h : rows[j]? = some r) : rows.getD j [] = r := by rw [List.getD_eq_getElem?_getD, h]; rfl
/-! ### senders -/
def users (N : Nat) (g : Int → Option Int) (s : Int) : List Int := (ntTo N).filter fun i => decide (g i = some s)
theorem mem_users {N : Nat} {g : Int → Option Int} {s i : Int} : i ∈ users N g s ↔ (0 ≤ i ∧ i < (N : Int)) ∧ g i = some s := by unfold users; rw [List.mem_filter, mem_ntTo]; simp
theorem users_nd (N : Nat) (g : Int → Option Int) (s : Int) : (users N g s).Nodup := (ntTo_nd N).sublist List.filter_sublist
/-- one piece of the seat, a sender of it -/
def Ok1 (rows : List (List Int)) (lost : List Int) (seat i s : Int) : Prop := ∃ (j : Nat) (r : List Int), i = (j : Int) ∧ rows[j]? = some r ∧ seat ∈ r ∧ s ∈ r ∧ s ∉ lost
theorem Ok1.lt {rows : List (List Int)} {lost : List Int} {seat i s : Int} (h : Ok1 rows lost seat i s) : 0 ≤ i ∧ i < (rows.length : Int) := by
  obtain ⟨j, r, rfl, hr, _⟩ := h
  have := (List.getElem?_eq_some_iff.mp hr).1
  omega
structure Given (rows : List (List Int)) (lost : List Int) (seat cap : Int) (p : Nat) (g : Int → Option Int) : Prop where
  ok : ∀ i s, g i = some s → Ok1 rows lost seat i s ∧ i < (p : Int)
  all : ∀ (j : Nat) (r : List Int), j < p → rows[j]? = some r → seat ∈ r → (g (j : Int)).isSome = true
  few : ∀ s, ((users rows.length g s).length : Int) ≤ cap
theorem Given.none {rows : List (List Int)} {lost : List Int} {seat cap : Int} (h : 0 ≤ cap) : Given rows lost seat cap 0 (fun _ => Option.none) := by
  refine ⟨(fun i s h => nomatch h), fun j r hj => absurd hj (Nat.not_lt_zero _), fun s => ?_⟩
  have e : users rows.length (fun _ => Option.none) s = [] := by
    unfold users
    rw [List.filter_eq_nil_iff]
    intro a _
    simp
  rw [e]
  exact h
theorem Given.skip {rows : List (List Int)} {lost : List Int} {seat cap : Int} {p : Nat} {g : Int → Option Int} (G : Given rows lost seat cap p g) (h : ∀ r, rows[p]? = some r → seat ∉ r) : Given rows lost seat cap (p + 1) g := by
  refine ⟨fun i s e => ?_, fun j r hj hr hs => ?_, G.few⟩
  · have := G.ok i s e; exact ⟨this.1, by omega⟩
  · by_cases c : j = p
    · subst c; exact absurd hs (h r hr)
    · exact G.all j r (by omega) hr hs
theorem flat_len {U : List Int} {f : Int → List Int} {cap : Int} (h : ∀ s ∈ U, ((f s).length : Int) ≤ cap) : ((U.flatMap f).length : Int) ≤ cap * (U.length : Int) := by
  induction U with
  | nil => simp
  | cons u U ih =>
    have h1 := h u (by simp)
    have h2 := ih fun s hs => h s (by simp [hs])
    rw [List.flatMap_cons, List.length_append, List.length_cons]
    have : cap * ((U.length + 1 : Nat) : Int) = cap * (U.length : Int) + cap := by
      rw [Int.natCast_add, Int.mul_add]; simp
    rw [this]
    omega
/-- every piece has a sender: no lot wants roads -/
theorem Given.hall {rows : List (List Int)} {lost : List Int} {seat cap : Int} {g : Int → Option Int} (G : Given rows lost seat cap rows.length g) : Hall cap (seatRows rows lost seat) := by
  intro L hL
  rw [seatRows_at] at hL
  obtain ⟨J, hJ, rfl⟩ := List.sublist_map_iff.mp hL
  have ndJ : J.Nodup := (List.nodup_range (n := rows.length)).sublist (hJ.trans List.filter_sublist)
  generalize hU : (J.map fun j => living lost (rows.getD j [])).foldl uni [] = U
  have hsub : ∀ i ∈ J.map (fun (j : Nat) => (j : Int)), i ∈ U.flatMap (users rows.length g) := by
    intro i hi
    obtain ⟨j, hj, rfl⟩ := List.mem_map.mp hi
    obtain ⟨r, hr, hs⟩ := mem_atSeat.mp (hJ.subset hj)
    have hjl := (List.getElem?_eq_some_iff.mp hr).1
    obtain ⟨s, hs'⟩ := Option.isSome_iff_exists.mp (G.all j r hjl hr hs)
    obtain ⟨⟨j', r', e, hr', _, hsr, hsl⟩, _⟩ := G.ok _ _ hs'
    have e : j = j' := by omega
    subst e
    rw [hr] at hr'
    cases hr'
    refine List.mem_flatMap.mpr ⟨s, ?_, mem_users.mpr ⟨by omega, hs'⟩⟩
    rw [← hU, mem_unis]
    exact .inr ⟨_, List.mem_map_of_mem hj, mem_living.mpr ⟨by rw [getD_of hr]; exact hsr, hsl⟩⟩
  have nd2 : (J.map fun (j : Nat) => (j : Int)).Nodup := List.pairwise_map.mpr (ndJ.imp fun h e => h (by omega))
  have h1 := nd_len nd2 hsub
  have h2 := flat_len (U := U) (f := users rows.length g) (cap := cap) fun s _ => G.few s
  rw [List.length_map] at h1
  rw [List.length_map]
  omega
/-! ### the search -/
structure Find (rows : List (List Int)) (lost : List Int) (seat cap : Int) (g : Int → Option Int) (p : Int) (R : List Int) (seen : Int → Option Int) (S : List Int) (idx : Nat) : Prop where
  head : R[0]? = some p
  nd : R.Nodup
  at_ : ∀ i ∈ R, ∃ (j : Nat) (r : List Int), i = (j : Int) ∧ rows[j]? = some r ∧ seat ∈ r
  mem : ∀ i ∈ R, i = p ∨ ∃ s, g i = some s ∧ (seen s).isSome = true
  sn : ∀ s q, seen s = some q → Ok1 rows lost seat q s ∧ ∃ a, R[a]? = some q ∧ a < idx
  us : ∀ s q, seen s = some q → ∀ i, g i = some s → ∃ a b : Nat, R[a]? = some q ∧ R[b]? = some i ∧ a < b
  S1 : S.Nodup
  S2 : ∀ s, (seen s).isSome = true ↔ s ∈ S
  len : 1 + cap * (S.length : Int) ≤ (R.length : Int)
/-- all senders of the first pieces are seen -/
def Done (rows : List (List Int)) (lost : List Int) (R : List Int) (seen : Int → Option Int) (k : Nat) : Prop := ∀ (a : Nat) (q : Int) (r : List Int), a < k → R[a]? = some q → rows[q.toNat]? = some r → ∀ s ∈ r, s ∉ lost → (seen s).isSome = true
section
variable {rows : List (List Int)} {lost : List Int} {seat cap : Int} {g : Int → Option Int} {p : Int} {R : List Int} {seen : Int → Option Int} {S : List Int} {idx : Nat}
theorem Find.start {r : List Int} {j : Nat} (hp : p = (j : Int)) (hr : rows[j]? = some r) (hs : seat ∈ r) (hc : 0 ≤ cap) : Find rows lost seat cap g p [p] (fun _ => Option.none) [] 0 := by
  refine ⟨rfl, List.pairwise_singleton _ _, fun i hi => ?_, fun i hi => .inl (List.mem_singleton.mp hi), (fun s q h => nomatch h), (fun s q h => nomatch h), List.nodup_nil, fun s => by simp, by simp⟩
  rw [List.mem_singleton.mp hi]
  exact ⟨j, r, hp, hr, hs⟩
theorem Find.next (F : Find rows lost seat cap g p R seen S idx) : Find rows lost seat cap g p R seen S (idx + 1) :=
  ⟨F.head, F.nd, F.at_, F.mem, fun s q h => by obtain ⟨h1, a, h2, h3⟩ := F.sn s q h; exact ⟨h1, a, h2, by omega⟩, F.us, F.S1, F.S2, F.len⟩
/-- a full sender: its pieces are reached, too -/
theorem Find.grow (F : Find rows lost seat cap g p R seen S idx) (G : ∀ i s, g i = some s → Ok1 rows lost seat i s) (hp : g p = none) {cur s : Int} {a : Nat} (ha : R[a]? = some cur) (hai : a < idx) (ok : Ok1 rows lost seat cur s) (hn : seen s = none) {us : List Int}
    (und : us.Nodup) (um : ∀ i, i ∈ us ↔ g i = some s) (full : cap ≤ (us.length : Int)) : Find rows lost seat cap g p (R ++ us) (fun t => if t = s then some cur else seen t) (s :: S) idx := by
  have hRl : ∀ {b : Nat} {x : Int}, R[b]? = some x → (R ++ us)[b]? = some x := fun {b x} h => by rw [List.getElem?_append_left (List.getElem?_eq_some_iff.mp h).1]; exact h
  refine ⟨hRl F.head, ?_, fun i hi => ?_, fun i hi => ?_, fun t q h => ?_, fun t q h i hi => ?_, ?_, fun t => ?_, ?_⟩
  · rw [List.nodup_append]
    refine ⟨F.nd, und, fun x hx y hy e => ?_⟩
    subst e
    have hg := (um x).mp hy
    rcases F.mem x hx with e | ⟨t, ht, hts⟩
    · rw [e, hp] at hg; cases hg
    · rw [ht] at hg; cases hg
      rw [hn] at hts; cases hts
  · rcases List.mem_append.mp hi with hi | hi
    · exact F.at_ i hi
    · obtain ⟨j, r, e, hr, hs, _⟩ := G i s ((um i).mp hi)
      exact ⟨j, r, e, hr, hs⟩
  · rcases List.mem_append.mp hi with hi | hi
    · rcases F.mem i hi with e | ⟨t, ht, hts⟩
      · exact .inl e
      · refine .inr ⟨t, ht, ?_⟩
        (try dsimp only)
        split
        · rfl
        · exact hts
    · exact .inr ⟨s, (um i).mp hi, by (try dsimp only); rw [if_pos rfl]; rfl⟩
  · (try dsimp only at h)
    split at h
    · rename_i e
      cases h
      subst e
      exact ⟨ok, a, hRl ha, hai⟩
    · obtain ⟨h1, b, h2, h3⟩ := F.sn t q h
      exact ⟨h1, b, hRl h2, h3⟩
  · (try dsimp only at h)
    split at h
    · rename_i e
      cases h
      subst e
      obtain ⟨b, hb, e⟩ := List.mem_iff_getElem.mp ((um i).mpr hi)
      refine ⟨a, R.length + b, hRl ha, ?_, ?_⟩
      · rw [List.getElem?_append_right (by omega), Nat.add_sub_cancel_left, List.getElem?_eq_getElem hb, e]
      · have := (List.getElem?_eq_some_iff.mp ha).1; omega
    · obtain ⟨b, c, h1, h2, h3⟩ := F.us t q h i hi
      exact ⟨b, c, hRl h1, hRl h2, h3⟩
  · refine List.nodup_cons.mpr ⟨fun z => ?_, F.S1⟩
    have := (F.S2 s).mpr z
    rw [hn] at this
    cases this
  · (try dsimp only)
    rw [List.mem_cons]
    split
    · rename_i e; exact ⟨fun _ => .inl e, fun _ => rfl⟩
    · rename_i e; rw [F.S2]; exact ⟨.inr, fun h => h.resolve_left e⟩
  · have hl := F.len
    rw [List.length_append, List.length_cons]
    have : cap * ((S.length + 1 : Nat) : Int) = cap * (S.length : Int) + cap := by
      rw [Int.natCast_add, Int.mul_add]; simp
    rw [this]
    omega
/-- nothing more is reached: a lot that wants roads -/
theorem Find.stuck (F : Find rows lost seat cap g p R seen S idx) (hd : Done rows lost R seen R.length) (hc : 0 ≤ cap) (hup : ∀ r ∈ rows, r.Nodup) : ¬ Hall cap (seatRows rows lost seat) := by
  intro h
  let J := (atSeat rows seat).filter fun (j : Nat) => decide ((j : Int) ∈ R)
  have hJ : J.Sublist (atSeat rows seat) := List.filter_sublist
  have h1 := h (J.map fun j => living lost (rows.getD j [])) (by rw [seatRows_at]; exact hJ.map _)
  generalize hU : (J.map fun j => living lost (rows.getD j [])).foldl uni [] = U at h1
  have ndU : U.Nodup := by
    rw [← hU]
    refine unis_nd List.nodup_nil fun r hr => ?_
    obtain ⟨j, hj, rfl⟩ := List.mem_map.mp hr
    obtain ⟨r, hr, _⟩ := mem_atSeat.mp (hJ.subset hj)
    rw [getD_of hr]
    exact (hup r (List.mem_of_getElem? hr)).sublist List.filter_sublist
  have hUS : ∀ s ∈ U, s ∈ S := fun s hs => by
    rw [← hU, mem_unis] at hs
    rcases hs with hs | ⟨r, hr, hs⟩
    · cases hs
    · obtain ⟨j, hj, rfl⟩ := List.mem_map.mp hr
      obtain ⟨hs1, hs2⟩ := mem_living.mp hs
      obtain ⟨hjs, hjR⟩ := List.mem_filter.mp hj
      obtain ⟨r, hr, _⟩ := mem_atSeat.mp hjs
      rw [getD_of hr] at hs1
      obtain ⟨a, ha⟩ := List.mem_iff_getElem?.mp (by simpa using hjR : (j : Int) ∈ R)
      exact (F.S2 s).mp (hd a _ r (List.getElem?_eq_some_iff.mp ha).1 ha (by rw [Int.toNat_natCast]; exact hr) s hs1 hs2)
  have hUl := nd_len ndU hUS
  have hRl : R.length ≤ J.length := by
    have nd2 : (J.map fun (j : Nat) => (j : Int)).length = J.length := List.length_map ..
    rw [← nd2]
    refine nd_len F.nd fun i hi => ?_
    obtain ⟨j, r, rfl, hr, hs⟩ := F.at_ i hi
    exact List.mem_map.mpr ⟨j, List.mem_filter.mpr ⟨mem_atSeat.mpr ⟨r, hr, hs⟩, by simpa using hi⟩, rfl⟩
  rw [List.length_map] at h1
  have hl := F.len
  have : cap * (U.length : Int) ≤ cap * (S.length : Int) := Int.mul_le_mul_of_nonneg_left (by omega) hc
  omega
/-- the way back from a free road -/
structure Road (rows : List (List Int)) (lost : List Int) (seat cap : Int) (g : Int → Option Int) (p : Int) (seen : Int → Option Int) (s0 : Int) : Prop where
  first : (seen s0).isSome = true
  pos : ∃ pos : Int → Nat, ∀ s q, seen s = some q → q = p ∨ ∃ t q', g q = some t ∧ seen t = some q' ∧ pos q' < pos q
  ok : ∀ s q, seen s = some q → Ok1 rows lost seat q s
  free : ((users rows.length g s0).length : Int) < cap
theorem Find.road (F : Find rows lost seat cap g p R seen S idx) {cur s : Int} {a : Nat} (ha : R[a]? = some cur) (ok : Ok1 rows lost seat cur s) (hn : seen s = none) (free : ((users rows.length g s).length : Int) < cap) :
    Road rows lost seat cap g p (fun t => if t = s then some cur else seen t) s := by
  refine ⟨by (try dsimp only); rw [if_pos rfl]; rfl, ⟨fun i => R.idxOf i, fun t q h => ?_⟩, fun t q h => ?_, free⟩
  · have hq : q ∈ R := by
      (try dsimp only at h)
      split at h
      · cases h; exact List.mem_of_getElem? ha
      · obtain ⟨_, b, hb, _⟩ := F.sn t q h
        exact List.mem_of_getElem? hb
    rcases F.mem q hq with e | ⟨u, hu, hus⟩
    · exact .inl e
    · obtain ⟨q', hq'⟩ := Option.isSome_iff_exists.mp hus
      have hne : u ≠ s := fun e => by rw [e, hn] at hus; cases hus
      obtain ⟨b, c, h1, h2, h3⟩ := F.us u q' hq' q hu
      refine .inr ⟨u, q', hu, by (try dsimp only); rw [if_neg hne]; exact hq', ?_⟩
      have i1 : R.idxOf q' = b := by
        obtain ⟨hb, e⟩ := List.getElem?_eq_some_iff.mp h1
        rw [← e]
        exact F.nd.idxOf_getElem b hb
      have i2 : R.idxOf q = c := by
        obtain ⟨hb, e⟩ := List.getElem?_eq_some_iff.mp h2
        rw [← e]
        exact F.nd.idxOf_getElem c hb
      show R.idxOf q' < R.idxOf q
      rw [i1, i2]
      exact h3
  · (try dsimp only at h)
    split at h
    · rename_i e
      cases h
      rw [e]
      exact ok
    · exact (F.sn t q h).1
end
/-! ### the senders behind a way -/
def setG (c : Int → Option Int) (q f : Int) : Int → Option Int := fun i => if i = q then some f else c i
theorem count_set (c : Int → Option Int) (q f t : Int) : ∀ {l : List Int}, l.Nodup → q ∈ l →
    (l.filter fun i => decide (setG c q f i = some t)).length + (if c q = some t then 1 else 0) = (l.filter fun i => decide (c i = some t)).length + (if f = t then 1 else 0)
  | [], _, h => nomatch h
  | x :: l, nd, h => by
    have nd' := List.nodup_cons.mp nd
    by_cases e : x = q
    · subst e
      have hl : (l.filter fun i => decide (setG c x f i = some t)) = l.filter fun i => decide (c i = some t) := List.filter_congr fun i hi => by
        have : i ≠ x := fun e => nd'.1 (e ▸ hi)
        unfold setG
        rw [if_neg this]
      rw [List.filter_cons, List.filter_cons, hl]
      have e1 : setG c x f x = some f := if_pos rfl
      rw [e1]
      by_cases h1 : f = t
      · subst h1
        by_cases h2 : c x = some f
        · simp [h2]
        · simp [h2]
      · by_cases h2 : c x = some t
        · simp [h1, h2]
        · simp [h1, h2]
    · have hq : q ∈ l := by
        rcases List.mem_cons.mp h with e' | h
        · exact absurd e'.symm e
        · exact h
      have ih := count_set c q f t nd'.2 hq
      have e1 : setG c q f x = c x := if_neg e
      rw [List.filter_cons, List.filter_cons, e1]
      by_cases h2 : c x = some t
      · simp only [h2, decide_true, if_true, List.length_cons]; omega
      · simp only [h2, decide_false, if_false, Bool.false_eq_true]; exact ih
structure Back (rows : List (List Int)) (lost : List Int) (seat cap : Int) (g : Int → Option Int) (p : Int) (seen : Int → Option Int) (pos : Int → Nat) (c : Int → Option Int) (free : Option Int) : Prop where
  ok : ∀ i s, c i = some s → Ok1 rows lost seat i s ∧ (i = p ∨ (g i).isSome = true)
  dom : ∀ i, (g i).isSome = true → (c i).isSome = true
  last : free = none → (c p).isSome = true
  few : ∀ t, ((users rows.length c t).length : Int) + (if free = some t then 1 else 0) ≤ cap
  at_ : ∀ f, free = some f → ∃ q, seen f = some q ∧ ∀ i, pos i ≤ pos q → c i = g i
section
variable {rows : List (List Int)} {lost : List Int} {seat cap : Int} {g : Int → Option Int} {p : Int} {seen : Int → Option Int} {pos : Int → Nat} {c : Int → Option Int} {f q : Int}
theorem Back.step (B : Back rows lost seat cap g p seen pos c (some f)) (hg : ∀ i s, g i = some s → Ok1 rows lost seat i s) (hp : g p = none) (hpos : ∀ s q, seen s = some q → q = p ∨ ∃ t q', g q = some t ∧ seen t = some q' ∧ pos q' < pos q) (hok : ∀ s q, seen s = some q → Ok1 rows lost seat q s)
    (hq : seen f = some q) : Back rows lost seat cap g p seen pos (setG c q f) (g q) ∧ ∀ t q', g q = some t → seen t = some q' → pos q' < pos q := by
  obtain ⟨q1, hq1, hcg⟩ := B.at_ f rfl
  rw [hq] at hq1
  cases hq1
  have okq := hok f q hq
  have hql := okq.lt
  have hcq : c q = g q := hcg q (Nat.le_refl _)
  have hlt : ∀ t q', g q = some t → seen t = some q' → pos q' < pos q := fun t q' h1 h2 => by
    rcases hpos f q hq with e | ⟨t1, q1, h3, h4, h5⟩
    · rw [e, hp] at h1; cases h1
    · rw [h1] at h3; cases h3
      rw [h2] at h4; cases h4
      exact h5
  refine ⟨⟨fun i s h => ?_, fun i h => ?_, fun h => ?_, fun t => ?_, fun t ht => ?_⟩, hlt⟩
  · unfold setG at h
    split at h
    · rename_i e
      cases h
      subst e
      refine ⟨okq, ?_⟩
      rcases hpos f i hq with e | ⟨t1, q1, h3, _⟩
      · exact .inl e
      · exact .inr (by rw [h3]; rfl)
    · exact B.ok i s h
  · unfold setG
    split
    · rfl
    · exact B.dom i h
  · rcases hpos f q hq with e | ⟨t1, q1, h3, _⟩
    · subst e
      unfold setG
      rw [if_pos rfl]
      rfl
    · rw [h3] at h; cases h
  · have h1 := count_set c q f t (ntTo_nd rows.length) (mem_ntTo.mpr hql)
    have h2 := B.few t
    unfold users at h2 ⊢
    rw [hcq] at h1
    have e1 : (if some f = some t then (1 : Int) else 0) = ((if f = t then 1 else 0 : Nat) : Int) := by
      by_cases e : f = t
      · rw [if_pos (by rw [e]), if_pos e]; rfl
      · rw [if_neg (fun z => e (Option.some.inj z)), if_neg e]; rfl
    have e2 : (if g q = some t then (1 : Int) else 0) = ((if g q = some t then 1 else 0 : Nat) : Int) := by split <;> rfl
    rw [e1] at h2
    rw [e2]
    omega
  · rcases hpos f q hq with e | ⟨t1, q1, h3, h4, h5⟩
    · rw [e, hp] at ht; cases ht
    · rw [h3] at ht
      cases ht
      refine ⟨q1, h4, fun i hi => ?_⟩
      have : i ≠ q := fun e => by rw [e] at hi; omega
      unfold setG
      rw [if_neg this]
      exact hcg i (by omega)
theorem Back.start {s0 : Int} {k : Nat} (G : Given rows lost seat cap k g) (W : Road rows lost seat cap g p seen s0) : Back rows lost seat cap g p seen pos g (some s0) := by
  obtain ⟨q, hq⟩ := Option.isSome_iff_exists.mp W.first
  refine ⟨fun i s h => ⟨(G.ok i s h).1, .inr (by rw [h]; rfl)⟩, fun i h => h, (fun h => nomatch h), fun t => ?_, fun f hf => ?_⟩
  · by_cases e : s0 = t
    · subst e
      rw [if_pos rfl]
      have := W.free
      omega
    · rw [if_neg fun z => e (Option.some.inj z)]
      have := G.few t
      omega
  · cases hf
    exact ⟨q, hq, fun i _ => rfl⟩
theorem Back.done {k : Nat} (B : Back rows lost seat cap g p seen pos c none) (G : Given rows lost seat cap k g) (hp : p = (k : Int)) : Given rows lost seat cap (k + 1) c := by
  refine ⟨fun i s h => ?_, fun j r hj hr hs => ?_, fun t => ?_⟩
  · obtain ⟨h1, h2⟩ := B.ok i s h
    refine ⟨h1, ?_⟩
    rcases h2 with e | h2
    · omega
    · obtain ⟨t, ht⟩ := Option.isSome_iff_exists.mp h2
      have := (G.ok i t ht).2
      omega
  · by_cases e : j = k
    · rw [e, ← hp]; exact B.last rfl
    · exact B.dom _ (G.all j r (by omega) hr hs)
  · have := B.few t
    rw [if_neg (fun z => nomatch z)] at this
    omega
end
/-! ### losses -/
/-- all ascending lists of so many numbers below n -/
def lastLt (c : List Int) (i : Int) : Bool := match c.getLast? with
  | none => true
  | some x => decide (x < i)
theorem lastLt_iff {c : List Int} {i : Int} : lastLt c i = true ↔ ∀ x, c.getLast? = some x → x < i := by
  unfold lastLt
  cases h : c.getLast? with
  | none => simp
  | some x => simp
def ascStep (n : Nat) (l : List (List Int)) : List (List Int) := l.flatMap fun c => ((ntTo n).filter fun i => lastLt c i).map fun i => c ++ [i]
def ascL (n : Nat) : Nat → List (List Int)
  | 0 => [[]]
  | k + 1 => ascStep n (ascL n k)
theorem up_last {c : List Int} {i : Int} (h : c.Pairwise (· < ·)) (hl : ∀ x, c.getLast? = some x → x < i) : (c ++ [i]).Pairwise (· < ·) := by
  refine List.pairwise_append.mpr ⟨h, List.pairwise_singleton _ _, fun a ha b hb => ?_⟩
  rw [List.mem_singleton.mp hb]
  obtain ⟨l, z, rfl⟩ : ∃ l z, c = l ++ [z] := ⟨c.dropLast, c.getLast (List.ne_nil_of_mem ha), (List.dropLast_concat_getLast _).symm⟩
  have hz := hl z (by simp)
  rcases List.mem_append.mp ha with ha | ha
  · have := (List.pairwise_append.mp h).2.2 a ha z (by simp)
    omega
  · rw [List.mem_singleton.mp ha]; exact hz
theorem mem_ascL {n : Nat} : ∀ {k : Nat} {c : List Int}, c ∈ ascL n k ↔ c.Pairwise (· < ·) ∧ c.length = k ∧ ∀ x ∈ c, 0 ≤ x ∧ x < (n : Int)
  | 0, c => by
    constructor
    · intro h
      rw [List.mem_singleton.mp h]
      exact ⟨List.Pairwise.nil, rfl, (fun x h => nomatch h)⟩
    · rintro ⟨_, h, _⟩
      rw [List.length_eq_zero_iff.mp h]
      exact List.mem_singleton.mpr rfl
  | k + 1, c => by
    show c ∈ ascStep n (ascL n k) ↔ _
    unfold ascStep
    rw [List.mem_flatMap]
    constructor
    · rintro ⟨d, hd, hc⟩
      obtain ⟨i, hi, rfl⟩ := List.mem_map.mp hc
      obtain ⟨hi1, hi2⟩ := List.mem_filter.mp hi
      obtain ⟨h1, h2, h3⟩ := mem_ascL.mp hd
      have hi2 := lastLt_iff.mp hi2
      refine ⟨up_last h1 hi2, by rw [List.length_append, h2]; rfl, fun x hx => ?_⟩
      rcases List.mem_append.mp hx with hx | hx
      · exact h3 x hx
      · rw [List.mem_singleton.mp hx]; exact mem_ntTo.mp hi1
    · rintro ⟨h1, h2, h3⟩
      have hne : c ≠ [] := fun z => by rw [z] at h2; cases h2
      have e := List.dropLast_concat_getLast hne
      rw [← e] at h1 h3
      have h1' := List.pairwise_append.mp h1
      refine ⟨c.dropLast, mem_ascL.mpr ⟨h1'.1, by rw [List.length_dropLast, h2]; rfl, fun x hx => h3 x (by simp [hx])⟩, List.mem_map.mpr ⟨c.getLast hne, List.mem_filter.mpr ⟨mem_ntTo.mpr (h3 _ (by simp)), ?_⟩, e⟩⟩
      exact lastLt_iff.mpr fun x hx => h1'.2.2 x (List.mem_of_getLast? hx) _ (by simp)
/-- lasting: every loss of so many seats is brought back -/
def Lasts (cap : Int) (rows : List (List Int)) (n k : Nat) : Prop := ∀ lost ∈ ascL n (min k n), CB cap rows lost
structure RowsOk (rows : List (List Int)) (n : Nat) : Prop where
  up : ∀ r ∈ rows, r.Pairwise (· < ·)
  ne : ∀ r ∈ rows, r ≠ []
  lt : ∀ r ∈ rows, ∀ x ∈ r, 0 ≤ x ∧ x < (n : Int)
def within (r S : List Int) : Prop := ∀ x ∈ r, x ∈ S
instance (r S : List Int) : Decidable (within r S) := inferInstanceAs (Decidable (∀ x ∈ r, x ∈ S))
def inside (rows : List (List Int)) (seat : Int) (others : List Int) : List (List Int) := rows.filter fun r => decide (seat ∈ r ∧ within r (others ++ [seat]))
def maxZ (a b : Int) : Int := if b > a then b else a
def Fault (cap : Int) (rows : List (List Int)) (k : Nat) (seat : Int) (others : List Int) : Prop := cap * maxZ 0 ((others.length : Int) - (k : Int) + 1) < ((inside rows seat others).length : Int)
theorem cb_mem {cap : Int} {rows : List (List Int)} {l m : List Int} (h : ∀ x, x ∈ l ↔ x ∈ m) (hc : CB cap rows l) : CB cap rows m := by
  have e : living l = living m := by
    funext r
    unfold living
    refine List.filter_congr fun x _ => ?_
    simp only [h x]
  refine ⟨fun r hr => by rw [← e]; exact hc.1 r hr, fun s hs => ?_⟩
  have := hc.2 s ((h s).mpr hs)
  unfold seatRows at this ⊢
  rw [← e]
  exact this
theorem maxZ_le {a b c : Int} (h1 : a ≤ c) (h2 : b ≤ c) : maxZ a b ≤ c := by unfold maxZ; split <;> omega
theorem le_maxZ {a b : Int} : a ≤ maxZ a b ∧ b ≤ maxZ a b := by unfold maxZ; split <;> omega
/-- a fault is felt behind the loss of the seat and of one seat less of the others than may be lost -/
theorem fault_cut {cap : Int} {rows : List (List Int)} {n k : Nat} {seat : Int} {others : List Int} (hr : RowsOk rows n) (hc : 0 ≤ cap) (hk : 1 ≤ k) (hnd : others.Nodup) (hs : seat ∉ others) (f : Fault cap rows k seat others) : ¬ CB cap rows (seat :: others.take (k - 1)) := by
  intro h
  have hh := h.2 seat (by simp)
  have hsub : ((inside rows seat others).map (living (seat :: others.take (k - 1)))).Sublist (seatRows rows (seat :: others.take (k - 1)) seat) := by
    unfold seatRows inside
    refine List.Sublist.map _ ?_
    have : rows.filter (fun r => decide (seat ∈ r ∧ within r (others ++ [seat]))) = (rows.filter fun r => decide (seat ∈ r)).filter fun r => decide (within r (others ++ [seat])) := by
      rw [List.filter_filter]
      refine List.filter_congr fun r _ => ?_
      by_cases h1 : seat ∈ r <;> by_cases h2 : within r (others ++ [seat]) <;> simp [h1, h2]
    rw [this]
    exact List.filter_sublist
  have h1 := hh _ hsub
  rw [List.length_map] at h1
  generalize hU : ((inside rows seat others).map (living (seat :: others.take (k - 1)))).foldl uni [] = U at h1
  have ndU : U.Nodup := by
    rw [← hU]
    refine unis_nd List.nodup_nil fun r hr' => ?_
    obtain ⟨x, hx, rfl⟩ := List.mem_map.mp hr'
    exact (up_nd (hr.up x (List.mem_filter.mp hx).1)).sublist List.filter_sublist
  have hUd : ∀ s ∈ U, s ∈ others.drop (k - 1) := fun s hs' => by
    rw [← hU, mem_unis] at hs'
    rcases hs' with hs' | ⟨r, hr', hs'⟩
    · cases hs'
    · obtain ⟨x, hx, rfl⟩ := List.mem_map.mp hr'
      obtain ⟨h2, h3⟩ := mem_living.mp hs'
      have hw := (of_decide_eq_true (List.mem_filter.mp hx).2).2 s h2
      rw [List.mem_cons, not_or] at h3
      rcases List.mem_append.mp hw with hw | hw
      · rw [← List.take_append_drop (k - 1) others] at hw
        exact (List.mem_append.mp hw).resolve_left h3.2
      · exact absurd (List.mem_singleton.mp hw) h3.1
  have hUl := nd_len ndU hUd
  rw [List.length_drop] at hUl
  have hm : (U.length : Int) ≤ maxZ 0 ((others.length : Int) - (k : Int) + 1) := by
    have := le_maxZ (a := 0) (b := (others.length : Int) - (k : Int) + 1)
    omega
  have : cap * (U.length : Int) ≤ cap * maxZ 0 ((others.length : Int) - (k : Int) + 1) := Int.mul_le_mul_of_nonneg_left hm hc
  unfold Fault at f
  omega
/-- a set of seats within n, made as long as wanted -/
theorem more_lost {n m : Nat} {D : List Int} (nd : D.Nodup) (lt : ∀ x ∈ D, 0 ≤ x ∧ x < (n : Int)) (h1 : D.length ≤ m) (h2 : m ≤ n) : ∃ E ∈ ascL n m, ∀ x ∈ D, x ∈ E := by
  have key : ∀ j, D.length + j ≤ n → ∃ E : List Int, E.Nodup ∧ E.length = D.length + j ∧ (∀ x ∈ E, 0 ≤ x ∧ x < (n : Int)) ∧ ∀ x ∈ D, x ∈ E := by
    intro j
    induction j with
    | zero => intro _; exact ⟨D, nd, rfl, lt, fun x h => h⟩
    | succ j ih =>
      intro hj
      obtain ⟨E, e1, e2, e3, e4⟩ := ih (by omega)
      by_cases c : ∀ x ∈ ntTo n, x ∈ E
      · have := nd_len (ntTo_nd n) c
        rw [ntTo_len] at this
        omega
      · have ⟨y, hy⟩ := Classical.not_forall.mp c
        have hy1 : y ∈ ntTo n := Classical.byContradiction fun z => hy fun h => absurd h z
        have hy2 : y ∉ E := fun z => hy fun _ => z
        refine ⟨y :: E, List.nodup_cons.mpr ⟨hy2, e1⟩, by rw [List.length_cons, e2]; omega, fun x hx => ?_, fun x hx => by simp [e4 x hx]⟩
        rcases List.mem_cons.mp hx with rfl | hx
        · exact mem_ntTo.mp hy1
        · exact e3 x hx
  obtain ⟨E, e1, e2, e3, e4⟩ := key (m - D.length) (by omega)
  let E' := (ntTo n).filter fun x => decide (x ∈ E)
  have up : E'.Pairwise (· < ·) := (ntTo_up n).sublist List.filter_sublist
  have hm : ∀ x, x ∈ E' ↔ x ∈ E := fun x => by
    show x ∈ (ntTo n).filter _ ↔ _
    rw [List.mem_filter, mem_ntTo]
    exact ⟨fun h => by simpa using h.2, fun h => ⟨e3 x h, by simpa using h⟩⟩
  refine ⟨E', mem_ascL.mpr ⟨up, ?_, fun x hx => e3 x ((hm x).mp hx)⟩, fun x hx => (hm x).mpr (e4 x hx)⟩
  rw [nd_same (up_nd up) e1 hm, e2]
  omega
theorem living_nil {lost r : List Int} (h : ∀ x ∈ r, x ∈ lost) : living lost r = [] := by
  unfold living
  rw [List.filter_eq_nil_iff]
  intro x hx
  simp [h x hx]
theorem nil_living {lost r : List Int} (h : living lost r = []) : ∀ x ∈ r, x ∈ lost := fun x hx => by
  unfold living at h
  rw [List.filter_eq_nil_iff] at h
  simpa using h x hx
theorem fault_lasts {cap : Int} {rows : List (List Int)} {n k : Nat} {seat : Int} {others : List Int} (hr : RowsOk rows n) (hc : 0 ≤ cap) (hk : 1 ≤ k) (hnd : others.Nodup) (hs : seat ∉ others) (hsn : 0 ≤ seat ∧ seat < (n : Int)) (hon : ∀ x ∈ others, 0 ≤ x ∧ x < (n : Int))
    (f : Fault cap rows k seat others) : ¬ Lasts cap rows n k := by
  intro h
  have hcut := fault_cut hr hc hk hnd hs f
  have ndD : (seat :: others.take (k - 1)).Nodup := List.nodup_cons.mpr ⟨fun z => hs (List.mem_of_mem_take z), hnd.sublist (List.take_sublist _ _)⟩
  have ltD : ∀ x ∈ seat :: others.take (k - 1), 0 ≤ x ∧ x < (n : Int) := fun x hx => by
    rcases List.mem_cons.mp hx with rfl | hx
    · exact hsn
    · exact hon x (List.mem_of_mem_take hx)
  have hol : (seat :: others).length ≤ n := by
    have := nd_len (m := ntTo n) (List.nodup_cons.mpr ⟨hs, hnd⟩) fun x hx => mem_ntTo.mpr (by
      rcases List.mem_cons.mp hx with rfl | hx
      · exact hsn
      · exact hon x hx)
    rwa [ntTo_len] at this
  rw [List.length_cons] at hol
  have hlD : (seat :: others.take (k - 1)).length = min (k - 1) others.length + 1 := by rw [List.length_cons, List.length_take]
  obtain ⟨E, hE, hDE⟩ := more_lost (m := min k n) ndD ltD (by rw [hlD]; omega) (Nat.min_le_right _ _)
  have hcb := h E hE
  obtain ⟨up, hEl, _⟩ := mem_ascL.mp hE
  by_cases c : k - 1 ≤ others.length
  · -- nothing was added
    refine hcut (cb_mem (fun x => ⟨fun hx => ?_, hDE x⟩) hcb)
    refine Classical.byContradiction fun hx' => ?_
    have := nd_len (l := x :: seat :: others.take (k - 1)) (m := E) (List.nodup_cons.mpr ⟨hx', ndD⟩) fun y hy => by
      rcases List.mem_cons.mp hy with rfl | hy
      · exact hx
      · exact hDE y hy
    rw [List.length_cons, hlD, hEl] at this
    omega
  · -- a piece without a living holder
    have ht : others.take (k - 1) = others := List.take_of_length_le (by omega)
    have hpos : 0 < (inside rows seat others).length := by
      unfold Fault at f
      have e : maxZ 0 ((others.length : Int) - (k : Int) + 1) = 0 := by unfold maxZ; rw [if_neg (by omega)]
      rw [e, Int.mul_zero] at f
      omega
    obtain ⟨r, hr'⟩ := List.exists_mem_of_length_pos hpos
    obtain ⟨h1, h2⟩ := List.mem_filter.mp hr'
    have hw := (of_decide_eq_true h2).2
    refine hcb.1 r h1 (living_nil fun x hx => hDE x ?_)
    rw [ht]
    rcases List.mem_append.mp (hw x hx) with hw | hw
    · exact List.mem_cons_of_mem _ hw
    · rw [List.mem_singleton.mp hw]; simp
theorem inside_of {rows : List (List Int)} {lost : List Int} {s : Int} {L : List (List Int)} (hL : L.Sublist (seatRows rows lost s)) {others : List Int} (ho : ∀ x, x ∈ lost ∨ x ∈ L.foldl uni [] → x = s ∨ x ∈ others) : L.length ≤ (inside rows s others).length := by
  unfold seatRows at hL
  obtain ⟨l', hl', rfl⟩ := List.sublist_map_iff.mp hL
  rw [List.length_map]
  have : l'.Sublist (inside rows s others) := by
    have h1 : (l'.filter fun r => decide (within r (others ++ [s]))).Sublist ((rows.filter fun r => decide (s ∈ r)).filter fun r => decide (within r (others ++ [s]))) := hl'.filter _
    have h2 : l'.filter (fun r => decide (within r (others ++ [s]))) = l' := by
      rw [List.filter_eq_self]
      intro r hr
      refine decide_eq_true fun x hx => ?_
      have : x ∈ lost ∨ x ∈ (l'.map (living lost)).foldl uni [] := by
        by_cases c : x ∈ lost
        · exact .inl c
        · exact .inr (mem_unis.mpr (.inr ⟨_, List.mem_map_of_mem hr, mem_living.mpr ⟨hx, c⟩⟩))
      rw [List.mem_append, List.mem_singleton]
      exact (ho x this).symm
    have h3 : (rows.filter fun r => decide (s ∈ r)).filter (fun r => decide (within r (others ++ [s]))) = inside rows s others := by
      unfold inside
      rw [List.filter_filter]
      refine List.filter_congr fun r _ => ?_
      by_cases h1 : s ∈ r <;> by_cases h2 : within r (others ++ [s]) <;> simp [h1, h2]
    rw [h2, h3] at h1
    exact h1
  exact this.length_le
theorem lasts_fault {cap : Int} {rows : List (List Int)} {n k : Nat} (hr : RowsOk rows n) (hc : 0 ≤ cap) (hk : 1 ≤ k) (h : ¬ Lasts cap rows n k) : ∃ seat others, (0 ≤ seat ∧ seat < (n : Int)) ∧ others.Sublist ((ntTo n).filter fun x => decide (x ≠ seat)) ∧ Fault cap rows k seat others := by
  have ⟨lost, h1⟩ := Classical.not_forall.mp h
  have hl : lost ∈ ascL n (min k n) := Classical.byContradiction fun z => h1 fun h => absurd h z
  have hcb : ¬ CB cap rows lost := fun z => h1 fun _ => z
  obtain ⟨up, hll, hlt⟩ := mem_ascL.mp hl
  have ndl := up_nd up
  have subO : ∀ (s : Int) (P : Int → Bool), ((ntTo n).filter fun x => decide (x ≠ s) && P x).Sublist ((ntTo n).filter fun x => decide (x ≠ s)) := fun s P => by
    have : (ntTo n).filter (fun x => decide (x ≠ s) && P x) = ((ntTo n).filter fun x => decide (x ≠ s)).filter P := by
      rw [List.filter_filter]
      refine List.filter_congr fun x _ => Bool.and_comm _ _
    rw [this]
    exact List.filter_sublist
  have hlo : ∀ s ∈ lost, ((lost.filter fun x => decide (x ≠ s)).length : Int) = (lost.length : Int) - 1 := fun s hs => by
    have e := List.Nodup.erase_eq_filter ndl s
    have h1 := List.length_erase_of_mem hs
    have h2 : (lost.filter fun x => decide (x ≠ s)).length = (lost.erase s).length := by
      rw [e]
      congr 1
      refine List.filter_congr fun x _ => ?_
      by_cases c : x = s <;> simp [c]
    have := List.length_pos_of_mem hs
    omega
  by_cases c1 : ∃ r ∈ rows, living lost r = []
  · obtain ⟨r, hrr, hl0⟩ := c1
    have hin := nil_living hl0
    obtain ⟨s, hs⟩ := List.exists_mem_of_ne_nil _ (hr.ne r hrr)
    have hsl := hin s hs
    refine ⟨s, _, hlt s hsl, subO s fun x => decide (x ∈ lost), ?_⟩
    have hol : (((ntTo n).filter fun x => decide (x ≠ s) && decide (x ∈ lost)).length : Int) ≤ (lost.length : Int) - 1 := by
      rw [← hlo s hsl]
      have := nd_len (l := (ntTo n).filter fun x => decide (x ≠ s) && decide (x ∈ lost)) (m := lost.filter fun x => decide (x ≠ s)) ((ntTo_nd n).sublist List.filter_sublist) fun x hx => by
        have h2 := (List.mem_filter.mp hx).2
        rw [Bool.and_eq_true] at h2
        exact List.mem_filter.mpr ⟨of_decide_eq_true h2.2, h2.1⟩
      omega
    unfold Fault
    have e : maxZ 0 ((((ntTo n).filter fun x => decide (x ≠ s) && decide (x ∈ lost)).length : Int) - (k : Int) + 1) = 0 := by
      unfold maxZ
      rw [if_neg (by omega)]
    rw [e, Int.mul_zero]
    have : r ∈ inside rows s ((ntTo n).filter fun x => decide (x ≠ s) && decide (x ∈ lost)) := List.mem_filter.mpr ⟨hrr, decide_eq_true ⟨hs, fun x hx => by
      rw [List.mem_append, List.mem_singleton, List.mem_filter]
      by_cases c : x = s
      · exact .inr c
      · exact .inl ⟨mem_ntTo.mpr (hr.lt r hrr x hx), by simp [c, hin x hx]⟩⟩⟩
    have := List.length_pos_of_mem this
    omega
  · have c2 : ∃ s ∈ lost, ¬ Hall cap (seatRows rows lost s) := Classical.byContradiction fun z => hcb ⟨fun r hr' hl0 => c1 ⟨r, hr', hl0⟩, fun s hs => Classical.byContradiction fun y => z ⟨s, hs, y⟩⟩
    obtain ⟨s, hsl, hh⟩ := c2
    have ⟨L, h2⟩ := Classical.not_forall.mp hh
    have hL : L.Sublist (seatRows rows lost s) := Classical.byContradiction fun z => h2 fun h => absurd h z
    have hlen : cap * ((L.foldl uni []).length : Int) < (L.length : Int) := Int.not_le.mp fun z => h2 fun _ => z
    generalize hU : L.foldl uni [] = U at hlen
    have hUn : ∀ x ∈ U, 0 ≤ x ∧ x < (n : Int) := fun x hx => by
      rw [← hU, mem_unis] at hx
      rcases hx with hx | ⟨r, hr', hx⟩
      · cases hx
      · obtain ⟨r0, hr0, rfl⟩ := List.mem_map.mp (hL.subset hr')
        exact hr.lt r0 (List.mem_filter.mp hr0).1 x (mem_living.mp hx).1
    refine ⟨s, _, hlt s hsl, subO s fun x => decide (x ∈ lost ∨ x ∈ U), ?_⟩
    have hol : (((ntTo n).filter fun x => decide (x ≠ s) && decide (x ∈ lost ∨ x ∈ U)).length : Int) ≤ (lost.length : Int) - 1 + (U.length : Int) := by
      rw [← hlo s hsl]
      have := nd_len (l := (ntTo n).filter fun x => decide (x ≠ s) && decide (x ∈ lost ∨ x ∈ U)) (m := (lost.filter fun x => decide (x ≠ s)) ++ U) ((ntTo_nd n).sublist List.filter_sublist) fun x hx => by
        have h3 := (List.mem_filter.mp hx).2
        rw [Bool.and_eq_true] at h3
        rw [List.mem_append]
        rcases of_decide_eq_true h3.2 with h4 | h4
        · exact .inl (List.mem_filter.mpr ⟨h4, h3.1⟩)
        · exact .inr h4
      rw [List.length_append] at this
      omega
    have hin := inside_of hL (others := (ntTo n).filter fun x => decide (x ≠ s) && decide (x ∈ lost ∨ x ∈ U)) fun x hx => by
      by_cases c : x = s
      · exact .inl c
      · rw [hU] at hx
        refine .inr (List.mem_filter.mpr ⟨mem_ntTo.mpr ?_, by simp [c, hx]⟩)
        rcases hx with hx | hx
        · exact hlt x hx
        · exact hUn x hx
    unfold Fault
    have : cap * maxZ 0 ((((ntTo n).filter fun x => decide (x ≠ s) && decide (x ∈ lost ∨ x ∈ U)).length : Int) - (k : Int) + 1) ≤ cap * (U.length : Int) := Int.mul_le_mul_of_nonneg_left (maxZ_le (by omega) (by omega)) hc
    omega
/-! ### the told number of pieces -/
theorem sum_seats {n : Nat} : ∀ {rows : List (List Int)}, RowsOk rows n → ((ntTo n).map fun s => (rows.filter fun r => decide (s ∈ r)).length).sum = (rows.map (·.length)).sum
  | [], _ => by
    show ((ntTo n).map fun _ => 0).sum = 0
    induction ntTo n with
    | nil => rfl
    | cons a l ih => simp [ih]
  | r :: rows, h => by
    have ih := sum_seats (rows := rows) ⟨fun x hx => h.up x (by simp [hx]), fun x hx => h.ne x (by simp [hx]), fun x hx => h.lt x (by simp [hx])⟩
    have e1 : (fun s => ((r :: rows).filter fun r => decide (s ∈ r)).length) = fun s => (if s ∈ r then 1 else 0) + (rows.filter fun r => decide (s ∈ r)).length := by
      funext s
      rw [List.filter_cons]
      by_cases c : s ∈ r <;> simp [c, Nat.add_comm]
    rw [e1, List.map_cons, List.sum_cons, ← ih]
    have key : ∀ (l : List Int) (f g : Int → Nat), (l.map fun s => f s + g s).sum = (l.map f).sum + (l.map g).sum := by
      intro l f g
      induction l with
      | nil => rfl
      | cons a l ih => simp only [List.map_cons, List.sum_cons, ih]; omega
    rw [key]
    congr 1
    have e2 : ∀ l : List Int, (l.map fun s => if s ∈ r then 1 else 0).sum = (l.filter fun s => decide (s ∈ r)).length := by
      intro l
      induction l with
      | nil => rfl
      | cons a l ih =>
        rw [List.map_cons, List.sum_cons, ih, List.filter_cons]
        by_cases c : a ∈ r <;> simp [c, Nat.add_comm]
    rw [e2]
    refine nd_same ((ntTo_nd n).sublist List.filter_sublist) (up_nd (h.up r (by simp))) fun x => ?_
    rw [List.mem_filter, mem_ntTo]
    exact ⟨fun z => by simpa using z.2, fun z => ⟨h.lt r (by simp) x z, by simpa using z⟩⟩
theorem sum_le_mul {α : Type} {l : List α} {f : α → Nat} {c : Int} (h : ∀ x ∈ l, (f x : Int) ≤ c) : (((l.map f).sum : Nat) : Int) ≤ c * (l.length : Int) := by
  induction l with
  | nil => simp
  | cons a l ih =>
    have h1 := h a (by simp)
    have h2 := ih fun x hx => h x (by simp [hx])
    rw [List.map_cons, List.sum_cons, List.length_cons]
    have : c * ((l.length + 1 : Nat) : Int) = c * (l.length : Int) + c := by rw [Int.natCast_add, Int.mul_add]; simp
    rw [this]
    omega
theorem mul_le_sum {α : Type} {l : List α} {f : α → Nat} {c : Nat} (h : ∀ x ∈ l, c ≤ f x) : l.length * c ≤ (l.map f).sum := by
  induction l with
  | nil => simp
  | cons a l ih =>
    have h1 := h a (by simp)
    have h2 := ih fun x hx => h x (by simp [hx])
    rw [List.map_cons, List.sum_cons, List.length_cons, Nat.add_mul]
    omega
theorem lasts_few {cap : Int} {rows : List (List Int)} {n k : Nat} (hr : RowsOk rows n) (hc : 0 ≤ cap) (hk : 1 ≤ k) (hn : k < n) (h : Lasts cap rows n k) : (rows.length : Int) * ((k : Int) + 1) ≤ cap * (n : Int) * ((n : Int) - (k : Int)) := by
  have hmin : min k n = k := by omega
  have h1 : ∀ r ∈ rows, k + 1 ≤ r.length := fun r hr' => by
    refine Classical.byContradiction fun z => ?_
    obtain ⟨E, hE, hrE⟩ := more_lost (n := n) (m := k) (up_nd (hr.up r hr')) (hr.lt r hr') (by omega) (by omega)
    exact (h E (by rw [hmin]; exact hE)).1 r hr' (living_nil hrE)
  have h2 : ∀ s ∈ ntTo n, (((rows.filter fun r => decide (s ∈ r)).length : Nat) : Int) ≤ cap * ((n : Int) - (k : Int)) := fun s hs => by
    have hsn := mem_ntTo.mp hs
    refine Int.not_lt.mp fun z => fault_lasts (seat := s) (others := (ntTo n).filter fun x => decide (x ≠ s)) hr hc hk ((ntTo_nd n).sublist List.filter_sublist) (fun y => by simpa using (List.mem_filter.mp y).2) hsn (fun x hx => mem_ntTo.mp (List.mem_filter.mp hx).1) ?_ h
    unfold Fault
    have e : inside rows s ((ntTo n).filter fun x => decide (x ≠ s)) = rows.filter fun r => decide (s ∈ r) := by
      unfold inside
      refine List.filter_congr fun r hr' => ?_
      by_cases c : s ∈ r
      · have : within r ((ntTo n).filter (fun x => decide (x ≠ s)) ++ [s]) := fun x hx => by
          rw [List.mem_append, List.mem_singleton, List.mem_filter]
          by_cases c : x = s
          · exact .inr c
          · exact .inl ⟨mem_ntTo.mpr (hr.lt r hr' x hx), by simp [c]⟩
        rw [decide_eq_true (show s ∈ r ∧ within r _ from ⟨c, this⟩), decide_eq_true c]
      · rw [decide_eq_false (fun z : s ∈ r ∧ within r _ => c z.1), decide_eq_false c]
    rw [e]
    have hl : ((ntTo n).filter fun x => decide (x ≠ s)).length = n - 1 := by
      have e := List.Nodup.erase_eq_filter (ntTo_nd n) s
      have h1 := List.length_erase_of_mem hs
      rw [ntTo_len] at h1
      rw [← h1, e]
      congr 1
      refine List.filter_congr fun x _ => ?_
      by_cases c : x = s <;> simp [c]
    rw [hl]
    have e2 : maxZ 0 (((n - 1 : Nat) : Int) - (k : Int) + 1) = (n : Int) - (k : Int) := by unfold maxZ; rw [if_pos (by omega)]; omega
    rw [e2]
    exact z
  have h3 := sum_seats hr
  have h4 := sum_le_mul h2
  have h5 := mul_le_sum h1
  rw [h3, ntTo_len] at h4
  have h6 : ((rows.length * (k + 1) : Nat) : Int) ≤ cap * ((n : Int) - (k : Int)) * (n : Int) := Int.le_trans (Int.ofNat_le.mpr h5) h4
  rw [Int.natCast_mul] at h6
  have e : cap * (n : Int) * ((n : Int) - (k : Int)) = cap * ((n : Int) - (k : Int)) * (n : Int) := by rw [Int.mul_assoc, Int.mul_comm (n : Int), ← Int.mul_assoc]
  rw [e]
  exact h6
/-! ### all tuples -/
def subsL (items : List Int) : List (List Int) := items.foldl (fun found i => found ++ found.map fun c => c ++ [i]) [[]]
theorem subsL_snoc (l : List Int) (i : Int) : subsL (l ++ [i]) = subsL l ++ (subsL l).map fun c => c ++ [i] := by unfold subsL; rw [List.foldl_append]; rfl
theorem mem_subsL : ∀ (items c : List Int), c ∈ subsL items ↔ c.Sublist items := by
  refine snoc_ind (fun c => ?_) (fun l i ih c => ?_)
  · constructor
    · intro h
      rw [List.mem_singleton.mp h]
      exact List.Sublist.refl _
    · intro h
      rw [List.sublist_nil.mp h]
      exact List.mem_singleton.mpr rfl
  · rw [subsL_snoc, List.mem_append, List.mem_map]
    constructor
    · rintro (h | ⟨d, h, rfl⟩)
      · exact ((ih c).mp h).trans (List.sublist_append_left _ _)
      · exact List.Sublist.append ((ih d).mp h) (List.Sublist.refl _)
    · intro h
      obtain ⟨l1, l2, rfl, h1, h2⟩ := List.sublist_append_iff.mp h
      rcases sub_one h2 with rfl | rfl
      · rw [List.append_nil]; exact .inl ((ih _).mpr h1)
      · exact .inr ⟨l1, (ih _).mpr h1, rfl⟩
theorem subsL_len : ∀ l : List Int, (subsL l).length = 2 ^ l.length := by
  refine snoc_ind rfl fun l i ih => ?_
  rw [subsL_snoc, List.length_append, List.length_map, ih, List.length_append, List.length_singleton, Nat.pow_succ]
  omega
theorem inside_two (rows : List (List Int)) (seat : Int) (others : List Int) : inside rows seat others = (rows.filter fun r => decide (seat ∈ r)).filter fun r => decide (within r (others ++ [seat])) := by
  unfold inside
  rw [List.filter_filter]
  refine List.filter_congr fun r _ => ?_
  by_cases h1 : seat ∈ r <;> by_cases h2 : within r (others ++ [seat]) <;> simp [h1, h2]
end Nt

set_option Elab.async false
set_option linter.all false
set_option maxRecDepth 100000
set_option maxHeartbeats 8000000
namespace Q
open PySem PySem.Spec PyProof.Rows L2 PW Nt
def top (i : Nat) : Stmt := PySem.Challenge.pw_pairwarden_k73_counts_and_trials.main.body.getD i (.Pass ⟨0, 0, 0, 0⟩)
abbrev s_L_draws : Stmt := top 25
abbrev s_L_bits : Stmt := top 26
abbrev s_L_rows : Stmt := top 28
abbrev s_L_holders : Stmt := top 29
abbrev s_L_losses : Stmt := top 30
abbrev s_Net_level : Stmt := inClass (top 22) 1
abbrev s_L_comes_back : Stmt := top 31
abbrev s_L_lasts : Stmt := top 32
abbrev s_are_roads : Stmt := top 21
abbrev s_has_twice : Stmt := top 6
abbrev s_are_below : Stmt := top 7
abbrev s_clean_holders : Stmt := top 10
abbrev s_Net_init : Stmt := inClass (top 22) 0
abbrev s_is_rising : Stmt := top 5
abbrev s_check_choice : Stmt := top 12
abbrev s_lists_of : Stmt := top 9
abbrev s_find_road : Stmt := top 13
abbrev s_with_road : Stmt := top 14
abbrev s_senders_for : Stmt := top 15
abbrev s_give_back : Stmt := top 16
abbrev s_is_lasting : Stmt := top 17
abbrev s_tuples_of : Stmt := top 8
abbrev s_is_within : Stmt := top 18
abbrev s_count_fault : Stmt := top 19
abbrev s_L_is_integer : Stmt := top 27
abbrev s_L_is_fault : Stmt := top 33
abbrev s_L_judged : Stmt := top 34
abbrev s_L_cell : Stmt := top 24
abbrev s_law : Stmt := top 35
theorem sc_L_draws : FnScope ["_law_cell_here", "_law_sizes", "_law_left", "_law_digits", "_law_drawn", "_law_k", "_law_size", "_law_mixed"] ["_law_cell_here", "_law_sizes"] (defScope s_L_draws) := ⟨rfl, rfl, rfl, by decide +kernel, rfl, by decide +kernel, by decide +kernel⟩
theorem sc_L_bits : FnScope ["_law_mask", "_law_count", "_law_k"] ["_law_mask", "_law_count"] (defScope s_L_bits) := ⟨rfl, rfl, rfl, by decide +kernel, rfl, by decide +kernel, by decide +kernel⟩
theorem sc_L_rows : FnScope ["_law_seats", "_law_count", "_law_cell_here", "_law_drawn", "_law_rows_here", "_law_k", "_law_first", "_law_row", "_law_second", "_law_j"] ["_law_seats", "_law_count", "_law_cell_here"] (defScope s_L_rows) := ⟨rfl, rfl, rfl, by decide +kernel, rfl, by decide +kernel, by decide +kernel⟩
theorem sc_L_holders : FnScope ["_law_rows_here", "_law_seats", "_law_cell_here", "_law_drawn", "_law_holders_here", "_law_k", "_law_more", "_law_j"] ["_law_rows_here", "_law_seats", "_law_cell_here"] (defScope s_L_holders) := ⟨rfl, rfl, rfl, by decide +kernel, rfl, by decide +kernel, by decide +kernel⟩
theorem sc_L_losses : FnScope ["_law_seats", "_law_size", "_law_layer", "_law_k", "_law_grown", "_law_row", "_law_j"] ["_law_seats", "_law_size"] (defScope s_L_losses) := ⟨rfl, rfl, rfl, by decide +kernel, rfl, by decide +kernel, by decide +kernel⟩
theorem sc_Net_level : FnScope ["cls", "seats", "cap", "holders", "sender"] ["cls", "seats", "cap", "holders"] (defScope s_Net_level) := ⟨rfl, rfl, rfl, by decide +kernel, rfl, by decide +kernel, by decide +kernel⟩
theorem sc_L_comes_back : FnScope ["_law_rows_here", "_law_cap", "_law_lost", "_law_seat", "_law_lots", "_law_row", "_law_living", "_law_grown", "_law_lot", "_law_j"] ["_law_rows_here", "_law_cap", "_law_lost"] (defScope s_L_comes_back) := ⟨rfl, rfl, rfl, by decide +kernel, rfl, by decide +kernel, by decide +kernel⟩
theorem sc_L_lasts : FnScope ["_law_rows_here", "_law_cap", "_law_seats", "_law_at_once", "_law_lost"] ["_law_rows_here", "_law_cap", "_law_seats", "_law_at_once"] (defScope s_L_lasts) := ⟨rfl, rfl, rfl, by decide +kernel, rfl, by decide +kernel, by decide +kernel⟩
theorem sc_are_roads : FnScope ["roads", "row", "number"] ["roads"] (defScope s_are_roads) := ⟨rfl, rfl, rfl, by decide +kernel, rfl, by decide +kernel, by decide +kernel⟩
theorem sc_has_twice : FnScope ["numbers"] ["numbers"] (defScope s_has_twice) := ⟨rfl, rfl, rfl, by decide +kernel, rfl, by decide +kernel, by decide +kernel⟩
theorem sc_are_below : FnScope ["numbers", "limit", "number"] ["numbers", "limit"] (defScope s_are_below) := ⟨rfl, rfl, rfl, by decide +kernel, rfl, by decide +kernel, by decide +kernel⟩
theorem sc_clean_holders : FnScope ["holders", "seats"] ["holders", "seats"] (defScope s_clean_holders) := ⟨rfl, rfl, rfl, by decide +kernel, rfl, by decide +kernel, by decide +kernel⟩
theorem sc_Net_init : FnScope ["self", "roads", "holders", "cleaned", "piece", "held", "clean", "row"] ["self", "roads", "holders"] (defScope s_Net_init) := ⟨rfl, rfl, rfl, by decide +kernel, rfl, by decide +kernel, by decide +kernel⟩
theorem sc_is_rising : FnScope ["numbers", "index"] ["numbers"] (defScope s_is_rising) := ⟨rfl, rfl, rfl, by decide +kernel, rfl, by decide +kernel, by decide +kernel⟩
theorem sc_check_choice : FnScope ["net", "choice", "piece", "strangers", "seat"] ["net", "choice"] (defScope s_check_choice) := ⟨rfl, rfl, rfl, by decide +kernel, rfl, by decide +kernel, by decide +kernel⟩
theorem sc_lists_of : FnScope ["items", "size", "found", "step", "chosen", "item"] ["items", "size"] (defScope s_lists_of) := ⟨rfl, rfl, rfl, by decide +kernel, rfl, by decide +kernel, by decide +kernel⟩
theorem sc_find_road : FnScope ["net", "choice", "given", "piece", "lost", "seat", "reached", "seen", "index", "current", "sender", "users", "other"] ["net", "choice", "given", "piece", "lost", "seat"] (defScope s_find_road) := ⟨rfl, rfl, rfl, by decide +kernel, rfl, by decide +kernel, by decide +kernel⟩
theorem sc_with_road : FnScope ["given", "seen", "sender", "changed", "free", "piece"] ["given", "seen", "sender"] (defScope s_with_road) := ⟨rfl, rfl, rfl, by decide +kernel, rfl, by decide +kernel, by decide +kernel⟩
theorem sc_senders_for : FnScope ["net", "choice", "lost", "seat", "given", "piece", "sender", "seen", "reached"] ["net", "choice", "lost", "seat"] (defScope s_senders_for) := ⟨rfl, rfl, rfl, by decide +kernel, rfl, by decide +kernel, by decide +kernel⟩
theorem sc_give_back : FnScope ["net", "choice", "lost", "held", "sends", "seat", "given", "piece"] ["net", "choice", "lost"] (defScope s_give_back) := ⟨rfl, rfl, rfl, by decide +kernel, rfl, by decide +kernel, by decide +kernel⟩
theorem sc_is_lasting : FnScope ["net", "choice", "at_once", "lost"] ["net", "choice", "at_once"] (defScope s_is_lasting) := ⟨rfl, rfl, rfl, by decide +kernel, rfl, by decide +kernel, by decide +kernel⟩
theorem sc_tuples_of : FnScope ["items", "least", "found", "item", "kept", "chosen", "size"] ["items", "least"] (defScope s_tuples_of) := ⟨rfl, rfl, rfl, by decide +kernel, rfl, by decide +kernel, by decide +kernel⟩
theorem sc_is_within : FnScope ["held", "seats", "seat"] ["held", "seats"] (defScope s_is_within) := ⟨rfl, rfl, rfl, by decide +kernel, rfl, by decide +kernel, by decide +kernel⟩
theorem sc_count_fault : FnScope ["choice", "seats", "cap", "at_once", "seat", "present", "others", "inside", "held", "one"] ["choice", "seats", "cap", "at_once"] (defScope s_count_fault) := ⟨rfl, rfl, rfl, by decide +kernel, rfl, by decide +kernel, by decide +kernel⟩
theorem sc_L_is_integer : FnScope ["_law_actual"] ["_law_actual"] (defScope s_L_is_integer) := ⟨rfl, rfl, rfl, by decide +kernel, rfl, by decide +kernel, by decide +kernel⟩
theorem sc_L_is_fault : FnScope ["_law_actual", "_law_rows_here", "_law_cap", "_law_seats", "_law_at_once", "_law_seat", "_law_others", "_law_inside", "_law_row", "_law_k", "_law_j"] ["_law_actual", "_law_rows_here", "_law_cap", "_law_seats", "_law_at_once"] (defScope s_L_is_fault) := ⟨rfl, rfl, rfl, by decide +kernel, rfl, by decide +kernel, by decide +kernel⟩
theorem sc_L_judged : FnScope ["_law_rows_here", "_law_holders_here", "_law_cap", "_law_seats", "_law_at_once", "_law_lost", "_law_net", "_law_choice", "_law_lasts_here", "_law_told", "_law_fault", "_law_back", "_law_worst", "_law_row"] ["_law_rows_here", "_law_holders_here", "_law_cap", "_law_seats", "_law_at_once", "_law_lost"] (defScope s_L_judged) := ⟨rfl, rfl, rfl, by decide +kernel, rfl, by decide +kernel, by decide +kernel⟩
theorem sc_L_cell : FnScope ["_law_script", "_law_k"] ["_law_script", "_law_k"] (defScope s_L_cell) := ⟨rfl, rfl, rfl, by decide +kernel, rfl, by decide +kernel, by decide +kernel⟩
theorem sc_law : FnScope ["_law_script", "_law_drawn", "_law_seats", "_law_limit", "_law_cap", "_law_at_once", "_law_count", "_law_rows_here", "_law_holders_here", "_law_losses_here", "_law_lost"] ["_law_script"] (defScope s_law) := ⟨rfl, rfl, rfl, by decide +kernel, rfl, by decide +kernel, by decide +kernel⟩
/-- where things stand behind the top -/
structure Ad where
  a_L_draws : Addr
  d_L_draws : FuncData
  a_L_bits : Addr
  d_L_bits : FuncData
  a_L_rows : Addr
  d_L_rows : FuncData
  a_L_holders : Addr
  d_L_holders : FuncData
  a_L_losses : Addr
  d_L_losses : FuncData
  a_Net_level : Addr
  d_Net_level : FuncData
  p_Net_level : Addr
  a_L_comes_back : Addr
  d_L_comes_back : FuncData
  a_L_lasts : Addr
  d_L_lasts : FuncData
  a_are_roads : Addr
  d_are_roads : FuncData
  a_has_twice : Addr
  d_has_twice : FuncData
  a_are_below : Addr
  d_are_below : FuncData
  a_clean_holders : Addr
  d_clean_holders : FuncData
  a_Net_init : Addr
  d_Net_init : FuncData
  a_is_rising : Addr
  d_is_rising : FuncData
  a_check_choice : Addr
  d_check_choice : FuncData
  a_lists_of : Addr
  d_lists_of : FuncData
  a_find_road : Addr
  d_find_road : FuncData
  a_with_road : Addr
  d_with_road : FuncData
  a_senders_for : Addr
  d_senders_for : FuncData
  a_give_back : Addr
  d_give_back : FuncData
  a_is_lasting : Addr
  d_is_lasting : FuncData
  a_tuples_of : Addr
  d_tuples_of : FuncData
  a_is_within : Addr
  d_is_within : FuncData
  a_count_fault : Addr
  d_count_fault : FuncData
  a_L_is_integer : Addr
  d_L_is_integer : FuncData
  a_L_is_fault : Addr
  d_L_is_fault : FuncData
  a_L_judged : Addr
  d_L_judged : FuncData
  a_L_cell : Addr
  d_L_cell : FuncData
  a_law : Addr
  d_law : FuncData
  A_Net : Addr
  A_InvalidPool : Addr
  A_InvalidChoice : Addr
  A_PoolError : Addr
structure Txt (K : PySem.W.Frag) (mg : Str → Option Value) (A : Ad) : Prop where
  F_L_draws : Fun K "_law_draws" "_law_draws" s_L_draws A.a_L_draws A.d_L_draws
  b_L_draws : Binds K A.d_L_draws ["_law_cell_here", "_law_sizes"] []
  g_L_draws : mg "_law_draws" = some (.ref A.a_L_draws)
  F_L_bits : Fun K "_law_bits" "_law_bits" s_L_bits A.a_L_bits A.d_L_bits
  b_L_bits : Binds K A.d_L_bits ["_law_mask", "_law_count"] []
  g_L_bits : mg "_law_bits" = some (.ref A.a_L_bits)
  F_L_rows : Fun K "_law_rows" "_law_rows" s_L_rows A.a_L_rows A.d_L_rows
  b_L_rows : Binds K A.d_L_rows ["_law_seats", "_law_count", "_law_cell_here"] []
  g_L_rows : mg "_law_rows" = some (.ref A.a_L_rows)
  F_L_holders : Fun K "_law_holders" "_law_holders" s_L_holders A.a_L_holders A.d_L_holders
  b_L_holders : Binds K A.d_L_holders ["_law_rows_here", "_law_seats", "_law_cell_here"] []
  g_L_holders : mg "_law_holders" = some (.ref A.a_L_holders)
  F_L_losses : Fun K "_law_losses" "_law_losses" s_L_losses A.a_L_losses A.d_L_losses
  b_L_losses : Binds K A.d_L_losses ["_law_seats", "_law_size"] []
  g_L_losses : mg "_law_losses" = some (.ref A.a_L_losses)
  F_Net_level : Fun K "level" "Net.level" s_Net_level A.a_Net_level A.d_Net_level
  b_Net_level : Binds K A.d_Net_level ["cls", "seats", "cap", "holders"] []
  cm_Net_level : ClX.CMet K A.A_Net (.type "type") "level" A.p_Net_level A.a_Net_level
  F_L_comes_back : Fun K "_law_comes_back" "_law_comes_back" s_L_comes_back A.a_L_comes_back A.d_L_comes_back
  b_L_comes_back : Binds K A.d_L_comes_back ["_law_rows_here", "_law_cap", "_law_lost"] []
  g_L_comes_back : mg "_law_comes_back" = some (.ref A.a_L_comes_back)
  F_L_lasts : Fun K "_law_lasts" "_law_lasts" s_L_lasts A.a_L_lasts A.d_L_lasts
  b_L_lasts : Binds K A.d_L_lasts ["_law_rows_here", "_law_cap", "_law_seats", "_law_at_once"] []
  g_L_lasts : mg "_law_lasts" = some (.ref A.a_L_lasts)
  F_are_roads : Fun K "are_roads" "are_roads" s_are_roads A.a_are_roads A.d_are_roads
  b_are_roads : Binds K A.d_are_roads ["roads"] []
  g_are_roads : mg "are_roads" = some (.ref A.a_are_roads)
  F_has_twice : Fun K "has_twice" "has_twice" s_has_twice A.a_has_twice A.d_has_twice
  b_has_twice : Binds K A.d_has_twice ["numbers"] []
  g_has_twice : mg "has_twice" = some (.ref A.a_has_twice)
  F_are_below : Fun K "are_below" "are_below" s_are_below A.a_are_below A.d_are_below
  b_are_below : Binds K A.d_are_below ["numbers", "limit"] []
  g_are_below : mg "are_below" = some (.ref A.a_are_below)
  F_clean_holders : Fun K "clean_holders" "clean_holders" s_clean_holders A.a_clean_holders A.d_clean_holders
  b_clean_holders : Binds K A.d_clean_holders ["holders", "seats"] []
  g_clean_holders : mg "clean_holders" = some (.ref A.a_clean_holders)
  F_Net_init : Fun K "__init__" "Net.__init__" s_Net_init A.a_Net_init A.d_Net_init
  b_Net_init : Binds K A.d_Net_init ["self", "roads", "holders"] []
  M_Net : Mk K A.A_Net A.a_Net_init
  F_is_rising : Fun K "is_rising" "is_rising" s_is_rising A.a_is_rising A.d_is_rising
  b_is_rising : Binds K A.d_is_rising ["numbers"] []
  g_is_rising : mg "is_rising" = some (.ref A.a_is_rising)
  F_check_choice : Fun K "check_choice" "check_choice" s_check_choice A.a_check_choice A.d_check_choice
  b_check_choice : Binds K A.d_check_choice ["net", "choice"] []
  g_check_choice : mg "check_choice" = some (.ref A.a_check_choice)
  F_lists_of : Fun K "lists_of" "lists_of" s_lists_of A.a_lists_of A.d_lists_of
  b_lists_of : Binds K A.d_lists_of ["items", "size"] []
  g_lists_of : mg "lists_of" = some (.ref A.a_lists_of)
  F_find_road : Fun K "find_road" "find_road" s_find_road A.a_find_road A.d_find_road
  b_find_road : Binds K A.d_find_road ["net", "choice", "given", "piece", "lost", "seat"] []
  g_find_road : mg "find_road" = some (.ref A.a_find_road)
  F_with_road : Fun K "with_road" "with_road" s_with_road A.a_with_road A.d_with_road
  b_with_road : Binds K A.d_with_road ["given", "seen", "sender"] []
  g_with_road : mg "with_road" = some (.ref A.a_with_road)
  F_senders_for : Fun K "senders_for" "senders_for" s_senders_for A.a_senders_for A.d_senders_for
  b_senders_for : Binds K A.d_senders_for ["net", "choice", "lost", "seat"] []
  g_senders_for : mg "senders_for" = some (.ref A.a_senders_for)
  F_give_back : Fun K "give_back" "give_back" s_give_back A.a_give_back A.d_give_back
  b_give_back : Binds K A.d_give_back ["net", "choice", "lost"] []
  g_give_back : mg "give_back" = some (.ref A.a_give_back)
  F_is_lasting : Fun K "is_lasting" "is_lasting" s_is_lasting A.a_is_lasting A.d_is_lasting
  b_is_lasting : Binds K A.d_is_lasting ["net", "choice", "at_once"] []
  g_is_lasting : mg "is_lasting" = some (.ref A.a_is_lasting)
  F_tuples_of : Fun K "tuples_of" "tuples_of" s_tuples_of A.a_tuples_of A.d_tuples_of
  b_tuples_of : Binds K A.d_tuples_of ["items", "least"] []
  g_tuples_of : mg "tuples_of" = some (.ref A.a_tuples_of)
  F_is_within : Fun K "is_within" "is_within" s_is_within A.a_is_within A.d_is_within
  b_is_within : Binds K A.d_is_within ["held", "seats"] []
  g_is_within : mg "is_within" = some (.ref A.a_is_within)
  F_count_fault : Fun K "count_fault" "count_fault" s_count_fault A.a_count_fault A.d_count_fault
  b_count_fault : Binds K A.d_count_fault ["choice", "seats", "cap", "at_once"] []
  g_count_fault : mg "count_fault" = some (.ref A.a_count_fault)
  F_L_is_integer : Fun K "_law_is_integer" "_law_is_integer" s_L_is_integer A.a_L_is_integer A.d_L_is_integer
  b_L_is_integer : Binds K A.d_L_is_integer ["_law_actual"] []
  g_L_is_integer : mg "_law_is_integer" = some (.ref A.a_L_is_integer)
  F_L_is_fault : Fun K "_law_is_fault" "_law_is_fault" s_L_is_fault A.a_L_is_fault A.d_L_is_fault
  b_L_is_fault : Binds K A.d_L_is_fault ["_law_actual", "_law_rows_here", "_law_cap", "_law_seats", "_law_at_once"] []
  g_L_is_fault : mg "_law_is_fault" = some (.ref A.a_L_is_fault)
  F_L_judged : Fun K "_law_judged" "_law_judged" s_L_judged A.a_L_judged A.d_L_judged
  b_L_judged : Binds K A.d_L_judged ["_law_rows_here", "_law_holders_here", "_law_cap", "_law_seats", "_law_at_once", "_law_lost"] []
  g_L_judged : mg "_law_judged" = some (.ref A.a_L_judged)
  F_L_cell : Fun K "_law_cell" "_law_cell" s_L_cell A.a_L_cell A.d_L_cell
  b_L_cell : Binds K A.d_L_cell ["_law_script", "_law_k"] []
  g_L_cell : mg "_law_cell" = some (.ref A.a_L_cell)
  F_law : Fun K "law" "law" s_law A.a_law A.d_law
  b_law : Binds K A.d_law ["_law_script"] []
  g_law : mg "law" = some (.ref A.a_law)
  cr_Net : ClX.CRead K A.A_Net (.type "type")
  cl_Net : Cls K A.A_Net
  g_Net : mg "Net" = some (.ref A.A_Net)
  o_Net_roads : NoAttr K A.A_Net "roads"
  o_Net_holders : NoAttr K A.A_Net "holders"
  o_Net_seats : NoAttr K A.A_Net "seats"
  o_Net_pieces : NoAttr K A.A_Net "pieces"
  g_InvalidPool : mg "InvalidPool" = some (.ref A.A_InvalidPool)
  g_InvalidChoice : mg "InvalidChoice" = some (.ref A.A_InvalidChoice)
  g_PoolError : mg "PoolError" = some (.ref A.A_PoolError)
  n_abs : mg "abs" = none
  n_range : mg "range" = none
  n_int : mg "int" = none
  n_len : mg "len" = none
  n_list : mg "list" = none
  n_tuple : mg "tuple" = none
  n_min : mg "min" = none
  n_set : mg "set" = none
  n_sorted : mg "sorted" = none
  n_enumerate : mg "enumerate" = none
  n_dict : mg "dict" = none
  n_max : mg "max" = none
  n_isinstance : mg "isinstance" = none
  n_bool : mg "bool" = none
end Q

set_option Elab.async false
set_option linter.all false
set_option maxRecDepth 100000
set_option maxHeartbeats 8000000
namespace Q
open PySem PySem.Spec PyProof.Rows L2 PW Nt
section
variable {P : Program} {w : World} {K : PySem.W.Frag} {mg : Str → Option Value} {base : Heap} {A : Ad}
def cellOf (ns : List Int) (k : Int) : Int := ns.getD k.toNat 0
def spCell (K : PySem.W.Frag) : Sp := fun vs H Q _ => ∃ (a : Addr) (ns : List Int) (k : Int), vs = [.ref a, .int k] ∧ SqL K H a (ns.map V.int) ∧ 0 ≤ k ∧ ∀ H', Same H H' → Q (.int (cellOf ns k)) H'
theorem ok_L_cell (T : Txt K mg A) : FnOk P w K mg base CX0 1 A.a_L_cell A.d_L_cell ["_law_script", "_law_k"] (spCell K) := by
  refine T.F_L_cell.ok sc_L_cell (fun vs H Q E h => ?_) (fun cdv A' outer s H vs Q E hr h => ?_)
  · obtain ⟨a, ns, k, rfl, _⟩ := h; rfl
  · obtain ⟨a, ns, j, rfl, hs, hj, k⟩ := h
    refine ⟨_, pss_cons (ps_if (pt_cmpR (op_ltK (K := K) rfl) (pv 1) (pe_callB (call_lenK (K := K) rfl) (by rfl) T.n_len (by decide +kernel) (pa_cons (pv 0) pa_nil)) (nomark _)) (pss_one (ps_ret (pe_ix (ix_K (K := K) rfl) (pv 0) (pv 1) (fun _ _ => rfl)))) (pss_nil))
  (pss_one (ps_ret (pe_int))), ?_⟩
    refine ⟨_, rfl, _, rfl, _, _, rfl, .inl ⟨_, hs, rfl⟩, .inl ⟨_, _, rfl, rfl, _, rfl, iteD (fun c => ?_) (fun c => ?_)⟩⟩
    · rw [List.length_map] at c
      have hi : j.toNat < ns.length := by omega
      have e : (ns.map V.int)[j.toNat]? = some (.int (cellOf ns j)) := by
        unfold cellOf
        rw [List.getElem?_map, List.getElem?_eq_getElem hi, List.getD_eq_getElem?_getD, List.getElem?_eq_getElem hi]
        rfl
      refine ⟨_, rfl, _, rfl, .inl ⟨a, _, j, _, rfl, rfl, hs, ?_, k H (.refl H)⟩⟩
      have := atI_nat e
      rwa [Int.toNat_of_nonneg hj] at this
    · rw [List.length_map] at c
      have e : cellOf ns j = 0 := by
        unfold cellOf
        rw [List.getD_eq_getElem?_getD, List.getElem?_eq_none (by omega)]
        rfl
      rw [e] at k
      exact k H (.refl H)

def spDraws (K : PySem.W.Frag) : Sp := fun vs H Q _ => ∃ (F : Hp) (c : Int) (p : Addr) (szs : List Int), vs = [.int c, .ref p] ∧ SqL K H p (szs.map V.int) ∧ (∀ s ∈ szs, 0 < s ∧ s < 1073741824) ∧ szs.length ≤ 1000 ∧ Same F H ∧
  ∀ q F' H' (ds : List Int), Step F H F' H' → Drawn szs ds → SqL K F' q (ds.map V.int) → Q (.ref q) H'
theorem ok_L_draws (T : Txt K mg A) : FnOk P w K mg base CX0 1 A.a_L_draws A.d_L_draws ["_law_cell_here", "_law_sizes"] (spDraws K) := by
  refine T.F_L_draws.ok sc_L_draws (fun vs H Q E h => ?_) (fun cdv A' outer s H vs Q E hr h => ?_)
  · obtain ⟨F, c, p, szs, rfl, _⟩ := h; rfl
  · obtain ⟨F, c, p, szs, rfl, hs, hz, hl, eF, k⟩ := h
    have w := Wd.start eF
    refine ⟨_, pss_cons (ps_set (i := 2) sc_L_draws.nd rfl (Or.inl rfl) (pe_callB call_abs (by rfl) T.n_abs (by decide +kernel) (pa_cons (pe_callTy call_intU (by rfl) T.n_int (by decide +kernel) (pa_cons (pv 0) pa_nil)) pa_nil)))
  (pss_cons (ps_set (i := 3) sc_L_draws.nd rfl (Or.inl rfl) (pe_cmpR (op_geK (K := K) rfl) (pv 2) (pe_op op_pow (pe_int) (pe_int)) (nomark _)))
  (pss_cons (ps_set (i := 4) sc_L_draws.nd rfl (Or.inl rfl) (pe_lst (pa_nil)))
  (pss_cons (ps_for PassesOwn.never rfl (pi_range1 rfl T.n_range (pa_cons (pe_callB (call_lenK (K := K) rfl) (by rfl) T.n_len (by decide +kernel) (pa_cons (pv 1) pa_nil)) pa_nil)) (pg_name (i := 5) sc_L_draws.nd rfl (Or.inl rfl)) (pss_cons (ps_set (i := 6) sc_L_draws.nd rfl (Or.inl rfl) (pe_ix (ix_K (K := K) rfl) (pv 1) (pv 5) (fun _ _ => rfl)))
    (pss_one (ps_if (PW.pt (pw_and (pt_truth (pv 3) (by intro _; rfl)) (pw_and1 (pt_cmpR (op_gtK (K := K) rfl) (pv 2) (pe_int) (nomark _))))) (pss_cons (ps_expr (pe_bm PySem.F.plainAttrs_list PySem.F.slot_list_append PySem.F.type_list_append mt_append (pv 4) (pa_cons (pe_op op_mod (pe_callTy call_intU (by rfl) T.n_int (by decide +kernel) (pa_cons (pv 2) pa_nil)) (pv 6)) pa_nil)))
      (pss_one (ps_set (i := 2) sc_L_draws.nd rfl (Or.inl rfl) (pe_op op_fdiv (pv 2) (pv 6))))) (pss_cons (ps_set (i := 7) sc_L_draws.nd rfl (Or.inl rfl) (pe_op op_mod (pe_callTy call_intU (by rfl) T.n_int (by decide +kernel) (pa_cons (pe_op (op_addK (K := K) rfl) (pe_op (op_addK (K := K) rfl) (pe_callB call_abs (by rfl) T.n_abs (by decide +kernel) (pa_cons (pe_callTy call_intU (by rfl) T.n_int (by decide +kernel) (pa_cons (pv 0) pa_nil)) pa_nil)) (pe_op op_mulU (pe_int) (pv 5))) (pe_int)) pa_nil)) (pe_int)))
      (pss_cons (ps_set (i := 7) sc_L_draws.nd rfl (Or.inl rfl) (pe_op op_mod (pe_callTy call_intU (by rfl) T.n_int (by decide +kernel) (pa_cons (pe_op op_mulU (pv 7) (pe_op (op_addK (K := K) rfl) (pv 7) (pe_int))) pa_nil)) (pe_int)))
      (pss_cons (ps_set (i := 7) sc_L_draws.nd rfl (Or.inl rfl) (pe_op op_mod (pe_callTy call_intU (by rfl) T.n_int (by decide +kernel) (pa_cons (pe_op (op_addK (K := K) rfl) (pe_op op_mulU (pv 7) (pe_op (op_addK (K := K) rfl) (pv 7) (pe_int))) (pe_op op_mulU (pe_int) (pv 5))) pa_nil)) (pe_int)))
      (pss_one (ps_expr (pe_bm PySem.F.plainAttrs_list PySem.F.slot_list_append PySem.F.type_list_append mt_append (pv 4) (pa_cons (pe_op op_mod (pe_callTy call_intU (by rfl) T.n_int (by decide +kernel) (pa_cons (pe_op op_fdiv (pv 7) (pe_int)) pa_nil)) (pv 6)) pa_nil)))))))))))
  (pss_one (ps_ret (pv 4)))))), ?_⟩
    refine ⟨_, rfl, .inl ⟨_, rfl, _, rfl, ?_⟩⟩
    refine ⟨_, rfl, _, _, rfl, rfl, ⟨by decide, by decide, by decide⟩, .inl ⟨_, _, rfl, rfl, ?_⟩⟩
    refine ⟨Nat.zero_le _, fun D hD => ?_⟩
    have w1 := w.own hD (.lst [])
    refine ⟨_, rfl, _, _, rfl, .inl ⟨_, w1.hh.seq hs, rfl⟩, (szs.length : Int), by rw [List.length_map], by omega, by omega, ?_⟩
    refine for_range (lo := 0) (n := szs.length) (fun i σ H' => ∃ (left : Int) (dg : Bool) (ds : List Int) (v5 v6 v7 : Option V), σ = [some (.int c), some (.ref p), some (.int left), some (.bl dg), some (.ref D), v5, v6, v7] ∧ Wd F H F H' [(D, .lst (ds.map V.int))] ∧ ds.length = i ∧
      ∀ (j : Nat) (d s : Int), ds[j]? = some d → szs[j]? = some s → 0 ≤ d ∧ d < s) ⟨_, _, [], none, none, none, rfl, w1, rfl, fun j d s h => by simp at h⟩ ?_ ?_
    · rintro i σ H1 hi ⟨left, dg, ds, v5, v6, v7, rfl, w1, hdl, hb⟩
      obtain ⟨z, hzz⟩ : ∃ z, szs[i]? = some z := ⟨_, List.getElem?_eq_getElem hi⟩
      have hz' : (szs.map V.int)[i]? = some (.int z) := by rw [List.getElem?_map, hzz]; rfl
      obtain ⟨z0, z1⟩ := hz z (List.mem_of_getElem? hzz)
      have grow : ∀ x : Int, ∀ (j : Nat) (d s : Int), (ds ++ [x % z])[j]? = some d → szs[j]? = some s → 0 ≤ d ∧ d < s := fun x j d s hd hs' => by
        by_cases hj : j < ds.length
        · rw [List.getElem?_append_left hj] at hd
          exact hb j d s hd hs'
        · have hji : j = i := by
            have := (List.getElem?_eq_some_iff.mp hd).1
            rw [List.length_append] at this
            simp at this
            omega
          subst hji
          rw [List.getElem?_append_right (by omega), hdl, Nat.sub_self] at hd
          rw [hzz] at hs'
          cases hd
          cases hs'
          exact ⟨Int.emod_nonneg _ (by omega), Int.emod_lt_of_pos _ z0⟩
      have wset : ∀ x : Int, Wd F H F (upd H1 D (.lst (ds.map V.int ++ [.int (x % z)]))) [(D, .lst ((ds ++ [x % z]).map V.int))] := fun x => by
        rw [List.map_append]
        exact w1.set _
      have happ : (ds.map V.int).length < sizeLine := small' (by rw [List.length_map]; omega)
      have hmod : ∀ x m : Int, 0 < m → 0 ≤ x % m ∧ x % m < m := fun x m hm => ⟨Int.emod_nonneg _ (by omega), Int.emod_lt_of_pos _ hm⟩
      -- size = sizes[k]
      refine ⟨_, rfl, _, rfl, .inl ⟨p, _, _, _, rfl, rfl, w1.hh.seq hs, by rw [Int.zero_add]; exact atI_nat hz', ?_⟩⟩
      unfold gName
      dsimp only
      unfold tIfS
      refine andB dg (decide (0 < left)) (fun R r => ⟨_, rfl, dg, rfl, r⟩) (fun _ R r => ⟨_, rfl, .inl ⟨_, _, rfl, rfl, _, rfl, r⟩⟩) ?_
      refine iteB (fun c1 => ?_) (fun c1 => ?_)
      · -- by the digits
        refine ⟨_, rfl, .inl ⟨rfl, _, .of w1.at_⟩, _, rfl, .inl ⟨_, rfl, _, rfl, _, _, rfl, rfl, z0, D, _, _, rfl, rfl, w1.at_, happ, ?_⟩⟩
        exact ⟨_, rfl, _, rfl, _, _, rfl, rfl, ⟨z0, z1⟩, _, dg, ds ++ [left % z], _, _, _, rfl, wset left, by rw [List.length_append, hdl]; rfl, grow left⟩
      · have cm : ∀ x m y : Int, 0 < m → m ≤ 2147483647 → CMul (x % m) y := fun x m y h1 h2 => by
          have := hmod x m h1
          exact .inl ⟨by omega, by omega⟩
        refine ⟨_, rfl, .inl ⟨_, rfl, _, rfl, _, rfl, .inl ⟨_, _, rfl, rfl, .inl ⟨by decide, by decide⟩, .inl ⟨_, _, rfl, rfl, .inl ⟨_, _, rfl, rfl, .inl ⟨_, rfl, _, _, rfl, rfl, (by show (0 : Int) < 2147483647; decide), ?_⟩⟩⟩⟩⟩⟩
        refine ⟨_, rfl, _, rfl, .inl ⟨_, _, rfl, rfl, .inl ⟨_, _, rfl, rfl, cm _ _ _ (by decide) (by decide), .inl ⟨_, rfl, _, _, rfl, rfl, (by show (0 : Int) < 2147483629; decide), ?_⟩⟩⟩⟩
        refine ⟨_, rfl, _, rfl, .inl ⟨_, _, rfl, rfl, .inl ⟨_, _, rfl, rfl, cm _ _ _ (by decide) (by decide), _, rfl, .inl ⟨_, _, rfl, rfl, .inl ⟨by decide, by decide⟩, .inl ⟨_, _, rfl, rfl, .inl ⟨_, rfl, _, _, rfl, rfl, (by show (0 : Int) < 2147483647; decide), ?_⟩⟩⟩⟩⟩⟩
        refine ⟨_, rfl, .inl ⟨rfl, _, .of w1.at_⟩, _, rfl, _, _, rfl, rfl, ⟨by decide, by decide⟩, .inl ⟨_, rfl, _, rfl, _, _, rfl, rfl, z0, D, _, _, rfl, rfl, w1.at_, happ, ?_⟩⟩
        exact ⟨_, dg, _, _, _, _, rfl, wset _, by rw [List.length_append, hdl]; rfl, grow _⟩
    · rintro σ H1 ⟨left, dg, ds, v5, v6, v7, rfl, w1, hdl, hb⟩
      obtain ⟨w2, e2⟩ := w1.freeze
      exact ⟨_, rfl, k D _ _ ds w2.done ⟨hdl, hb⟩ (.of upd_same)⟩


end
end Q

set_option Elab.async false
set_option linter.all false
set_option maxRecDepth 100000
set_option maxHeartbeats 8000000
namespace Q
open PySem PySem.Spec PyProof.Rows L2 PW Nt
section
variable {P : Program} {w : World} {K : PySem.W.Frag} {mg : Str → Option Value} {base : Heap} {A : Ad}
def spIsInt : Sp := fun vs H Q _ => ∃ i : Int, vs = [.int i] ∧ ∀ H', Same H H' → Q (.bl true) H'
theorem ok_L_is_integer (T : Txt K mg A) : FnOk P w K mg base CX0 1 A.a_L_is_integer A.d_L_is_integer ["_law_actual"] spIsInt := by
  refine T.F_L_is_integer.ok sc_L_is_integer (fun vs H Q E h => ?_) (fun cdv A' outer s H vs Q E hr h => ?_)
  · obtain ⟨i, rfl, _⟩ := h; rfl
  · obtain ⟨i, rfl, k⟩ := h
    refine ⟨_, pss_one (ps_ret (pe_and (pe_callB (call_isiK1 (K := K) rfl) (by rfl) T.n_isinstance (by decide +kernel) (pa_cons (pv 0) (pa_cons (pe_bltn (v := .ty "int") (by rfl) T.n_int (by decide +kernel) rfl) pa_nil))) (pe_one (pe_not (pe_callB (call_isiK1 (K := K) rfl) (by rfl) T.n_isinstance (by decide +kernel) (pa_cons (pv 0) (pa_cons (pe_bltn (v := .ty "bool") (by rfl) T.n_bool (by decide +kernel) rfl) pa_nil))))))), ?_⟩
    refine ⟨_, rfl, .int i, .ty "int", _, _, true, rfl, .ty "int", .base (.int i), kit_ty (by decide +kernel), true, rfl, iteT ?_⟩
    exact ⟨_, rfl, .int i, .ty "bool", _, _, false, rfl, .ty "bool", .base (.int i), kit_ty (by decide +kernel), false, rfl, k H (.refl H)⟩

end
end Q

set_option Elab.async false
set_option linter.all false
set_option maxRecDepth 100000
set_option maxHeartbeats 8000000
namespace Q
open PySem PySem.Spec PyProof.Rows L2 PW Nt
section
variable {P : Program} {w : World} {K : PySem.W.Frag} {mg : Str → Option Value} {base : Heap} {A : Ad}
def spBits (K : PySem.W.Frag) : Sp := fun vs H Q _ => ∃ (F : Hp) (mask : Int) (n : Nat), vs = [.int mask, .int (n : Int)] ∧ n ≤ 7 ∧ Same F H ∧ ∀ q F' H' (bs : List Int), Step F H F' H' → SqL K F' q (bs.map V.int) → bs.Pairwise (· < ·) → (∀ b ∈ bs, 0 ≤ b ∧ b < (n : Int)) → Q (.ref q) H'
theorem ok_L_bits (T : Txt K mg A) : FnOk P w K mg base CX0 1 A.a_L_bits A.d_L_bits ["_law_mask", "_law_count"] (spBits K) := by
  refine T.F_L_bits.ok sc_L_bits (fun vs H Q E h => ?_) (fun cdv A' outer s H vs Q E hr h => ?_)
  · obtain ⟨F, mask, n, rfl, _⟩ := h; rfl
  · obtain ⟨F, mask, n, rfl, n7, eF, k⟩ := h
    have hu64 := hu64_of hr
    have w := Wd.start eF
    refine ⟨_, pss_one (ps_ret (pe_lc (own := [("_law_k", 2)]) rfl sc_L_bits.nd (pi_range1 rfl T.n_range (pa_cons (pv 1) pa_nil)) (blkOk_by (own := [("_law_k", 2)]) (N := ["_law_mask", "_law_count", "_law_k"]) (sc := defScope s_L_bits) (by decide +kernel)) (fun _ _ _ _ _ => pg_name (i := 2) sc_L_bits.nd rfl (Or.inl rfl)) (fun _ _ _ _ _ => pts_one (pt_cmpR (op_eqK (K := K) rfl hu64) (pe_op op_mod (pe_callTy call_intU (by rfl) T.n_int (by decide +kernel) (pa_cons (pe_op op_fdiv (pv 0) (pe_ix (ix_K (K := K) rfl) (pe_tup (pa_cons (pe_int) (pa_cons (pe_int) (pa_cons (pe_int) (pa_cons (pe_int) (pa_cons (pe_int) (pa_cons (pe_int) (pa_cons (pe_int) pa_nil)))))))) (pv 2) (fun _ _ => rfl))) pa_nil)) (pe_int)) (pe_int) (nomark _))) (fun _ _ _ _ _ => pv 2))), ?_⟩
    refine ⟨_, rfl, (n : Int), rfl, by omega, by omega, fun D hD => ?_⟩
    refine lc_range (lo := 0) (n := n) (fun i H' => ∃ (F' : Hp) (bs : List Int), Wd F H F' H' [(D, .lst (bs.map V.int))] ∧ bs.Pairwise (· < ·) ∧ (∀ b ∈ bs, 0 ≤ b ∧ b < (i : Int)) ∧ bs.length ≤ i)
      ⟨F, [], w.own hD _, List.Pairwise.nil, (fun b h => nomatch h), Nat.le_refl _⟩ ?_ ?_
    · rintro i H1 hi ⟨F1, bs, w1, up, hb, hl⟩
      obtain ⟨d, hd, d0, d1⟩ := two_at (i := i) (by omega)
      refine ⟨rfl, ?_⟩
      refine ⟨_, rfl, by show 7 ≤ sizeLine; decide, fun z hz => ?_⟩
      obtain ⟨w2, e2⟩ := w1.fix hz (.tup [.int 1, .int 2, .int 4, .int 8, .int 16, .int 32, .int 64])
      refine ⟨_, rfl, .inr (.inl ⟨z, _, _, _, rfl, rfl, .of upd_same, hd, _, _, rfl, rfl, ⟨d0, d1⟩, .inl ⟨_, rfl, _, _, rfl, rfl, (by show (0 : Int) < 2; decide), .inl ⟨rfl, _, rfl, iteD (fun c => ?_) (fun c => ?_)⟩⟩⟩)⟩
      · refine ⟨_, rfl, _, w2.at_, small' (by rw [List.length_map]; omega), ?_⟩
        have w3 := w2.set (.lst (bs.map V.int ++ [.int (0 + (i : Int))]))
        refine ⟨_, bs ++ [0 + (i : Int)], (by rw [List.map_append]; exact w3), ?_, fun b hm => ?_, by rw [List.length_append]; simp; omega⟩
        · refine List.pairwise_append.mpr ⟨up, List.pairwise_singleton _ _, fun a ha b hb' => ?_⟩
          rw [List.mem_singleton.mp hb']
          have := hb a ha
          omega
        · rcases List.mem_append.mp hm with hm | hm
          · have := hb b hm; omega
          · rw [List.mem_singleton.mp hm]; omega
      · exact ⟨_, bs, w2, up, fun b hm => by have := hb b hm; omega, by omega⟩
    · rintro H1 ⟨F1, bs, w1, up, hb, hl⟩
      obtain ⟨w2, e2⟩ := w1.freeze
      exact k D _ _ bs w2.done (.of upd_same) up hb

end
end Q

set_option Elab.async false
set_option linter.all false
set_option maxRecDepth 100000
set_option maxHeartbeats 8000000
namespace Q
open PySem PySem.Spec PyProof.Rows L2 PW Nt
section
variable {P : Program} {w : World} {K : PySem.W.Frag} {mg : Str → Option Value} {base : Heap} {A : Ad}
/-! ### is_rising -/
/-- a list or a tuple of ints -/
def IntsAt (K : PySem.W.Frag) (H : Hp) (v : V) (ns : List Int) : Prop := ∃ p, v = .ref p ∧ (SqL K H p (ns.map V.int) ∨ SqT K H p (ns.map V.int))
theorem at_pair {ns : List Int} {i : Nat} (h : 1 + i < ns.length) : ∃ a b, ns[i]? = some a ∧ ns[i + 1]? = some b := ⟨_, _, List.getElem?_eq_getElem (by omega), List.getElem?_eq_getElem (by omega)⟩
def spRisingI (K : PySem.W.Frag) : Sp := fun vs H Q _ => ∃ (v : V) (ns : List Int), vs = [v] ∧ IntsAt K H v ns ∧ ns.length ≤ 1000 ∧ ns.Pairwise (· < ·) ∧ ∀ H', Same H H' → Q (.bl true) H'
theorem pw_lt {ns : List Int} {i : Nat} {a b : Int} (h : ns.Pairwise (· < ·)) (ha : ns[i]? = some a) (hb : ns[i + 1]? = some b) : a < b := by
  rw [List.pairwise_iff_getElem] at h
  obtain ⟨h1, rfl⟩ := List.getElem?_eq_some_iff.mp ha
  obtain ⟨h2, rfl⟩ := List.getElem?_eq_some_iff.mp hb
  exact h i (i + 1) h1 h2 (by omega)
theorem ok_is_rising (T : Txt K mg A) : FnOk P w K mg base CX0 1 A.a_is_rising A.d_is_rising ["numbers"] (spRisingI K) := by
  refine T.F_is_rising.ok sc_is_rising (fun vs H Q E h => ?_) (fun cdv A' outer s H vs Q E hr h => ?_)
  · obtain ⟨v, ns, rfl, _⟩ := h; rfl
  · obtain ⟨v, ns, rfl, ⟨p, rfl, hp⟩, hl, up, k⟩ := h
    refine ⟨_, pss_cons (ps_for PassesOwn.never rfl (pi_range2 rfl T.n_range (pa_cons (pe_int) (pa_cons (pe_callB (call_lenK (K := K) rfl) (by rfl) T.n_len (by decide +kernel) (pa_cons (pv 0) pa_nil)) pa_nil))) (pg_name (i := 1) sc_is_rising.nd rfl (Or.inl rfl)) (pss_one (ps_if (pt_cmpR (op_geK (K := K) rfl) (pe_ix (ix_K (K := K) rfl) (pv 0) (pe_op op_sub (pv 1) (pe_int)) (fun _ _ => rfl)) (pe_ix (ix_K (K := K) rfl) (pv 0) (pv 1) (fun _ _ => rfl)) (nomark _)) (pss_one (ps_ret (pe_bl))) (pss_nil))))
  (pss_one (ps_ret (pe_bl))), ?_⟩
    have hlen : LenV K (.ref p) H ns.length := by
      rcases hp with hp | hp
      · exact .inl ⟨_, hp, by rw [List.length_map]⟩
      · exact .inr ⟨_, hp, by rw [List.length_map]⟩
    refine ⟨_, rfl, _, _, rfl, hlen, 1, (ns.length : Int), rfl, ⟨by decide, by decide, by omega, by omega⟩, for_range (lo := 1) (n := ((ns.length : Int) - 1).toNat) (fun i σ H' => ∃ v, σ = [some (.ref p), v] ∧ Same H H') ⟨none, rfl, .refl H⟩ ?_ ?_⟩
    · rintro i σ H1 hi ⟨v, rfl, e⟩
      obtain ⟨a, b, ha, hb⟩ := at_pair (ns := ns) (i := i) (by omega)
      have ix : ∀ (j : Nat) (z : Int) (zi : Int) (Q' : VK), ns[j]? = some z → zi = (j : Int) → Q' (.int z) H1 → rIx K (.ref p) (.int zi) H1 Q' := fun j z zi Q' hj ez q => by
        subst ez
        have hj' : (ns.map V.int)[j]? = some (.int z) := by rw [List.getElem?_map, hj]; rfl
        rcases hp with hp | hp
        · exact .inl ⟨p, _, _, _, rfl, rfl, e.seq hp, atI_nat hj', q⟩
        · exact .inr (.inl ⟨p, _, _, _, rfl, rfl, same_t e hp, atI_nat hj', q⟩)
      refine ⟨_, rfl, _, rfl, _, _, rfl, rfl, ix i a _ _ ha (by omega) ⟨_, rfl, _, rfl, ix (i + 1) b _ _ hb (by omega) ?_⟩⟩
      have hab := pw_lt up ha hb
      exact .inl ⟨_, _, rfl, rfl, _, rfl, iteNo (by omega) ⟨_, rfl, e⟩⟩
    · rintro σ H1 ⟨v, rfl, e⟩
      exact k H1 e

end
end Q

set_option Elab.async false
set_option linter.all false
set_option maxRecDepth 100000
set_option maxHeartbeats 8000000
namespace Q
open PySem PySem.Spec PyProof.Rows L2 PW Nt
section
variable {P : Program} {w : World} {K : PySem.W.Frag} {mg : Str → Option Value} {base : Heap} {A : Ad}
/-! ### small tools -/
def spBelow (K : PySem.W.Frag) : Sp := fun vs H Q _ => ∃ (a : Addr) (ns : List Int) (lim : Int), vs = [.ref a, .int lim] ∧ SqL K H a (ns.map V.int) ∧ (∀ x ∈ ns, 0 ≤ x ∧ x < lim) ∧ ∀ H', Same H H' → Q (.bl true) H'
theorem ok_are_below (T : Txt K mg A) : FnOk P w K mg base CX0 1 A.a_are_below A.d_are_below ["numbers", "limit"] (spBelow K) := by
  refine T.F_are_below.ok sc_are_below (fun vs H Q E h => ?_) (fun cdv A' outer s H vs Q E hr h => ?_)
  · obtain ⟨a, ns, lim, rfl, _⟩ := h; rfl
  · obtain ⟨a, ns, lim, rfl, hs, hb, k⟩ := h
    refine ⟨_, pss_cons (ps_for PassesOwn.never rfl (pi_listK (K := K) rfl (pv 0)) (pg_name (i := 2) sc_are_below.nd rfl (Or.inl rfl)) (pss_one (ps_if (PW.pt (pw_or (pt_cmpR (op_ltK (K := K) rfl) (pv 2) (pe_int) (nomark _)) (pw_or1 (pt_cmpR (op_geK (K := K) rfl) (pv 2) (pv 1) (nomark _))))) (pss_one (ps_ret (pe_bl))) (pss_nil))))
  (pss_one (ps_ret (pe_bl))), ?_⟩
    refine ⟨_, rfl, a, rfl, ⟨_, hs⟩, for_list (xs := ns.map V.int) (fun i σ H' => ∃ v, σ = [some (.ref a), some (.int lim), v] ∧ Same H H') ⟨none, rfl, .refl H⟩ (fun i σ H' _ ⟨v, _, e⟩ => e.seq hs) ?_ ?_⟩
    · rintro i x σ H' hx ⟨v, rfl, e⟩
      obtain ⟨z, hz, rfl⟩ := item_int hx
      have := hb z (List.mem_of_getElem? hz)
      exact ⟨_, rfl, .inl ⟨_, _, rfl, rfl, _, rfl, iteNo (by omega) ⟨_, rfl, _, rfl, .inl ⟨_, _, rfl, rfl, _, rfl, iteNo (by omega) ⟨_, rfl, e⟩⟩⟩⟩⟩
    · rintro σ H' ⟨v, rfl, e⟩
      exact k H' e
def spTwice (K : PySem.W.Frag) : Sp := fun vs H Q _ => ∃ (a : Addr) (ns : List Int), vs = [.ref a] ∧ SqL K H a (ns.map V.int) ∧ ns.length < 64 ∧ ns.Nodup ∧ ∀ H', Same H H' → Q (.bl false) H'
theorem ok_has_twice (T : Txt K mg A) : FnOk P w K mg base CX0 1 A.a_has_twice A.d_has_twice ["numbers"] (spTwice K) := by
  refine T.F_has_twice.ok sc_has_twice (fun vs H Q E h => ?_) (fun cdv A' outer s H vs Q E hr h => ?_)
  · obtain ⟨a, ns, rfl, _⟩ := h; rfl
  · obtain ⟨a, ns, rfl, hs, hl, nd, k⟩ := h
    refine ⟨_, pss_one (ps_ret (pe_cmpR (op_ltK (K := K) rfl) (RZ.pe_lenSetI (by rfl) T.n_len (by rfl) T.n_set (pv 0)) (pe_callB (call_lenK (K := K) rfl) (by rfl) T.n_len (by decide +kernel) (pa_cons (pv 0) pa_nil)) (nomark _))), ?_⟩
    refine ⟨_, rfl, a, ns, rfl, hs, nd, by omega, _, rfl, _, _, rfl, .inl ⟨_, hs, rfl⟩, .inl ⟨_, _, rfl, rfl, ?_⟩⟩
    show Q (.bl (decide ((ns.length : Int) < ((ns.map V.int).length : Int)))) H
    rw [List.length_map, decide_eq_false (by omega)]
    exact k H (.refl H)
def spClean (K : PySem.W.Frag) : Sp := fun vs H Q _ => ∃ (F : Hp) (a : Addr) (ns : List Int) (lim : Int), vs = [.ref a, .int lim] ∧ SqL K H a (ns.map V.int) ∧ ns.Pairwise (· < ·) ∧ (∀ x ∈ ns, 0 ≤ x ∧ x < lim) ∧ ns.length < 64 ∧ Same F H ∧ RetD K F H Q (encI ns)
theorem ok_clean_holders (T : Txt K mg A) : FnOk P w K mg base CX0 2 A.a_clean_holders A.d_clean_holders ["holders", "seats"] (spClean K) := by
  refine T.F_clean_holders.ok sc_clean_holders (fun vs H Q E h => ?_) (fun cdv A' outer s H vs Q E hr h => ?_)
  · obtain ⟨F, a, ns, lim, rfl, _⟩ := h; rfl
  · obtain ⟨F, a, ns, lim, rfl, hs, up, hb, hl, eF, k⟩ := h
    refine ⟨_, pss_cons (ps_if (PW.pt (pw_or (pt_val (pe_call (ok_has_twice T) (hr.mono (by decide)) rfl T.g_has_twice T.F_has_twice.kp T.b_has_twice .nil pass0 (pa_cons (pv 0) pa_nil))) (pw_or1 (pt_not (pt_val (pe_call (ok_are_below T) (hr.mono (by decide)) rfl T.g_are_below T.F_are_below.kp T.b_are_below .nil pass0 (pa_cons (pv 0) (pa_cons (pv 1) pa_nil)))))))) (pss_one (ps_ret (pe_non))) (pss_nil))
  (pss_one (ps_ret (pe_callTy (call_tupleK (K := K) rfl) (by rfl) T.n_tuple (by decide +kernel) (pa_cons (pe_callB (cr_sortedK (K := K) rfl) (by rfl) T.n_sorted (by decide +kernel) (pa_cons (pv 0) pa_nil)) pa_nil)))), ?_⟩
    refine ⟨_, rfl, a, ns, rfl, hs, hl, up_nd up, fun H1 s1 => ⟨false, rfl, iteF ?_⟩⟩
    refine ⟨_, rfl, _, rfl, a, ns, lim, rfl, s1.seq hs, hb, fun H2 s2 => ⟨true, rfl, iteF ?_⟩⟩
    have s02 := s1.trans s2
    refine ⟨_, rfl, a, ns, rfl, s02.seq hs, fun ns' p hp hsr hn => ?_⟩
    have e := up_eq hp hsr up
    subst e
    have w := (Wd.start eF).same s02
    obtain ⟨w1, e1⟩ := w.fix hn (.lst (ns'.map V.int))
    refine ⟨p, _, rfl, .inl ⟨.of upd_same, fun t ht => ?_⟩⟩
    obtain ⟨w2, e2⟩ := w1.fix ht (.tup (ns'.map V.int))
    exact k _ _ _ w2.done (dp_I_of (.of upd_same))
def spRoads (K : PySem.W.Frag) : Sp := fun vs H Q _ => ∃ (a : Addr) (rv : List V) (rows : List (List Int)), vs = [.ref a] ∧ SqL K H a rv ∧ DpAll K H rv (rows.map encL) ∧ (∀ r ∈ rows, r.length = rows.length ∧ ∀ x ∈ r, 0 ≤ x) ∧ rows ≠ [] ∧ ∀ H', Same H H' → Q (.bl true) H'
theorem ok_are_roads (T : Txt K mg A) : FnOk P w K mg base CX0 1 A.a_are_roads A.d_are_roads ["roads"] (spRoads K) := by
  refine T.F_are_roads.ok sc_are_roads (fun vs H Q E h => ?_) (fun cdv A' outer s H vs Q E hr h => ?_)
  · obtain ⟨a, rv, rows, rfl, _⟩ := h; rfl
  · obtain ⟨a, rv, rows, rfl, hs, da, hb, hne, k⟩ := h
    have hu64 := hu64_of hr
    have hrl : rv.length = rows.length := by rw [dpa_len da, List.length_map]
    refine ⟨_, pss_cons (ps_for PassesOwn.never rfl (pi_listK (K := K) rfl (pv 0)) (pg_name (i := 1) sc_are_roads.nd rfl (Or.inl rfl)) (pss_cons (ps_if (pt_cmpR (op_neK (K := K) rfl hu64) (pe_callB (call_lenK (K := K) rfl) (by rfl) T.n_len (by decide +kernel) (pa_cons (pv 1) pa_nil)) (pe_callB (call_lenK (K := K) rfl) (by rfl) T.n_len (by decide +kernel) (pa_cons (pv 0) pa_nil)) (nomark _)) (pss_one (ps_ret (pe_bl))) (pss_nil))
    (pss_one (ps_for PassesOwn.never rfl (pi_listK (K := K) rfl (pv 1)) (pg_name (i := 2) sc_are_roads.nd rfl (Or.inl rfl)) (pss_one (ps_if (pt_cmpR (op_ltK (K := K) rfl) (pv 2) (pe_int) (nomark _)) (pss_one (ps_ret (pe_bl))) (pss_nil)))))))
  (pss_one (ps_ret (pe_cmpR (op_gtK (K := K) rfl) (pe_callB (call_lenK (K := K) rfl) (by rfl) T.n_len (by decide +kernel) (pa_cons (pv 0) pa_nil)) (pe_int) (nomark _)))), ?_⟩
    refine ⟨_, rfl, a, rfl, ⟨_, hs⟩, for_list (xs := rv) (fun i σ H' => ∃ v1 v2, σ = [some (.ref a), v1, v2] ∧ Same H H') ⟨none, none, rfl, .refl H⟩ (fun i σ H' _ ⟨_, _, _, e⟩ => e.seq hs) ?_ ?_⟩
    · rintro i x σ H1 hx ⟨v1, v2, rfl, e⟩
      obtain ⟨d, hd, dx⟩ := dpa_get da hx
      obtain ⟨r, hr', rfl⟩ := item_map hd
      obtain ⟨q, rfl, hq⟩ := dp_L dx
      obtain ⟨h1, h2⟩ := hb r (List.mem_of_getElem? hr')
      refine ⟨_, rfl, _, _, rfl, .inl ⟨_, e.seq hq, rfl⟩, _, rfl, _, _, rfl, .inl ⟨_, e.seq hs, rfl⟩, .inl ⟨rfl, _, rfl, iteNS (by rw [List.length_map, h1, hrl]) ?_⟩⟩
      refine ⟨_, rfl, q, rfl, ⟨_, e.seq hq⟩, for_list (xs := r.map V.int) (fun j σ H' => ∃ v2, σ = [some (.ref a), some (.ref q), v2] ∧ Same H H') ⟨v2, rfl, e⟩ (fun j σ H' _ ⟨_, _, e⟩ => e.seq hq) ?_ ?_⟩
      · rintro j y σ H2 hy ⟨v2, rfl, e⟩
        obtain ⟨z, hz, rfl⟩ := item_int hy
        have := h2 z (List.mem_of_getElem? hz)
        exact ⟨_, rfl, .inl ⟨_, _, rfl, rfl, _, rfl, iteNo (by omega) ⟨_, rfl, e⟩⟩⟩
      · rintro σ H2 ⟨v2, rfl, e⟩
        exact ⟨_, _, rfl, e⟩
    · rintro σ H1 ⟨v1, v2, rfl, e⟩
      refine ⟨_, rfl, _, _, rfl, .inl ⟨_, e.seq hs, rfl⟩, .inl ⟨_, _, rfl, rfl, ?_⟩⟩
      have := List.length_pos_iff.mpr hne
      show Q (.bl (decide ((0 : Int) < (rv.length : Int)))) H1
      rw [decide_eq_true (by omega)]
      exact k H1 e
/-! ### nets -/
def nf (r h : Addr) (n m : Int) : List (Str × V) := [("roads", .ref r), ("holders", .ref h), ("seats", .int n), ("pieces", .int m)]
theorem lk_here {k : Str} {v : V} {r : List (Str × V)} : List.lookup k ((k, v) :: r) = some v := by
  have e : (k == k) = true := beq_self_eq_true k
  simp only [List.lookup, e]
theorem lk_past {k g : Str} {v : V} {r : List (Str × V)} (h : (k == g) = false) : List.lookup k ((g, v) :: r) = List.lookup k r := by
  simp only [List.lookup, h]
theorem put_here {f : Str} {v x : V} {r : List (Str × V)} : putF f v ((f, x) :: r) = (f, v) :: r := if_pos rfl
theorem put_past {f g : Str} {v x : V} {r : List (Str × V)} (h : ¬ g = f) : putF f v ((g, x) :: r) = (g, x) :: putF f v r := if_neg h
section
variable (r h : Addr) (n m : Int)
theorem nf_roads : (nf r h n m).lookup ("roads" : Str) = some (.ref r) := lk_here
theorem nf_holders : (nf r h n m).lookup ("holders" : Str) = some (.ref h) := (lk_past (by decide +kernel)).trans lk_here
theorem nf_seats : (nf r h n m).lookup ("seats" : Str) = some (.int n) := (lk_past (by decide +kernel)).trans ((lk_past (by decide +kernel)).trans lk_here)
theorem nf_pieces : (nf r h n m).lookup ("pieces" : Str) = some (.int m) := (lk_past (by decide +kernel)).trans ((lk_past (by decide +kernel)).trans ((lk_past (by decide +kernel)).trans lk_here))
theorem nf_new : putF "pieces" (.int m) (putF "seats" (.int n) (putF "holders" (.ref h) (putF "roads" (.ref r) []))) = nf r h n m := by
  have e1 : putF "holders" (.ref h) (putF "roads" (.ref r) []) = ([("roads", .ref r), ("holders", .ref h)] : List (Str × V)) := (put_past (by decide +kernel)).trans rfl
  have e2 : putF "seats" (.int n) [(("roads" : Str), .ref r), ("holders", .ref h)] = ([("roads", .ref r), ("holders", .ref h), ("seats", .int n)] : List (Str × V)) := (put_past (by decide +kernel)).trans (congrArg _ ((put_past (by decide +kernel)).trans rfl))
  rw [e1, e2]
  exact (put_past (by decide +kernel)).trans (congrArg _ ((put_past (by decide +kernel)).trans (congrArg _ ((put_past (by decide +kernel)).trans rfl))))
end
theorem few_put (f : Str) (v : V) : ∀ (fs : List (Str × V)) (m : Nat), fs.length ≤ m → (putF f v fs).length ≤ m + 1
  | [], m, _ => by show 1 ≤ m + 1; omega
  | (g, x) :: r, m, hm => by
    cases m with
    | zero => simp at hm
    | succ m =>
      by_cases hg : g = f
      · subst hg; rw [put_here]; simp at hm ⊢; omega
      · rw [put_past hg]
        have := few_put f v r m (by simpa using hm)
        simp; omega
def spNet (K : PySem.W.Frag) (A : Ad) : Sp := fun vs H Q _ => ∃ (F0 H0 F : Hp) (M : List (Addr × HO)) (p dx ra ha : Addr) (rv hv : List V) (rows held : List (List Int)), vs = [.ref p, .ref ra, .ref ha] ∧ Wd F0 H0 F H ((p, .ins A.A_Net dx []) :: M) ∧
  SqL K F ra rv ∧ DpAll K F rv (rows.map encL) ∧ (∀ r ∈ rows, r.length = rows.length ∧ ∀ x ∈ r, 0 ≤ x) ∧ rows ≠ [] ∧ rows.length ≤ 60 ∧ SqL K F ha hv ∧ DpAll K F hv (held.map encL) ∧ (∀ h ∈ held, h.Pairwise (· < ·) ∧ ∀ x ∈ h, 0 ≤ x ∧ x < (rows.length : Int)) ∧ held.length ≤ 1000 ∧
  ∀ F' H' r h, Same F F' → Wd F0 H0 F' H' ((p, .ins A.A_Net dx (nf r h (rows.length : Int) (held.length : Int))) :: M) → Dp K F' (.ref r) (.tuple (rows.map encI)) → Dp K F' (.ref h) (.tuple (held.map encI)) → Q .non H'
theorem ok_Net_init (T : Txt K mg A) : FnOk P w K mg base CX0 3 A.a_Net_init A.d_Net_init ["self", "roads", "holders"] (spNet K A) := by
  refine T.F_Net_init.ok sc_Net_init (fun vs H Q E h => ?_) (fun cdv A' outer s H vs Q E hr h => ?_)
  · obtain ⟨F0, H0, F, M, p, dx, ra, ha, rv, hv, rows, held, rfl, _⟩ := h; rfl
  · obtain ⟨F0, H0, F, M, p, dx, ra, ha, rv, hv, rows, held, rfl, w0, hra, dra, hrow, hne, hrl, hha, dha, hheld, hhl, k⟩ := h
    have hu64 := hu64_of hr
    have hrv : rv.length = rows.length := by rw [dpa_len dra, List.length_map]
    have hhv : hv.length = held.length := by rw [dpa_len dha, List.length_map]
    refine ⟨_, pss_cons (ps_if (pt_not (pt_val (pe_call (ok_are_roads T) (hr.mono (by decide)) rfl T.g_are_roads T.F_are_roads.kp T.b_are_roads .nil pass0 (pa_cons (pv 1) pa_nil)))) (pss_never) (pss_nil))
  (pss_cons (ps_set (i := 3) sc_Net_init.nd rfl (Or.inl rfl) (pe_lst (pa_nil)))
  (pss_cons (ps_for PassesOwn.never rfl (pi_enum (by rfl) T.n_enumerate (pa_cons (pv 2) pa_nil)) (pg_tupK (K := K) (n := 2) rfl rfl (pgs_cons (pg_name (i := 4) sc_Net_init.nd rfl (Or.inl rfl)) (pgs_cons (pg_name (i := 5) sc_Net_init.nd rfl (Or.inl rfl)) pgs_nil))) (pss_cons (ps_set (i := 6) sc_Net_init.nd rfl (Or.inl rfl) (pe_call (ok_clean_holders T) (hr.mono (by decide)) rfl T.g_clean_holders T.F_clean_holders.kp T.b_clean_holders .nil pass0 (pa_cons (pv 5) (pa_cons (pe_callB (call_lenK (K := K) rfl) (by rfl) T.n_len (by decide +kernel) (pa_cons (pv 1) pa_nil)) pa_nil))))
    (pss_cons (ps_if (pt_cmp (pc_isN (pv 6))) (pss_never) (pss_nil))
    (pss_one (ps_expr (pe_bm PySem.F.plainAttrs_list PySem.F.slot_list_append PySem.F.type_list_append mt_append (pv 3) (pa_cons (pv 6) pa_nil)))))))
  (pss_cons (ps_fld (pv 0) (pe_callTy (call_tupleK (K := K) rfl) (by rfl) T.n_tuple (by decide +kernel) (pa_cons (pe_lc (own := [("row", 7)]) rfl sc_Net_init.nd (pi_listK (K := K) rfl (pv 1)) (blkOk_by (own := [("row", 7)]) (N := ["self", "roads", "holders", "cleaned", "piece", "held", "clean", "row"]) (sc := defScope s_Net_init) (by decide +kernel)) (fun _ _ _ _ _ => pg_name (i := 7) sc_Net_init.nd rfl (Or.inl rfl)) (fun _ _ _ _ _ => pts_nil) (fun _ _ _ _ _ => pe_callTy (call_tupleK (K := K) rfl) (by rfl) T.n_tuple (by decide +kernel) (pa_cons (pv 7) pa_nil))) pa_nil)) rfl)
  (pss_cons (ps_fld (pv 0) (pe_callTy (call_tupleK (K := K) rfl) (by rfl) T.n_tuple (by decide +kernel) (pa_cons (pv 3) pa_nil)) rfl)
  (pss_cons (ps_fld (pv 0) (pe_callB (call_lenK (K := K) rfl) (by rfl) T.n_len (by decide +kernel) (pa_cons (pv 1) pa_nil)) rfl)
  (pss_one (ps_fld (pv 0) (pe_callB (call_lenK (K := K) rfl) (by rfl) T.n_len (by decide +kernel) (pa_cons (pv 3) pa_nil)) rfl))))))), ?_⟩
    refine ⟨_, rfl, ra, rv, rows, rfl, same_l w0.fh hra, dpa_mono w0.fh dra, hrow, hne, fun H1 s1 => ⟨true, rfl, iteF ?_⟩⟩
    have w1 := w0.same s1
    refine ⟨Nat.zero_le _, fun D hD => ?_⟩
    have w2 := w1.own hD (.lst [])
    refine ⟨_, rfl, ha, hv, rfl, same_l w2.fh hha, for_enum (xs := hv) (fun i σ H' => ∃ (F' : Hp) (cv : List V) (v4 v5 v6 : Option V), σ = [some (.ref p), some (.ref ra), some (.ref ha), some (.ref D), v4, v5, v6, none] ∧ Same F F' ∧ Wd F0 H0 F' H' ((D, .lst cv) :: (p, .ins A.A_Net dx []) :: M) ∧ DpAll K F' cv ((held.take i).map encI))
      ⟨F, [], none, none, none, rfl, .refl F, w2, .nil⟩ ?_ ?_ ?_⟩
    · rintro i σ H' ⟨F', cv, v4, v5, v6, rfl, e, w3, _⟩
      exact same_l (e.trans w3.fh) hha
    · rintro i x σ H' hx ⟨F', cv, v4, v5, v6, rfl, e, w3, dc⟩ t ht
      obtain ⟨d, hd, dx'⟩ := dpa_get dha hx
      obtain ⟨h, hh, rfl⟩ := item_map hd
      obtain ⟨q, rfl, hq⟩ := dp_L dx'
      have hi := (List.getElem?_eq_some_iff.mp hh).1
      obtain ⟨hup, hlt⟩ := hheld h (List.mem_of_getElem? hh)
      have hl64 : h.length < 64 := by
        have := nd_len (up_nd hup) (m := ntTo rows.length) fun y hy => mem_ntTo.mpr (hlt y hy)
        rw [ntTo_len] at this
        omega
      obtain ⟨F4, w4, e4, i4⟩ := w3.fixE ht (.tup [.int (i : Nat), .ref q])
      refine ⟨t, _, rfl, .of upd_same, rfl, _, _, rfl, _, _, rfl, rfl, ?_⟩
      refine ⟨_, rfl, _, rfl, _, _, rfl, .inl ⟨_, same_l ((e.trans e4).trans w4.fh) hra, rfl⟩, F4, q, h, _, rfl, same_l ((e.trans e4).trans w4.fh) hq, hup, (fun y hy => by rw [hrv]; exact hlt y hy), hl64, w4.fh, fun v F5 H5 st5 Dv => ?_⟩
      have w5 := w4.step st5
      obtain ⟨z, rfl, hz⟩ := dp_I Dv
      refine ⟨_, rfl, _, rfl, iteNo (fun z => nomatch z) ?_⟩
      have hcl : cv.length ≤ i := by rw [dpa_len dc, List.length_map, List.length_take]; omega
      refine ⟨_, rfl, .inl ⟨rfl, _, .of w5.at_⟩, _, rfl, D, _, _, rfl, rfl, w5.at_, small' (by omega), ?_⟩
      refine ⟨F5, _, _, _, _, rfl, e.trans (e4.trans st5.ff), w5.set _, ?_⟩
      rw [take_more1 hh, List.map_append]
      exact dpa_snoc (dpa_mono (e4.trans st5.ff) dc) Dv
    · rintro σ H' ⟨F', cv, v4, v5, v6, rfl, e, w3, dc⟩
      rw [hhv, List.take_length] at dc
      have hcl : cv.length = held.length := by rw [dpa_len dc, List.length_map]
      -- the roads
      refine ⟨_, rfl, ra, rfl, ⟨_, same_l (e.trans w3.fh) hra⟩, fun D2 hD2 => ?_⟩
      refine lc_wdL (xs := rv) (rows.map encI) (by rw [List.length_map, hrv]) w3 hD2 (same_l e hra) (by omega) ?_ ?_
      · intro i x d F1 H1 acc Q1 hx hd e1 w4 kk
        obtain ⟨d2, hd2, dx2⟩ := dpa_get dra hx
        obtain ⟨r, hr', rfl⟩ := item_map hd2
        rw [List.getElem?_map, hr'] at hd
        cases hd
        obtain ⟨q, rfl, hq⟩ := dp_L dx2
        refine ⟨rfl, _, rfl, q, _, rfl, .inl ⟨same_l ((e.trans e1).trans w4.fh) hq, fun t ht => ?_⟩⟩
        obtain ⟨w5, e5⟩ := (Wd.start w4.fh).fix ht (.tup (r.map V.int))
        exact kk _ _ _ w5.done (dp_I_of (.of upd_same))
      · intro rs F1 H1 e1 w4 dr
        refine ⟨D2, _, rfl, .inl ⟨.of w4.at_, fun r hr' => ?_⟩⟩
        obtain ⟨F5, w5, e5, i5⟩ := w4.drop.fixE hr' (.tup rs)
        have dr5 : Dp K F5 (.ref r) (.tuple (rows.map encI)) := .tup (.of i5) (dpa_mono e5 dr)
        refine ⟨_, rfl, p, _, dx, _, rfl, w5.atM (L := [_]), T.cl_Net, T.o_Net_roads, by show 0 < 1000; decide, ?_⟩
        have w6 := w5.setM (L := [_]) (.ins A.A_Net dx (putF "roads" (.ref r) []))
        refine ⟨_, rfl, D, _, rfl, .inl ⟨.of w6.at_, fun h hh => ?_⟩⟩
        obtain ⟨F7, w7, e7, i7⟩ := w6.fixE hh (.tup cv)
        have dh7 : Dp K F7 (.ref h) (.tuple (held.map encI)) := .tup (.of i7) (dpa_mono (e1.trans (e5.trans e7)) dc)
        have f1 := few_put "roads" (V.ref r) [] 0 (Nat.le_refl _)
        have f2 := few_put "holders" (V.ref h) _ _ f1
        have f3 := few_put "seats" (V.int (rv.length : Int)) _ _ f2
        refine ⟨_, rfl, p, _, dx, _, rfl, w7.atM (L := [_]), T.cl_Net, T.o_Net_holders, by omega, ?_⟩
        have w8 := w7.setM (L := [_]) (.ins A.A_Net dx (putF "holders" (.ref h) (putF "roads" (.ref r) [])))
        refine ⟨_, rfl, _, _, rfl, .inl ⟨_, same_l ((e.trans (e1.trans (e5.trans e7))).trans w8.fh) hra, rfl⟩, _, rfl, p, _, dx, _, rfl, w8.atM (L := [_]), T.cl_Net, T.o_Net_seats, by omega, ?_⟩
        have w9 := w8.setM (L := [_]) (.ins A.A_Net dx (putF "seats" (.int (rv.length : Int)) (putF "holders" (.ref h) (putF "roads" (.ref r) []))))
        refine ⟨_, rfl, _, _, rfl, .inl ⟨_, .of w9.at_, rfl⟩, _, rfl, p, _, dx, _, rfl, w9.atM (L := [_]), T.cl_Net, T.o_Net_pieces, by omega, ?_⟩
        have w10 := w9.setM (L := [_]) (.ins A.A_Net dx (putF "pieces" (.int (cv.length : Int)) (putF "seats" (.int (rv.length : Int)) (putF "holders" (.ref h) (putF "roads" (.ref r) [])))))
        rw [nf_new, hrv, hcl] at w10 ⊢
        exact k _ _ r h (e.trans (e1.trans (e5.trans e7))) w10.drop (dp_mono e7 dr5) dh7
/-- a net at p: all roads alike -/
def NetAt (K : PySem.W.Frag) (A : Ad) (F : Hp) (p : Addr) (n : Nat) (cap : Int) (held : List (List Int)) : Prop := ∃ dx r h, F p = some (.ins A.A_Net dx (nf r h (n : Int) (held.length : Int))) ∧ Dp K F (.ref r) (.tuple ((List.replicate n (List.replicate n cap)).map encI)) ∧ Dp K F (.ref h) (.tuple (held.map encI))
theorem NetAt.mono {F F' : Hp} {p : Addr} {n : Nat} {cap : Int} {held : List (List Int)} (h : NetAt K A F p n cap held) (e : Same F F') : NetAt K A F' p n cap held := by
  obtain ⟨dx, r, q, h1, h2, h3⟩ := h
  exact ⟨dx, r, q, e _ _ h1, dp_mono e h2, dp_mono e h3⟩
def spLevel (K : PySem.W.Frag) (A : Ad) : Sp := fun vs H Q _ => ∃ (F : Hp) (n : Nat) (cap : Int) (ha : Addr) (hv : List V) (held : List (List Int)), vs = [.ref A.A_Net, .int (n : Int), .int cap, .ref ha] ∧ 1 ≤ n ∧ n ≤ 60 ∧ 0 ≤ cap ∧ SqL K F ha hv ∧ DpAll K F hv (held.map encL) ∧ (∀ h ∈ held, h.Pairwise (· < ·) ∧ ∀ x ∈ h, 0 ≤ x ∧ x < (n : Int)) ∧ held.length ≤ 1000 ∧ Same F H ∧
  ∀ p F' H', Step F H F' H' → NetAt K A F' p n cap held → Q (.ref p) H'
theorem rep_flat {α : Type} (n : Nat) (x : α) : (List.replicate n [x]).flatten = List.replicate n x := by
  induction n with
  | zero => rfl
  | succ n ih => rw [List.replicate_succ, List.flatten_cons, ih, List.replicate_succ]; rfl
theorem ok_Net_level (T : Txt K mg A) : FnOk P w K mg base CX0 5 A.a_Net_level A.d_Net_level ["cls", "seats", "cap", "holders"] (spLevel K A) := by
  refine T.F_Net_level.ok sc_Net_level (fun vs H Q E h => ?_) (fun cdv A' outer s H vs Q E hr h => ?_)
  · obtain ⟨F, n, cap, ha, hv, held, rfl, _⟩ := h; rfl
  · obtain ⟨F, n, cap, ha, hv, held, rfl, n1, n60, c0, hha, dha, hheld, hhl, eF, k⟩ := h
    have hu64 := hu64_of hr
    refine ⟨_, pss_one (ps_ret (PW.pe_makeL (i := 0) T.M_Net (ok_Net_init T) (hr.mono (by decide)) rfl (by first | exact Or.inl rfl | exact Or.inr (Or.inl rfl)) T.b_Net_init pass0 (pa_cons (pe_lc (own := [("sender", 4)]) rfl sc_Net_level.nd (pi_range1 rfl T.n_range (pa_cons (pv 1) pa_nil)) (blkOk_by (own := [("sender", 4)]) (N := ["cls", "seats", "cap", "holders", "sender"]) (sc := defScope s_Net_level) (by decide +kernel)) (fun _ _ _ _ _ => pg_name (i := 4) sc_Net_level.nd rfl (Or.inl rfl)) (fun _ _ _ _ _ => pts_nil) (fun _ _ _ _ _ => pe_op op_mulU (pe_lst (pa_cons (pv 2) pa_nil)) (pv 1))) (pa_cons (pv 3) pa_nil)))), ?_⟩
    have w0 := Wd.start eF
    refine ⟨rfl, _, rfl, (n : Int), rfl, by omega, by omega, fun D hD => ?_⟩
    refine lc_wdR (K := K) (lo := 0) (n := n) ((List.replicate n (List.replicate n cap)).map encL) (by rw [List.length_map, List.length_replicate]) w0 hD (by omega) ?_ ?_
    · intro i d F1 H1 acc Q1 hi hd e1 w1 kk
      obtain ⟨r, hr', rfl⟩ := item_map hd
      rw [List.getElem?_replicate, if_pos hi] at hr'
      cases hr'
      refine ⟨rfl, _, rfl, by show 1 ≤ sizeLine; decide, fun q hq => ?_⟩
      obtain ⟨w2, e2⟩ := (Wd.start w1.fh).fix hq (.lst [.int cap])
      refine ⟨_, rfl, .inr ⟨q, _, _, rfl, rfl, upd_same, by omega, by omega, by rw [Int.toNat_natCast]; exact small (by show 1 * n ≤ _; omega), fun q2 hq2 => ?_⟩⟩
      obtain ⟨w3, e3⟩ := w2.fix hq2 (.lst (List.replicate ((n : Int).toNat) [V.int cap]).flatten)
      refine kk _ _ _ w3.done (dp_L_of (.of ?_))
      rw [upd_same, rep_flat, Int.toNat_natCast, List.map_replicate]
    · intro rs F1 H1 e1 w1 dr
      obtain ⟨w2, e2⟩ := w1.freeze
      refine ⟨_, rfl, fun p dx hp hdx hne => ?_⟩
      have w3 := w2.own hdx (.own p)
      have hp' : upd H1 dx (.own p) p = none := by rw [upd_ne (Ne.symm hne)]; exact hp
      have w4 := w3.own hp' (.ins A.A_Net dx [])
      have hlen : (List.replicate n (List.replicate n cap)).length = n := List.length_replicate
      refine ⟨F, H, _, _, p, dx, D, ha, rs, hv, List.replicate n (List.replicate n cap), held, rfl, w4, .of upd_same, dpa_mono e2 dr, fun r hr' => ?_, fun z => by rw [z] at hlen; exact absurd hlen (by simp; omega), by rw [hlen]; exact n60, same_l (e1.trans e2) hha, dpa_mono (e1.trans e2) dha, by rw [hlen]; exact hheld, hhl, fun F5 H5 r h e5 w5 d1 d2 => ?_⟩
      · rw [List.eq_of_mem_replicate hr']
        exact ⟨by rw [List.length_replicate, List.length_replicate], fun x hx => by rw [List.eq_of_mem_replicate hx]; exact c0⟩
      · rw [hlen] at w5
        obtain ⟨w6, e6⟩ := w5.freeze
        exact ⟨rfl, k p _ _ w6.done ⟨dx, r, h, upd_same, dp_mono e6 d1, dp_mono e6 d2⟩⟩

end
end Q

set_option Elab.async false
set_option linter.all false
set_option maxRecDepth 100000
set_option maxHeartbeats 8000000
namespace Q
open PySem PySem.Spec PyProof.Rows L2 PW Nt
section
variable {P : Program} {w : World} {K : PySem.W.Frag} {mg : Str → Option Value} {base : Heap} {A : Ad}
/-! ### choices -/
/-- a choice at ca: its rows -/
structure ChAt (K : PySem.W.Frag) (F : Hp) (ca : Addr) (rows : List (List Int)) : Prop where
  ex : ∃ cv, SqL K F ca cv ∧ DpAll K F cv (rows.map encI)
theorem ChAt.mono {F F' : Hp} {ca : Addr} {rows : List (List Int)} (h : ChAt K F ca rows) (e : Same F F') : ChAt K F' ca rows := by
  obtain ⟨cv, h1, h2⟩ := h.ex
  exact ⟨cv, same_l e h1, dpa_mono e h2⟩
theorem ChAt.at_ {F : Hp} {ca : Addr} {rows : List (List Int)} (h : ChAt K F ca rows) {i : Nat} {r : List Int} (hr : rows[i]? = some r) : ∃ (cv : List V) (q : Addr), SqL K F ca cv ∧ cv[i]? = some (.ref q) ∧ SqT K F q (r.map V.int) := by
  obtain ⟨cv, h1, h2⟩ := h.ex
  obtain ⟨v, hv, dv⟩ := dpa_at h2 (i := i) (by rw [List.getElem?_map, hr]; rfl)
  obtain ⟨q, rfl, hq⟩ := dp_I dv
  exact ⟨cv, q, h1, hv, hq⟩
theorem ChAt.len {F : Hp} {ca : Addr} {rows : List (List Int)} (h : ChAt K F ca rows) : ∃ cv, SqL K F ca cv ∧ cv.length = rows.length ∧ DpAll K F cv (rows.map encI) := by
  obtain ⟨cv, h1, h2⟩ := h.ex
  exact ⟨cv, h1, by rw [dpa_len h2, List.length_map], h2⟩
/-- the choice fits its net -/
structure Fits (rows held : List (List Int)) (n : Nat) : Prop where
  len : rows.length = held.length
  few : rows.length ≤ 1000
  ok : RowsOk rows n
  sub : ∀ (i : Nat) (r h : List Int), rows[i]? = some r → held[i]? = some h → ∀ x ∈ r, x ∈ h
  n1 : 1 ≤ n
  n60 : n ≤ 60
theorem row_len {rows : List (List Int)} {n : Nat} (h : RowsOk rows n) {r : List Int} (hr : r ∈ rows) : r.length ≤ n := by
  have := nd_len (up_nd (h.up r hr)) (m := ntTo n) fun y hy => mem_ntTo.mpr (h.lt r hr y hy)
  rwa [ntTo_len] at this
theorem held_at {F : Hp} {h : Addr} {held : List (List Int)} (d : Dp K F (.ref h) (.tuple (held.map encI))) {i : Nat} {r : List Int} (hr : held[i]? = some r) : ∃ (hv : List V) (q : Addr), SqT K F h hv ∧ hv[i]? = some (.ref q) ∧ SqT K F q (r.map V.int) := by
  obtain ⟨a, hv, e, h1, h2⟩ := dp_tup d
  cases e
  obtain ⟨v, hv', dv⟩ := dpa_at h2 (i := i) (by rw [List.getElem?_map, hr]; rfl)
  obtain ⟨q, rfl, hq⟩ := dp_I dv
  exact ⟨hv, q, h1, hv', hq⟩
def spCheck (K : PySem.W.Frag) (A : Ad) : Sp := fun vs H Q _ => ∃ (F : Hp) (p ca : Addr) (n : Nat) (cap : Int) (held rows : List (List Int)), vs = [.ref p, .ref ca] ∧ Same F H ∧ NetAt K A F p n cap held ∧ ChAt K F ca rows ∧ Fits rows held n ∧ ∀ H', Same H H' → Q .non H'
theorem ok_check_choice (T : Txt K mg A) : FnOk P w K mg base CX0 2 A.a_check_choice A.d_check_choice ["net", "choice"] (spCheck K A) := by
  refine T.F_check_choice.ok sc_check_choice (fun vs H Q E h => ?_) (fun cdv A' outer s H vs Q E hr h => ?_)
  · obtain ⟨F, p, ca, n, cap, held, rows, rfl, _⟩ := h; rfl
  · obtain ⟨F, p, ca, n, cap, held, rows, rfl, eF, ⟨dx, r, h, hp, dr, dh⟩, ch, ft, k⟩ := h
    have hu64 := hu64_of hr
    have hu65 := hu65_of hr
    obtain ⟨cv, hcv, hcl, dcv⟩ := ch.len
    have few := ft.few
    have hln := ft.len
    refine ⟨_, pss_cons (ps_if (pt_cmpR (op_neK (K := K) rfl hu64) (pe_callB (call_lenK (K := K) rfl) (by rfl) T.n_len (by decide +kernel) (pa_cons (pv 1) pa_nil)) (pe_fldK (K := K) rfl (pv 0) rfl) (nomark _)) (pss_never) (pss_nil))
  (pss_one (ps_for PassesOwn.never rfl (pi_range1 rfl T.n_range (pa_cons (pe_fldK (K := K) rfl (pv 0) rfl) pa_nil)) (pg_name (i := 2) sc_check_choice.nd rfl (Or.inr rfl)) (pss_cons (ps_setLc (i := 3) (own := [("seat", 4)]) rfl sc_check_choice.nd rfl rfl (sw_true rfl rfl rfl (by decide +kernel)) (pi_tupK (K := K) rfl (pe_ix (ix_K (K := K) rfl) (pv 1) (pv 2) (fun _ _ => rfl))) (blkOk_by (own := [("seat", 4)]) (N := ["net", "choice", "piece", "strangers", "seat"]) (sc := defScope s_check_choice) (by decide +kernel)) (fun _ _ _ _ _ => pg_name (i := 4) sc_check_choice.nd rfl (Or.inl rfl)) (fun _ _ _ _ _ => pts_one (pt_cmpR (op_notInK (K := K) rfl hu65) (pv 4) (pe_ix (ix_K (K := K) rfl) (pe_fldK (K := K) rfl (pv 0) rfl) (pv 2) (fun _ _ => rfl)) (by rfl))) (fun _ _ _ _ _ => pv 4))
    (pss_one (ps_if (PW.pt (pw_or (pt_cmpR (op_gtK (K := K) rfl) (pe_callB (call_lenK (K := K) rfl) (by rfl) T.n_len (by decide +kernel) (pa_cons (pv 3) pa_nil)) (pe_int) (nomark _)) (pw_or1 (pt_not (pt_val (pe_call (ok_is_rising T) (hr.mono (by decide)) rfl T.g_is_rising T.F_is_rising.kp T.b_is_rising .nil pass0 (pa_cons (pe_ix (ix_K (K := K) rfl) (pv 1) (pv 2) (fun _ _ => rfl)) pa_nil))))))) (pss_never) (pss_nil)))))), ?_⟩
    refine ⟨_, rfl, _, _, rfl, .inl ⟨_, same_l eF hcv, rfl⟩, _, rfl, p, _, dx, _, _, rfl, eF _ _ hp, T.cl_Net, T.o_Net_pieces, nf_pieces .., .inl ⟨rfl, _, rfl, iteNS (by rw [hcl, ft.len]) ?_⟩⟩
    refine ⟨_, rfl, p, _, dx, _, _, rfl, eF _ _ hp, T.cl_Net, T.o_Net_pieces, nf_pieces .., (held.length : Int), rfl, by omega, by omega, for_range (lo := 0) (n := held.length) (fun i σ H' => ∃ v2 v3 v4, σ = [some (.ref p), some (.ref ca), v2, v3, v4] ∧ Same H H') ⟨none, none, none, rfl, .refl H⟩ ?_ ?_⟩
    · rintro i σ H1 hi ⟨v2, v3, v4, rfl, e⟩
      have hir : i < rows.length := by omega
      obtain ⟨ro, hro⟩ : ∃ ro, rows[i]? = some ro := ⟨_, List.getElem?_eq_getElem hir⟩
      obtain ⟨hd, hhd⟩ : ∃ hd, held[i]? = some hd := ⟨_, List.getElem?_eq_getElem hi⟩
      obtain ⟨cv, q, hcv, hq1, hq⟩ := ch.at_ hro
      have zi : ((0 : Int) + (i : Int)).toNat = i := by omega
      have e1 := eF.trans e
      refine ⟨_, rfl, _, rfl, list_ix (same_l e1 hcv) (by omega) (by rw [zi]; exact hq1) ⟨q, rfl, ⟨_, same_t e1 hq⟩, fun D hD => ?_⟩⟩
      have w1 := (Wd.start e1).own hD (.lst [])
      refine in_tup (xs := ro.map V.int) (fun j H' => Wd F H1 F H' [(D, .lst [])]) w1 (fun j H' w => same_t w.fh hq) ?_ ?_
      · intro j x H2 hx w2
        obtain ⟨z, hz, rfl⟩ := item_int hx
        obtain ⟨hv, qh, hh1, hh2, hh3⟩ := held_at dh hhd
        refine ⟨rfl, _, rfl, _, rfl, p, _, dx, _, _, rfl, w2.fh _ _ hp, T.cl_Net, T.o_Net_holders, nf_holders .., _, rfl, tup_ix (same_t w2.fh hh1) (by omega) (by rw [zi]; exact hh2) (notin_ints (.inr (same_t w2.fh hh3)) ⟨_, rfl, iteNS (ft.sub i ro hd hro hhd z (List.mem_of_getElem? hz)) w2⟩)⟩
      · intro H2 w2
        have s2 : Same H1 H2 := w2.hh
        refine ⟨_, rfl, _, _, rfl, .inl ⟨_, .of w2.at_, rfl⟩, .inl ⟨_, _, rfl, rfl, _, rfl, iteNo (by decide) ?_⟩⟩
        have e2 := e1.trans s2
        refine ⟨_, rfl, _, rfl, list_ix (same_l e2 hcv) (by omega) (by rw [zi]; exact hq1) ⟨.ref q, ro, rfl, ⟨q, rfl, .inr (same_t e2 hq)⟩, by have := row_len ft.ok (List.mem_of_getElem? hro); have := ft.n60; omega, ft.ok.up ro (List.mem_of_getElem? hro), fun H3 s3 => ⟨true, rfl, iteF ⟨_, _, _, rfl, e.trans (s2.trans s3)⟩⟩⟩⟩
    · rintro σ H1 ⟨v2, v3, v4, rfl, e⟩
      exact k H1 e
/-! ### lists of losses -/
def spLists (K : PySem.W.Frag) : Sp := fun vs H Q _ => ∃ (F : Hp) (a : Addr) (n k : Nat), vs = [.ref a, .int (k : Int)] ∧ SqL K F a ((ntTo n).map V.int) ∧ n ≤ 7 ∧ k ≤ n ∧ Same F H ∧ ∀ q F' H' xs, Step F H F' H' → SqL K F' q xs → DpAll K F' xs ((ascL n k).map encL) → Q (.ref q) H'
theorem asc_few {n : Nat} : ∀ k : Nat, (ascL n k).length ≤ n ^ k
  | 0 => Nat.le_refl _
  | k + 1 => by
    show (ascStep n (ascL n k)).length ≤ _
    unfold ascStep
    have key : ∀ l : List (List Int), (l.flatMap fun c => ((ntTo n).filter fun i => lastLt c i).map fun i => c ++ [i]).length ≤ l.length * n := by
      intro l
      induction l with
      | nil => simp
      | cons a l ih =>
        rw [List.flatMap_cons, List.length_append, List.length_map, List.length_cons, Nat.add_mul]
        have := List.length_filter_le (fun i => lastLt a i) (ntTo n)
        rw [ntTo_len] at this
        omega
    refine Nat.le_trans (key _) ?_
    rw [Nat.pow_succ]
    exact Nat.mul_le_mul_right _ (asc_few k)
theorem asc_few7 {n k : Nat} (h : n ≤ 7) (hk : k ≤ n) : (ascL n k).length ≤ 900000 := by
  refine Nat.le_trans (asc_few k) ?_
  refine Nat.le_trans (Nat.pow_le_pow_left h k) ?_
  refine Nat.le_trans (Nat.pow_le_pow_right (by decide) (Nat.le_trans hk h)) (by decide)
theorem last_row {c : List Int} : c = [] ∨ ∃ x, atI (c.map V.int) (-1) = some (.int x) ∧ c.getLast? = some x := by
  by_cases h : c = []
  · exact .inl h
  · have e := List.dropLast_concat_getLast h
    refine .inr ⟨c.getLast h, ?_, List.getLast?_eq_some_getLast h⟩
    have := atI_last (c.dropLast.map V.int) (.int (c.getLast h))
    have e2 : c.dropLast.map V.int ++ [V.int (c.getLast h)] = c.map V.int := by
      have := congrArg (List.map V.int) e
      rwa [List.map_append] at this
    rwa [e2] at this
theorem ok_lists_of (T : Txt K mg A) : FnOk P w K mg base CX0 1 A.a_lists_of A.d_lists_of ["items", "size"] (spLists K) := by
  refine T.F_lists_of.ok sc_lists_of (fun vs H Q E h => ?_) (fun cdv A' outer s H vs Q E hr h => ?_)
  · obtain ⟨F, a, n, kk, rfl, _⟩ := h; rfl
  · obtain ⟨F, a, n, kk, rfl, ha, n7, kn, eF, k⟩ := h
    have hu64 := hu64_of hr
    refine ⟨_, pss_cons (ps_set (i := 2) sc_lists_of.nd rfl (Or.inl rfl) (pe_lst (pa_cons (pe_lst (pa_nil)) pa_nil)))
  (pss_cons (ps_for PassesOwn.never rfl (pi_range1 rfl T.n_range (pa_cons (pv 1) pa_nil)) (pg_name (i := 3) sc_lists_of.nd rfl (Or.inl rfl)) (pss_one (ps_setLc2 (i := 2) (own := [("chosen", 4), ("item", 5)]) (vs1 := [5]) rfl sc_lists_of.nd rfl rfl (sw_true rfl rfl rfl (by decide +kernel)) (pi_listK (K := K) rfl (pv 2)) (blkOk_by (own := [("chosen", 4), ("item", 5)]) (N := ["items", "size", "found", "step", "chosen", "item"]) (sc := defScope s_lists_of) (by decide +kernel)) (by decide) (fun _ _ _ _ _ => pg_name (i := 4) sc_lists_of.nd rfl (Or.inl rfl)) (fun _ _ _ _ _ => pts_nil) (fun _ _ _ _ _ => pi_listK (K := K) rfl (pv 0)) (fun _ _ _ _ _ => pg_name (i := 5) sc_lists_of.nd rfl (Or.inl rfl)) (fun _ _ _ _ _ => pts_one (PW.pt (pw_or (pt_not (pt_truthK (K := K) rfl (pv 4) (by intro _; rfl))) (pw_or1 (pt_cmpR (op_ltK (K := K) rfl) (pe_ix (ix_K (K := K) rfl) (pv 4) (pe_un un_neg (pe_int)) (fun _ _ => rfl)) (pv 5) (nomark _)))))) (fun _ _ _ _ _ => pe_op (op_catLK (K := K) rfl) (pv 4) (pe_lst (pa_cons (pv 5) pa_nil))))))
  (pss_one (ps_ret (pv 2)))), ?_⟩
    have w0 := Wd.start eF
    refine ⟨Nat.zero_le _, fun q1 h1 => ?_⟩
    obtain ⟨F1, w1, e1, i1⟩ := w0.fixE h1 (.lst [])
    refine ⟨by show 1 ≤ sizeLine; decide, fun q2 h2 => ?_⟩
    obtain ⟨F2, w2, e2, i2⟩ := w1.fixE h2 (.lst [.ref q1])
    refine ⟨_, rfl, (kk : Int), rfl, by omega, by omega, for_range (lo := 0) (n := kk) (fun i σ H' => ∃ (F' : Hp) (q : Addr) (xs : List V) (v3 v4 v5 : Option V), σ = [some (.ref a), some (.int (kk : Int)), some (.ref q), v3, v4, v5] ∧ Same F F' ∧ Wd F H F' H' [] ∧ SqL K F' q xs ∧ DpAll K F' xs ((ascL n i).map encL)) ⟨F2, q2, _, none, none, none, rfl, e1.trans e2, w2, .of i2, dpa_one (dp_L_of (l := []) (.of (e2 _ _ i1)))⟩ ?_ ?_⟩
    · rintro i σ H1 hi ⟨F3, q, xs, v3, v4, v5, rfl, e3, w3, hq, dq⟩
      have hxl : xs.length = (ascL n i).length := by rw [dpa_len dq, List.length_map]
      refine ⟨_, rfl, q, rfl, ⟨_, same_l w3.fh hq⟩, fun D hD => ?_⟩
      have w4 := w3.own hD (.lst [])
      refine in_list (xs := xs) (fun j H' => ∃ (F' : Hp) (acc : List V), Same F3 F' ∧ Wd F H F' H' [(D, .lst acc)] ∧ DpAll K F' acc ((ascStep n ((ascL n i).take j)).map encL)) ⟨F3, [], .refl _, w4, .nil⟩ (fun j H' ⟨F', acc, e, w, _⟩ => same_l (e.trans w.fh) hq) ?_ ?_
      · rintro j x H2 hx ⟨F4, acc, e4, w5, da⟩
        obtain ⟨d, hd, dx⟩ := dpa_get dq hx
        obtain ⟨c, hc, rfl⟩ := item_map hd
        obtain ⟨qc, rfl, hqc⟩ := dp_L dx
        have hjl : j < (ascL n i).length := (List.getElem?_eq_some_iff.mp hc).1
        refine ⟨rfl, _, rfl, a, rfl, ⟨_, same_l ((e3.trans e4).trans w5.fh) ha⟩, ?_⟩
        refine in_list (xs := (ntTo n).map V.int) (fun m H' => ∃ (F' : Hp) (acc : List V), Same F3 F' ∧ Wd F H F' H' [(D, .lst acc)] ∧ DpAll K F' acc ((ascStep n ((ascL n i).take j) ++ (((ntTo n).take m).filter fun i => lastLt c i).map fun i => c ++ [i]).map encL)) ⟨F4, acc, e4, w5, by rw [List.take_zero]; simpa using da⟩ (fun m H' ⟨F', acc, e, w, _⟩ => same_l ((e3.trans e).trans w.fh) ha) ?_ ?_
        · rintro m y H3 hy ⟨F5, acc, e5, w6, da⟩
          obtain ⟨z, hz, rfl⟩ := item_int hy
          have hqc6 := same_l (e5.trans w6.fh) hqc
          have hacc : acc.length ≤ 900000 + 7 := by
            have h1 := dpa_len da
            rw [List.length_map, List.length_append, List.length_map] at h1
            have h2 : (ascStep n ((ascL n i).take j)).length ≤ (ascL n (i + 1)).length := by
              show _ ≤ (ascStep n (ascL n i)).length
              have e : ascStep n (ascL n i) = ascStep n ((ascL n i).take j) ++ ascStep n ((ascL n i).drop j) := by
                unfold ascStep
                rw [← List.flatMap_append, List.take_append_drop]
              rw [e, List.length_append]
              omega
            have h3 := asc_few7 n7 (show i + 1 ≤ n by omega)
            have h4 : (((ntTo n).take m).filter fun i => lastLt c i).length ≤ n := by
              refine Nat.le_trans (List.length_filter_le _ _) ?_
              rw [List.length_take, ntTo_len]
              omega
            omega
          have stepY : lastLt c z = true → ((ntTo n).take (m + 1)).filter (fun i => lastLt c i) = ((ntTo n).take m).filter (fun i => lastLt c i) ++ [z] := fun h => by
            rw [take_more1 hz, List.filter_append, List.filter_cons, if_pos h]; rfl
          have stepN : lastLt c z = false → ((ntTo n).take (m + 1)).filter (fun i => lastLt c i) = ((ntTo n).take m).filter (fun i => lastLt c i) := fun h => by
            rw [take_more1 hz, List.filter_append, List.filter_cons, if_neg (by rw [h]; decide), List.filter_nil, List.append_nil]
          have hcl : c.length ≤ 100 := by have := (mem_ascL.mp (List.mem_of_getElem? hc)).2.1; omega
          have elt : ∀ (hlt : lastLt c z = true) (t : Addr), H3 t = none → ∀ t2, upd H3 t (.lst [.int z]) t2 = none → ∃ acc', upd (upd H3 t (.lst [.int z])) t2 (.lst (c.map V.int ++ [.int z])) D = some (.lst acc') ∧ acc'.length < sizeLine ∧
              ∃ (F' : Hp) (acc : List V), Same F3 F' ∧ Wd F H F' (upd (upd (upd H3 t (.lst [.int z])) t2 (.lst (c.map V.int ++ [.int z]))) D (.lst (acc' ++ [.ref t2]))) [(D, .lst acc)] ∧ DpAll K F' acc ((ascStep n ((ascL n i).take j) ++ (((ntTo n).take (m + 1)).filter fun i => lastLt c i).map fun i => c ++ [i]).map encL) := by
            intro hlt t ht t2 ht2
            obtain ⟨F7, w7, e7, i7⟩ := w6.fixE ht (.lst [.int z])
            obtain ⟨F8, w8, e8, i8⟩ := w7.fixE ht2 (.lst (c.map V.int ++ [.int z]))
            refine ⟨acc, w8.at_, small' (by omega), F8, acc ++ [.ref t2], e5.trans (e7.trans e8), w8.set _, ?_⟩
            have e : ascStep n ((ascL n i).take j) ++ (((ntTo n).take (m + 1)).filter fun i => lastLt c i).map (fun i => c ++ [i]) = (ascStep n ((ascL n i).take j) ++ (((ntTo n).take m).filter fun i => lastLt c i).map fun i => c ++ [i]) ++ [c ++ [z]] := by
              rw [stepY hlt, List.map_append, ← List.append_assoc]
              rfl
            rw [e, List.map_append]
            refine dpa_snoc (dpa_mono (e7.trans e8) da) (dp_L_of (.of ?_))
            rw [i8, List.map_append]
            rfl
          refine ⟨rfl, ?_⟩
          rcases last_row (c := c) with hc0 | ⟨x, hx1, hx2⟩
          · have hlt : lastLt c z = true := lastLt_iff.mpr fun x hx => by rw [hc0] at hx; cases hx
            refine ⟨_, rfl, false, .inl ⟨_, hqc6, by rw [hc0]; rfl⟩, iteT ?_⟩
            refine iteT ⟨_, rfl, _, rfl, by show 1 ≤ sizeLine; decide, fun t ht => ⟨qc, t, _, _, rfl, rfl, same_l (same_new ht) hqc6, .of upd_same, small (by rw [List.length_map]; show _ + 1 ≤ _; omega), fun t2 ht2 => elt hlt t ht t2 ht2⟩⟩
          · have hne : c ≠ [] := fun e => by rw [e] at hx2; cases hx2
            refine ⟨_, rfl, true, .inl ⟨_, hqc6, ?_⟩, iteF ⟨_, rfl, _, rfl, .inl ⟨qc, _, _, _, rfl, rfl, hqc6, hx1, _, rfl, .inl ⟨_, _, rfl, rfl, _, rfl, iteD (fun cc => ?_) (fun cc => ?_)⟩⟩⟩⟩
            · cases c with
              | nil => exact absurd rfl hne
              | cons a l => rfl
            · have hlt : lastLt c z = true := lastLt_iff.mpr fun y hy => by rw [hx2] at hy; cases hy; exact cc
              exact ⟨_, rfl, _, rfl, by show 1 ≤ sizeLine; decide, fun t ht => ⟨qc, t, _, _, rfl, rfl, same_l (same_new ht) hqc6, .of upd_same, small (by rw [List.length_map]; show _ + 1 ≤ _; omega), fun t2 ht2 => elt hlt t ht t2 ht2⟩⟩
            · have hlt : lastLt c z = false := Bool.eq_false_iff.mpr fun y => cc (lastLt_iff.mp y x hx2)
              exact ⟨F5, acc, e5, w6, by rw [stepN hlt]; exact da⟩
        · rintro H3 ⟨F5, acc, e5, w6, da⟩
          rw [List.length_map, List.take_length] at da
          refine ⟨F5, acc, e5, w6, ?_⟩
          rw [take_more1 hc]
          unfold ascStep at da ⊢
          rw [List.flatMap_append, List.flatMap_singleton]
          exact da
      · rintro H2 ⟨F4, acc, e4, w5, da⟩
        rw [hxl, List.take_length] at da
        obtain ⟨F6, w6, e6, i6⟩ : ∃ F6, Wd F H F6 H2 [] ∧ Same F4 F6 ∧ F6 D = some (.lst acc) := ⟨_, w5.freeze.1, w5.freeze.2, upd_same⟩
        exact ⟨F6, D, acc, _, _, _, rfl, e3.trans (e4.trans e6), w6, .of i6, dpa_mono e6 da⟩
    · rintro σ H1 ⟨F3, q, xs, v3, v4, v5, rfl, e3, w3, hq, dq⟩
      exact ⟨_, rfl, k q _ _ xs w3.done hq dq⟩

end
end Q

set_option Elab.async false
set_option linter.all false
set_option maxRecDepth 100000
set_option maxHeartbeats 8000000
namespace Q
open PySem PySem.Spec PyProof.Rows L2 PW Nt
section
variable {P : Program} {w : World} {K : PySem.W.Frag} {mg : Str → Option Value} {base : Heap} {A : Ad}
/-! ### roads -/
theorem drep_few {kvs : List (Key × V)} {g : Int → Option Int} {N : Nat} (d : DRep Sum.inl iR kvs g) (h : ∀ i s, g i = some s → 0 ≤ i ∧ i < (N : Int)) : kvs.length ≤ N := by
  obtain ⟨ks, hk, nd, hm⟩ := d.keys inl_inj
  have e := congrArg List.length hk
  rw [List.length_map, List.length_map] at e
  rw [e]
  have := nd_len nd (m := ntTo N) fun x hx => by
    obtain ⟨s, hs⟩ := Option.isSome_iff_exists.mp ((hm x).mp hx)
    exact mem_ntTo.mpr (h x s hs)
  rwa [ntTo_len] at this
theorem road_at {F : Hp} {p : Addr} {n : Nat} {cap : Int} {held : List (List Int)} (h : NetAt K A F p n cap held) {s t : Int} (hs : 0 ≤ s ∧ s < (n : Int)) (ht : 0 ≤ t ∧ t < (n : Int)) :
    ∃ (dx r hh : Addr) (rv : List V) (q : Addr), F p = some (.ins A.A_Net dx (nf r hh (n : Int) (held.length : Int))) ∧ SqT K F r rv ∧ rv[s.toNat]? = some (.ref q) ∧ SqT K F q ((List.replicate n cap).map V.int) ∧ ((List.replicate n cap).map V.int)[t.toNat]? = some (.int cap) := by
  obtain ⟨dx, r, hh, h1, h2, h3⟩ := h
  obtain ⟨a, rv, e, h4, h5⟩ := dp_tup h2
  cases e
  obtain ⟨v, hv, dv⟩ := dpa_at h5 (i := s.toNat) (by rw [List.getElem?_map, List.getElem?_replicate, if_pos (by omega)]; rfl)
  obtain ⟨q, rfl, hq⟩ := dp_I dv
  exact ⟨dx, r, hh, rv, q, h1, h4, hv, hq, by rw [List.getElem?_map, List.getElem?_replicate, if_pos (by omega)]; rfl⟩
theorem Done.grow {rows : List (List Int)} {lost R us : List Int} {seen seen' : Int → Option Int} {k : Nat} (h : Done rows lost R seen k) (hk : k ≤ R.length) (hs : ∀ s, (seen s).isSome = true → (seen' s).isSome = true) : Done rows lost (R ++ us) seen' k := fun a q r ha hq hr s hs1 hs2 =>
  hs s (h a q r ha (by rwa [List.getElem?_append_left (by omega)] at hq) hr s hs1 hs2)
def spFind (K : PySem.W.Frag) (A : Ad) : Sp := fun vs H Q _ => ∃ (F0 H0 F : Hp) (M : List (Addr × HO)) (p ca gp la : Addr) (n : Nat) (cap : Int) (held rows : List (List Int)) (kg : List (Key × V)) (g : Int → Option Int) (lost : List Int) (pc : Nat) (seat : Int) (r0 : List Int),
  vs = [.ref p, .ref ca, .ref gp, .int (pc : Int), .ref la, .int seat] ∧ Wd F0 H0 F H ((gp, .dK kg) :: M) ∧ NetAt K A F p n cap held ∧ ChAt K F ca rows ∧ Fits rows held n ∧ SqL K F la (lost.map V.int) ∧ DRep Sum.inl iR kg g ∧ (0 ≤ seat ∧ seat < (n : Int)) ∧ 0 ≤ cap ∧ rows[pc]? = some r0 ∧ seat ∈ r0 ∧ Given rows lost seat cap pc g ∧
  (∀ t F' H' sq rq, ¬ Hall cap (seatRows rows lost seat) → Same F F' → Wd F0 H0 F' H' ((gp, .dK kg) :: M) → F' t = some (.tup [.non, .ref sq, .ref rq]) → Q (.ref t) H') ∧
  (∀ s0 seen ks t F' H' sq rq, Road rows lost seat cap g (pc : Int) seen s0 → Same F F' → Wd F0 H0 F' H' ((gp, .dK kg) :: M) → F' t = some (.tup [.int s0, .ref sq, .ref rq]) → F' sq = some (.dK ks) → DRep Sum.inl iR ks seen → Q (.ref t) H')
theorem ok_find_road (T : Txt K mg A) : FnOk P w K mg base CX0 1 A.a_find_road A.d_find_road ["net", "choice", "given", "piece", "lost", "seat"] (spFind K A) := by
  refine T.F_find_road.ok sc_find_road (fun vs H Q E h => ?_) (fun cdv A' outer s H vs Q E hr h => ?_)
  · obtain ⟨F0, H0, F, M, p, ca, gp, la, n, cap, held, rows, kg, g, lost, pc, seat, r0, rfl, _⟩ := h; rfl
  · obtain ⟨F0, H0, F, M, p, ca, gp, la, n, cap, held, rows, kg, g, lost, pc, seat, r0, rfl, w0, net, ch, ft, hla, dg, hseat, hcap, hr0, hsr, G, kN, kS⟩ := h
    have hu64 := hu64_of hr
    have hu65 := hu65_of hr
    have few := ft.few
    obtain ⟨gk, hgk, gnd, gmem⟩ := dg.keys inl_inj
    have hgp : g (pc : Int) = none := by
      cases q : g (pc : Int) with
      | none => rfl
      | some s => have := (G.ok _ _ q).2; omega
    have hgok : ∀ i s, g i = some s → Ok1 rows lost seat i s := fun i s h => (G.ok i s h).1
    have hgl : kg.length ≤ rows.length := drep_few dg fun i s h => (G.ok i s h).1.lt
    have hgkl : gk.length ≤ rows.length := by
      have e := congrArg List.length hgk
      rw [List.length_map, List.length_map] at e
      omega
    have hup : ∀ r ∈ rows, r.Nodup := fun r hr => up_nd (ft.ok.up r hr)
    have hRfew : ∀ {R : List Int} {seen : Int → Option Int} {S : List Int} {idx : Nat}, Find rows lost seat cap g (pc : Int) R seen S idx → R.length ≤ rows.length := fun f => by
      have := nd_len f.nd (m := ntTo rows.length) fun i hi => by
        obtain ⟨j, r, rfl, hj, _⟩ := f.at_ i hi
        have := (List.getElem?_eq_some_iff.mp hj).1
        exact mem_ntTo.mpr (by omega)
      rwa [ntTo_len] at this
    refine ⟨_, pss_cons (ps_set (i := 6) sc_find_road.nd rfl (Or.inl rfl) (pe_lst (pa_cons (pv 3) pa_nil)))
  (pss_cons (ps_set (i := 7) sc_find_road.nd rfl (Or.inl rfl) (pe_dnewK))
  (pss_cons (ps_set (i := 8) sc_find_road.nd rfl (Or.inl rfl) (pe_int))
  (pss_cons (ps_while PassesOwn.never (pt_cmpR (op_ltK (K := K) rfl) (pv 8) (pe_callB (call_lenK (K := K) rfl) (by rfl) T.n_len (by decide +kernel) (pa_cons (pv 6) pa_nil)) (nomark _)) (pss_cons (ps_set (i := 9) sc_find_road.nd rfl (Or.inl rfl) (pe_ix (ix_K (K := K) rfl) (pv 6) (pv 8) (fun _ _ => rfl)))
    (pss_cons (ps_aug (i := 8) sc_find_road.nd rfl (Or.inl rfl) (pe_int) ip_add)
    (pss_one (ps_for PassesOwn.never rfl (pi_tupK (K := K) rfl (pe_ix (ix_K (K := K) rfl) (pv 1) (pv 9) (fun _ _ => rfl))) (pg_name (i := 10) sc_find_road.nd rfl (Or.inr rfl)) (pss_one (ps_if (PW.pt (pw_and (pt_cmpR (op_notInK (K := K) rfl hu65) (pv 10) (pv 4) (by rfl)) (pw_and1 (pt_cmp (pc_dnotin (PW.hu1_of hu64) (pv 10) (pv 7)))))) (pss_cons (ps_asg (pv 9) (pg_sub (pv 7) (pv 10) (set_dict (PW.hu1_of hu64))))
        (pss_cons (ps_lock (ps_setLc (i := 11) (own := [("other", 12)]) rfl sc_find_road.nd rfl rfl (sw_true rfl rfl rfl (by decide +kernel)) (pi_keys (pv 2)) (blkOk_by (own := [("other", 12)]) (N := ["net", "choice", "given", "piece", "lost", "seat", "reached", "seen", "index", "current", "sender", "users", "other"]) (sc := defScope s_find_road) (by decide +kernel)) (fun _ _ _ _ _ => pg_name (i := 12) sc_find_road.nd rfl (Or.inl rfl)) (fun _ _ _ _ _ => pts_one (pt_cmpR (op_eqK (K := K) rfl hu64) (pe_dget (PW.hu1_of hu64) (pv 2) (pv 12) (fun _ _ => rfl)) (pv 10) (nomark _))) (fun _ _ _ _ _ => pv 12)))
        (pss_cons (ps_if (pt_cmpR (op_ltK (K := K) rfl) (pe_callB (call_lenK (K := K) rfl) (by rfl) T.n_len (by decide +kernel) (pa_cons (pv 11) pa_nil)) (pe_ix (ix_K (K := K) rfl) (pe_ix (ix_K (K := K) rfl) (pe_fldK (K := K) rfl (pv 0) rfl) (pv 10) (fun _ _ => rfl)) (pv 5) (fun _ _ => rfl)) (nomark _)) (pss_one (ps_ret (pe_tup (pa_cons (pv 10) (pa_cons (pv 7) (pa_cons (pv 6) pa_nil)))))) (pss_nil))
        (pss_one (ps_set (i := 6) sc_find_road.nd rfl (Or.inl rfl) (pe_op (op_addK (K := K) rfl) (pv 6) (pv 11))))))) (pss_nil))))))))
  (pss_one (ps_ret (pe_tup (pa_cons (pe_non) (pa_cons (pv 7) (pa_cons (pv 6) pa_nil))))))))), ?_⟩
    refine ⟨_, rfl, by show 1 ≤ sizeLine; decide, fun rq hrq => ?_⟩
    obtain ⟨F1, w1, e1, i1⟩ := w0.fixE hrq (.lst [.int (pc : Int)])
    refine fun sq hsq => ?_
    have w2 := w1.own hsq (.dK [])
    -- the search
    let ST : Nat → L2.St → Hp → Prop := fun idx σ H' => ∃ (F' : Hp) (R : List Int) (seen : Int → Option Int) (S : List Int) (ks : List (Key × V)) (rq : Addr) (v9 v10 v11 : Option V),
      σ = [some (.ref p), some (.ref ca), some (.ref gp), some (.int (pc : Int)), some (.ref la), some (.int seat), some (.ref rq), some (.ref sq), some (.int (idx : Int)), v9, v10, v11, none] ∧ Same F F' ∧ Wd F0 H0 F' H' ((sq, .dK ks) :: (gp, .dK kg) :: M) ∧ F' rq = some (.lst (R.map V.int)) ∧
      DRep Sum.inl iR ks seen ∧ Find rows lost seat cap g (pc : Int) R seen S idx ∧ Done rows lost R seen idx ∧ idx ≤ R.length
    refine while_by (fun σ H' => ∃ idx, ST idx σ H') (fun (σ : L2.St) (_ : Hp) => match σ[8]? with | some (some (V.int i)) => rows.length - i.toNat | _ => 0) ?_ ?_ ?_
    · exact ⟨0, F1, [(pc : Int)], fun _ => none, [], [], rq, none, none, none, rfl, e1, w2, i1, .nil, Find.start rfl hr0 hsr hcap, (fun a q r ha => absurd ha (Nat.not_lt_zero _)), Nat.zero_le _⟩
    · rintro σ H1 ⟨idx, F', R, seen, S, ks, rq, v9, v10, v11, rfl, eF, w3, hR, ds, fd, dn, hir⟩
      have hRl := hRfew fd
      refine ⟨_, rfl, _, rfl, _, _, rfl, .inl ⟨_, .of (w3.fh _ _ hR), rfl⟩, .inl ⟨_, _, rfl, rfl, _, rfl, iteD (fun cc => ?_) (fun cc => ?_)⟩⟩
      · rw [List.length_map] at cc
        have hi : idx < R.length := by omega
        obtain ⟨cur, hcur⟩ : ∃ cur, R[idx]? = some cur := ⟨_, List.getElem?_eq_getElem hi⟩
        obtain ⟨j, ro, rfl, hro, hrs⟩ := fd.at_ cur (List.mem_of_getElem? hcur)
        refine ⟨_, rfl, _, rfl, list_ix (.of (w3.fh _ _ hR)) (by omega) (by rw [Int.toNat_natCast, List.getElem?_map, hcur]; rfl) ?_⟩
        refine ⟨_, rfl, _, _, rfl, rfl, ?_⟩
        obtain ⟨cv, q, hcv, hq1, hq⟩ := ch.at_ hro
        refine ⟨_, rfl, _, rfl, list_ix (same_l (eF.trans w3.fh) hcv) (by omega) (by rw [Int.toNat_natCast]; exact hq1) ⟨q, rfl, ⟨_, same_t (eF.trans w3.fh) hq⟩, ?_⟩⟩
        refine for_tup (xs := ro.map V.int) (fun k σ H' => ∃ (F' : Hp) (R : List Int) (seen : Int → Option Int) (S : List Int) (ks : List (Key × V)) (rq : Addr) (v10 v11 : Option V),
          σ = [some (.ref p), some (.ref ca), some (.ref gp), some (.int (pc : Int)), some (.ref la), some (.int seat), some (.ref rq), some (.ref sq), some (.int ((idx : Int) + 1)), some (.int (j : Int)), v10, v11, none] ∧ Same F F' ∧ Wd F0 H0 F' H' ((sq, .dK ks) :: (gp, .dK kg) :: M) ∧ F' rq = some (.lst (R.map V.int)) ∧
          DRep Sum.inl iR ks seen ∧ Find rows lost seat cap g (pc : Int) R seen S (idx + 1) ∧ Done rows lost R seen idx ∧ R[idx]? = some (j : Int) ∧ ∀ s ∈ ro.take k, s ∉ lost → (seen s).isSome = true)
          ⟨F', R, seen, S, ks, rq, v10, v11, rfl, eF, w3, hR, ds, fd.next, dn, hcur, (fun s h => nomatch h)⟩ ?_ ?_ ?_
        · rintro k σ H' _ ⟨F', R, seen, S, ks, rq, v10, v11, rfl, eF, w3, _⟩
          exact same_t (eF.trans w3.fh) hq
        · clear fd dn hir ds hR w3 eF hRl hi hcur cc
          rintro k x σ H2 hx ⟨F', R, seen, S, ks, rq, v10, v11, rfl, eF, w3, hR, ds, fd, dn, hcur, hpart⟩
          obtain ⟨s, hs, rfl⟩ := item_int hx
          have hsm := List.mem_of_getElem? hs
          have hsn := ft.ok.lt ro (List.mem_of_getElem? hro) s hsm
          have hRl := hRfew fd
          have hidx : idx < R.length := (List.getElem?_eq_some_iff.mp hcur).1
          have hnext : ∀ {seen' : Int → Option Int}, (∀ t, (seen t).isSome = true → (seen' t).isSome = true) → (s ∉ lost → (seen' s).isSome = true) → ∀ t ∈ ro.take (k + 1), t ∉ lost → (seen' t).isSome = true := fun h1 h2 t ht htl => by
            rw [take_more1 hs] at ht
            rcases List.mem_append.mp ht with ht | ht
            · exact h1 t (hpart t ht htl)
            · rw [List.mem_singleton.mp ht] at htl ⊢; exact h2 htl
          refine ⟨_, rfl, _, rfl, notin_ints (.inl (same_l (eF.trans w3.fh) hla)) ⟨_, rfl, iteND (fun c1 => ?_) (fun c1 => ?_)⟩⟩
          · refine ⟨_, rfl, _, rfl, sq, _, rfl, DGet.k (k := .inl s) w3.at_, _, rfl, ?_⟩
            cases hseen : seen s with
            | some q0 =>
              obtain ⟨v, hv, _⟩ := ds.here s q0 hseen
              rw [hv]
              refine iteF ?_
              exact ⟨F', R, seen, S, ks, rq, _, v11, rfl, eF, w3, hR, ds, fd, dn, hcur, hnext (fun t h => h) fun _ => by rw [hseen]; rfl⟩
            | none =>
              rw [ds.gone s hseen]
              refine iteT ?_
              have ok1 : Ok1 rows lost seat (j : Int) s := ⟨j, ro, rfl, hro, hrs, hsm, c1⟩
              have hkl : ks.length ≤ 100 := by
                refine Nat.le_trans (drep_few ds (N := n) fun i s' h => ?_) (by have := ft.n60; omega)
                obtain ⟨⟨j', r', _, hr', _, hsr', _⟩, _⟩ := fd.sn i s' h
                exact ft.ok.lt r' (List.mem_of_getElem? hr') i hsr'
              refine ⟨_, rfl, _, rfl, _, rfl, sq, _, rfl, DPut.k (k := .inl s) w3.at_ (small' (by omega)), ?_⟩
              have w4 := w3.set (.dK (putK ks (.inl s) (.int (j : Int))))
              have ds4 : DRep Sum.inl iR (putK ks (.inl s) (.int (j : Int))) (fun t => if t = s then some (j : Int) else seen t) := ds.put inl_inj rfl
              -- who uses it
              refine ⟨gp, .dK kg, w4.atM (L := [_]), True.intro, fun od => ?_⟩
              have w5 := w4.setM (L := [_]) (.frz od (.dK kg))
              refine ⟨_, rfl, gp, od, rfl, .inl ⟨kg, w5.atM (L := [_]), fun D hD => ?_⟩⟩
              have w6 := w5.own hD (.lst [])
              refine in_keys (fun i H' => Wd F0 H0 F' H' ((D, .lst (((gk.take i).filter fun y => decide (g y = some s)).map V.int)) :: ([(sq, HO.dK (putK ks (Sum.inl s) (V.int (j : Int))))] ++ (gp, HO.frz od (HO.dK kg)) :: M))) w6 (fun i H' w => w.atM (L := [_, _])) ?_ ?_
              · intro i ky v H3 hk w7
                have hky : (kg.map (·.1))[i]? = some ky := by rw [List.getElem?_map, hk]; rfl
                rw [hgk] at hky
                obtain ⟨y, hy, rfl⟩ := item_map hky
                obtain ⟨b, hb⟩ := Option.isSome_iff_exists.mp ((gmem y).mp (List.mem_of_getElem? hy))
                obtain ⟨v', hv', rfl⟩ := dg.here y b hb
                refine ⟨rfl, _, rfl, _, rfl, gp, _, rfl, dget_frz (w7.atM (L := [_, _])) hv', _, rfl, .inl ⟨rfl, _, rfl, iteD (fun c2 => ?_) (fun c2 => ?_)⟩⟩
                · have e : b = s := V.int.inj c2
                  refine ⟨_, rfl, _, w7.at_, small' (by rw [List.length_map]; have := List.length_filter_le (fun y => decide (g y = some s)) (gk.take i); have := List.length_take (i := i) (l := gk); omega), ?_⟩
                  rw [take_more1 hy, List.filter_append, List.filter_cons, if_pos (by rw [hb, e]; exact decide_eq_true rfl), List.map_append]
                  exact w7.set _
                · rw [take_more1 hy, List.filter_append, List.filter_cons, if_neg (by rw [hb]; intro z; exact c2 (congrArg V.int (Option.some.inj (of_decide_eq_true z)))), List.filter_nil, List.append_nil]
                  exact w7
              · intro H3 w7
                have hkl' : kg.length = gk.length := by
                  have e := congrArg List.length hgk
                  rwa [List.length_map, List.length_map] at e
                rw [hkl', List.take_length] at w7
                obtain ⟨us, hus⟩ : ∃ us, us = gk.filter fun y => decide (g y = some s) := ⟨_, rfl⟩
                rw [← hus] at w7
                have und : us.Nodup := by rw [hus]; exact gnd.sublist List.filter_sublist
                have um : ∀ i, i ∈ us ↔ g i = some s := fun i => by
                  rw [hus, List.mem_filter]
                  constructor
                  · intro z; simpa using z.2
                  · intro z; exact ⟨(gmem i).mpr (by rw [z]; rfl), by simpa using z⟩
                have hul : us.length = (users rows.length g s).length := nd_same und (users_nd _ _ _) fun i => by
                  rw [um, mem_users]
                  exact ⟨fun z => ⟨(hgok i s z).lt, z⟩, fun z => z.2⟩
                have husl : us.length ≤ rows.length := by
                  have := nd_len und (m := gk) fun i hi => (gmem i).mpr (by rw [(um i).mp hi]; rfl)
                  omega
                refine ⟨w7.atM (L := [_, _]), ?_⟩
                have w8 := w7.setM (L := [_, _]) (.dK kg)
                obtain ⟨F9, w9, e9, i9⟩ : ∃ F9, Wd F0 H0 F9 (upd H3 gp (.dK kg)) ([(sq, HO.dK (putK ks (Sum.inl s) (V.int (j : Int))))] ++ (gp, HO.dK kg) :: M) ∧ Same F' F9 ∧ F9 D = some (.lst (us.map V.int)) := ⟨_, w8.freeze.1, w8.freeze.2, upd_same⟩
                obtain ⟨ndx, rr, hh, rv, qr, hp1, hp2, hp3, hp4, hp5⟩ := road_at net hsn hseat
                have eF9 := eF.trans e9
                refine ⟨_, rfl, _, _, rfl, .inl ⟨_, .of (w9.fh _ _ i9), rfl⟩, _, rfl, p, _, ndx, _, _, rfl, w9.fh _ _ (eF9 _ _ hp1), T.cl_Net, T.o_Net_roads, nf_roads .., _, rfl, tup_ix (same_t (eF9.trans w9.fh) hp2) hsn.1 hp3 ⟨_, rfl, tup_ix (same_t (eF9.trans w9.fh) hp4) hseat.1 hp5 (.inl ⟨_, _, rfl, rfl, _, rfl, iteD (fun c2 => ?_) (fun c2 => ?_)⟩)⟩⟩
                · -- a free road
                  rw [List.length_map] at c2
                  refine ⟨_, rfl, _, rfl, _, rfl, by show 3 ≤ sizeLine; decide, fun t ht => ?_⟩
                  have road := fd.road hcur ok1 hseen (by rw [← hul]; exact c2)
                  obtain ⟨F10, w10, e10, i10⟩ : ∃ F10, Wd F0 H0 F10 (upd H3 gp (.dK kg)) ((gp, .dK kg) :: M) ∧ Same F9 F10 ∧ F10 sq = some (.dK (putK ks (.inl s) (.int (j : Int)))) := ⟨_, (show Wd F0 H0 F9 (upd H3 gp (.dK kg)) ((sq, .dK (putK ks (.inl s) (.int (j : Int)))) :: (gp, .dK kg) :: M) from w9).freeze.1, (show Wd F0 H0 F9 (upd H3 gp (.dK kg)) ((sq, .dK (putK ks (.inl s) (.int (j : Int)))) :: (gp, .dK kg) :: M) from w9).freeze.2, upd_same⟩
                  obtain ⟨F11, w11, e11, i11⟩ := w10.fixE ht (.tup [.int s, .ref sq, .ref rq])
                  exact kS s _ _ t F11 _ sq rq road (eF9.trans (e10.trans e11)) w11 i11 (e11 _ _ i10) ds4
                · -- all of them are reached
                  rw [List.length_map] at c2
                  refine ⟨_, rfl, _, rfl, .inr (.inr (.inl ⟨rq, D, _, _, rfl, rfl, w9.fh _ _ (e9 _ _ hR), w9.fh _ _ i9, small (by rw [List.length_map, List.length_map]; omega), fun rq2 hrq2 => ?_⟩))⟩
                  rw [show R.map V.int ++ us.map V.int = (R ++ us).map V.int from (List.map_append ..).symm]
                  obtain ⟨F10, w10, e10, i10⟩ := w9.fixE hrq2 (.lst ((R ++ us).map V.int))
                  have fd2 := fd.grow hgok hgp hcur (by omega) ok1 hseen und um (by omega)
                  have mon : ∀ t, (seen t).isSome = true → ((fun t => if t = s then some (j : Int) else seen t) t).isSome = true := fun t ht => by
                    show (if t = s then some (j : Int) else seen t).isSome = true
                    split
                    · rfl
                    · exact ht
                  refine ⟨F10, R ++ us, _, _, _, rq2, _, _, rfl, eF9.trans e10, w10, i10, ds4, fd2, Done.grow dn (by omega) mon, by rw [List.getElem?_append_left hidx]; exact hcur, hnext mon fun _ => ?_⟩
                  show (if s = s then some (j : Int) else seen s).isSome = true
                  rw [if_pos rfl]
                  rfl
          · exact ⟨F', R, seen, S, ks, rq, _, v11, rfl, eF, w3, hR, ds, fd, dn, hcur, hnext (fun t h => h) fun z => absurd c1 z⟩
        · rintro σ H2 ⟨F', R, seen, S, ks, rq, v10, v11, rfl, eF, w3, hR, ds, fd, dn, hcur, hpart⟩
          rw [List.length_map, List.take_length] at hpart
          have hRl := hRfew fd
          have hidx : idx < R.length := (List.getElem?_eq_some_iff.mp hcur).1
          refine ⟨⟨idx + 1, F', R, seen, S, ks, rq, _, v10, v11, rfl, eF, w3, hR, ds, fd, fun a q r ha hq' hr' s hs1 hs2 => ?_, hidx⟩, ?_⟩
          · by_cases e : a = idx
            · subst e
              rw [hcur] at hq'
              cases hq'
              rw [Int.toNat_natCast, hro] at hr'
              cases hr'
              exact hpart s hs1 hs2
            · exact dn a q r (by omega) hq' hr' s hs1 hs2
          · show rows.length - ((idx : Int) + 1).toNat < rows.length - (idx : Int).toNat
            omega
      · rw [List.length_map] at cc
        have hi : idx = R.length := by omega
        subst hi
        have stuck := fd.stuck dn hcap hup
        refine ⟨_, rfl, _, rfl, by show 3 ≤ sizeLine; decide, fun t ht => ?_⟩
        obtain ⟨F10, w10, e10, i10⟩ : ∃ F10, Wd F0 H0 F10 H1 ((gp, .dK kg) :: M) ∧ Same F' F10 ∧ F10 sq = some (.dK ks) := ⟨_, w3.freeze.1, w3.freeze.2, upd_same⟩
        obtain ⟨F11, w11, e11, i11⟩ := w10.fixE ht (.tup [.non, .ref sq, .ref rq])
        exact kN t F11 _ sq rq stuck (eF.trans (e10.trans e11)) w11 i11
    · rintro σ H1 Q1 Q2 hq ⟨v, hv, v6, h6, x, m, ex, hl, h⟩
      refine ⟨v, hv, v6, h6, x, m, ex, hl, ?_⟩
      rcases h with ⟨i, j, e1, e2, z, ez, q⟩ | ⟨i, j, e1, e2, z, ez, q⟩
      · exact .inl ⟨i, j, e1, e2, z, ez, hq _ _ q⟩
      · exact .inr ⟨i, j, e1, e2, z, ez, hq _ _ q⟩

end
end Q

set_option Elab.async false
set_option linter.all false
set_option maxRecDepth 100000
set_option maxHeartbeats 8000000
namespace Q
open PySem PySem.Spec PyProof.Rows L2 PW Nt
section
variable {P : Program} {w : World} {K : PySem.W.Frag} {mg : Str → Option Value} {base : Heap} {A : Ad}
def spWith (K : PySem.W.Frag) : Sp := fun vs H Q _ => ∃ (F0 H0 F : Hp) (M : List (Addr × HO)) (gp sq : Addr) (kg ks : List (Key × V)) (g seen : Int → Option Int) (rows : List (List Int)) (lost : List Int) (seat cap : Int) (pc : Nat) (s0 : Int), vs = [.ref gp, .ref sq, .int s0] ∧ Wd F0 H0 F H ((gp, .dK kg) :: M) ∧ F sq = some (.dK ks) ∧
  DRep Sum.inl iR kg g ∧ DRep Sum.inl iR ks seen ∧ Given rows lost seat cap pc g ∧ Road rows lost seat cap g (pc : Int) seen s0 ∧ rows.length ≤ 1000 ∧
  ∀ cp kc c F' H', Same F F' → Wd F0 H0 F' H' ((cp, .dK kc) :: (gp, .dK kg) :: M) → DRep Sum.inl iR kc c → Given rows lost seat cap (pc + 1) c → Q (.ref cp) H'
def fV : Option Int → V
  | none => .non
  | some i => .int i
theorem ok_with_road (T : Txt K mg A) : FnOk P w K mg base CX0 1 A.a_with_road A.d_with_road ["given", "seen", "sender"] (spWith K) := by
  refine T.F_with_road.ok sc_with_road (fun vs H Q E h => ?_) (fun cdv A' outer s H vs Q E hr h => ?_)
  · obtain ⟨F0, H0, F, M, gp, sq, kg, ks, g, seen, rows, lost, seat, cap, pc, s0, rfl, _⟩ := h; rfl
  · obtain ⟨F0, H0, F, M, gp, sq, kg, ks, g, seen, rows, lost, seat, cap, pc, s0, rfl, w0, hsq, dg, ds, G, W, few, k⟩ := h
    have hu64 := hu64_of hr
    obtain ⟨pos, hpos⟩ := W.pos
    have hgp : g (pc : Int) = none := by
      cases q : g (pc : Int) with
      | none => rfl
      | some s => have := (G.ok _ _ q).2; omega
    have hgok : ∀ i s, g i = some s → Ok1 rows lost seat i s := fun i s h => (G.ok i s h).1
    refine ⟨_, pss_cons (ps_set (i := 3) sc_with_road.nd rfl (Or.inl rfl) (pe_callTy call_dictD (by rfl) T.n_dict (by decide +kernel) (pa_cons (pv 0) pa_nil)))
  (pss_cons (ps_set (i := 4) sc_with_road.nd rfl (Or.inl rfl) (pv 2))
  (pss_cons (ps_while PassesOwn.never (pt_cmp (pc_notN (pv 4))) (pss_cons (ps_set (i := 5) sc_with_road.nd rfl (Or.inl rfl) (pe_dget (PW.hu1_of hu64) (pv 1) (pv 4) (fun _ _ => rfl)))
    (pss_cons (ps_asg (pv 4) (pg_sub (pv 3) (pv 5) (set_dict (PW.hu1_of hu64))))
    (pss_one (ps_set (i := 4) sc_with_road.nd rfl (Or.inl rfl) (pe_dget1 (PW.hu1_of hu64) (pv 0) (pv 5) ⟨rfl, rfl, rfl, rfl⟩))))))
  (pss_one (ps_ret (pv 3))))), ?_⟩
    refine ⟨_, rfl, gp, kg, rfl, .inl w0.at_, fun cp hcp => ?_⟩
    have w1 := w0.own hcp (.dK kg)
    refine ⟨_, rfl, ?_⟩
    refine while_by (fun σ H' => ∃ (kc : List (Key × V)) (c : Int → Option Int) (free : Option Int) (v5 : Option V), σ = [some (.ref gp), some (.ref sq), some (.int s0), some (.ref cp), some (fV free), v5] ∧ Wd F0 H0 F H' ((cp, .dK kc) :: (gp, .dK kg) :: M) ∧ DRep Sum.inl iR kc c ∧ Back rows lost seat cap g (pc : Int) seen pos c free)
      (fun (σ : L2.St) (_ : Hp) => match σ[4]? with | some (some (V.int f)) => (match seen f with | some q => pos q + 1 | none => 0) | _ => 0) ?_ ?_ ?_
    · exact ⟨kg, g, some s0, none, rfl, w1, dg, Back.start G W⟩
    · rintro σ H1 ⟨kc, c, free, v5, rfl, w2, dc, B⟩
      cases free with
      | none => exact ⟨_, rfl, _, rfl, iteNS rfl ⟨_, rfl, k cp kc c F H1 (.refl F) w2 dc (B.done G rfl)⟩⟩
      | some f =>
        refine ⟨_, rfl, _, rfl, iteNY (fun z => nomatch z) ?_⟩
        obtain ⟨q, hq, _⟩ := B.at_ f rfl
        obtain ⟨B', hlt⟩ := B.step hgok hgp hpos W.ok hq
        obtain ⟨v, hv, rfl⟩ := ds.here f q hq
        refine ⟨_, rfl, _, rfl, sq, _, rfl, dget_of (w2.fh _ _ hsq) hv, ?_⟩
        have hkl : kc.length ≤ rows.length := drep_few dc fun i s h => (B.ok i s h).1.lt
        refine ⟨_, rfl, _, rfl, _, rfl, cp, _, rfl, DPut.k (k := .inl q) w2.at_ (small' (by omega)), ?_⟩
        have w3 := w2.set (.dK (putK kc (.inl q) (.int f)))
        have dc3 : DRep Sum.inl iR (putK kc (.inl q) (.int f)) (setG c q f) := (dc.put inl_inj (x := q) (b := f) rfl).congr fun i => rfl
        refine ⟨_, rfl, gp, rfl, .inl ⟨_, .inl (w3.atM (L := [_]))⟩, _, rfl, _, DGet.k (k := .inl q) (w3.atM (L := [_])), ?_⟩
        have hf : (valV kg (.inl q)).getD .non = fV (g q) := by
          cases e : g q with
          | none => rw [dg.gone q e]; rfl
          | some s => obtain ⟨v, hv, rfl⟩ := dg.here q s e; rw [hv]; rfl
        rw [hf]
        refine ⟨⟨_, setG c q f, g q, _, rfl, w3, dc3, B'⟩, ?_⟩
        cases e : g q with
        | none =>
          show 0 < (match seen f with | some q => pos q + 1 | none => 0)
          rw [hq]
          exact Nat.succ_pos _
        | some t =>
          show (match seen t with | some q => pos q + 1 | none => 0) < (match seen f with | some q => pos q + 1 | none => 0)
          rw [hq]
          cases e2 : seen t with
          | none => exact Nat.succ_pos _
          | some q' => have := hlt t q' e e2; show pos q' + 1 < pos q + 1; omega
    · rintro σ H1 Q1 Q2 hq ⟨v, hv, b, hb, q⟩
      exact ⟨v, hv, b, hb, hq _ _ q⟩
def spSenders (K : PySem.W.Frag) (A : Ad) : Sp := fun vs H Q _ => ∃ (F : Hp) (p ca la : Addr) (n : Nat) (cap : Int) (held rows : List (List Int)) (lost : List Int) (seat : Int), vs = [.ref p, .ref ca, .ref la, .int seat] ∧ Same F H ∧ NetAt K A F p n cap held ∧ ChAt K F ca rows ∧ Fits rows held n ∧ SqL K F la (lost.map V.int) ∧ (0 ≤ seat ∧ seat < (n : Int)) ∧ 0 ≤ cap ∧
  (∀ F' H', ¬ Hall cap (seatRows rows lost seat) → Step F H F' H' → Q .non H') ∧
  (∀ gp kg g F' H', Hall cap (seatRows rows lost seat) → Step F H F' H' → F' gp = some (.dK kg) → DRep Sum.inl iR kg g → Given rows lost seat cap rows.length g → Q (.ref gp) H')
theorem ok_senders_for (T : Txt K mg A) : FnOk P w K mg base CX0 2 A.a_senders_for A.d_senders_for ["net", "choice", "lost", "seat"] (spSenders K A) := by
  refine T.F_senders_for.ok sc_senders_for (fun vs H Q E h => ?_) (fun cdv A' outer s H vs Q E hr h => ?_)
  · obtain ⟨F, p, ca, la, n, cap, held, rows, lost, seat, rfl, _⟩ := h; rfl
  · obtain ⟨F, p, ca, la, n, cap, held, rows, lost, seat, rfl, eF, net, ch, ft, hla, hseat, hcap, kN, kS⟩ := h
    have hu64 := hu64_of hr
    have hu65 := hu65_of hr
    have few := ft.few
    have hln := ft.len
    have w0 := Wd.start eF
    obtain ⟨dx, r, hh, hp, _⟩ := id net
    refine ⟨_, pss_cons (ps_set (i := 4) sc_senders_for.nd rfl (Or.inl rfl) (pe_dnewK))
  (pss_cons (ps_for PassesOwn.never rfl (pi_range1 rfl T.n_range (pa_cons (pe_fldK (K := K) rfl (pv 0) rfl) pa_nil)) (pg_name (i := 5) sc_senders_for.nd rfl (Or.inl rfl)) (pss_one (ps_if (pt_cmpR (op_inK (K := K) rfl hu65) (pv 3) (pe_ix (ix_K (K := K) rfl) (pv 1) (pv 5) (fun _ _ => rfl)) (by rfl)) (pss_cons (ps_asg (pe_call (ok_find_road T) (hr.mono (by decide)) rfl T.g_find_road T.F_find_road.kp T.b_find_road .nil pass0 (pa_cons (pv 0) (pa_cons (pv 1) (pa_cons (pv 4) (pa_cons (pv 5) (pa_cons (pv 2) (pa_cons (pv 3) pa_nil))))))) (pg_tupK (K := K) (n := 3) rfl rfl (pgs_cons (pg_name (i := 6) sc_senders_for.nd rfl (Or.inl rfl)) (pgs_cons (pg_name (i := 7) sc_senders_for.nd rfl (Or.inl rfl)) (pgs_cons (pg_name (i := 8) sc_senders_for.nd rfl (Or.inl rfl)) pgs_nil)))))
      (pss_cons (ps_if (pt_cmp (pc_isN (pv 6))) (pss_one (ps_ret (pe_non))) (pss_nil))
      (pss_one (ps_set (i := 4) sc_senders_for.nd rfl (Or.inl rfl) (pe_call (ok_with_road T) (hr.mono (by decide)) rfl T.g_with_road T.F_with_road.kp T.b_with_road .nil pass0 (pa_cons (pv 4) (pa_cons (pv 7) (pa_cons (pv 6) pa_nil)))))))) (pss_nil))))
  (pss_one (ps_ret (pv 4)))), ?_⟩
    refine fun gp hgp => ?_
    have w1 := w0.own hgp (.dK [])
    refine ⟨_, rfl, p, _, dx, _, _, rfl, w1.fh _ _ hp, T.cl_Net, T.o_Net_pieces, nf_pieces .., (held.length : Int), rfl, by omega, by omega, for_range (lo := 0) (n := held.length) (fun i σ H' => ∃ (F' : Hp) (gp : Addr) (kg : List (Key × V)) (g : Int → Option Int) (v5 v6 v7 v8 : Option V),
      σ = [some (.ref p), some (.ref ca), some (.ref la), some (.int seat), some (.ref gp), v5, v6, v7, v8] ∧ Same F F' ∧ Wd F H F' H' [(gp, .dK kg)] ∧ DRep Sum.inl iR kg g ∧ Given rows lost seat cap i g) ⟨F, gp, [], fun _ => none, none, none, none, none, rfl, .refl F, w1, .nil, Given.none hcap⟩ ?_ ?_⟩
    · rintro i σ H1 hi ⟨F', gp, kg, g, v5, v6, v7, v8, rfl, e, w2, dg, G⟩
      obtain ⟨ro, hro⟩ : ∃ ro, rows[i]? = some ro := ⟨_, List.getElem?_eq_getElem (by omega)⟩
      obtain ⟨cv, q, hcv, hq1, hq⟩ := ch.at_ hro
      have zi : ((0 : Int) + (i : Int)).toNat = i := by omega
      have zi2 : (0 : Int) + (i : Int) = (i : Int) := by omega
      refine ⟨_, rfl, _, rfl, _, rfl, list_ix (same_l (e.trans w2.fh) hcv) (by omega) (by rw [zi]; exact hq1) (in_ints (.inr (same_t (e.trans w2.fh) hq)) ⟨_, rfl, iteD (fun cc => ?_) (fun cc => ?_)⟩)⟩
      · refine ⟨_, rfl, _, rfl, _, rfl, _, rfl, _, rfl, _, rfl, F, H, F', [], p, ca, gp, la, n, cap, held, rows, kg, g, lost, i, seat, ro, by rw [zi2]; rfl, w2, net.mono e, ch.mono e, ft, same_l e hla, dg, hseat, hcap, hro, cc, G, fun t F3 H3 sq rq nh e3 w3 ht => ?_, fun s0 seen ks t F3 H3 sq rq road e3 w3 ht hsq ds => ?_⟩
        · refine ⟨t, _, rfl, .of (w3.fh _ _ ht), rfl, _, _, rfl, _, _, rfl, _, _, rfl, rfl, ?_⟩
          refine ⟨_, rfl, _, rfl, iteYes rfl ?_⟩
          have w4 := w3.drop
          exact kN F3 H3 nh w4.done
        · refine ⟨t, _, rfl, .of (w3.fh _ _ ht), rfl, _, _, rfl, _, _, rfl, _, _, rfl, rfl, ?_⟩
          refine ⟨_, rfl, _, rfl, iteNo (fun z => nomatch z) ?_⟩
          refine ⟨_, rfl, _, rfl, _, rfl, F, H, F3, [], gp, sq, kg, ks, g, seen, rows, lost, seat, cap, i, s0, rfl, w3, hsq, dg, ds, G, road, few, fun cp kc c F4 H4 e4 w4 dc G4 => ?_⟩
          exact ⟨F4, cp, kc, c, _, _, _, _, rfl, e.trans (e3.trans e4), w4.swap.drop, dc, G4⟩
      · refine ⟨F', gp, kg, g, _, _, _, _, rfl, e, w2, dg, G.skip fun r hr' => ?_⟩
        rw [hro] at hr'
        cases hr'
        exact cc
    · rintro σ H1 ⟨F', gp, kg, g, v5, v6, v7, v8, rfl, e, w2, dg, G⟩
      rw [← hln] at G
      obtain ⟨w3, e3⟩ := w2.freeze
      exact ⟨_, rfl, kS gp kg g _ H1 G.hall w3.done upd_same dg G⟩
def spGive (K : PySem.W.Frag) (A : Ad) : Sp := fun vs H Q _ => ∃ (F : Hp) (p ca la : Addr) (n : Nat) (cap : Int) (held rows : List (List Int)) (lost : List Int), vs = [.ref p, .ref ca, .ref la] ∧ Same F H ∧ NetAt K A F p n cap held ∧ ChAt K F ca rows ∧ Fits rows held n ∧ SqL K F la (lost.map V.int) ∧ (∀ x ∈ lost, 0 ≤ x ∧ x < (n : Int)) ∧ lost.length ≤ 60 ∧ rows.length < 60 ∧ 0 ≤ cap ∧
  (∀ F' H', ¬ CB cap rows lost → Step F H F' H' → Q .non H') ∧ (∀ q F' H', CB cap rows lost → Step F H F' H' → Q (.ref q) H')
theorem ok_give_back (T : Txt K mg A) : FnOk P w K mg base CX0 3 A.a_give_back A.d_give_back ["net", "choice", "lost"] (spGive K A) := by
  refine T.F_give_back.ok sc_give_back (fun vs H Q E h => ?_) (fun cdv A' outer s H vs Q E hr h => ?_)
  · obtain ⟨F, p, ca, la, n, cap, held, rows, lost, rfl, _⟩ := h; rfl
  · obtain ⟨F, p, ca, la, n, cap, held, rows, lost, rfl, eF, net, ch, ft, hla, hlost, hl60, hr60, hcap, kN, kS⟩ := h
    have hu64 := hu64_of hr
    have hu65 := hu65_of hr
    obtain ⟨cv, hcv, hcl, dcv⟩ := ch.len
    refine ⟨_, pss_cons (ps_expr (pe_call (ok_check_choice T) (hr.mono (by decide)) rfl T.g_check_choice T.F_check_choice.kp T.b_check_choice .nil pass0 (pa_cons (pv 0) (pa_cons (pv 1) pa_nil))))
  (pss_cons (ps_for PassesOwn.never rfl (pi_listK (K := K) rfl (pv 1)) (pg_name (i := 3) sc_give_back.nd rfl (Or.inl rfl)) (pss_one (ps_if (pt_cmpR (op_eqK (K := K) rfl hu64) (pe_callB (call_lenK (K := K) rfl) (by rfl) T.n_len (by decide +kernel) (pa_cons (pe_lc (own := [("seat", 5)]) rfl sc_give_back.nd (pi_tupK (K := K) rfl (pv 3)) (blkOk_by (own := [("seat", 5)]) (N := ["net", "choice", "lost", "held", "sends", "seat", "given", "piece"]) (sc := defScope s_give_back) (by decide +kernel)) (fun _ _ _ _ _ => pg_name (i := 5) sc_give_back.nd rfl (Or.inl rfl)) (fun _ _ _ _ _ => pts_one (pt_cmpR (op_notInK (K := K) rfl hu65) (pv 5) (pv 2) (by rfl))) (fun _ _ _ _ _ => pv 5)) pa_nil)) (pe_int) (nomark _)) (pss_one (ps_ret (pe_non))) (pss_nil))))
  (pss_cons (ps_set (i := 4) sc_give_back.nd rfl (Or.inl rfl) (pe_lst (pa_nil)))
  (pss_cons (ps_for PassesOwn.never rfl (pi_listK (K := K) rfl (pv 2)) (pg_name (i := 5) sc_give_back.nd rfl (Or.inr rfl)) (pss_cons (ps_set (i := 6) sc_give_back.nd rfl (Or.inr rfl) (pe_call (ok_senders_for T) (hr.mono (by decide)) rfl T.g_senders_for T.F_senders_for.kp T.b_senders_for .nil pass0 (pa_cons (pv 0) (pa_cons (pv 1) (pa_cons (pv 2) (pa_cons (pv 5) pa_nil))))))
    (pss_cons (ps_if (pt_cmp (pc_isN (pv 6))) (pss_one (ps_ret (pe_non))) (pss_nil))
    (pss_one (ps_set (i := 4) sc_give_back.nd rfl (Or.inl rfl) (pe_op (op_addK (K := K) rfl) (pv 4) (pe_lc (own := [("piece", 7)]) rfl sc_give_back.nd (pi_listK (K := K) rfl (pe_callB (call_sortedDI rfl) (by rfl) T.n_sorted (by decide +kernel) (pa_cons (pv 6) pa_nil))) (blkOk_by (own := [("piece", 7)]) (N := ["net", "choice", "lost", "held", "sends", "seat", "given", "piece"]) (sc := defScope s_give_back) (by decide +kernel)) (fun _ _ _ _ _ => pg_name (i := 7) sc_give_back.nd rfl (Or.inl rfl)) (fun _ _ _ _ _ => pts_nil) (fun _ _ _ _ _ => pe_tup (pa_cons (pv 7) (pa_cons (pe_dget (PW.hu1_of hu64) (pv 6) (pv 7) (fun _ _ => rfl)) (pa_cons (pv 5) pa_nil)))))))))))
  (pss_one (ps_ret (pv 4)))))), ?_⟩
    refine ⟨_, rfl, _, rfl, F, p, ca, n, cap, held, rows, rfl, eF, net, ch, ft, fun H1 s1 => ?_⟩
    have w1 := (Wd.start eF).same s1
    refine ⟨_, rfl, ca, rfl, ⟨_, same_l w1.fh hcv⟩, ?_⟩
    refine for_list (xs := cv) (fun i σ H' => ∃ (F' : Hp) (v3 : Option V), σ = [some (.ref p), some (.ref ca), some (.ref la), v3, none, none, none, none] ∧ Same F F' ∧ Wd F H F' H' [] ∧ ∀ r ∈ rows.take i, living lost r ≠ []) ⟨F, none, rfl, .refl F, w1, (fun r h => nomatch h)⟩ ?_ ?_ ?_
    · rintro i σ H' _ ⟨F', v3, rfl, e, w2, _⟩
      exact same_l (e.trans w2.fh) hcv
    · rintro i x σ H2 hx ⟨F', v3, rfl, e, w2, hne⟩
      obtain ⟨d, hd, dx⟩ := dpa_get dcv hx
      obtain ⟨ro, hro, rfl⟩ := item_map hd
      obtain ⟨q, rfl, hq⟩ := dp_I dx
      have hrl := row_len ft.ok (List.mem_of_getElem? hro)
      have hn60 := ft.n60
      refine ⟨_, rfl, q, rfl, ⟨_, same_t (e.trans w2.fh) hq⟩, fun D hD => ?_⟩
      have w3 := w2.own hD (.lst [])
      refine in_tup (xs := ro.map V.int) (fun j H' => Wd F H F' H' [(D, .lst ((living lost (ro.take j)).map V.int))]) w3 (fun j H' w => same_t (e.trans w.fh) hq) ?_ ?_
      · intro j x H3 hx w4
        obtain ⟨z, hz, rfl⟩ := item_int hx
        have hacc : (living lost (ro.take j)).length ≤ 60 := by
          unfold living
          have h1 := List.length_filter_le (fun s => decide (s ∉ lost)) (ro.take j)
          have h2 := List.length_take (i := j) (l := ro)
          omega
        refine ⟨rfl, _, rfl, _, rfl, notin_ints (.inl (same_l (e.trans w4.fh) hla)) ⟨_, rfl, iteND (fun c1 => ?_) (fun c1 => ?_)⟩⟩
        · refine ⟨_, rfl, _, w4.at_, small' (by rw [List.length_map]; omega), ?_⟩
          have e2 : living lost (ro.take (j + 1)) = living lost (ro.take j) ++ [z] := by
            unfold living
            rw [take_more1 hz, List.filter_append, List.filter_cons, if_pos (decide_eq_true c1)]
            rfl
          rw [e2, List.map_append]
          exact w4.set _
        · have e2 : living lost (ro.take (j + 1)) = living lost (ro.take j) := by
            unfold living
            rw [take_more1 hz, List.filter_append, List.filter_cons, if_neg (by simpa using c1), List.filter_nil, List.append_nil]
          rw [e2]
          exact w4
      · intro H3 w4
        rw [List.length_map, List.take_length] at w4
        refine ⟨_, _, rfl, .inl ⟨_, .of w4.at_, rfl⟩, .inl ⟨rfl, _, rfl, iteD (fun c1 => ?_) (fun c1 => ?_)⟩⟩
        · rw [List.length_map] at c1
          have c1 := V.int.inj c1
          refine kN F' H3 (fun cb => cb.1 ro (List.mem_of_getElem? hro) (List.length_eq_zero_iff.mp (by omega))) w4.done
        · rw [List.length_map] at c1
          refine ⟨F', _, rfl, e, w4.drop, fun r hr' => ?_⟩
          rw [take_more1 hro] at hr'
          rcases List.mem_append.mp hr' with hr' | hr'
          · exact hne r hr'
          · rw [List.mem_singleton.mp hr']
            intro z
            exact c1 (by rw [z]; rfl)
    · rintro σ H2 ⟨F', v3, rfl, e, w2, hne⟩
      rw [hcl, List.take_length] at hne
      refine ⟨Nat.zero_le _, fun sp hsp => ?_⟩
      obtain ⟨F3, w3, e3, i3⟩ := w2.fixE hsp (.lst [])
      refine ⟨_, rfl, la, rfl, ⟨_, same_l ((e.trans e3).trans w3.fh) hla⟩, ?_⟩
      refine for_list (xs := lost.map V.int) (fun i σ H' => ∃ (F' : Hp) (sp : Addr) (sv : List V) (v3 v5 v6 v7 : Option V), σ = [some (.ref p), some (.ref ca), some (.ref la), v3, some (.ref sp), v5, v6, v7] ∧ Same F F' ∧ Wd F H F' H' [] ∧ F' sp = some (.lst sv) ∧ sv.length ≤ 60 * i ∧ ∀ s ∈ lost.take i, Hall cap (seatRows rows lost s))
        ⟨F3, sp, [], _, none, none, none, rfl, e.trans e3, w3, i3, Nat.zero_le _, (fun s h => nomatch h)⟩ ?_ ?_ ?_
      · rintro i σ H' _ ⟨F', sp, sv, v3, v5, v6, v7, rfl, e, w2, _⟩
        exact same_l (e.trans w2.fh) hla
      · rintro i x σ H4 hx ⟨F', sp, sv, v3, v5, v6, v7, rfl, e, w2, hsp, hsl, hh⟩
        obtain ⟨seat, hs, rfl⟩ := item_int hx
        have hil := (List.getElem?_eq_some_iff.mp hs).1
        refine ⟨_, rfl, _, rfl, _, rfl, _, rfl, F', p, ca, la, n, cap, held, rows, lost, seat, rfl, w2.fh, net.mono e, ch.mono e, ft, same_l e hla, hlost seat (List.mem_of_getElem? hs), hcap, fun F5 H5 nh st5 => ?_, fun gp kg g F5 H5 hall st5 hgp dg G => ?_⟩
        · refine ⟨_, rfl, _, rfl, iteYes rfl ?_⟩
          exact kN F5 H5 (fun cb => nh (cb.2 seat (List.mem_of_getElem? hs))) (w2.step st5).done
        · have w5 := w2.step st5
          obtain ⟨gk, hgk, gnd, gmem⟩ := dg.keys inl_inj
          have hgkl : gk.length ≤ rows.length := by
            have e := congrArg List.length hgk
            have h2 := drep_few dg fun i s h => (G.ok i s h).1.lt
            rw [List.length_map, List.length_map] at e
            omega
          refine ⟨_, rfl, _, rfl, iteNo (fun z => nomatch z) ?_⟩
          refine ⟨_, rfl, _, rfl, gp, kg, gk, rfl, .inl (w5.fh _ _ hgp), hgk, by omega, fun ys yq hperm hsort hyq => ?_⟩
          have hyl : ys.length ≤ 60 := by rw [hperm.length_eq]; omega
          obtain ⟨F6, w6, e6, i6⟩ := w5.fixE hyq (.lst (ys.map V.int))
          refine ⟨yq, rfl, ⟨_, .of (w6.fh _ _ i6)⟩, fun D hD => ?_⟩
          have w7 := w6.own hD (.lst [])
          refine in_list (xs := ys.map V.int) (fun j H' => ∃ (F' : Hp) (acc : List V), Same F6 F' ∧ Wd F H F' H' [(D, .lst acc)] ∧ acc.length ≤ j) ⟨F6, [], .refl _, w7, Nat.le_refl _⟩ (fun j H' ⟨F', acc, e, w, _⟩ => .of (w.fh _ _ (e _ _ i6))) ?_ ?_
          · rintro j x H6 hx ⟨F7, acc, e7, w8, hal⟩
            obtain ⟨y, hy, rfl⟩ := item_int hx
            have hjl := (List.getElem?_eq_some_iff.mp hy).1
            obtain ⟨b, hb⟩ := Option.isSome_iff_exists.mp ((gmem y).mp (hperm.mem_iff.mp (List.mem_of_getElem? hy)))
            obtain ⟨v, hv, rfl⟩ := dg.here y b hb
            refine ⟨rfl, _, rfl, _, rfl, _, rfl, gp, _, rfl, dget_of (w8.fh _ _ ((e6.trans e7) _ _ hgp)) hv, _, rfl, by show 3 ≤ sizeLine; decide, fun t ht => ?_⟩
            obtain ⟨F8, w9, e9, i9⟩ := w8.fixE ht (.tup [.int y, .int b, .int seat])
            exact ⟨acc, w9.at_, small' (by omega), F8, _, e7.trans e9, w9.set _, by rw [List.length_append]; show acc.length + 1 ≤ j + 1; omega⟩
          · rintro H6 ⟨F7, acc, e7, w8, hal⟩
            rw [List.length_map] at hal
            obtain ⟨F8, w9, e9, i9⟩ : ∃ F8, Wd F H F8 H6 [] ∧ Same F7 F8 ∧ F8 D = some (.lst acc) := ⟨_, w8.freeze.1, w8.freeze.2, upd_same⟩
            have eAll := st5.ff.trans (e6.trans (e7.trans e9))
            refine .inr (.inr (.inl ⟨sp, D, _, _, rfl, rfl, w9.fh _ _ (eAll _ _ hsp), w9.fh _ _ i9, small (by omega), fun s2 hs2 => ?_⟩))
            obtain ⟨F9, w10, e10, i10⟩ := w9.fixE hs2 (.lst (sv ++ acc))
            refine ⟨F9, s2, _, _, _, _, _, rfl, e.trans (eAll.trans e10), w10, i10, by rw [List.length_append]; omega, fun s hs' => ?_⟩
            rw [take_more1 hs] at hs'
            rcases List.mem_append.mp hs' with hs' | hs'
            · exact hh s hs'
            · rw [List.mem_singleton.mp hs']; exact hall
      · rintro σ H4 ⟨F', sp, sv, v3, v5, v6, v7, rfl, e, w2, hsp, hsl, hh⟩
        rw [List.length_map, List.take_length] at hh
        exact ⟨_, rfl, kS sp F' H4 ⟨hne, hh⟩ w2.done⟩
def spLasting (K : PySem.W.Frag) (A : Ad) : Sp := fun vs H Q _ => ∃ (F : Hp) (p ca : Addr) (n k : Nat) (cap : Int) (held rows : List (List Int)), vs = [.ref p, .ref ca, .int (k : Int)] ∧ Same F H ∧ NetAt K A F p n cap held ∧ ChAt K F ca rows ∧ Fits rows held n ∧ n ≤ 7 ∧ rows.length < 60 ∧ 0 ≤ cap ∧
  (∀ F' H', ¬ Lasts cap rows n k → Step F H F' H' → Q (.bl false) H') ∧ (∀ F' H', Lasts cap rows n k → Step F H F' H' → Q (.bl true) H')
theorem rgV_nums (n : Nat) : rgV 0 (n : Int) = (ntTo n).map V.int := by
  unfold rgV ntTo
  rw [List.map_map]
  have : ((n : Int) - 0).toNat = n := by omega
  rw [this]
  refine List.map_congr_left fun i _ => ?_
  show V.int (0 + (i : Int)) = V.int (i : Int)
  rw [Int.zero_add]
theorem ok_is_lasting (T : Txt K mg A) : FnOk P w K mg base CX0 4 A.a_is_lasting A.d_is_lasting ["net", "choice", "at_once"] (spLasting K A) := by
  refine T.F_is_lasting.ok sc_is_lasting (fun vs H Q E h => ?_) (fun cdv A' outer s H vs Q E hr h => ?_)
  · obtain ⟨F, p, ca, n, k, cap, held, rows, rfl, _⟩ := h; rfl
  · obtain ⟨F, p, ca, n, kk, cap, held, rows, rfl, eF, net, ch, ft, n7, hr60, hcap, kN, kS⟩ := h
    have hu64 := hu64_of hr
    obtain ⟨dx, r, hh, hp, _⟩ := id net
    refine ⟨_, pss_cons (ps_expr (pe_call (ok_check_choice T) (hr.mono (by decide)) rfl T.g_check_choice T.F_check_choice.kp T.b_check_choice .nil pass0 (pa_cons (pv 0) (pa_cons (pv 1) pa_nil))))
  (pss_cons (ps_for PassesOwn.never rfl (pi_listK (K := K) rfl (pe_call (ok_lists_of T) (hr.mono (by decide)) rfl T.g_lists_of T.F_lists_of.kp T.b_lists_of .nil pass0 (pa_cons (pe_listRg rfl (by rfl) T.n_list (prg_1 (by rfl) T.n_range (pe_fldK (K := K) rfl (pv 0) rfl))) (pa_cons (pe_callB (call_min2 rfl) (by rfl) T.n_min (by decide +kernel) (pa_cons (pv 2) (pa_cons (pe_fldK (K := K) rfl (pv 0) rfl) pa_nil))) pa_nil)))) (pg_name (i := 3) sc_is_lasting.nd rfl (Or.inl rfl)) (pss_one (ps_if (pt_cmp (pc_isN (pe_call (ok_give_back T) (hr.mono (by decide)) rfl T.g_give_back T.F_give_back.kp T.b_give_back .nil pass0 (pa_cons (pv 0) (pa_cons (pv 1) (pa_cons (pv 3) pa_nil)))))) (pss_one (ps_ret (pe_bl))) (pss_nil))))
  (pss_one (ps_ret (pe_bl)))), ?_⟩
    refine ⟨_, rfl, _, rfl, F, p, ca, n, cap, held, rows, rfl, eF, net, ch, ft, fun H1 s1 => ?_⟩
    have w1 := (Wd.start eF).same s1
    refine ⟨_, rfl, p, _, dx, _, _, rfl, w1.fh _ _ hp, T.cl_Net, T.o_Net_seats, nf_seats .., (n : Int), rfl, ⟨by omega, by omega, by omega, by omega⟩, fun q1 hq1 => ?_⟩
    rw [rgV_nums]
    obtain ⟨F2, w2, e2, i2⟩ := w1.fixE hq1 (.lst ((ntTo n).map V.int))
    have hmin : (if (n : Int) < (kk : Int) then (n : Int) else (kk : Int)) = ((min kk n : Nat) : Int) := by split <;> omega
    refine ⟨_, rfl, _, rfl, p, _, dx, _, _, rfl, w2.fh _ _ (e2 _ _ hp), T.cl_Net, T.o_Net_seats, nf_seats .., _, _, rfl, F2, q1, n, min kk n, by rw [hmin]; rfl, .of i2, n7, by omega, w2.fh, fun q3 F3 H3 xs st3 hq3 dxs => ?_⟩
    have w3 := w2.step st3
    have hxl : xs.length = (ascL n (min kk n)).length := by rw [dpa_len dxs, List.length_map]
    refine ⟨q3, rfl, ⟨_, same_l w3.fh hq3⟩, ?_⟩
    refine for_list (xs := xs) (fun i σ H' => ∃ (F' : Hp) (v3 : Option V), σ = [some (.ref p), some (.ref ca), some (.int (kk : Int)), v3] ∧ Same F3 F' ∧ Wd F H F' H' [] ∧ ∀ l ∈ (ascL n (min kk n)).take i, CB cap rows l) ⟨F3, none, rfl, .refl _, w3, (fun l h => nomatch h)⟩ ?_ ?_ ?_
    · rintro i σ H' _ ⟨F', v3, rfl, e, w4, _⟩
      exact same_l (e.trans w4.fh) hq3
    · rintro i x σ H4 hx ⟨F', v3, rfl, e, w4, hcb⟩
      obtain ⟨d, hd, dx'⟩ := dpa_get dxs hx
      obtain ⟨l, hl, rfl⟩ := item_map hd
      obtain ⟨lq, rfl, hlq⟩ := dp_L dx'
      obtain ⟨up, hll, hlt⟩ := mem_ascL.mp (List.mem_of_getElem? hl)
      have eAll := e2.trans (st3.ff.trans e)
      refine ⟨_, rfl, _, rfl, _, rfl, F', p, ca, lq, n, cap, held, rows, l, rfl, w4.fh, net.mono eAll, ch.mono eAll, ft, same_l e hlq, hlt, by omega, hr60, hcap, fun F5 H5 nh st5 => ?_, fun q F5 H5 cb st5 => ?_⟩
      · refine ⟨_, rfl, iteYes rfl ?_⟩
        exact kN F5 H5 (fun z => nh (z l (List.mem_of_getElem? hl))) (w4.step st5).done
      · refine ⟨_, rfl, iteNo (fun z => nomatch z) ?_⟩
        refine ⟨F5, _, rfl, e.trans st5.ff, w4.step st5, fun l' hl' => ?_⟩
        rw [take_more1 hl] at hl'
        rcases List.mem_append.mp hl' with hl' | hl'
        · exact hcb l' hl'
        · rw [List.mem_singleton.mp hl']; exact cb
    · rintro σ H4 ⟨F', v3, rfl, e, w4, hcb⟩
      rw [hxl, List.take_length] at hcb
      exact kS F' H4 hcb w4.done

end
end Q

set_option Elab.async false
set_option linter.all false
set_option maxRecDepth 100000
set_option maxHeartbeats 8000000
namespace Q
open PySem PySem.Spec PyProof.Rows L2 PW Nt
section
variable {P : Program} {w : World} {K : PySem.W.Frag} {mg : Str → Option Value} {base : Heap} {A : Ad}
/-! ### tuples of seats -/
def encS (l : List Int) : PyData := .tuple [.int (l.length : Int), encI l]
def spTuples (K : PySem.W.Frag) : Sp := fun vs H Q _ => ∃ (F : Hp) (a : Addr) (items : List Int), vs = [.ref a, .int 0] ∧ SqL K F a (items.map V.int) ∧ items.length ≤ 7 ∧ Same F H ∧ ∀ q F' H' xs (ls : List (List Int)), Step F H F' H' → SqL K F' q xs → DpAll K F' xs (ls.map encI) → (∀ l, l ∈ ls ↔ l.Sublist items) → Q (.ref q) H'
theorem ok_tuples_of (T : Txt K mg A) : FnOk P w K mg base CX0 1 A.a_tuples_of A.d_tuples_of ["items", "least"] (spTuples K) := by
  refine T.F_tuples_of.ok sc_tuples_of (fun vs H Q E h => ?_) (fun cdv A' outer s H vs Q E hr h => ?_)
  · obtain ⟨F, a, items, rfl, _⟩ := h; rfl
  · obtain ⟨F, a, items, rfl, ha, hil, eF, k⟩ := h
    have hu64 := hu64_of hr
    have hsub : ∀ i, (subsL (items.take i)).length ≤ 128 := fun i => by
      rw [subsL_len]
      refine Nat.le_trans (Nat.pow_le_pow_right (by decide) (show (items.take i).length ≤ 7 by rw [List.length_take]; omega)) (by decide)
    have hcl : ∀ {i : Nat} {c : List Int}, c ∈ subsL (items.take i) → c.length ≤ 7 := fun {i c} hc => by
      have h1 := ((mem_subsL _ _).mp hc).length_le
      have h2 := List.length_take (i := i) (l := items)
      omega
    refine ⟨_, pss_cons (ps_set (i := 2) sc_tuples_of.nd rfl (Or.inl rfl) (pe_lst (pa_cons (pe_tup (pa_nil)) pa_nil)))
  (pss_cons (ps_for PassesOwn.never rfl (pi_listK (K := K) rfl (pv 0)) (pg_name (i := 3) sc_tuples_of.nd rfl (Or.inr rfl)) (pss_one (ps_set (i := 2) sc_tuples_of.nd rfl (Or.inl rfl) (pe_op (op_addK (K := K) rfl) (pv 2) (pe_lc (own := [("chosen", 5)]) rfl sc_tuples_of.nd (pi_listK (K := K) rfl (pv 2)) (blkOk_by (own := [("chosen", 5)]) (N := ["items", "least", "found", "item", "kept", "chosen", "size"]) (sc := defScope s_tuples_of) (by decide +kernel)) (fun _ _ _ _ _ => pg_name (i := 5) sc_tuples_of.nd rfl (Or.inl rfl)) (fun _ _ _ _ _ => pts_nil) (fun _ _ _ _ _ => pe_op (op_addK (K := K) rfl) (pv 5) (pe_tup (pa_cons (pv 3) pa_nil))))))))
  (pss_cons (ps_setLc (i := 4) (own := [("chosen", 5)]) rfl sc_tuples_of.nd rfl rfl (sw_true rfl rfl rfl (by decide +kernel)) (pi_listK (K := K) rfl (pv 2)) (blkOk_by (own := [("chosen", 5)]) (N := ["items", "least", "found", "item", "kept", "chosen", "size"]) (sc := defScope s_tuples_of) (by decide +kernel)) (fun _ _ _ _ _ => pg_name (i := 5) sc_tuples_of.nd rfl (Or.inl rfl)) (fun _ _ _ _ _ => pts_one (pt_cmpR (op_geK (K := K) rfl) (pe_callB (call_lenK (K := K) rfl) (by rfl) T.n_len (by decide +kernel) (pa_cons (pv 5) pa_nil)) (pv 1) (nomark _))) (fun _ _ _ _ _ => pe_tup (pa_cons (pe_callB (call_lenK (K := K) rfl) (by rfl) T.n_len (by decide +kernel) (pa_cons (pv 5) pa_nil)) (pa_cons (pv 5) pa_nil))))
  (pss_one (ps_ret (pe_lc (own := [("size", 6), ("chosen", 5)]) rfl sc_tuples_of.nd (pi_listK (K := K) rfl (pe_callB (cr_sortedDK (K := K) rfl hu64) (by rfl) T.n_sorted (by decide +kernel) (pa_cons (pv 4) pa_nil))) (blkOk_by (own := [("size", 6), ("chosen", 5)]) (N := ["items", "least", "found", "item", "kept", "chosen", "size"]) (sc := defScope s_tuples_of) (by decide +kernel)) (fun _ _ _ _ _ => pg_tupK (K := K) (n := 2) rfl rfl (pgs_cons (pg_name (i := 6) sc_tuples_of.nd rfl (Or.inl rfl)) (pgs_cons (pg_name (i := 5) sc_tuples_of.nd rfl (Or.inl rfl)) pgs_nil))) (fun _ _ _ _ _ => pts_nil) (fun _ _ _ _ _ => pv 5)))))), ?_⟩
    have w0 := Wd.start eF
    refine ⟨Nat.zero_le _, fun q1 h1 => ?_⟩
    obtain ⟨F1, w1, e1, i1⟩ := w0.fixE h1 (.tup [])
    refine ⟨by show 1 ≤ sizeLine; decide, fun q2 h2 => ?_⟩
    obtain ⟨F2, w2, e2, i2⟩ := w1.fixE h2 (.lst [.ref q1])
    refine ⟨_, rfl, a, rfl, ⟨_, same_l ((e1.trans e2).trans w2.fh) ha⟩, ?_⟩
    refine for_list (xs := items.map V.int) (fun i σ H' => ∃ (F' : Hp) (q : Addr) (xs : List V) (v3 v4 v5 v6 : Option V), σ = [some (.ref a), some (.int 0), some (.ref q), v3, v4, v5, v6] ∧ Same F F' ∧ Wd F H F' H' [] ∧ F' q = some (.lst xs) ∧ DpAll K F' xs ((subsL (items.take i)).map encI)) ⟨F2, q2, _, none, none, none, none, rfl, e1.trans e2, w2, i2, dpa_one (dp_I_of (l := []) (.of (e2 _ _ i1)))⟩ ?_ ?_ ?_
    · rintro i σ H' _ ⟨F', q, xs, v3, v4, v5, v6, rfl, e, w3, _⟩
      exact same_l (e.trans w3.fh) ha
    · rintro i x σ H1 hx ⟨F3, q, xs, v3, v4, v5, v6, rfl, e3, w3, hq, dq⟩
      obtain ⟨z, hz, rfl⟩ := item_int hx
      have hxl : xs.length = (subsL (items.take i)).length := by rw [dpa_len dq, List.length_map]
      have h128 := hsub i
      refine ⟨_, rfl, _, rfl, q, rfl, ⟨_, .of (w3.fh _ _ hq)⟩, fun D hD => ?_⟩
      refine lc_wdL (xs := xs) (((subsL (items.take i)).map fun c => c ++ [z]).map encI) (by rw [List.length_map, List.length_map, hxl]) w3 hD (.of hq) (by omega) ?_ ?_
      · intro j x d F4 H4 acc Q1 hx hd e4 w4 kk
        obtain ⟨d2, hd2, dx⟩ := dpa_get dq hx
        obtain ⟨c, hc, rfl⟩ := item_map hd2
        rw [List.map_map, List.getElem?_map, hc] at hd
        cases hd
        obtain ⟨qc, rfl, hqc⟩ := dp_I dx
        have hc7 := hcl (List.mem_of_getElem? hc)
        refine ⟨rfl, _, rfl, _, rfl, by show 1 ≤ sizeLine; decide, fun t ht => ?_⟩
        obtain ⟨F5, w5, e5, i5⟩ := (Wd.start w4.fh).fixE ht (.tup [.int z])
        refine wd_cat1 w5 (same_t (e4.trans e5) hqc) (.of i5) (by rw [List.length_map]; omega) fun t2 F6 H6 w6 e6 ht2 => ?_
        refine kk _ F6 H6 w6.done (dp_I_of ?_)
        rw [List.map_append]
        exact ht2
      · intro ys F4 H4 e4 w4 da
        have hyl : ys.length = xs.length := by rw [dpa_len da, List.length_map, List.length_map, hxl]
        refine .inr (.inr (.inl ⟨q, D, _, _, rfl, rfl, w4.fh _ _ (e4 _ _ hq), w4.at_, small (by omega), fun q5 h5 => ?_⟩))
        obtain ⟨F5, w5, e5, i5⟩ := w4.drop.fixE h5 (.lst (xs ++ ys))
        refine ⟨F5, q5, _, _, _, _, _, rfl, e3.trans (e4.trans e5), w5, i5, ?_⟩
        rw [take_more1 hz, subsL_snoc, List.map_append]
        exact dpa_app (dpa_mono (e4.trans e5) dq) (dpa_mono e5 da)
    · rintro σ H1 ⟨F3, q, xs, v3, v4, v5, v6, rfl, e3, w3, hq, dq⟩
      have h128 := hsub (items.map V.int).length
      have hcl' := fun {c} => hcl (i := (items.map V.int).length) (c := c)
      rw [List.length_map, List.take_length] at dq h128 hcl'
      have hxl : xs.length = (subsL items).length := by rw [dpa_len dq, List.length_map]
      -- with their sizes
      refine ⟨_, rfl, q, rfl, ⟨_, .of (w3.fh _ _ hq)⟩, fun D hD => ?_⟩
      have w4 := w3.own hD (.lst [])
      refine in_list (xs := xs) (fun j H' => ∃ (F' : Hp) (acc : List V), Same F3 F' ∧ Wd F H F' H' [(D, .lst acc)] ∧ DpAll K F' acc (((subsL items).take j).map encS)) ⟨F3, [], .refl _, w4, .nil⟩ (fun j H' ⟨F', acc, e, w, _⟩ => .of (w.fh _ _ (e _ _ hq))) ?_ ?_
      · rintro j x H5 hx ⟨F5, acc, e5, w5, da⟩
        obtain ⟨d2, hd2, dx⟩ := dpa_get dq hx
        obtain ⟨c, hc, rfl⟩ := item_map hd2
        obtain ⟨qc, rfl, hqc⟩ := dp_I dx
        have hacc : acc.length ≤ 128 := by rw [dpa_len da, List.length_map, List.length_take]; omega
        have hq5 := same_t (e5.trans w5.fh) hqc
        refine ⟨rfl, _, rfl, _, _, rfl, .inr ⟨_, hq5, rfl⟩, _, rfl, .inl ⟨_, _, rfl, rfl, _, rfl, iteYes (by omega) ?_⟩⟩
        refine ⟨_, rfl, _, _, rfl, .inr ⟨_, hq5, rfl⟩, _, rfl, by show 2 ≤ sizeLine; decide, fun t ht => ?_⟩
        obtain ⟨F6, w6, e6, i6⟩ := w5.fixE ht (.tup [.int ((c.map V.int).length : Int), .ref qc])
        refine ⟨acc, w6.at_, small' (by omega), F6, acc ++ [.ref t], e5.trans e6, w6.set _, ?_⟩
        rw [take_more1 hc, List.map_append]
        refine dpa_snoc (dpa_mono e6 da) (.tup (.of i6) (.cons ?_ (.cons (dp_I_of (same_t (e5.trans e6) hqc)) .nil)))
        rw [List.length_map]
        exact .int _
      · rintro H5 ⟨F5, acc, e5, w5, da⟩
        rw [hxl, List.take_length] at da
        have hal : acc.length = (subsL items).length := by rw [dpa_len da, List.length_map]
        -- sorted by them
        have hall : PySem.W.AllAlike ((subsL items).map encS) := fun d hd d' hd' => by
          obtain ⟨c, _, rfl⟩ := List.mem_map.mp hd
          obtain ⟨c', _, rfl⟩ := List.mem_map.mp hd'
          have h1 := alike_I c c'
          simp [encS, PySem.W.alike, PySem.W.alikeAll, h1]
        have hdp : ∀ d ∈ (subsL items).map encS, d.depth ≤ 60 := fun d hd => by
          obtain ⟨c, _, rfl⟩ := List.mem_map.mp hd
          have := depth_I c
          show PyData.depth (.tuple [_, _]) ≤ 60
          simp only [PyData.depth, PyData.depthAll]
          omega
        refine ⟨_, rfl, D, acc, _, rfl, .of w5.at_, dpa_mono w5.fh da, hall, .inl (fun d hd => by obtain ⟨c, _, rfl⟩ := List.mem_map.mp hd; exact ⟨_, _, rfl⟩), hdp, fun p hp => ?_⟩
        have hperm := sortD_perm acc ((subsL items).map encS)
        have hsd := sortD_dpa da
        have hsnd : ((sortD acc ((subsL items).map encS)).map (·.2)).Perm ((subsL items).map encS) := by
          have h1 := hperm.map (·.2)
          rwa [zip_snd (by rw [List.length_map, hal])] at h1
        obtain ⟨ls, hls⟩ : ∃ ls : List (List Int), (sortD acc ((subsL items).map encS)).map (·.2) = ls.map encS := by
          have key : ∀ l : List PyData, (∀ d ∈ l, ∃ c : List Int, d = encS c) → ∃ ls : List (List Int), l = ls.map encS := by
            intro l
            induction l with
            | nil => intro _; exact ⟨[], rfl⟩
            | cons d l ih =>
              intro h
              obtain ⟨c, rfl⟩ := h d (by simp)
              obtain ⟨ls, rfl⟩ := ih fun d hd => h d (by simp [hd])
              exact ⟨c :: ls, rfl⟩
          exact key _ fun d hd => by
            obtain ⟨c, _, rfl⟩ := List.mem_map.mp (hsnd.mem_iff.mp hd)
            exact ⟨c, rfl⟩
        have inj : ∀ c c' : List Int, encS c = encS c' → c = c' := fun c c' e => by
          have e1 : encI c = encI c' := by injection e with e; injection e with _ e; injection e
          have e2 : c.map PyData.int = c'.map PyData.int := by injection e1
          exact (List.map_inj_right (fun a b h => by injection h)).mp e2
        have hmem : ∀ c, c ∈ ls ↔ c.Sublist items := fun c => by
          rw [← mem_subsL]
          rw [hls] at hsnd
          constructor
          · intro h
            obtain ⟨c', h1, h2⟩ := List.mem_map.mp (hsnd.mem_iff.mp (List.mem_map_of_mem (f := encS) h))
            rwa [← inj _ _ h2]
          · intro h
            obtain ⟨c', h1, h2⟩ := List.mem_map.mp (hsnd.mem_iff.mpr (List.mem_map_of_mem (f := encS) h))
            rwa [← inj _ _ h2]
        rw [hls] at hsd
        have hlsl : ls.length ≤ 128 := by
          have := hsnd.length_eq
          rw [hls, List.length_map, List.length_map] at this
          omega
        generalize (sortD acc ((subsL items).map encS)).map (·.1) = sv at hsd
        obtain ⟨F6, w6, e6, i6⟩ := w5.drop.fixE hp (.lst sv)
        have hsvl : sv.length = ls.length := by rw [dpa_len hsd, List.length_map]
        refine ⟨p, rfl, ⟨_, .of upd_same⟩, fun D2 hD2 => ?_⟩
        refine lc_wdL (xs := sv) (ls.map encI) (by rw [List.length_map, hsvl]) w6 hD2 (.of i6) (by omega) ?_ ?_
        · intro j x d F7 H7 acc2 Q1 hx hd e7 w7 kk
          obtain ⟨d2, hd2, dx⟩ := dpa_get hsd hx
          obtain ⟨c, hc, rfl⟩ := item_map hd2
          rw [List.getElem?_map, hc] at hd
          cases hd
          obtain ⟨t, ts, rfl, hts, dts⟩ := dp_tup dx
          cases dts with | cons b1 dts => cases dts with | cons b2 dts =>
          cases dts
          cases b1
          refine ⟨t, _, rfl, same_t ((e6.trans e7).trans w7.fh) hts, rfl, _, _, rfl, _, _, rfl, rfl, rfl, _, rfl, ?_⟩
          exact kk _ F7 H7 (.refl w7.fh) (dp_mono (e6.trans e7) b2)
        · intro rv F7 H7 e7 w7 da7
          obtain ⟨w8, e8⟩ := w7.freeze
          exact k D2 _ _ rv ls w8.done (.of upd_same) (dpa_mono e8 da7) hmem
def spWithin (K : PySem.W.Frag) : Sp := fun vs H Q _ => ∃ (a b : Addr) (r S : List Int), vs = [.ref a, .ref b] ∧ SqT K H a (r.map V.int) ∧ SqT K H b (S.map V.int) ∧ ∀ H', Same H H' → Q (.bl (decide (within r S))) H'
theorem ok_is_within (T : Txt K mg A) : FnOk P w K mg base CX0 1 A.a_is_within A.d_is_within ["held", "seats"] (spWithin K) := by
  refine T.F_is_within.ok sc_is_within (fun vs H Q E h => ?_) (fun cdv A' outer s H vs Q E hr h => ?_)
  · obtain ⟨a, b, r, S, rfl, _⟩ := h; rfl
  · obtain ⟨a, b, r, S, rfl, ha, hb, k⟩ := h
    have hu65 := hu65_of hr
    refine ⟨_, pss_cons (ps_for PassesOwn.never rfl (pi_tupK (K := K) rfl (pv 0)) (pg_name (i := 2) sc_is_within.nd rfl (Or.inl rfl)) (pss_one (ps_if (pt_cmpR (op_notInK (K := K) rfl hu65) (pv 2) (pv 1) (by rfl)) (pss_one (ps_ret (pe_bl))) (pss_nil))))
  (pss_one (ps_ret (pe_bl))), ?_⟩
    refine ⟨_, rfl, a, rfl, ⟨_, ha⟩, for_tup (xs := r.map V.int) (fun i σ H' => ∃ v, σ = [some (.ref a), some (.ref b), v] ∧ Same H H' ∧ ∀ x ∈ r.take i, x ∈ S) ⟨none, rfl, .refl H, (fun x h => nomatch h)⟩ (fun i σ H' _ ⟨v, _, e, _⟩ => same_t e ha) ?_ ?_⟩
    · rintro i x σ H' hx ⟨v, rfl, e, hin⟩
      obtain ⟨z, hz, rfl⟩ := item_int hx
      refine ⟨_, rfl, _, rfl, notin_ints (.inr (same_t e hb)) ⟨_, rfl, iteND (fun c => ?_) (fun c => ?_)⟩⟩
      · have e2 : decide (within r S) = false := decide_eq_false fun h => c (h z (List.mem_of_getElem? hz))
        rw [e2] at k
        exact k H' e
      · refine ⟨_, rfl, e, fun x hx => ?_⟩
        rw [take_more1 hz] at hx
        rcases List.mem_append.mp hx with hx | hx
        · exact hin x hx
        · rw [List.mem_singleton.mp hx]; exact c
    · rintro σ H' ⟨v, rfl, e, hin⟩
      rw [List.length_map, List.take_length] at hin
      have e2 : decide (within r S) = true := decide_eq_true hin
      rw [e2] at k
      exact k H' e
def spFault (K : PySem.W.Frag) : Sp := fun vs H Q _ => ∃ (F : Hp) (ca : Addr) (n k : Nat) (cap : Int) (rows : List (List Int)), vs = [.ref ca, .int (n : Int), .int cap, .int (k : Int)] ∧ Same F H ∧ ChAt K F ca rows ∧ RowsOk rows n ∧ rows.length < 60 ∧ n ≤ 7 ∧ k ≤ 100 ∧
  (∀ F' H', (∀ seat others, (0 ≤ seat ∧ seat < (n : Int)) → others.Sublist ((ntTo n).filter fun x => decide (x ≠ seat)) → ¬ Fault cap rows k seat others) → Step F H F' H' → Q .non H') ∧
  (∀ seat others t oq F' H', (0 ≤ seat ∧ seat < (n : Int)) → others.Sublist ((ntTo n).filter fun x => decide (x ≠ seat)) → Fault cap rows k seat others → Step F H F' H' → F' t = some (.tup [.int seat, .ref oq]) → SqT K F' oq (others.map V.int) → Q (.ref t) H')
theorem ok_count_fault (T : Txt K mg A) : FnOk P w K mg base CX0 2 A.a_count_fault A.d_count_fault ["choice", "seats", "cap", "at_once"] (spFault K) := by
  refine T.F_count_fault.ok sc_count_fault (fun vs H Q E h => ?_) (fun cdv A' outer s H vs Q E hr h => ?_)
  · obtain ⟨F, ca, n, k, cap, rows, rfl, _⟩ := h; rfl
  · obtain ⟨F, ca, n, kk, cap, rows, rfl, eF, ch, ok, hr60, n7, k100, kN, kS⟩ := h
    have hu64 := hu64_of hr
    have hu65 := hu65_of hr
    obtain ⟨cv, hcv, hcl, dcv⟩ := ch.len
    have w0 := Wd.start eF
    refine ⟨_, pss_cons (ps_for PassesOwn.never rfl (pi_range1 rfl T.n_range (pa_cons (pv 1) pa_nil)) (pg_name (i := 4) sc_count_fault.nd rfl (Or.inr rfl)) (pss_cons (ps_setLc (i := 5) (own := [("held", 8)]) rfl sc_count_fault.nd rfl rfl (sw_true rfl rfl rfl (by decide +kernel)) (pi_listK (K := K) rfl (pv 0)) (blkOk_by (own := [("held", 8)]) (N := ["choice", "seats", "cap", "at_once", "seat", "present", "others", "inside", "held", "one"]) (sc := defScope s_count_fault) (by decide +kernel)) (fun _ _ _ _ _ => pg_name (i := 8) sc_count_fault.nd rfl (Or.inl rfl)) (fun _ _ _ _ _ => pts_one (pt_cmpR (op_inK (K := K) rfl hu65) (pv 4) (pv 8) (by rfl))) (fun _ _ _ _ _ => pv 8))
    (pss_one (ps_for PassesOwn.never rfl (pi_listK (K := K) rfl (pe_call (ok_tuples_of T) (hr.mono (by decide)) rfl T.g_tuples_of T.F_tuples_of.kp T.b_tuples_of .nil pass0 (pa_cons (pe_lc (own := [("one", 9)]) rfl sc_count_fault.nd (pi_range1 rfl T.n_range (pa_cons (pv 1) pa_nil)) (blkOk_by (own := [("one", 9)]) (N := ["choice", "seats", "cap", "at_once", "seat", "present", "others", "inside", "held", "one"]) (sc := defScope s_count_fault) (by decide +kernel)) (fun _ _ _ _ _ => pg_name (i := 9) sc_count_fault.nd rfl (Or.inl rfl)) (fun _ _ _ _ _ => pts_one (pt_cmpR (op_neK (K := K) rfl hu64) (pv 9) (pv 4) (nomark _))) (fun _ _ _ _ _ => pv 9)) (pa_cons (pe_int) pa_nil)))) (pg_name (i := 6) sc_count_fault.nd rfl (Or.inr rfl)) (pss_cons (ps_setLc (i := 7) (own := [("held", 8)]) rfl sc_count_fault.nd rfl rfl (sw_true rfl rfl rfl (by decide +kernel)) (pi_listK (K := K) rfl (pv 5)) (blkOk_by (own := [("held", 8)]) (N := ["choice", "seats", "cap", "at_once", "seat", "present", "others", "inside", "held", "one"]) (sc := defScope s_count_fault) (by decide +kernel)) (fun _ _ _ _ _ => pg_name (i := 8) sc_count_fault.nd rfl (Or.inl rfl)) (fun _ _ _ _ _ => pts_one (pt_val (pe_call (ok_is_within T) (hr.mono (by decide)) rfl T.g_is_within T.F_is_within.kp T.b_is_within .nil pass0 (pa_cons (pv 8) (pa_cons (pe_op (op_addK (K := K) rfl) (pv 6) (pe_tup (pa_cons (pv 4) pa_nil))) pa_nil))))) (fun _ _ _ _ _ => pv 8))
      (pss_one (ps_if (pt_cmpR (op_gtK (K := K) rfl) (pe_callB (call_lenK (K := K) rfl) (by rfl) T.n_len (by decide +kernel) (pa_cons (pv 7) pa_nil)) (pe_op op_mulU (pv 2) (pe_callB (call_max2 rfl) (by rfl) T.n_max (by decide +kernel) (pa_cons (pe_int) (pa_cons (pe_op (op_addK (K := K) rfl) (pe_op op_sub (pe_callB (call_lenK (K := K) rfl) (by rfl) T.n_len (by decide +kernel) (pa_cons (pv 6) pa_nil)) (pv 3)) (pe_int)) pa_nil)))) (nomark _)) (pss_one (ps_ret (pe_tup (pa_cons (pv 4) (pa_cons (pv 6) pa_nil))))) (pss_nil))))))))
  (pss_one (ps_ret (pe_non))), ?_⟩
    refine ⟨_, rfl, (n : Int), rfl, by omega, by omega, for_range (lo := 0) (n := n) (fun i σ H' => ∃ (F' : Hp) (v4 v5 v6 v7 v8 v9 : Option V), σ = [some (.ref ca), some (.int (n : Int)), some (.int cap), some (.int (kk : Int)), v4, v5, v6, v7, v8, v9] ∧ Same F F' ∧ Wd F H F' H' [] ∧
      ∀ seat others, (0 ≤ seat ∧ seat < (i : Int)) → others.Sublist ((ntTo n).filter fun x => decide (x ≠ seat)) → ¬ Fault cap rows kk seat others) ⟨F, none, none, none, none, none, none, rfl, .refl F, w0, fun s o h => by omega⟩ ?_ ?_⟩
    · rintro i σ H1 hi ⟨F1, v4, v5, v6, v7, v8, v9, rfl, e1, w1, hno⟩
      have zi : (0 : Int) + (i : Int) = (i : Int) := Int.zero_add _
      -- the pieces there
      refine ⟨_, rfl, ca, rfl, ⟨_, same_l (e1.trans w1.fh) hcv⟩, fun D hD => ?_⟩
      have w2 := w1.own hD (.lst [])
      refine in_list (xs := cv) (fun j H' => ∃ (acc : List V), Wd F H F1 H' [(D, .lst acc)] ∧ DpAll K F1 acc (((rows.take j).filter fun r => decide ((i : Int) ∈ r)).map encI) ∧ acc.length ≤ j) ⟨[], w2, .nil, Nat.le_refl _⟩ (fun j H' ⟨acc, w, _⟩ => same_l (e1.trans w.fh) hcv) ?_ ?_
      · rintro j x H2 hx ⟨acc, w3, da, hal⟩
        obtain ⟨d, hd, dx⟩ := dpa_get dcv hx
        obtain ⟨r, hr', rfl⟩ := item_map hd
        obtain ⟨q, rfl, hq⟩ := dp_I dx
        have hjl := (List.getElem?_eq_some_iff.mp hr').1
        refine ⟨rfl, _, rfl, _, rfl, in_ints (.inr (same_t (e1.trans w3.fh) hq)) ⟨_, rfl, ?_⟩⟩
        rw [zi]
        refine iteD (fun c => ?_) (fun c => ?_)
        · refine ⟨_, rfl, acc, w3.at_, small' (by omega), _, w3.set _, ?_, by rw [List.length_append]; show acc.length + 1 ≤ j + 1; omega⟩
          rw [take_more1 hr', List.filter_append, List.filter_cons, if_pos (decide_eq_true c), List.map_append]
          exact dpa_snoc da (dp_mono e1 dx)
        · refine ⟨acc, w3, ?_, by omega⟩
          rw [take_more1 hr', List.filter_append, List.filter_cons, if_neg (by simpa using c), List.filter_nil, List.append_nil]
          exact da
      · rintro H2 ⟨acc, w3, da, hal⟩
        rw [hcl, List.take_length] at da
        rw [hcl] at hal
        obtain ⟨F3, w4, e3, i3⟩ : ∃ F3, Wd F H F3 H2 [] ∧ Same F1 F3 ∧ F3 D = some (.lst acc) := ⟨_, w3.freeze.1, w3.freeze.2, upd_same⟩
        -- the other seats
        refine ⟨_, rfl, (n : Int), rfl, by omega, by omega, fun D2 hD2 => ?_⟩
        have w5 := w4.own hD2 (.lst [])
        refine in_range (lo := 0) (n := n) (fun j H' => Wd F H F3 H' [(D2, .lst ((((ntTo n).take j).filter fun x => decide (x ≠ (i : Int))).map V.int))]) w5 ?_ ?_
        · intro j H3 hj w6
          have hj' : (ntTo n)[j]? = some (j : Int) := by
            unfold ntTo
            rw [List.getElem?_map, List.getElem?_range hj]
            rfl
          have zj : (0 : Int) + (j : Int) = (j : Int) := Int.zero_add _
          have hl7 : (((ntTo n).take j).filter fun x => decide (x ≠ (i : Int))).length ≤ 7 := by
            have h1 := List.length_filter_le (fun x => decide (x ≠ (i : Int))) ((ntTo n).take j)
            have h2 := List.length_take (i := j) (l := ntTo n)
            omega
          refine ⟨rfl, _, rfl, _, rfl, .inl ⟨rfl, _, rfl, ?_⟩⟩
          rw [zi, zj]
          refine iteND (fun c => ?_) (fun c => ?_)
          · have c' : (j : Int) ≠ (i : Int) := fun z => c (congrArg V.int z)
            refine ⟨_, rfl, _, w6.at_, small' (by rw [List.length_map]; omega), ?_⟩
            rw [take_more1 hj', List.filter_append, List.filter_cons, if_pos (decide_eq_true c'), List.map_append]
            exact w6.set _
          · have c' : (j : Int) = (i : Int) := V.int.inj c
            rw [take_more1 hj', List.filter_append, List.filter_cons, if_neg (by simpa using c'), List.filter_nil, List.append_nil]
            exact w6
        · intro H3 w6
          have ht : (ntTo n).take n = ntTo n := List.take_of_length_le (by rw [ntTo_len]; exact Nat.le_refl _)
          rw [ht] at w6
          obtain ⟨F4, w7, e4, i4⟩ : ∃ F4, Wd F H F4 H3 [] ∧ Same F3 F4 ∧ F4 D2 = some (.lst (((ntTo n).filter fun x => decide (x ≠ (i : Int))).map V.int)) := ⟨_, w6.freeze.1, w6.freeze.2, upd_same⟩
          have hol : ((ntTo n).filter fun x => decide (x ≠ (i : Int))).length ≤ 7 := by
            have h1 := List.length_filter_le (fun x => decide (x ≠ (i : Int))) (ntTo n)
            rw [ntTo_len] at h1
            omega
          refine ⟨F4, D2, _, rfl, .of i4, hol, w7.fh, fun tq F5 H5 tv ls st5 htq dtv hls => ?_⟩
          have w8 := w7.step st5
          have htl : tv.length = ls.length := by rw [dpa_len dtv, List.length_map]
          refine ⟨tq, rfl, ⟨_, same_l w8.fh htq⟩, ?_⟩
          refine for_list (xs := tv) (fun m σ H' => ∃ (F' : Hp) (v6 v7 v8 v9 : Option V), σ = [some (.ref ca), some (.int (n : Int)), some (.int cap), some (.int (kk : Int)), some (.int (0 + (i : Int))), some (.ref D), v6, v7, v8, v9] ∧ Same F5 F' ∧ Wd F H F' H' [] ∧ ∀ others ∈ ls.take m, ¬ Fault cap rows kk (i : Int) others) ⟨F5, _, _, _, _, rfl, .refl _, w8, (fun o h => nomatch h)⟩ ?_ ?_ ?_
          · rintro m σ H' _ ⟨F', v6, v7, v8, v9, rfl, e, w9, _⟩
            exact same_l (e.trans w9.fh) htq
          · rintro m x σ H6 hx ⟨F6, v6, v7, v8, v9, rfl, e6, w9, hn6⟩
            obtain ⟨d, hd, dx⟩ := dpa_get dtv hx
            obtain ⟨others, ho, rfl⟩ := item_map hd
            obtain ⟨oq, rfl, hoq⟩ := dp_I dx
            have hosub := (hls others).mp (List.mem_of_getElem? ho)
            have hol6 : others.length ≤ 7 := Nat.le_trans hosub.length_le hol
            have eD := e4.trans (st5.ff.trans e6)
            refine ⟨_, rfl, D, rfl, ⟨_, .of (w9.fh _ _ (eD _ _ i3))⟩, fun D3 hD3 => ?_⟩
            have w10 := w9.own hD3 (.lst [])
            refine in_list (xs := acc) (fun j H' => ∃ (F' : Hp) (acc2 : List V), Same F6 F' ∧ Wd F H F' H' [(D3, .lst acc2)] ∧ acc2.length = (((rows.filter fun r => decide ((i : Int) ∈ r)).take j).filter fun r => decide (within r (others ++ [(i : Int)]))).length) ⟨F6, [], .refl _, w10, rfl⟩ (fun j H' ⟨F', acc2, e, w, _⟩ => .of (w.fh _ _ ((eD.trans e) _ _ i3))) ?_ ?_
            · rintro j x H7 hx ⟨F7, acc2, e7, w11, hac⟩
              obtain ⟨d, hd, dx⟩ := dpa_get da hx
              obtain ⟨r, hr', rfl⟩ := item_map hd
              obtain ⟨q, rfl, hq⟩ := dp_I dx
              have hal2 : acc2.length ≤ 60 := by
                rw [hac]
                have h1 := List.length_filter_le (fun r => decide (within r (others ++ [(i : Int)]))) ((rows.filter fun r => decide ((i : Int) ∈ r)).take j)
                have h2 := List.length_take (i := j) (l := rows.filter fun r => decide ((i : Int) ∈ r))
                have h3 := List.length_filter_le (fun r => decide ((i : Int) ∈ r)) rows
                omega
              refine ⟨rfl, _, rfl, _, rfl, _, rfl, by show 1 ≤ sizeLine; decide, fun t ht => ?_⟩
              rw [zi]
              obtain ⟨F8, w12, e8, i8⟩ := w11.fixE ht (.tup [.int (i : Int)])
              refine wd_cat1 w12 (same_t ((e6.trans e7).trans e8) hoq) (.of i8) (by rw [List.length_map]; omega) fun t2 F9 H9 w13 e9 ht2 => ?_
              have eq9 := (e3.trans eD).trans (e7.trans (e8.trans e9))
              have ht2' : SqT K F9 t2 ((others ++ [(i : Int)]).map V.int) := by rw [List.map_append]; exact ht2
              refine ⟨q, t2, r, others ++ [(i : Int)], rfl, same_t (eq9.trans w13.fh) hq, same_t w13.fh ht2', fun H10 s10 => ⟨_, rfl, ?_⟩⟩
              have w14 := w13.same s10
              refine iteD (fun c => ?_) (fun c => ?_)
              · refine ⟨_, rfl, acc2, w14.at_, small' (by omega), F9, _, e7.trans (e8.trans e9), w14.set _, ?_⟩
                rw [take_more1 hr', List.filter_append, List.filter_cons, if_pos (decide_eq_true c), List.length_append, List.length_append, hac]
                rfl
              · refine ⟨F9, acc2, e7.trans (e8.trans e9), w14, ?_⟩
                rw [take_more1 hr', List.filter_append, List.filter_cons, if_neg (by simpa using c), List.filter_nil, List.append_nil]
                exact hac
            · rintro H7 ⟨F7, acc2, e7, w11, hac⟩
              have hacl : acc.length = (rows.filter fun r => decide ((i : Int) ∈ r)).length := by rw [dpa_len da, List.length_map]
              rw [hacl, List.take_length, ← inside_two] at hac
              have hlen : ((others.map V.int).length : Int) = (others.length : Int) := by rw [List.length_map]
              have hmx : maxZ 0 ((others.length : Int) - (kk : Int) + 1) ≤ 100 ∧ 0 ≤ maxZ 0 ((others.length : Int) - (kk : Int) + 1) := ⟨maxZ_le (by decide) (by omega), (le_maxZ (a := 0) (b := (others.length : Int) - (kk : Int) + 1)).1⟩
              refine ⟨_, rfl, _, _, rfl, .inl ⟨_, .of w11.at_, rfl⟩, _, rfl, _, rfl, _, _, rfl, .inr ⟨_, same_t ((e6.trans e7).trans w11.fh) hoq, rfl⟩, _, rfl, _, _, rfl, rfl, .inl ⟨_, _, rfl, rfl, _, _, rfl, ?_⟩⟩
              rw [hlen]
              refine .inl ⟨_, _, rfl, rfl, .inr ⟨by show -(2 ^ 64) < maxZ 0 ((others.length : Int) - (kk : Int) + 1); omega, by show maxZ 0 ((others.length : Int) - (kk : Int) + 1) < 2 ^ 64; omega⟩, .inl ⟨_, _, rfl, rfl, _, rfl, ?_⟩⟩
              rw [hac]
              have efault : (cap * (if (others.length : Int) - (kk : Int) + 1 > 0 then (others.length : Int) - (kk : Int) + 1 else 0) < ((inside rows (i : Int) others).length : Int)) = Fault cap rows kk (i : Int) others := rfl
              refine iteD (fun c => ?_) (fun c => ?_)
              · refine ⟨_, rfl, _, rfl, by show 2 ≤ sizeLine; decide, fun t ht => ?_⟩
                rw [zi]
                obtain ⟨F8, w12, e8, i8⟩ := w11.drop.fixE ht (.tup [.int (i : Int), .ref oq])
                exact kS (i : Int) others t oq F8 _ ⟨by omega, by omega⟩ hosub c w12.done i8 (same_t ((e6.trans e7).trans e8) hoq)
              · refine ⟨F7, _, _, _, _, rfl, e6.trans e7, w11.drop, fun o ho' => ?_⟩
                rw [take_more1 ho] at ho'
                rcases List.mem_append.mp ho' with ho' | ho'
                · exact hn6 o ho'
                · rw [List.mem_singleton.mp ho']; exact c
          · rintro σ H6 ⟨F6, v6, v7, v8, v9, rfl, e6, w9, hn6⟩
            rw [htl, List.take_length] at hn6
            refine ⟨F6, _, _, _, _, _, _, rfl, e1.trans (e3.trans (e4.trans (st5.ff.trans e6))), w9, fun seat others hs hsub => ?_⟩
            by_cases c : seat = (i : Int)
            · subst c
              exact hn6 others ((hls others).mpr hsub)
            · exact hno seat others ⟨hs.1, by omega⟩ hsub
    · rintro σ H1 ⟨F1, v4, v5, v6, v7, v8, v9, rfl, e1, w1, hno⟩
      exact kN F1 H1 hno w1.done

end
end Q

set_option Elab.async false
set_option linter.all false
set_option maxRecDepth 100000
set_option maxHeartbeats 8000000
namespace Q
open PySem PySem.Spec PyProof.Rows L2 PW Nt
section
variable {P : Program} {w : World} {K : PySem.W.Frag} {mg : Str → Option Value} {base : Heap} {A : Ad}
/-! ### the law's rows -/
def szR : List Int := [5, 64, 64, 64, 64, 64, 64, 64, 60, 60, 60, 60, 60, 60, 60]
theorem szR_ok : ∀ s ∈ szR, 0 < s ∧ s < 1073741824 := by decide
theorem cut_row (bs : List Int) (a b : Option Int) : ∃ cs : List Int, cutV (bs.map V.int) a b = cs.map V.int ∧ cs.Sublist bs := by
  unfold cutV
  rw [← List.map_drop, ← List.map_take]
  exact ⟨_, rfl, (List.take_sublist _ _).trans (List.drop_sublist _ _)⟩
theorem nt_at {n j : Nat} (h : j < n) : (ntTo n)[j]? = some (j : Int) := by
  unfold ntTo
  rw [List.getElem?_map, List.getElem?_range h]
  rfl
theorem emod_in (x : Int) {n : Nat} (h : 1 ≤ n) : 0 ≤ x % (n : Int) ∧ x % (n : Int) < (n : Int) := ⟨Int.emod_nonneg _ (by omega), Int.emod_lt_of_pos _ (by omega)⟩
def RowMid (K : PySem.W.Frag) (F0 H0 F1 : Hp) (M : List (Addr × HO)) (n : Nat) (ne : Bool) (st : V → Option V → Option V → L2.St) : L2.St → Hp → Prop := fun σ' H' => ∃ (F' : Hp) (rp : Addr) (bs : List Int) (v8 v9 : Option V), σ' = st (.ref rp) v8 v9 ∧ Same F1 F' ∧ Wd F0 H0 F' H' M ∧ SqL K F' rp (bs.map V.int) ∧ bs.Pairwise (· < ·) ∧ (∀ b ∈ bs, 0 ≤ b ∧ b < (n : Int)) ∧ (ne = true → bs ≠ [])
def spRowsL (K : PySem.W.Frag) : Sp := fun vs H Q _ => ∃ (F : Hp) (n m : Nat) (c : Int), vs = [.int (n : Int), .int (m : Int), .int c] ∧ 1 ≤ n ∧ n ≤ 7 ∧ m ≤ 7 ∧ Same F H ∧ ∀ q F' H' (rows : List (List Int)), Step F H F' H' → ChAt K F' q rows → rows.length = m → RowsOk rows n → Q (.ref q) H'
theorem up_few {bs : List Int} {n : Nat} (up : bs.Pairwise (· < ·)) (hb : ∀ b ∈ bs, 0 ≤ b ∧ b < (n : Int)) : bs.length ≤ n := by
  have := nd_len (up_nd up) (m := ntTo n) fun y hy => mem_ntTo.mpr (hb y hy)
  rwa [ntTo_len] at this
theorem ok_L_rows (T : Txt K mg A) : FnOk P w K mg base CX0 2 A.a_L_rows A.d_L_rows ["_law_seats", "_law_count", "_law_cell_here"] (spRowsL K) := by
  refine T.F_L_rows.ok sc_L_rows (fun vs H Q E h => ?_) (fun cdv A' outer s H vs Q E hr h => ?_)
  · obtain ⟨F, n, m, c, rfl, _⟩ := h; rfl
  · obtain ⟨F, n, m, c, rfl, n1, n7, m7, eF, k⟩ := h
    have hu64 := hu64_of hr
    have hu65 := hu65_of hr
    refine ⟨_, pss_cons (ps_set (i := 3) sc_L_rows.nd rfl (Or.inl rfl) (pe_call (ok_L_draws T) (hr.mono (by decide)) rfl T.g_L_draws T.F_L_draws.kp T.b_L_draws .nil pass0 (pa_cons (pv 2) (pa_cons (pe_op (op_addK (K := K) rfl) (pe_op (op_addK (K := K) rfl) (pe_lst (pa_cons (pe_int) pa_nil)) (pe_op op_mulU (pe_lst (pa_cons (pe_int) pa_nil)) (pe_int))) (pe_op op_mulU (pe_lst (pa_cons (pe_int) pa_nil)) (pe_int))) pa_nil))))
  (pss_cons (ps_set (i := 4) sc_L_rows.nd rfl (Or.inl rfl) (pe_lst (pa_nil)))
  (pss_cons (ps_for PassesOwn.never rfl (pi_range1 rfl T.n_range (pa_cons (pv 1) pa_nil)) (pg_name (i := 5) sc_L_rows.nd rfl (Or.inl rfl)) (pss_cons (ps_set (i := 6) sc_L_rows.nd rfl (Or.inr rfl) (pe_op op_mod (pe_callTy call_intU (by rfl) T.n_int (by decide +kernel) (pa_cons (pe_ix (ix_K (K := K) rfl) (pv 3) (pe_op (op_addK (K := K) rfl) (pe_int) (pv 5)) (fun _ _ => rfl)) pa_nil)) (pv 0)))
    (pss_cons (ps_set (i := 7) sc_L_rows.nd rfl (Or.inl rfl) (pe_call (ok_L_bits T) (hr.mono (by decide)) rfl T.g_L_bits T.F_L_bits.kp T.b_L_bits .nil pass0 (pa_cons (pe_ix (ix_K (K := K) rfl) (pv 3) (pe_op (op_addK (K := K) rfl) (pe_int) (pv 5)) (fun _ _ => rfl)) (pa_cons (pv 0) pa_nil))))
    (Evl.pss_cut (ps_if (pt_cmpR (op_eqK (K := K) rfl hu64) (pe_ix (ix_K (K := K) rfl) (pv 3) (pe_int) (fun _ _ => rfl)) (pe_int) (nomark _)) (pss_cons (ps_set (i := 8) sc_L_rows.nd rfl (Or.inr rfl) (pe_op op_mod (pe_callTy call_intU (by rfl) T.n_int (by decide +kernel) (pa_cons (pe_ix (ix_K (K := K) rfl) (pv 3) (pe_op (op_addK (K := K) rfl) (pe_int) (pv 5)) (fun _ _ => rfl)) pa_nil)) (pv 0)))
      (pss_one (ps_setLc (i := 7) (own := [("_law_j", 9)]) rfl sc_L_rows.nd rfl rfl (sw_true rfl rfl rfl (by decide +kernel)) (pi_range1 rfl T.n_range (pa_cons (pv 0) pa_nil)) (blkOk_by (own := [("_law_j", 9)]) (N := ["_law_seats", "_law_count", "_law_cell_here", "_law_drawn", "_law_rows_here", "_law_k", "_law_first", "_law_row", "_law_second", "_law_j"]) (sc := defScope s_L_rows) (by decide +kernel)) (fun _ _ _ _ _ => pg_name (i := 9) sc_L_rows.nd rfl (Or.inl rfl)) (fun _ _ _ _ _ => pts_one (PW.pt (pw_or (pt_cmpR (op_eqK (K := K) rfl hu64) (pv 9) (pv 6) (nomark _)) (pw_or1 (pt_cmpR (op_eqK (K := K) rfl hu64) (pv 9) (pv 8) (nomark _)))))) (fun _ _ _ _ _ => pv 9)))) (pss_nil))
    (Evl.pss_cut (ps_if (PW.pt (pw_and (pt_cmpR (op_eqK (K := K) rfl hu64) (pe_ix (ix_K (K := K) rfl) (pv 3) (pe_int) (fun _ _ => rfl)) (pe_int) (nomark _)) (pw_and1 (pt_cmpR (op_gtK (K := K) rfl) (pe_callB (call_lenK (K := K) rfl) (by rfl) T.n_len (by decide +kernel) (pa_cons (pv 7) pa_nil)) (pe_int) (nomark _))))) (pss_one (ps_set (i := 7) sc_L_rows.nd rfl (Or.inl rfl) (pe_slice (sl_K (K := K) rfl) (pv 7) (po_some (pe_int)) (po_some (pe_int))))) (pss_nil))
    (Evl.pss_cut (ps_if (PW.pt (pw_and (pt_cmpR (op_eqK (K := K) rfl hu64) (pe_ix (ix_K (K := K) rfl) (pv 3) (pe_int) (fun _ _ => rfl)) (pe_int) (nomark _)) (pw_and1 (pt_cmpR (op_gtK (K := K) rfl) (pv 5) (pe_int) (nomark _))))) (pss_one (ps_set (i := 7) sc_L_rows.nd rfl (Or.inl rfl) (pe_callTy (call_listK (K := K) rfl) (by rfl) T.n_list (by decide +kernel) (pa_cons (pe_ix (ix_K (K := K) rfl) (pv 4) (pe_op op_mod (pe_callTy call_intU (by rfl) T.n_int (by decide +kernel) (pa_cons (pe_ix (ix_K (K := K) rfl) (pv 3) (pe_op (op_addK (K := K) rfl) (pe_int) (pv 5)) (fun _ _ => rfl)) pa_nil)) (pe_int)) (fun _ _ => rfl)) pa_nil)))) (pss_nil))
    (Evl.pss_cut (ps_if (PW.pt (pw_and (pt_cmpR (op_eqK (K := K) rfl hu64) (pe_ix (ix_K (K := K) rfl) (pv 3) (pe_int) (fun _ _ => rfl)) (pe_int) (nomark _)) (pw_and1 (pt_cmpR (op_gtK (K := K) rfl) (pe_op op_mod (pe_callTy call_intU (by rfl) T.n_int (by decide +kernel) (pa_cons (pe_ix (ix_K (K := K) rfl) (pv 3) (pe_op (op_addK (K := K) rfl) (pe_int) (pv 5)) (fun _ _ => rfl)) pa_nil)) (pe_int)) (pe_int) (nomark _))))) (pss_one (ps_set (i := 7) sc_L_rows.nd rfl (Or.inl rfl) (pe_listRg rfl (by rfl) T.n_list (prg_1 (by rfl) T.n_range (pv 0))))) (pss_nil))
    (Evl.pss_cut (ps_if (pt_cmpR (op_eqK (K := K) rfl hu64) (pe_callB (call_lenK (K := K) rfl) (by rfl) T.n_len (by decide +kernel) (pa_cons (pv 7) pa_nil)) (pe_int) (nomark _)) (pss_one (ps_set (i := 7) sc_L_rows.nd rfl (Or.inl rfl) (pe_lst (pa_cons (pv 6) pa_nil)))) (pss_nil))
    (pss_one (ps_expr (pe_bm PySem.F.plainAttrs_list PySem.F.slot_list_append PySem.F.type_list_append mt_append (pv 4) (pa_cons (pe_callTy (call_tupleK (K := K) rfl) (by rfl) T.n_tuple (by decide +kernel) (pa_cons (pv 7) pa_nil)) pa_nil))))))))))))
  (pss_one (ps_ret (pv 4))))), ?_⟩
    have w0 := Wd.start eF
    refine ⟨_, rfl, by show 1 ≤ sizeLine; decide, fun p1 h1 => ?_⟩
    obtain ⟨w1, e1⟩ := w0.fix h1 (.lst [.int 5])
    refine ⟨by show 1 ≤ sizeLine; decide, fun p2 h2 => ?_⟩
    obtain ⟨w2, e2⟩ := w1.fix h2 (.lst [.int 64])
    refine .inr ⟨p2, 7, _, rfl, rfl, upd_same, by decide, by decide, by show 1 * 7 ≤ sizeLine; decide, fun p3 h3 => ?_⟩
    obtain ⟨w3, e3⟩ := w2.fix h3 (.lst (List.replicate (7 : Int).toNat [V.int 64]).flatten)
    refine .inr (.inr (.inl ⟨p1, p3, _, _, rfl, rfl, w3.fh _ _ ((e2.trans e3) _ _ upd_same), upd_same, by show 1 + 7 ≤ sizeLine; decide, fun p4 h4 => ?_⟩))
    obtain ⟨w4, e4⟩ := w3.fix h4 (.lst ([.int 5] ++ (List.replicate (7 : Int).toNat [V.int 64]).flatten))
    refine ⟨by show 1 ≤ sizeLine; decide, fun p5 h5 => ?_⟩
    obtain ⟨w5, e5⟩ := w4.fix h5 (.lst [.int 60])
    refine .inr ⟨p5, 7, _, rfl, rfl, upd_same, by decide, by decide, by show 1 * 7 ≤ sizeLine; decide, fun p6 h6 => ?_⟩
    obtain ⟨w6, e6⟩ := w5.fix h6 (.lst (List.replicate (7 : Int).toNat [V.int 60]).flatten)
    refine .inr (.inr (.inl ⟨p4, p6, _, _, rfl, rfl, w6.fh _ _ ((e5.trans e6) _ _ upd_same), upd_same, by show 8 + 7 ≤ sizeLine; decide, fun p7 h7 => ?_⟩))
    obtain ⟨w7, e7⟩ := w6.fix h7 (.lst (szR.map V.int))
    refine ⟨_, _, p7, szR, rfl, .of upd_same, szR_ok, by decide, w7.fh, fun dq F1 H1 ds st1 dr hdq => ?_⟩
    have w8 := w7.step st1
    clear e1 e2 e3 e4 e5 e6 e7 w1 w2 w3 w4 w5 w6
    obtain ⟨d0, D0, b0, c0⟩ := drawn_at dr (i := 0) (s := 5) rfl
    have at64 : ∀ i : Nat, i < 7 → ∃ d, ds[1 + i]? = some d ∧ 0 ≤ d ∧ d < 64 := fun i hi => by
      refine drawn_at dr ?_
      have : i = 0 ∨ i = 1 ∨ i = 2 ∨ i = 3 ∨ i = 4 ∨ i = 5 ∨ i = 6 := by omega
      rcases this with rfl | rfl | rfl | rfl | rfl | rfl | rfl <;> rfl
    have at60 : ∀ i : Nat, i < 7 → ∃ d, ds[8 + i]? = some d ∧ 0 ≤ d ∧ d < 60 := fun i hi => by
      refine drawn_at dr ?_
      have : i = 0 ∨ i = 1 ∨ i = 2 ∨ i = 3 ∨ i = 4 ∨ i = 5 ∨ i = 6 := by omega
      rcases this with rfl | rfl | rfl | rfl | rfl | rfl | rfl <;> rfl
    refine ⟨Nat.zero_le _, fun R hR => ?_⟩
    have w9 := w8.own hR (.lst [])
    refine ⟨_, rfl, (m : Int), rfl, by omega, by omega, for_range (lo := 0) (n := m) (fun i σ H' => ∃ (F' : Hp) (acc : List V) (rows : List (List Int)) (v5 v6 v7 v8 v9 : Option V), σ = [some (.int (n : Int)), some (.int (m : Int)), some (.int c), some (.ref dq), some (.ref R), v5, v6, v7, v8, v9] ∧ Same F1 F' ∧ Wd F H F' H' [(R, .lst acc)] ∧ DpAll K F' acc (rows.map encI) ∧ rows.length = i ∧ RowsOk rows n) ⟨F1, [], [], none, none, none, none, none, rfl, .refl _, w9, .nil, rfl, ⟨(fun r h => nomatch h), (fun r h => nomatch h), (fun r h => nomatch h)⟩⟩ ?_ ?_⟩
    · rintro i σ H2 hi ⟨F2, acc, rows, v5, v6, v7, v8, v9, rfl, e2, w2, da, hri, ok⟩
      obtain ⟨x, hx, x0, x1⟩ := at64 i (by omega)
      obtain ⟨y, hy, y0, y1⟩ := at60 i (by omega)
      have hal : acc.length = i := by rw [dpa_len da, List.length_map, hri]
      have hn0 : (0 : Int) < (n : Int) := by omega
      have fi := emod_in y n1
      have hd : ∀ {Fx Hx : Hp} {Mx}, Same F2 Fx → Wd F H Fx Hx Mx → SqL K Hx dq (ds.map V.int) := fun e w => same_l ((e2.trans e).trans w.fh) hdq
      refine ⟨_, rfl, _, rfl, .inl ⟨_, _, rfl, rfl, row_ix (hd (.refl _) w2) hy (by omega) (.inl ⟨_, rfl, _, rfl, _, _, rfl, rfl, hn0, ?_⟩)⟩⟩
      refine ⟨_, rfl, _, rfl, .inl ⟨_, _, rfl, rfl, row_ix (hd (.refl _) w2) hx (by omega) ⟨_, rfl, F2, x, n, rfl, n7, w2.fh, fun rp F3 H3 bs st3 hbs up hb => ?_⟩⟩⟩
      have w3 := w2.step st3
      -- two seats
      refine ⟨RowMid K F H F2 [(R, .lst acc)] n false (fun r v8 v9 => [some (.int (n : Int)), some (.int (m : Int)), some (.int c), some (.ref dq), some (.ref R), some (.int (0 + (i : Int))), some (.int (y % (n : Int))), some r, v8, v9]), ?_, ?_⟩
      · refine ⟨_, rfl, row_ix (hd st3.ff w3) D0 rfl (.inl ⟨rfl, _, rfl, iteD (fun c => ?_) (fun c => ?_)⟩)⟩
        · refine ⟨_, rfl, _, rfl, .inl ⟨_, _, rfl, rfl, row_ix (hd st3.ff w3) hx (by omega) (.inl ⟨_, rfl, _, rfl, _, _, rfl, rfl, hn0, ?_⟩)⟩⟩
          refine ⟨_, rfl, (n : Int), rfl, by omega, by omega, fun D hD => ?_⟩
          have w4 := w3.own hD (.lst [])
          refine lc_range (lo := 0) (n := n) (fun j H' => ∃ (bs : List Int), Wd F H F3 H' [(D, .lst (bs.map V.int)), (R, .lst acc)] ∧ bs.Pairwise (· < ·) ∧ (∀ b ∈ bs, 0 ≤ b ∧ b < (j : Int)) ∧ bs.length ≤ j) ⟨[], w4, List.Pairwise.nil, (fun b h => nomatch h), Nat.le_refl _⟩ ?_ ?_
          · rintro j H5 hj ⟨bs', w5, up', hb', hl'⟩
            refine ⟨rfl, ?_⟩
            refine orB (decide (V.int (0 + (j : Int)) = V.int (y % (n : Int)))) (decide (V.int (0 + (j : Int)) = V.int (x % (n : Int)))) (fun R' r => ⟨_, rfl, _, rfl, .inl ⟨rfl, _, rfl, r⟩⟩) (fun _ R' r => ⟨_, rfl, _, rfl, .inl ⟨rfl, _, rfl, r⟩⟩) ?_
            refine iteB (fun _ => ?_) (fun _ => ?_)
            · refine ⟨_, rfl, _, w5.at_, small' (by rw [List.length_map]; omega), ?_⟩
              refine ⟨bs' ++ [0 + (j : Int)], (by rw [List.map_append]; exact w5.set _), ?_, fun b hm => ?_, by rw [List.length_append]; simp; omega⟩
              · refine List.pairwise_append.mpr ⟨up', List.pairwise_singleton _ _, fun a ha b hb2 => ?_⟩
                rw [List.mem_singleton.mp hb2]
                have := hb' a ha
                omega
              · rcases List.mem_append.mp hm with hm | hm
                · have := hb' b hm; omega
                · rw [List.mem_singleton.mp hm]; omega
            · exact ⟨bs', w5, up', fun b hm => by have := hb' b hm; omega, by omega⟩
          · rintro H5 ⟨bs', w5, up', hb', hl'⟩
            obtain ⟨w6, e6⟩ := w5.freeze
            exact ⟨_, D, bs', _, _, rfl, st3.ff.trans e6, w6, .of upd_same, up', hb', fun h => nomatch h⟩
        · exact ⟨F3, rp, bs, _, _, rfl, st3.ff, w3, hbs, up, hb, fun h => nomatch h⟩
      · rintro _ H4 ⟨F4, r4, bs4, u8, u9, rfl, e4, w4, hbs4, up4, hb4, _⟩
        clear hbs up hb
        -- up to three
        refine ⟨RowMid K F H F2 [(R, .lst acc)] n false (fun r v8 v9 => [some (.int (n : Int)), some (.int (m : Int)), some (.int c), some (.ref dq), some (.ref R), some (.int (0 + (i : Int))), some (.int (y % (n : Int))), some r, v8, v9]), ?_, ?_⟩
        · unfold tIfS
          refine andB (decide (V.int d0 = V.int 2)) (decide (((3 : Int)) < ((bs4.map V.int).length : Int))) (fun R' r => ⟨_, rfl, row_ix (hd e4 w4) D0 rfl (.inl ⟨rfl, _, rfl, r⟩)⟩) (fun _ R' r => ⟨_, rfl, _, _, rfl, .inl ⟨_, same_l w4.fh hbs4, rfl⟩, .inl ⟨_, _, rfl, rfl, _, rfl, r⟩⟩) ?_
          refine iteB (fun _ => ?_) (fun _ => ?_)
          · refine ⟨_, rfl, _, rfl, _, rfl, .inr (.inl ⟨r4, _, rfl, same_l w4.fh hbs4, fun b hb => ?_⟩)⟩
            obtain ⟨cs, ec, hcs⟩ := cut_row bs4 (some 1) (some 4)
            rw [ec]
            obtain ⟨w5, e5⟩ := w4.fix hb (.lst (cs.map V.int))
            exact ⟨_, b, cs, _, _, rfl, e4.trans e5, w5, .of upd_same, up4.sublist hcs, fun z hz => hb4 z (hcs.subset hz), fun h => nomatch h⟩
          · exact ⟨F4, r4, bs4, _, _, rfl, e4, w4, hbs4, up4, hb4, fun h => nomatch h⟩
        · rintro _ H5 ⟨F5, r5, bs5, u8, u9, rfl, e5, w5, hbs5, up5, hb5, _⟩
          -- an earlier one
          refine ⟨RowMid K F H F2 [(R, .lst acc)] n false (fun r v8 v9 => [some (.int (n : Int)), some (.int (m : Int)), some (.int c), some (.ref dq), some (.ref R), some (.int (0 + (i : Int))), some (.int (y % (n : Int))), some r, v8, v9]), ?_, ?_⟩
          · unfold tIfS
            refine andB (decide (V.int d0 = V.int 3)) (decide ((1 : Int) < 0 + (i : Int))) (fun R' r => ⟨_, rfl, row_ix (hd e5 w5) D0 rfl (.inl ⟨rfl, _, rfl, r⟩)⟩) (fun _ R' r => ⟨_, rfl, .inl ⟨_, _, rfl, rfl, _, rfl, r⟩⟩) ?_
            refine iteB (fun cc => ?_) (fun _ => ?_)
            · have ci : (1 : Int) < 0 + (i : Int) := by
                have := (Bool.and_eq_true _ _).mp cc
                exact of_decide_eq_true this.2
              have hz : 0 ≤ x % (2 : Int) ∧ x % (2 : Int) < 2 := ⟨Int.emod_nonneg _ (by decide), Int.emod_lt_of_pos _ (by decide)⟩
              obtain ⟨r, hr⟩ : ∃ r, rows[(x % 2).toNat]? = some r := ⟨_, List.getElem?_eq_getElem (by omega)⟩
              obtain ⟨v, hv, dv⟩ := dpa_at da (i := (x % 2).toNat) (by rw [List.getElem?_map, hr]; rfl)
              obtain ⟨q, rfl, hq⟩ := dp_I dv
              refine ⟨_, rfl, _, rfl, _, rfl, .inl ⟨_, _, rfl, rfl, row_ix (hd e5 w5) hx (by omega) (.inl ⟨_, rfl, _, _, rfl, rfl, (by show (0 : Int) < 2; decide), list_ix (.of w5.at_) hz.1 hv ⟨q, _, rfl, .inr (same_t (e5.trans w5.fh) hq), fun l hl => ?_⟩⟩)⟩⟩
              obtain ⟨w6, e6⟩ := w5.fix hl (.lst (r.map V.int))
              have hrm := List.mem_of_getElem? hr
              exact ⟨_, l, r, _, _, rfl, e5.trans e6, w6, .of upd_same, ok.up r hrm, ok.lt r hrm, fun h => nomatch h⟩
            · exact ⟨F5, r5, bs5, _, _, rfl, e5, w5, hbs5, up5, hb5, fun h => nomatch h⟩
          · rintro _ H6 ⟨F6, r6, bs6, u8, u9, rfl, e6, w6, hbs6, up6, hb6, _⟩
            -- all seats
            refine ⟨RowMid K F H F2 [(R, .lst acc)] n false (fun r v8 v9 => [some (.int (n : Int)), some (.int (m : Int)), some (.int c), some (.ref dq), some (.ref R), some (.int (0 + (i : Int))), some (.int (y % (n : Int))), some r, v8, v9]), ?_, ?_⟩
            · unfold tIfS
              refine andB (decide (V.int d0 = V.int 4)) (decide ((0 : Int) < y % 3)) (fun R' r => ⟨_, rfl, row_ix (hd e6 w6) D0 rfl (.inl ⟨rfl, _, rfl, r⟩)⟩) (fun _ R' r => ⟨_, rfl, _, rfl, .inl ⟨_, _, rfl, rfl, row_ix (hd e6 w6) hy (by omega) (.inl ⟨_, rfl, _, _, rfl, rfl, (by show (0 : Int) < 3; decide), .inl ⟨_, _, rfl, rfl, _, rfl, r⟩⟩)⟩⟩) ?_
              refine iteB (fun cc => ?_) (fun _ => ?_)
              · refine ⟨_, rfl, (n : Int), rfl, RgOk.of_le (by omega) (by omega) (by omega) (by omega), fun l hl => ?_⟩
                rw [rgV_nums]
                obtain ⟨w7, e7⟩ := w6.fix hl (.lst ((ntTo n).map V.int))
                exact ⟨_, l, ntTo n, _, _, rfl, e6.trans e7, w7, .of upd_same, ntTo_up n, fun b hb => mem_ntTo.mp hb, fun h => nomatch h⟩
              · exact ⟨F6, r6, bs6, _, _, rfl, e6, w6, hbs6, up6, hb6, fun h => nomatch h⟩
            · rintro _ H7 ⟨F7, r7, bs7, u8, u9, rfl, e7, w7, hbs7, up7, hb7, _⟩
              -- one at least
              refine ⟨RowMid K F H F2 [(R, .lst acc)] n true (fun r v8 v9 => [some (.int (n : Int)), some (.int (m : Int)), some (.int c), some (.ref dq), some (.ref R), some (.int (0 + (i : Int))), some (.int (y % (n : Int))), some r, v8, v9]), ?_, ?_⟩
              · refine ⟨_, rfl, _, _, rfl, .inl ⟨_, same_l w7.fh hbs7, rfl⟩, .inl ⟨rfl, _, rfl, iteD (fun c => ?_) (fun c => ?_)⟩⟩
                · refine ⟨_, rfl, by show 1 ≤ sizeLine; decide, fun l hl => ?_⟩
                  obtain ⟨w8, e8⟩ := w7.fix hl (.lst ([y % (n : Int)].map V.int))
                  exact ⟨_, l, [y % (n : Int)], _, _, rfl, e7.trans e8, w8, .of upd_same, List.pairwise_singleton _ _, fun b hb => by rw [List.mem_singleton.mp hb]; exact fi, fun _ h => nomatch h⟩
                · refine ⟨F7, r7, bs7, _, _, rfl, e7, w7, hbs7, up7, hb7, fun _ h => c ?_⟩
                  rw [h]; rfl
              · rintro _ H8 ⟨F8, r8, bs8, u8, u9, rfl, e8, w8, hbs8, up8, hb8, ne8⟩
                refine ⟨_, rfl, .inl ⟨rfl, _, .of w8.at_⟩, _, rfl, r8, _, rfl, .inl ⟨same_l w8.fh hbs8, fun t ht => ?_⟩⟩
                obtain ⟨F9, w9, e9, i9⟩ := w8.fixE ht (.tup (bs8.map V.int))
                refine ⟨R, _, _, rfl, rfl, w9.at_, small' (by omega), ?_⟩
                refine ⟨F9, acc ++ [.ref t], rows ++ [bs8], _, _, _, _, _, rfl, e2.trans (e8.trans e9), w9.set _, ?_, by rw [List.length_append, hri]; rfl, ?_⟩
                · rw [List.map_append]
                  exact dpa_snoc (dpa_mono (e8.trans e9) da) (dp_I_of (.of i9))
                · refine ⟨fun r hr => ?_, fun r hr => ?_, fun r hr => ?_⟩ <;> rcases List.mem_append.mp hr with hr | hr
                  · exact ok.up r hr
                  · rw [List.mem_singleton.mp hr]; exact up8
                  · exact ok.ne r hr
                  · rw [List.mem_singleton.mp hr]; exact ne8 rfl
                  · exact ok.lt r hr
                  · rw [List.mem_singleton.mp hr]; exact hb8
    · rintro σ H2 ⟨F2, acc, rows, v5, v6, v7, v8, v9, rfl, e2, w2, da, hri, ok⟩
      obtain ⟨w3, e3⟩ := w2.freeze
      exact ⟨_, rfl, k R _ _ rows w3.done ⟨acc, .of upd_same, dpa_mono e3 da⟩ hri ok⟩

end
end Q

set_option Elab.async false
set_option linter.all false
set_option maxRecDepth 100000
set_option maxHeartbeats 8000000
namespace Q
open PySem PySem.Spec PyProof.Rows L2 PW Nt
section
variable {P : Program} {w : World} {K : PySem.W.Frag} {mg : Str → Option Value} {base : Heap} {A : Ad}
/-! ### the law's holders, its losses -/
def szH : List Int := [2, 64, 64, 64, 64, 64, 64, 64]
theorem szH_ok : ∀ s ∈ szH, 0 < s ∧ s < 1073741824 := by decide
structure HeldOk (rows held : List (List Int)) (n : Nat) : Prop where
  len : held.length = rows.length
  up : ∀ h ∈ held, h.Pairwise (· < ·) ∧ ∀ x ∈ h, 0 ≤ x ∧ x < (n : Int)
  sub : ∀ (i : Nat) (r h : List Int), rows[i]? = some r → held[i]? = some h → ∀ x ∈ r, x ∈ h
def spHoldersL (K : PySem.W.Frag) : Sp := fun vs H Q _ => ∃ (F : Hp) (ra : Addr) (rows : List (List Int)) (n : Nat) (c : Int), vs = [.ref ra, .int (n : Int), .int c] ∧ ChAt K F ra rows ∧ RowsOk rows n ∧ rows.length ≤ 7 ∧ n ≤ 7 ∧ Same F H ∧ ∀ q F' H' hv held, Step F H F' H' → SqL K F' q hv → DpAll K F' hv (held.map encL) → HeldOk rows held n → Q (.ref q) H'
theorem ok_L_holders (T : Txt K mg A) : FnOk P w K mg base CX0 2 A.a_L_holders A.d_L_holders ["_law_rows_here", "_law_seats", "_law_cell_here"] (spHoldersL K) := by
  refine T.F_L_holders.ok sc_L_holders (fun vs H Q E h => ?_) (fun cdv A' outer s H vs Q E hr h => ?_)
  · obtain ⟨F, ra, rows, n, c, rfl, _⟩ := h; rfl
  · obtain ⟨F, ra, rows, n, c, rfl, ch, rok, r7, n7, eF, k⟩ := h
    have hu64 := hu64_of hr
    have hu65 := hu65_of hr
    obtain ⟨cv, hcv, hcl, dcv⟩ := ch.len
    refine ⟨_, pss_cons (ps_set (i := 3) sc_L_holders.nd rfl (Or.inl rfl) (pe_call (ok_L_draws T) (hr.mono (by decide)) rfl T.g_L_draws T.F_L_draws.kp T.b_L_draws .nil pass0 (pa_cons (pv 2) (pa_cons (pe_op (op_addK (K := K) rfl) (pe_lst (pa_cons (pe_int) pa_nil)) (pe_op op_mulU (pe_lst (pa_cons (pe_int) pa_nil)) (pe_int))) pa_nil))))
  (pss_cons (ps_set (i := 4) sc_L_holders.nd rfl (Or.inl rfl) (pe_lst (pa_nil)))
  (pss_cons (ps_for PassesOwn.never rfl (pi_range1 rfl T.n_range (pa_cons (pe_callB (call_lenK (K := K) rfl) (by rfl) T.n_len (by decide +kernel) (pa_cons (pv 0) pa_nil)) pa_nil)) (pg_name (i := 5) sc_L_holders.nd rfl (Or.inr rfl)) (pss_cons (ps_set (i := 6) sc_L_holders.nd rfl (Or.inr rfl) (pe_lst (pa_nil)))
    (Evl.pss_cut (ps_if (pt_cmpR (op_eqK (K := K) rfl hu64) (pe_ix (ix_K (K := K) rfl) (pv 3) (pe_int) (fun _ _ => rfl)) (pe_int) (nomark _)) (pss_one (ps_set (i := 6) sc_L_holders.nd rfl (Or.inr rfl) (pe_call (ok_L_bits T) (hr.mono (by decide)) rfl T.g_L_bits T.F_L_bits.kp T.b_L_bits .nil pass0 (pa_cons (pe_ix (ix_K (K := K) rfl) (pv 3) (pe_op (op_addK (K := K) rfl) (pe_int) (pv 5)) (fun _ _ => rfl)) (pa_cons (pv 1) pa_nil))))) (pss_nil))
    (pss_one (ps_expr (pe_bm PySem.F.plainAttrs_list PySem.F.slot_list_append PySem.F.type_list_append mt_append (pv 4) (pa_cons (pe_lc (own := [("_law_j", 7)]) rfl sc_L_holders.nd (pi_range1 rfl T.n_range (pa_cons (pv 1) pa_nil)) (blkOk_by (own := [("_law_j", 7)]) (N := ["_law_rows_here", "_law_seats", "_law_cell_here", "_law_drawn", "_law_holders_here", "_law_k", "_law_more", "_law_j"]) (sc := defScope s_L_holders) (by decide +kernel)) (fun _ _ _ _ _ => pg_name (i := 7) sc_L_holders.nd rfl (Or.inl rfl)) (fun _ _ _ _ _ => pts_one (PW.pt (pw_or (pt_cmpR (op_inK (K := K) rfl hu65) (pv 7) (pe_ix (ix_K (K := K) rfl) (pv 0) (pv 5) (fun _ _ => rfl)) (by rfl)) (pw_or1 (pt_cmpR (op_inK (K := K) rfl hu65) (pv 7) (pv 6) (by rfl)))))) (fun _ _ _ _ _ => pv 7)) pa_nil)))))))
  (pss_one (ps_ret (pv 4))))), ?_⟩
    have w0 := Wd.start eF
    refine ⟨_, rfl, by show 1 ≤ sizeLine; decide, fun p1 h1 => ?_⟩
    obtain ⟨w1, e1⟩ := w0.fix h1 (.lst [.int 2])
    refine ⟨by show 1 ≤ sizeLine; decide, fun p2 h2 => ?_⟩
    obtain ⟨w2, e2⟩ := w1.fix h2 (.lst [.int 64])
    refine .inr ⟨p2, 7, _, rfl, rfl, upd_same, by decide, by decide, by show 1 * 7 ≤ sizeLine; decide, fun p3 h3 => ?_⟩
    obtain ⟨w3, e3⟩ := w2.fix h3 (.lst (List.replicate (7 : Int).toNat [V.int 64]).flatten)
    refine .inr (.inr (.inl ⟨p1, p3, _, _, rfl, rfl, w3.fh _ _ ((e2.trans e3) _ _ upd_same), upd_same, by show 1 + 7 ≤ sizeLine; decide, fun p4 h4 => ?_⟩))
    obtain ⟨w4, e4⟩ := w3.fix h4 (.lst (szH.map V.int))
    refine ⟨_, _, p4, szH, rfl, .of upd_same, szH_ok, by decide, w4.fh, fun dq F1 H1 ds st1 dr hdq => ?_⟩
    have w8 := w4.step st1
    have eF1 : Same F F1 := e1.trans (e2.trans (e3.trans (e4.trans st1.ff)))
    clear e1 e2 e3 e4 w1 w2 w3 w4
    obtain ⟨d0, D0, b0, c0⟩ := drawn_at dr (i := 0) (s := 2) rfl
    have at64 : ∀ i : Nat, i < 7 → ∃ d, ds[1 + i]? = some d ∧ 0 ≤ d ∧ d < 64 := fun i hi => by
      refine drawn_at dr ?_
      have : i = 0 ∨ i = 1 ∨ i = 2 ∨ i = 3 ∨ i = 4 ∨ i = 5 ∨ i = 6 := by omega
      rcases this with rfl | rfl | rfl | rfl | rfl | rfl | rfl <;> rfl
    refine ⟨Nat.zero_le _, fun R hR => ?_⟩
    have w9 := w8.own hR (.lst [])
    refine ⟨_, rfl, _, _, rfl, .inl ⟨_, same_l (eF1.trans w9.fh) hcv, rfl⟩, (rows.length : Int), by rw [hcl], by omega, by omega, for_range (lo := 0) (n := rows.length) (fun i σ H' => ∃ (F' : Hp) (acc : List V) (held : List (List Int)) (v5 v6 v7 : Option V), σ = [some (.ref ra), some (.int (n : Int)), some (.int c), some (.ref dq), some (.ref R), v5, v6, v7] ∧ Same F1 F' ∧ Wd F H F' H' [(R, .lst acc)] ∧ DpAll K F' acc (held.map encL) ∧ HeldOk (rows.take i) held n) ⟨F1, [], [], none, none, none, rfl, .refl _, w9, .nil, ⟨rfl, (fun h z => nomatch z), (fun i r h z => by rw [List.take_zero] at z; cases z)⟩⟩ ?_ ?_⟩
    · rintro i σ H2 hi ⟨F2, acc, held, v5, v6, v7, rfl, e2, w2, da, ok⟩
      obtain ⟨x, hx, x0, x1⟩ := at64 i (by omega)
      obtain ⟨row, hrow⟩ : ∃ r, rows[i]? = some r := ⟨_, List.getElem?_eq_getElem hi⟩
      obtain ⟨cv', q, hcv', hq', hq⟩ := ch.at_ hrow
      have hle := ok.len
      rw [List.length_take] at hle
      have hal : acc.length = i := by rw [dpa_len da, List.length_map]; omega
      have hd : ∀ {Fx Hx : Hp} {Mx}, Same F2 Fx → Wd F H Fx Hx Mx → SqL K Hx dq (ds.map V.int) := fun e w => same_l ((e2.trans e).trans w.fh) hdq
      refine ⟨Nat.zero_le _, fun mp hmp => ?_⟩
      obtain ⟨F3, w3, e3, i3⟩ := w2.fixE hmp (.lst [])
      refine ⟨fun σ' H' => ∃ (F' : Hp) (mp : Addr) (ms : List Int), σ' = [some (.ref ra), some (.int (n : Int)), some (.int c), some (.ref dq), some (.ref R), some (.int (0 + (i : Int))), some (.ref mp), v7] ∧ Same F2 F' ∧ Wd F H F' H' [(R, .lst acc)] ∧ SqL K F' mp (ms.map V.int), ?_, ?_⟩
      · refine ⟨_, rfl, row_ix (hd e3 w3) D0 rfl (.inl ⟨rfl, _, rfl, iteD (fun c => ?_) (fun c => ?_)⟩)⟩
        · exact ⟨_, rfl, _, rfl, .inl ⟨_, _, rfl, rfl, row_ix (hd e3 w3) hx (by omega) ⟨_, rfl, F3, x, n, rfl, n7, w3.fh, fun rp F4 H4 bs st4 hbs up hb => ⟨F4, rp, bs, rfl, e3.trans st4.ff, w3.step st4, hbs⟩⟩⟩⟩
        · exact ⟨F3, mp, [], rfl, e3, w3, .of i3⟩
      · rintro _ H4 ⟨F4, m4, ms, rfl, e4, w4, hms⟩
        refine ⟨_, rfl, .inl ⟨rfl, _, .of w4.at_⟩, _, rfl, (n : Int), rfl, by omega, by omega, fun D hD => ?_⟩
        have w5 := w4.own hD (.lst [])
        refine lc_range (lo := 0) (n := n) (fun j H' => Wd F H F4 H' [(D, .lst ((((ntTo n).take j).filter fun x => decide (x ∈ row) || decide (x ∈ ms)).map V.int)), (R, .lst acc)]) w5 ?_ ?_
        · intro j H5 hj w6
          have hj' := nt_at hj
          have zj : (0 : Int) + (j : Int) = (j : Int) := Int.zero_add _
          have hl7 : (((ntTo n).take j).filter fun x => decide (x ∈ row) || decide (x ∈ ms)).length ≤ 7 := by
            have h1 := List.length_filter_le (fun x => decide (x ∈ row) || decide (x ∈ ms)) ((ntTo n).take j)
            have h2 := List.length_take (i := j) (l := ntTo n)
            omega
          refine ⟨rfl, ?_⟩
          rw [zj]
          refine orB (decide ((j : Int) ∈ row)) (decide ((j : Int) ∈ ms)) (fun R' r => ⟨_, rfl, _, rfl, _, rfl, list_ix (same_l ((eF1.trans (e2.trans e4)).trans w6.fh) hcv') (by omega) (by rw [Int.zero_add]; exact hq') (in_ints (.inr (same_t ((eF1.trans (e2.trans e4)).trans w6.fh) hq)) ⟨_, rfl, r⟩)⟩) (fun _ R' r => ⟨_, rfl, _, rfl, in_ints (.inl (same_l w6.fh hms)) ⟨_, rfl, r⟩⟩) ?_
          refine iteB (fun cc => ?_) (fun cc => ?_)
          · refine ⟨_, rfl, _, w6.at_, small' (by rw [List.length_map]; omega), ?_⟩
            rw [take_more1 hj', List.filter_append, List.filter_cons, if_pos cc, List.map_append]
            exact w6.set _
          · rw [take_more1 hj', List.filter_append, List.filter_cons, if_neg (by rw [cc]; decide), List.filter_nil, List.append_nil]
            exact w6
        · intro H5 w6
          have ht : (ntTo n).take n = ntTo n := List.take_of_length_le (by rw [ntTo_len]; exact Nat.le_refl _)
          rw [ht] at w6
          obtain ⟨hd', hhd⟩ : ∃ l, ((ntTo n).filter fun x => decide (x ∈ row) || decide (x ∈ ms)) = l := ⟨_, rfl⟩
          rw [hhd] at w6
          have hrm := List.mem_of_getElem? hrow
          obtain ⟨F7, w7, e7, i7⟩ : ∃ F7, Wd F H F7 H5 [(R, .lst acc)] ∧ Same F4 F7 ∧ F7 D = some (.lst (hd'.map V.int)) := ⟨_, w6.freeze.1, w6.freeze.2, upd_same⟩
          refine ⟨R, _, _, rfl, rfl, w7.at_, small' (by omega), ?_⟩
          refine ⟨F7, acc ++ [.ref D], held ++ [hd'], _, _, _, rfl, e2.trans (e4.trans e7), w7.set _, ?_, ⟨?_, fun h hh => ?_, fun a r h hr hh => ?_⟩⟩
          · rw [List.map_append]
            exact dpa_snoc (dpa_mono (e4.trans e7) da) (dp_L_of (.of i7))
          · rw [List.length_append, List.length_take]
            show held.length + 1 = _
            omega
          · rcases List.mem_append.mp hh with hh | hh
            · exact ok.up h hh
            · rw [List.mem_singleton.mp hh, ← hhd]
              exact ⟨(ntTo_up n).sublist List.filter_sublist, fun z hz => mem_ntTo.mp (List.mem_filter.mp hz).1⟩
          · rw [take_more1 hrow] at hr
            by_cases ha : a < i
            · rw [List.getElem?_append_left (by rw [List.length_take]; omega)] at hr
              rw [List.getElem?_append_left (by omega)] at hh
              exact ok.sub a r h hr hh
            · have hai : a = i := by
                have := (List.getElem?_eq_some_iff.mp hr).1
                rw [List.length_append, List.length_take] at this
                have h1 : [row].length = 1 := rfl
                omega
              subst hai
              have h1 : (rows.take a ++ [row])[a]? = some row := by
                rw [List.getElem?_append_right (by rw [List.length_take]; omega), List.length_take, show a - min a rows.length = 0 by omega]
                rfl
              have h2 : (held ++ [hd'])[a]? = some hd' := by
                rw [List.getElem?_append_right (by omega), show a - held.length = 0 by omega]
                rfl
              rw [h1] at hr
              rw [h2] at hh
              cases hr
              cases hh
              intro z hz
              rw [← hhd]
              exact List.mem_filter.mpr ⟨mem_ntTo.mpr (rok.lt row hrm z hz), by rw [decide_eq_true hz]; rfl⟩
    · rintro σ H2 ⟨F2, acc, held, v5, v6, v7, rfl, e2, w2, da, ok⟩
      rw [List.take_length] at ok
      obtain ⟨w3, e3⟩ := w2.freeze
      exact ⟨_, rfl, k R _ _ acc held w3.done (.of upd_same) (dpa_mono e3 da) ok⟩
def spLossesL (K : PySem.W.Frag) : Sp := fun vs H Q _ => ∃ (F : Hp) (n k : Nat), vs = [.int (n : Int), .int (k : Int)] ∧ n ≤ 7 ∧ k ≤ n ∧ Same F H ∧ ∀ q F' H' xs, Step F H F' H' → SqL K F' q xs → DpAll K F' xs ((ascL n k).map encL) → Q (.ref q) H'
theorem last_row2 {c : List Int} : c = [] ∨ ∃ x, c ≠ [] ∧ (c.map V.int)[c.length - 1]? = some (.int x) ∧ c.getLast? = some x := by
  by_cases h : c = []
  · exact .inl h
  · refine .inr ⟨c.getLast h, h, ?_, List.getLast?_eq_some_getLast h⟩
    have e := List.getLast?_eq_some_getLast h
    rw [List.getLast?_eq_getElem?] at e
    rw [List.getElem?_map, e]
    rfl
theorem ok_L_losses (T : Txt K mg A) : FnOk P w K mg base CX0 2 A.a_L_losses A.d_L_losses ["_law_seats", "_law_size"] (spLossesL K) := by
  refine T.F_L_losses.ok sc_L_losses (fun vs H Q E h => ?_) (fun cdv A' outer s H vs Q E hr h => ?_)
  · obtain ⟨F, n, kk, rfl, _⟩ := h; rfl
  · obtain ⟨F, n, kk, rfl, n7, kn, eF, k⟩ := h
    have hu64 := hu64_of hr
    refine ⟨_, pss_cons (ps_set (i := 2) sc_L_losses.nd rfl (Or.inl rfl) (pe_lst (pa_cons (pe_lst (pa_nil)) pa_nil)))
  (pss_cons (ps_for PassesOwn.never rfl (pi_range1 rfl T.n_range (pa_cons (pv 1) pa_nil)) (pg_name (i := 3) sc_L_losses.nd rfl (Or.inl rfl)) (pss_cons (ps_set (i := 4) sc_L_losses.nd rfl (Or.inl rfl) (pe_lst (pa_nil)))
    (pss_cons (ps_for PassesOwn.never rfl (pi_listK (K := K) rfl (pe_callTy (call_listK (K := K) rfl) (by rfl) T.n_list (by decide +kernel) (pa_cons (pv 2) pa_nil))) (pg_name (i := 5) sc_L_losses.nd rfl (Or.inl rfl)) (pss_one (ps_for PassesOwn.never rfl (pi_range1 rfl T.n_range (pa_cons (pv 0) pa_nil)) (pg_name (i := 6) sc_L_losses.nd rfl (Or.inl rfl)) (pss_one (ps_if (PW.pt (pw_or (pt_cmpR (op_eqK (K := K) rfl hu64) (pe_callB (call_lenK (K := K) rfl) (by rfl) T.n_len (by decide +kernel) (pa_cons (pv 5) pa_nil)) (pe_int) (nomark _)) (pw_or1 (pt_cmpR (op_ltK (K := K) rfl) (pe_ix (ix_K (K := K) rfl) (pv 5) (pe_op op_sub (pe_callB (call_lenK (K := K) rfl) (by rfl) T.n_len (by decide +kernel) (pa_cons (pv 5) pa_nil)) (pe_int)) (fun _ _ => rfl)) (pv 6) (nomark _))))) (pss_one (ps_expr (pe_bm PySem.F.plainAttrs_list PySem.F.slot_list_append PySem.F.type_list_append mt_append (pv 4) (pa_cons (pe_op (op_catLK (K := K) rfl) (pv 5) (pe_lst (pa_cons (pv 6) pa_nil))) pa_nil)))) (pss_nil))))))
    (pss_one (ps_set (i := 2) sc_L_losses.nd rfl (Or.inl rfl) (pv 4))))))
  (pss_one (ps_ret (pv 2)))), ?_⟩
    have w0 := Wd.start eF
    refine ⟨Nat.zero_le _, fun q1 h1 => ?_⟩
    obtain ⟨F1, w1, e1, i1⟩ := w0.fixE h1 (.lst [])
    refine ⟨by show 1 ≤ sizeLine; decide, fun q2 h2 => ?_⟩
    obtain ⟨F2, w2, e2, i2⟩ := w1.fixE h2 (.lst [.ref q1])
    refine ⟨_, rfl, (kk : Int), rfl, by omega, by omega, for_range (lo := 0) (n := kk) (fun i σ H' => ∃ (F' : Hp) (q : Addr) (xs : List V) (v3 v4 v5 v6 : Option V), σ = [some (.int (n : Int)), some (.int (kk : Int)), some (.ref q), v3, v4, v5, v6] ∧ Same F F' ∧ Wd F H F' H' [] ∧ SqL K F' q xs ∧ DpAll K F' xs ((ascL n i).map encL)) ⟨F2, q2, _, none, none, none, none, rfl, e1.trans e2, w2, .of i2, dpa_one (dp_L_of (l := []) (.of (e2 _ _ i1)))⟩ ?_ ?_⟩
    · rintro i σ H1 hi ⟨F3, q, xs, v3, v4, v5, v6, rfl, e3, w3, hq, dq⟩
      have hxl : xs.length = (ascL n i).length := by rw [dpa_len dq, List.length_map]
      refine ⟨Nat.zero_le _, fun D hD => ?_⟩
      have w4 := w3.own hD (.lst [])
      refine ⟨_, rfl, q, _, rfl, .inl (same_l w4.fh hq), fun lc hlc => ?_⟩
      obtain ⟨F4, w5, e5, i5⟩ := w4.fixE hlc (.lst xs)
      refine ⟨lc, rfl, ⟨_, .of upd_same⟩, ?_⟩
      refine for_list (xs := xs) (fun j σ H' => ∃ (F' : Hp) (acc : List V) (v5 v6 : Option V), σ = [some (.int (n : Int)), some (.int (kk : Int)), some (.ref q), some (.int (0 + (i : Int))), some (.ref D), v5, v6] ∧ Same F4 F' ∧ Wd F H F' H' [(D, .lst acc)] ∧ DpAll K F' acc ((ascStep n ((ascL n i).take j)).map encL)) ⟨F4, [], _, _, rfl, .refl _, w5, .nil⟩ ?_ ?_ ?_
      · rintro j σ H' _ ⟨F', acc, v5, v6, rfl, e, w6, _⟩
        exact .of (w6.fh _ _ (e _ _ i5))
      · rintro j x σ H2 hx ⟨F5, acc, v5, v6, rfl, e6, w6, da⟩
        obtain ⟨d, hd, dx⟩ := dpa_get dq hx
        obtain ⟨c, hc, rfl⟩ := item_map hd
        obtain ⟨qc, rfl, hqc⟩ := dp_L dx
        have hjl : j < (ascL n i).length := (List.getElem?_eq_some_iff.mp hc).1
        refine ⟨_, rfl, (n : Int), rfl, by omega, by omega, for_range (lo := 0) (n := n) (fun m σ H' => ∃ (F' : Hp) (acc : List V) (v6 : Option V), σ = [some (.int (n : Int)), some (.int (kk : Int)), some (.ref q), some (.int (0 + (i : Int))), some (.ref D), some (.ref qc), v6] ∧ Same F4 F' ∧ Wd F H F' H' [(D, .lst acc)] ∧ DpAll K F' acc ((ascStep n ((ascL n i).take j) ++ (((ntTo n).take m).filter fun i => lastLt c i).map fun i => c ++ [i]).map encL)) ⟨F5, acc, _, rfl, e6, w6, by rw [List.take_zero]; simpa using da⟩ ?_ ?_⟩
        · rintro m σ H3 hm ⟨F6, acc, v6, rfl, e7, w7, da⟩
          have hz := nt_at hm
          have zm : (0 : Int) + (m : Int) = (m : Int) := Int.zero_add _
          have hqc6 := same_l ((e5.trans e7).trans w7.fh) hqc
          have hacc : acc.length ≤ 900000 + 7 := by
            have h1 := dpa_len da
            rw [List.length_map, List.length_append, List.length_map] at h1
            have h2 : (ascStep n ((ascL n i).take j)).length ≤ (ascL n (i + 1)).length := by
              show _ ≤ (ascStep n (ascL n i)).length
              have e : ascStep n (ascL n i) = ascStep n ((ascL n i).take j) ++ ascStep n ((ascL n i).drop j) := by
                unfold ascStep
                rw [← List.flatMap_append, List.take_append_drop]
              rw [e, List.length_append]
              omega
            have h3 := asc_few7 n7 (show i + 1 ≤ n by omega)
            have h4 : (((ntTo n).take m).filter fun i => lastLt c i).length ≤ n := by
              refine Nat.le_trans (List.length_filter_le _ _) ?_
              rw [List.length_take, ntTo_len]
              omega
            omega
          have stepY : lastLt c (m : Int) = true → ((ntTo n).take (m + 1)).filter (fun i => lastLt c i) = ((ntTo n).take m).filter (fun i => lastLt c i) ++ [(m : Int)] := fun h => by
            rw [take_more1 hz, List.filter_append, List.filter_cons, if_pos h]; rfl
          have stepN : lastLt c (m : Int) = false → ((ntTo n).take (m + 1)).filter (fun i => lastLt c i) = ((ntTo n).take m).filter (fun i => lastLt c i) := fun h => by
            rw [take_more1 hz, List.filter_append, List.filter_cons, if_neg (by rw [h]; decide), List.filter_nil, List.append_nil]
          have hcl : c.length ≤ 100 := by have := (mem_ascL.mp (List.mem_of_getElem? hc)).2.1; omega
          rw [zm]
          refine orB (decide (V.int (c.length : Int) = V.int 0)) (decide (lastLt c (m : Int) = true)) (fun R' r => ⟨_, rfl, _, _, rfl, .inl ⟨_, hqc6, by rw [List.length_map]⟩, .inl ⟨rfl, _, rfl, r⟩⟩) (fun hne R' r => ?_) ?_
          · rcases last_row2 (c := c) with hc0 | ⟨x, hcn, hx1, hx2⟩
            · rw [hc0] at hne; cases hne
            · refine ⟨_, rfl, _, rfl, _, _, rfl, .inl ⟨_, hqc6, by rw [List.length_map]⟩, _, _, rfl, rfl, list_ix (v := V.int x) hqc6 ?_ ?_ ⟨_, rfl, .inl ⟨_, _, rfl, rfl, _, rfl, ?_⟩⟩⟩
              · have := List.length_pos_iff.mpr hcn; omega
              · rw [show (((c.length : Nat) : Int) - 1).toNat = c.length - 1 by omega]; exact hx1
              · have e : decide (x < (m : Int)) = decide (lastLt c (m : Int) = true) := by
                  refine decide_eq_decide.mpr ⟨fun h => lastLt_iff.mpr fun y hy => ?_, fun h => lastLt_iff.mp h x hx2⟩
                  rw [hx2] at hy; cases hy; exact h
                rw [e]; exact r
          · refine iteB (fun cc => ?_) (fun cc => ?_)
            · have hlt : lastLt c (m : Int) = true := by
                rcases (Bool.or_eq_true _ _).mp cc with cc | cc
                · have c0 : (c.length : Int) = 0 := V.int.inj (of_decide_eq_true cc)
                  have : c = [] := List.length_eq_zero_iff.mp (by omega)
                  exact lastLt_iff.mpr fun x hx => by rw [this] at hx; cases hx
                · exact of_decide_eq_true cc
              refine ⟨_, rfl, .inl ⟨rfl, _, .of w7.at_⟩, _, rfl, _, rfl, by show 1 ≤ sizeLine; decide, fun t ht => ?_⟩
              obtain ⟨F7, w8, e8, i8⟩ := w7.fixE ht (.lst [.int (m : Int)])
              refine ⟨qc, t, _, _, rfl, rfl, same_l ((e5.trans (e7.trans e8)).trans w8.fh) hqc, .of upd_same, small (by rw [List.length_map]; show _ + 1 ≤ _; omega), fun t2 ht2 => ?_⟩
              obtain ⟨F8, w9, e9, i9⟩ := w8.fixE ht2 (.lst (c.map V.int ++ [.int (m : Int)]))
              refine ⟨D, _, _, rfl, rfl, w9.at_, small' (by omega), ?_⟩
              refine ⟨F8, acc ++ [.ref t2], _, rfl, e7.trans (e8.trans e9), w9.set _, ?_⟩
              have e : ascStep n ((ascL n i).take j) ++ (((ntTo n).take (m + 1)).filter fun i => lastLt c i).map (fun i => c ++ [i]) = (ascStep n ((ascL n i).take j) ++ (((ntTo n).take m).filter fun i => lastLt c i).map fun i => c ++ [i]) ++ [c ++ [(m : Int)]] := by
                rw [stepY hlt, List.map_append, ← List.append_assoc]
                rfl
              rw [e, List.map_append]
              refine dpa_snoc (dpa_mono (e8.trans e9) da) (dp_L_of (.of ?_))
              rw [i9, List.map_append]
              rfl
            · have hlt : lastLt c (m : Int) = false := by
                have := (Bool.or_eq_false_iff).mp cc
                exact Bool.eq_false_iff.mpr fun y => of_decide_eq_false this.2 y
              exact ⟨F6, acc, _, rfl, e7, w7, by rw [stepN hlt]; exact da⟩
        · rintro σ H3 ⟨F6, acc, v6, rfl, e7, w7, da⟩
          have ht : (ntTo n).take n = ntTo n := List.take_of_length_le (by rw [ntTo_len]; exact Nat.le_refl _)
          rw [ht] at da
          refine ⟨F6, acc, _, _, rfl, e7, w7, ?_⟩
          rw [take_more1 hc]
          have e : ascStep n ((ascL n i).take j ++ [c]) = ascStep n ((ascL n i).take j) ++ ((ntTo n).filter fun i => lastLt c i).map fun i => c ++ [i] := by
            unfold ascStep
            rw [List.flatMap_append, List.flatMap_cons, List.flatMap_nil, List.append_nil]
          rw [e]
          exact da
      · rintro σ H2 ⟨F5, acc, v5, v6, rfl, e6, w6, da⟩
        rw [hxl, List.take_length] at da
        obtain ⟨F7, w7, e7, i7⟩ : ∃ F7, Wd F H F7 H2 [] ∧ Same F5 F7 ∧ F7 D = some (.lst acc) := ⟨_, w6.freeze.1, w6.freeze.2, upd_same⟩
        exact ⟨_, rfl, F7, D, acc, _, _, _, _, rfl, e3.trans (e5.trans (e6.trans e7)), w7, .of i7, dpa_mono e7 da⟩
    · rintro σ H1 ⟨F3, q, xs, v3, v4, v5, v6, rfl, e3, w3, hq, dq⟩
      exact ⟨_, rfl, k q _ _ xs w3.done hq dq⟩

end
end Q

set_option Elab.async false
set_option linter.all false
set_option maxRecDepth 100000
set_option maxHeartbeats 8000000
namespace Q
open PySem PySem.Spec PyProof.Rows L2 PW Nt
section
variable {P : Program} {w : World} {K : PySem.W.Frag} {mg : Str → Option Value} {base : Heap} {A : Ad}
/-! ### the law's own count -/
theorem wd_cat2 {K : PySem.W.Frag} {F0 H0 F H : Hp} {M : List (Addr × HO)} {a b : Addr} {xs ys : List V} {Q : VK} (w : Wd F0 H0 F H M) (ha : SqT K F a xs) (hb : SqT K F b ys) (hl : xs.length + ys.length ≤ 1000000)
    (k : ∀ t F' H', Wd F0 H0 F' H' M → Same F F' → SqT K F' t (xs ++ ys) → Q (.ref t) H') : rAddU K (.ref a) (.ref b) H Q :=
  .inr (.inr (.inr ⟨a, b, xs, ys, rfl, rfl, same_t w.fh ha, same_t w.fh hb, small hl, (fun h => by subst h; exact k b F H w (.refl F) hb), (fun _ h => by subst h; exact k a F H w (.refl F) (by rw [List.append_nil]; exact ha)), fun _ _ p hp => by
    obtain ⟨F', w', e, i⟩ := w.fixE hp (.tup (xs ++ ys))
    exact k p F' _ w' e (.of i)⟩))
def encQ (q : Int × List Int) : PyData := .tuple [.int q.1, encI q.2]
theorem dp_Q {H : Hp} {v : V} {q : Int × List Int} (h : Dp K H v (encQ q)) : ∃ t u, v = .ref t ∧ SqT K H t [.int q.1, .ref u] ∧ SqT K H u (q.2.map V.int) := by
  obtain ⟨t, ts, rfl, hts, dts⟩ := dp_tup h
  cases dts with | cons b1 dts => cases dts with | cons b2 dts =>
  cases dts
  cases b1
  obtain ⟨u, rfl, hu⟩ := dp_I b2
  exact ⟨t, u, rfl, hts, hu⟩
theorem dp_Q_of {H : Hp} {t u : Addr} {q : Int × List Int} (h1 : SqT K H t [.int q.1, .ref u]) (h2 : SqT K H u (q.2.map V.int)) : Dp K H (.ref t) (encQ q) := .tup h1 (.cons (.int _) (dpa_one (dp_I_of h2)))
theorem lots_len : ∀ Rs : List (List Int), (lots Rs).length = 2 ^ Rs.length := by
  refine snoc_ind rfl fun l a ih => ?_
  rw [lots_snoc]
  unfold lotStep
  rw [List.length_append, List.length_map, ih, List.length_append, List.length_singleton, Nat.pow_succ]
  omega
theorem lot_few {Rs : List (List Int)} {n : Nat} (h : ∀ r ∈ Rs, r.Nodup ∧ ∀ x ∈ r, 0 ≤ x ∧ x < (n : Int)) {q : Int × List Int} (hq : q ∈ lots Rs) : q.2.length ≤ n := by
  obtain ⟨L, hL, rfl⟩ := (mem_lots Rs q).mp hq
  have h1 : (L.foldl uni []).Nodup := unis_nd List.nodup_nil fun r hr => (h r (hL.subset hr)).1
  have := nd_len h1 (m := ntTo n) fun y hy => by
    rcases mem_unis.mp hy with hy | ⟨r, hr, hy⟩
    · cases hy
    · exact mem_ntTo.mpr ((h r (hL.subset hr)).2 y hy)
  rwa [ntTo_len] at this
theorem seatRows_ok {rows : List (List Int)} {n : Nat} (ok : RowsOk rows n) (lost : List Int) (s : Int) : ∀ r ∈ seatRows rows lost s, r.Nodup ∧ ∀ x ∈ r, 0 ≤ x ∧ x < (n : Int) := fun r hr => by
  obtain ⟨r0, h0, rfl⟩ := List.mem_map.mp hr
  have hm := (List.mem_filter.mp h0).1
  exact ⟨(up_nd (ok.up r0 hm)).sublist List.filter_sublist, fun x hx => ok.lt r0 hm x (List.mem_filter.mp hx).1⟩
theorem rows_sub {rows : List (List Int)} {n : Nat} (ok : RowsOk rows n) {l : List (List Int)} (h : l.Sublist rows) : RowsOk l n := ⟨fun r hr => ok.up r (h.subset hr), fun r hr => ok.ne r (h.subset hr), fun r hr => ok.lt r (h.subset hr)⟩
theorem seatRows_snoc (l : List (List Int)) (r lost : List Int) (s : Int) : seatRows (l ++ [r]) lost s = seatRows l lost s ++ if s ∈ r then [living lost r] else [] := by
  unfold seatRows
  rw [List.filter_append, List.map_append, List.filter_cons]
  by_cases h : s ∈ r
  · rw [if_pos h, if_pos (decide_eq_true h)]; rfl
  · rw [if_neg h, if_neg (by simpa using h)]; rfl
theorem living_snoc (lost l : List Int) (x : Int) : living lost (l ++ [x]) = living lost l ++ if x ∉ lost then [x] else [] := by
  unfold living
  rw [List.filter_append, List.filter_cons]
  by_cases h : x ∉ lost
  · rw [if_pos h, if_pos (decide_eq_true h)]; rfl
  · rw [if_neg h, if_neg (by simpa using h)]; rfl
theorem living_few (lost l : List Int) : (living lost l).length ≤ l.length := List.length_filter_le _ _
def spBackL (K : PySem.W.Frag) : Sp := fun vs H Q _ => ∃ (F : Hp) (ra la : Addr) (rows : List (List Int)) (cap : Int) (lost : List Int) (n : Nat), vs = [.ref ra, .int cap, .ref la] ∧ Same F H ∧ ChAt K F ra rows ∧ RowsOk rows n ∧ rows.length ≤ 7 ∧ n ≤ 7 ∧ SqL K F la (lost.map V.int) ∧
  (∀ F' H', ¬ CB cap rows lost → Step F H F' H' → Q (.bl false) H') ∧ (∀ F' H', CB cap rows lost → Step F H F' H' → Q (.bl true) H')
theorem ok_L_comes_back (T : Txt K mg A) : FnOk P w K mg base CX0 2 A.a_L_comes_back A.d_L_comes_back ["_law_rows_here", "_law_cap", "_law_lost"] (spBackL K) := by
  refine T.F_L_comes_back.ok sc_L_comes_back (fun vs H Q E h => ?_) (fun cdv A' outer s H vs Q E hr h => ?_)
  · obtain ⟨F, ra, la, rows, cap, lost, n, rfl, _⟩ := h; rfl
  · obtain ⟨F, ra, la, rows, cap, lost, n, rfl, eF, ch, rok, r7, n7, hla, kN, kY⟩ := h
    have hu64 := hu64_of hr
    have hu65 := hu65_of hr
    obtain ⟨cv, hcv, hcl, dcv⟩ := ch.len
    refine ⟨_, pss_cons (ps_if (pt_cmpR (op_gtK (K := K) rfl) (pe_callB (call_lenK (K := K) rfl) (by rfl) T.n_len (by decide +kernel) (pa_cons (pe_lc (own := [("_law_row", 5)]) rfl sc_L_comes_back.nd (pi_listK (K := K) rfl (pv 0)) (blkOk_by (own := [("_law_row", 5)]) (N := ["_law_rows_here", "_law_cap", "_law_lost", "_law_seat", "_law_lots", "_law_row", "_law_living", "_law_grown", "_law_lot", "_law_j"]) (sc := defScope s_L_comes_back) (by decide +kernel)) (fun _ _ _ _ _ => pg_name (i := 5) sc_L_comes_back.nd rfl (Or.inl rfl)) (fun _ _ _ _ _ => pts_one (pt_cmpR (op_eqK (K := K) rfl hu64) (pe_callB (call_lenK (K := K) rfl) (by rfl) T.n_len (by decide +kernel) (pa_cons (pe_lc (own := [("_law_j", 9)]) rfl sc_L_comes_back.nd (pi_tupK (K := K) rfl (pv 5)) (blkOk_by (own := [("_law_j", 9)]) (N := ["_law_rows_here", "_law_cap", "_law_lost", "_law_seat", "_law_lots", "_law_row", "_law_living", "_law_grown", "_law_lot", "_law_j"]) (sc := ⟨.function, [(Str.ofString ".0", .local), (Str.ofString "_law_row", .local), (Str.ofString "len", .globalImplicit), (Str.ofString "_law_lost", .cell)], false, false, []⟩) (by decide +kernel)) (fun _ _ _ _ _ => pg_name (i := 9) sc_L_comes_back.nd rfl (Or.inl rfl)) (fun _ _ _ _ _ => pts_one (pt_cmpR (op_notInK (K := K) rfl hu65) (pv 9) (pv 2) (by rfl))) (fun _ _ _ _ _ => pv 9)) pa_nil)) (pe_int) (nomark _))) (fun _ _ _ _ _ => pv 5)) pa_nil)) (pe_int) (nomark _)) (pss_one (ps_ret (pe_bl))) (pss_nil))
  (pss_cons (ps_for PassesOwn.never rfl (pi_listK (K := K) rfl (pv 2)) (pg_name (i := 3) sc_L_comes_back.nd rfl (Or.inl rfl)) (pss_cons (ps_set (i := 4) sc_L_comes_back.nd rfl (Or.inl rfl) (pe_lst (pa_cons (pe_tup (pa_cons (pe_int) (pa_cons (pe_tup (pa_nil)) pa_nil))) pa_nil)))
    (pss_cons (ps_for PassesOwn.never rfl (pi_listK (K := K) rfl (pv 0)) (pg_name (i := 5) sc_L_comes_back.nd rfl (Or.inl rfl)) (pss_one (ps_if (pt_cmpR (op_inK (K := K) rfl hu65) (pv 3) (pv 5) (by rfl)) (pss_cons (ps_setLc (i := 6) (own := [("_law_j", 9)]) rfl sc_L_comes_back.nd rfl rfl (sw_true rfl rfl rfl (by decide +kernel)) (pi_tupK (K := K) rfl (pv 5)) (blkOk_by (own := [("_law_j", 9)]) (N := ["_law_rows_here", "_law_cap", "_law_lost", "_law_seat", "_law_lots", "_law_row", "_law_living", "_law_grown", "_law_lot", "_law_j"]) (sc := defScope s_L_comes_back) (by decide +kernel)) (fun _ _ _ _ _ => pg_name (i := 9) sc_L_comes_back.nd rfl (Or.inl rfl)) (fun _ _ _ _ _ => pts_one (pt_cmpR (op_notInK (K := K) rfl hu65) (pv 9) (pv 2) (by rfl))) (fun _ _ _ _ _ => pv 9))
        (pss_cons (ps_set (i := 7) sc_L_comes_back.nd rfl (Or.inl rfl) (pe_lst (pa_nil)))
        (pss_cons (ps_for PassesOwn.never rfl (pi_listK (K := K) rfl (pv 4)) (pg_name (i := 8) sc_L_comes_back.nd rfl (Or.inr rfl)) (pss_one (ps_expr (pe_bm PySem.F.plainAttrs_list PySem.F.slot_list_append PySem.F.type_list_append mt_append (pv 7) (pa_cons (pe_tup (pa_cons (pe_op (op_addK (K := K) rfl) (pe_ix (ix_K (K := K) rfl) (pv 8) (pe_int) (fun _ _ => rfl)) (pe_int)) (pa_cons (pe_op (op_addK (K := K) rfl) (pe_ix (ix_K (K := K) rfl) (pv 8) (pe_int) (fun _ _ => rfl)) (pe_callTy (call_tupleK (K := K) rfl) (by rfl) T.n_tuple (by decide +kernel) (pa_cons (pe_lc (own := [("_law_j", 9)]) rfl sc_L_comes_back.nd (pi_listK (K := K) rfl (pv 6)) (blkOk_by (own := [("_law_j", 9)]) (N := ["_law_rows_here", "_law_cap", "_law_lost", "_law_seat", "_law_lots", "_law_row", "_law_living", "_law_grown", "_law_lot", "_law_j"]) (sc := defScope s_L_comes_back) (by decide +kernel)) (fun _ _ _ _ _ => pg_name (i := 9) sc_L_comes_back.nd rfl (Or.inl rfl)) (fun _ _ _ _ _ => pts_one (pt_cmpR (op_notInK (K := K) rfl hu65) (pv 9) (pe_ix (ix_K (K := K) rfl) (pv 8) (pe_int) (fun _ _ => rfl)) (by rfl))) (fun _ _ _ _ _ => pv 9)) pa_nil))) pa_nil))) pa_nil)))))
        (pss_one (ps_set (i := 4) sc_L_comes_back.nd rfl (Or.inl rfl) (pe_op (op_catLK (K := K) rfl) (pv 4) (pv 7))))))) (pss_nil))))
    (pss_one (ps_if (pt_cmpR (op_gtK (K := K) rfl) (pe_callB (call_lenK (K := K) rfl) (by rfl) T.n_len (by decide +kernel) (pa_cons (pe_lc (own := [("_law_lot", 8)]) rfl sc_L_comes_back.nd (pi_listK (K := K) rfl (pv 4)) (blkOk_by (own := [("_law_lot", 8)]) (N := ["_law_rows_here", "_law_cap", "_law_lost", "_law_seat", "_law_lots", "_law_row", "_law_living", "_law_grown", "_law_lot", "_law_j"]) (sc := defScope s_L_comes_back) (by decide +kernel)) (fun _ _ _ _ _ => pg_name (i := 8) sc_L_comes_back.nd rfl (Or.inl rfl)) (fun _ _ _ _ _ => pts_one (pt_cmpR (op_ltK (K := K) rfl) (pe_op op_mulU (pv 1) (pe_callB (call_lenK (K := K) rfl) (by rfl) T.n_len (by decide +kernel) (pa_cons (pe_ix (ix_K (K := K) rfl) (pv 8) (pe_int) (fun _ _ => rfl)) pa_nil))) (pe_ix (ix_K (K := K) rfl) (pv 8) (pe_int) (fun _ _ => rfl)) (nomark _))) (fun _ _ _ _ _ => pv 8)) pa_nil)) (pe_int) (nomark _)) (pss_one (ps_ret (pe_bl))) (pss_nil))))))
  (pss_one (ps_ret (pe_bl)))), ?_⟩
    have w0 := Wd.start eF
    have rl7 : ∀ {r}, r ∈ rows → r.length ≤ 7 := fun hr => Nat.le_trans (row_len rok hr) n7
    refine ⟨_, rfl, ra, rfl, ⟨_, same_l eF hcv⟩, fun D hD => ?_⟩
    have w1 := w0.own hD (.lst [])
    refine in_list (xs := cv) (fun j H' => ∃ (F' : Hp) (acc : List V), Same F F' ∧ Wd F H F' H' [(D, .lst acc)] ∧ acc.length = ((rows.take j).filter fun r => decide (living lost r = [])).length) ⟨F, [], .refl _, w1, rfl⟩ (fun j H' ⟨F', acc, e, w, _⟩ => same_l (e.trans w.fh) hcv) ?_ ?_
    · rintro j x H2 hx ⟨F2, acc, e2, w2, hac⟩
      obtain ⟨d, hd, dx⟩ := dpa_get dcv hx
      obtain ⟨r, hr', rfl⟩ := item_map hd
      obtain ⟨q, rfl, hq⟩ := dp_I dx
      have hrl := rl7 (List.mem_of_getElem? hr')
      have hal : acc.length ≤ 7 := by
        rw [hac]
        have h1 := List.length_filter_le (fun r => decide (living lost r = [])) (rows.take j)
        have h2 := List.length_take (i := j) (l := rows)
        omega
      refine ⟨rfl, ?_⟩
      refine ⟨_, rfl, q, rfl, ⟨_, same_t (e2.trans w2.fh) hq⟩, fun D2 hD2 => ?_⟩
      have w3 := w2.own hD2 (.lst [])
      refine in_tup (xs := r.map V.int) (fun m H' => Wd F H F2 H' [(D2, .lst ((living lost (r.take m)).map V.int)), (D, .lst acc)]) w3 (fun m H' w => same_t (e2.trans w.fh) hq) ?_ ?_
      · intro m y H3 hy w4
        obtain ⟨z, hz, rfl⟩ := item_int hy
        have hll := living_few lost (r.take m)
        have hlt := List.length_take (i := m) (l := r)
        refine ⟨rfl, _, rfl, _, rfl, notin_ints (.inl (same_l (e2.trans w4.fh) hla)) ⟨_, rfl, ?_⟩⟩
        refine iteND (fun c => ?_) (fun c => ?_)
        · refine ⟨_, rfl, _, w4.at_, small' (by rw [List.length_map]; omega), ?_⟩
          rw [take_more1 hz, living_snoc, if_pos c, List.map_append]
          exact w4.set _
        · rw [take_more1 hz, living_snoc, if_neg (fun z => z c), List.append_nil]
          exact w4
      · intro H3 w4
        rw [List.length_map, List.take_length] at w4
        obtain ⟨F4, w5, e5, i5⟩ : ∃ F4, Wd F H F4 H3 [(D, .lst acc)] ∧ Same F2 F4 ∧ F4 D2 = some (.lst ((living lost r).map V.int)) := ⟨_, w4.freeze.1, w4.freeze.2, upd_same⟩
        refine ⟨_, _, rfl, .inl ⟨_, .of (w5.fh _ _ i5), rfl⟩, .inl ⟨rfl, _, rfl, iteD (fun c => ?_) (fun c => ?_)⟩⟩
        · have hnil : living lost r = [] := by
            have c0 := V.int.inj c
            rw [List.length_map] at c0
            exact List.length_eq_zero_iff.mp (by omega)
          refine ⟨_, rfl, acc, w5.at_, small' (by omega), F4, _, e2.trans e5, w5.set _, ?_⟩
          rw [take_more1 hr', List.filter_append, List.filter_cons, if_pos (decide_eq_true hnil), List.length_append, List.length_append, hac]
          rfl
        · have hnil : ¬ living lost r = [] := fun h => c (by rw [h]; rfl)
          refine ⟨F4, acc, e2.trans e5, w5, ?_⟩
          rw [take_more1 hr', List.filter_append, List.filter_cons, if_neg (by simpa using hnil), List.filter_nil, List.append_nil]
          exact hac
    · rintro H2 ⟨F2, acc, e2, w2, hac⟩
      rw [hcl, List.take_length] at hac
      obtain ⟨F3, w3, e3, i3⟩ : ∃ F3, Wd F H F3 H2 [] ∧ Same F2 F3 ∧ F3 D = some (.lst acc) := ⟨_, w2.freeze.1, w2.freeze.2, upd_same⟩
      refine ⟨_, _, rfl, .inl ⟨_, .of (w3.fh _ _ i3), rfl⟩, .inl ⟨_, _, rfl, rfl, _, rfl, iteD (fun c => ?_) (fun c => ?_)⟩⟩
      · refine kN F3 H2 (fun cb => ?_) w3.done
        have : 0 < (rows.filter fun r => decide (living lost r = [])).length := by omega
        obtain ⟨r, hr'⟩ := List.exists_mem_of_length_pos this
        have h2 := List.mem_filter.mp hr'
        exact cb.1 r h2.1 (of_decide_eq_true h2.2)
      · have hne : ∀ r ∈ rows, living lost r ≠ [] := fun r hr' h => by
          have : 0 < (rows.filter fun r => decide (living lost r = [])).length := List.length_pos_of_mem (List.mem_filter.mpr ⟨hr', decide_eq_true h⟩)
          omega
        refine ⟨_, rfl, la, rfl, ⟨_, same_l (e2.trans (e3.trans w3.fh)) hla⟩, ?_⟩
        refine for_list (xs := lost.map V.int) (fun i σ H' => ∃ (F' : Hp) (v3 v4 v5 v6 v7 v8 v9 : Option V), σ = [some (.ref ra), some (.int cap), some (.ref la), v3, v4, v5, v6, v7, v8, v9] ∧ Same F F' ∧ Wd F H F' H' [] ∧ ∀ s ∈ lost.take i, Hall cap (seatRows rows lost s)) ⟨F3, _, _, _, _, _, _, _, rfl, e2.trans e3, w3, (fun s h => nomatch h)⟩ ?_ ?_ ?_
        · rintro i σ H' _ ⟨F', v3, v4, v5, v6, v7, v8, v9, rfl, e, w, _⟩
          exact same_l (e.trans w.fh) hla
        · rintro i x σ H4 hx ⟨F4, v3, v4, v5, v6, v7, v8, v9, rfl, e4, w4, hh⟩
          obtain ⟨s, hs, rfl⟩ := item_int hx
          refine ⟨Nat.zero_le _, fun t0 ht0 => ?_⟩
          obtain ⟨Fa, wa, ea, ia⟩ := w4.fixE ht0 (.tup [])
          refine ⟨by show 2 ≤ sizeLine; decide, fun t1 ht1 => ?_⟩
          obtain ⟨Fb, wb, eb, ib⟩ := wa.fixE ht1 (.tup [.int 0, .ref t0])
          refine ⟨by show 1 ≤ sizeLine; decide, fun l1 hl1 => ?_⟩
          obtain ⟨Fc, wc, ec, ic⟩ := wb.fixE hl1 (.lst [.ref t1])
          have eC : Same F Fc := e4.trans (ea.trans (eb.trans ec))
          refine ⟨_, rfl, ra, rfl, ⟨_, same_l (eC.trans wc.fh) hcv⟩, ?_⟩
          refine for_list (xs := cv) (fun j σ H' => ∃ (F' : Hp) (lp : Addr) (lv : List V) (v5 v6 v7 v8 v9 : Option V), σ = [some (.ref ra), some (.int cap), some (.ref la), some (.int s), some (.ref lp), v5, v6, v7, v8, v9] ∧ Same Fc F' ∧ Wd F H F' H' [] ∧ SqL K F' lp lv ∧ DpAll K F' lv ((lots (seatRows (rows.take j) lost s)).map encQ)) ⟨Fc, l1, _, _, _, _, _, _, rfl, .refl _, wc, .of ic, dpa_one (dp_Q_of (q := (0, [])) (.of (ec _ _ ib)) (.of ((eb.trans ec) _ _ ia)))⟩ ?_ ?_ ?_
          · rintro j σ H' _ ⟨F', lp, lv, v5, v6, v7, v8, v9, rfl, e, w, _⟩
            exact same_l (eC.trans (e.trans w.fh)) hcv
          · rintro j x σ H5 hx ⟨F5, lp, lv, v5, v6, v7, v8, v9, rfl, e5, w5, hlp, dl⟩
            obtain ⟨d, hd, dx⟩ := dpa_get dcv hx
            obtain ⟨r, hr', rfl⟩ := item_map hd
            obtain ⟨q, rfl, hq⟩ := dp_I dx
            have hrl := rl7 (List.mem_of_getElem? hr')
            have eD := eC.trans e5
            refine ⟨_, rfl, _, rfl, in_ints (.inr (same_t (eD.trans w5.fh) hq)) ⟨_, rfl, iteD (fun c => ?_) (fun c => ?_)⟩⟩
            · refine ⟨_, rfl, q, rfl, ⟨_, same_t (eD.trans w5.fh) hq⟩, fun D2 hD2 => ?_⟩
              have w6 := w5.own hD2 (.lst [])
              refine in_tup (xs := r.map V.int) (fun m H' => Wd F H F5 H' [(D2, .lst ((living lost (r.take m)).map V.int))]) w6 (fun m H' w => same_t (eD.trans w.fh) hq) ?_ ?_
              · intro m y H6 hy w7
                obtain ⟨z, hz, rfl⟩ := item_int hy
                have hll := living_few lost (r.take m)
                have hlt := List.length_take (i := m) (l := r)
                refine ⟨rfl, _, rfl, _, rfl, notin_ints (.inl (same_l (eD.trans w7.fh) hla)) ⟨_, rfl, ?_⟩⟩
                refine iteND (fun c => ?_) (fun c => ?_)
                · refine ⟨_, rfl, _, w7.at_, small' (by rw [List.length_map]; omega), ?_⟩
                  rw [take_more1 hz, living_snoc, if_pos c, List.map_append]
                  exact w7.set _
                · rw [take_more1 hz, living_snoc, if_neg (fun z => z c), List.append_nil]
                  exact w7
              · intro H6 w7
                rw [List.length_map, List.take_length] at w7
                obtain ⟨F7, w8, e8, i8⟩ : ∃ F7, Wd F H F7 H6 [] ∧ Same F5 F7 ∧ F7 D2 = some (.lst ((living lost r).map V.int)) := ⟨_, w7.freeze.1, w7.freeze.2, upd_same⟩
                obtain ⟨ls, hls⟩ : ∃ ls, lots (seatRows (rows.take j) lost s) = ls := ⟨_, rfl⟩
                have hsub : (rows.take j).Sublist rows := List.take_sublist _ _
                have lf : ∀ q ∈ ls, q.2.length ≤ 7 := fun q hq => Nat.le_trans (lot_few (seatRows_ok (rows_sub rok hsub) lost s) (by rw [hls]; exact hq)) n7
                have ll : ls.length ≤ 128 := by
                  rw [← hls, lots_len]
                  refine Nat.le_trans (Nat.pow_le_pow_right (by decide) (show (seatRows (rows.take j) lost s).length ≤ 7 from ?_)) (by decide)
                  unfold seatRows
                  rw [List.length_map]
                  have h1 := List.length_filter_le (fun r => decide (s ∈ r)) (rows.take j)
                  have h2 := hsub.length_le
                  omega
                rw [hls] at dl
                have hlvl : lv.length = ls.length := by rw [dpa_len dl, List.length_map]
                have hrll := living_few lost r
                refine ⟨Nat.zero_le _, fun G hG => ?_⟩
                have w9 := w8.own hG (.lst [])
                refine ⟨_, rfl, lp, rfl, ⟨_, same_l (e8.trans w9.fh) hlp⟩, ?_⟩
                refine for_list (xs := lv) (fun m σ H' => ∃ (F' : Hp) (acc : List V) (v8 v9 : Option V), σ = [some (.ref ra), some (.int cap), some (.ref la), some (.int s), some (.ref lp), some (.ref q), some (.ref D2), some (.ref G), v8, v9] ∧ Same F7 F' ∧ Wd F H F' H' [(G, .lst acc)] ∧ DpAll K F' acc (((ls.take m).map fun q => (q.1 + 1, uni q.2 (living lost r))).map encQ)) ⟨F7, [], _, _, rfl, .refl _, w9, .nil⟩ ?_ ?_ ?_
                · rintro m σ H' _ ⟨F', acc, v8, v9, rfl, e, w, _⟩
                  exact same_l (e8.trans (e.trans w.fh)) hlp
                · rintro m x σ H8 hx ⟨F8, acc, v8, v9, rfl, e9, w10, da⟩
                  obtain ⟨d, hd, dx⟩ := dpa_get dl hx
                  obtain ⟨lq, hlq, rfl⟩ := item_map hd
                  obtain ⟨t, u, rfl, ht, hu⟩ := dp_Q dx
                  have hml := (List.getElem?_eq_some_iff.mp hlq).1
                  have hlf := lf lq (List.mem_of_getElem? hlq)
                  have hal : acc.length ≤ 128 := by
                    rw [dpa_len da, List.length_map, List.length_map, List.length_take]
                    omega
                  refine ⟨_, rfl, .inl ⟨rfl, _, .of w10.at_⟩, _, rfl, tup_ix (same_t ((e8.trans e9).trans w10.fh) ht) (by decide) rfl (.inl ⟨_, _, rfl, rfl, _, rfl, tup_ix (v := .ref u) (same_t ((e8.trans e9).trans w10.fh) ht) (by decide) rfl ?_⟩)⟩
                  refine ⟨_, rfl, D2, rfl, ⟨_, .of (w10.fh _ _ (e9 _ _ i8))⟩, fun D3 hD3 => ?_⟩
                  have w11 := w10.own hD3 (.lst [])
                  refine in_list (xs := (living lost r).map V.int) (fun m2 H' => Wd F H F8 H' [(D3, .lst ((((living lost r).take m2).filter fun z => decide (z ∉ lq.2)).map V.int)), (G, .lst acc)]) w11 (fun m2 H' w => .of (w.fh _ _ (e9 _ _ i8))) ?_ ?_
                  · intro m2 y H9 hy w12
                    obtain ⟨z, hz, rfl⟩ := item_int hy
                    have hll := List.length_filter_le (fun z => decide (z ∉ lq.2)) ((living lost r).take m2)
                    have hlt := List.length_take (i := m2) (l := living lost r)
                    refine ⟨rfl, _, rfl, _, rfl, tup_ix (v := .ref u) (same_t ((e8.trans e9).trans w12.fh) ht) (by decide) rfl (notin_ints (.inr (same_t ((e8.trans e9).trans w12.fh) hu)) ⟨_, rfl, ?_⟩)⟩
                    refine iteND (fun c => ?_) (fun c => ?_)
                    · refine ⟨_, rfl, _, w12.at_, small' (by rw [List.length_map]; omega), ?_⟩
                      rw [take_more1 hz, List.filter_append, List.filter_cons, if_pos (decide_eq_true c), List.map_append]
                      exact w12.set _
                    · rw [take_more1 hz, List.filter_append, List.filter_cons, if_neg (by simpa using c), List.filter_nil, List.append_nil]
                      exact w12
                  · intro H9 w12
                    rw [List.length_map, List.take_length] at w12
                    have hxl := List.length_filter_le (fun z => decide (z ∉ lq.2)) (living lost r)
                    obtain ⟨F9, w13, e13, i13⟩ : ∃ F9, Wd F H F9 H9 [(G, .lst acc)] ∧ Same F8 F9 ∧ F9 D3 = some (.lst (((living lost r).filter fun z => decide (z ∉ lq.2)).map V.int)) := ⟨_, w12.freeze.1, w12.freeze.2, upd_same⟩
                    refine ⟨D3, _, rfl, .inl ⟨.of (w13.fh _ _ i13), fun t2 ht2 => ?_⟩⟩
                    obtain ⟨F10, w14, e14, i14⟩ := w13.fixE ht2 (.tup (((living lost r).filter fun z => decide (z ∉ lq.2)).map V.int))
                    refine wd_cat2 w14 (same_t ((e8.trans e9).trans (e13.trans e14)) hu) (.of i14) (by rw [List.length_map, List.length_map]; omega) fun t3 F11 H11 w15 e15 ht3 => ?_
                    refine ⟨by show 2 ≤ sizeLine; decide, fun t4 ht4 => ?_⟩
                    obtain ⟨F12, w16, e16, i16⟩ := w15.fixE ht4 (.tup [.int (lq.1 + 1), .ref t3])
                    refine ⟨G, _, _, rfl, rfl, w16.at_, small' (by omega), ?_⟩
                    refine ⟨F12, acc ++ [.ref t4], _, _, rfl, e9.trans (e13.trans (e14.trans (e15.trans e16))), w16.set _, ?_⟩
                    rw [take_more1 hlq, List.map_append, List.map_append]
                    refine dpa_snoc (dpa_mono (e13.trans (e14.trans (e15.trans e16))) da) (dp_Q_of (u := t3) (.of i16) (same_t e16 ?_))
                    rw [← List.map_append] at ht3
                    exact ht3
                · rintro σ H8 ⟨F8, acc, v8, v9, rfl, e9, w10, da⟩
                  rw [hlvl, List.take_length] at da
                  have hal : acc.length = ls.length := by rw [dpa_len da, List.length_map, List.length_map]
                  obtain ⟨F9, w11, e11, i11⟩ : ∃ F9, Wd F H F9 H8 [] ∧ Same F8 F9 ∧ F9 G = some (.lst acc) := ⟨_, w10.freeze.1, w10.freeze.2, upd_same⟩
                  refine ⟨_, rfl, _, rfl, lp, G, _, _, rfl, rfl, same_l ((e8.trans (e9.trans e11)).trans w11.fh) hlp, .of (w11.fh _ _ i11), small (by omega), fun p hp => ?_⟩
                  obtain ⟨F10, w12, e12, i12⟩ := w11.fixE hp (.lst (lv ++ acc))
                  refine ⟨F10, p, _, _, _, _, _, _, rfl, e5.trans (e8.trans (e9.trans (e11.trans e12))), w12, .of i12, ?_⟩
                  rw [take_more1 hr', seatRows_snoc, if_pos c, lots_snoc, hls]
                  unfold lotStep
                  rw [List.map_append]
                  exact dpa_app (dpa_mono (e8.trans (e9.trans (e11.trans e12))) dl) (dpa_mono (e11.trans e12) da)
            · refine ⟨F5, lp, lv, _, _, _, _, _, rfl, e5, w5, hlp, ?_⟩
              rw [take_more1 hr', seatRows_snoc, if_neg c, List.append_nil]
              exact dl
          · rintro σ H5 ⟨F5, lp, lv, v5, v6, v7, v8, v9, rfl, e5, w5, hlp, dl⟩
            rw [hcl, List.take_length] at dl
            obtain ⟨ls, hls⟩ : ∃ ls, lots (seatRows rows lost s) = ls := ⟨_, rfl⟩
            have lf : ∀ q ∈ ls, q.2.length ≤ 7 := fun q hq => Nat.le_trans (lot_few (seatRows_ok rok lost s) (by rw [hls]; exact hq)) n7
            have ll : ls.length ≤ 128 := by
              rw [← hls, lots_len]
              refine Nat.le_trans (Nat.pow_le_pow_right (by decide) (show (seatRows rows lost s).length ≤ 7 from ?_)) (by decide)
              unfold seatRows
              rw [List.length_map]
              have h1 := List.length_filter_le (fun r => decide (s ∈ r)) rows
              omega
            rw [hls] at dl
            have hlvl : lv.length = ls.length := by rw [dpa_len dl, List.length_map]
            refine ⟨_, rfl, lp, rfl, ⟨_, same_l w5.fh hlp⟩, fun D2 hD2 => ?_⟩
            have w6 := w5.own hD2 (.lst [])
            refine in_list (xs := lv) (fun m H' => ∃ (acc : List V), Wd F H F5 H' [(D2, .lst acc)] ∧ acc.length = ((ls.take m).filter fun q => decide (cap * (q.2.length : Int) < q.1)).length) ⟨[], w6, rfl⟩ (fun m H' ⟨acc, w, _⟩ => same_l w.fh hlp) ?_ ?_
            · rintro m x H6 hx ⟨acc, w7, hac⟩
              obtain ⟨d, hd, dx⟩ := dpa_get dl hx
              obtain ⟨lq, hlq, rfl⟩ := item_map hd
              obtain ⟨t, u, rfl, ht, hu⟩ := dp_Q dx
              have hlf := lf lq (List.mem_of_getElem? hlq)
              have hal : acc.length ≤ 128 := by
                rw [hac]
                have h1 := List.length_filter_le (fun q : Int × List Int => decide (cap * (q.2.length : Int) < q.1)) (ls.take m)
                have h2 := List.length_take (i := m) (l := ls)
                omega
              have hlen : ((lq.2.map V.int).length : Int) = (lq.2.length : Int) := by rw [List.length_map]
              refine ⟨rfl, _, rfl, _, rfl, tup_ix (v := .ref u) (same_t w7.fh ht) (by decide) rfl ⟨_, _, rfl, .inr ⟨_, same_t w7.fh hu, rfl⟩, ?_⟩⟩
              rw [hlen]
              refine .inl ⟨_, _, rfl, rfl, .inr ⟨by show -(2 ^ 64) < (lq.2.length : Int); omega, by show (lq.2.length : Int) < 2 ^ 64; omega⟩, _, rfl, tup_ix (v := .int lq.1) (same_t w7.fh ht) (by decide) rfl (.inl ⟨_, _, rfl, rfl, _, rfl, iteD (fun c => ?_) (fun c => ?_)⟩)⟩
              · refine ⟨_, rfl, acc, w7.at_, small' (by omega), _, w7.set _, ?_⟩
                rw [take_more1 hlq, List.filter_append, List.filter_cons, if_pos (decide_eq_true c), List.length_append, List.length_append, hac]
                rfl
              · refine ⟨acc, w7, ?_⟩
                rw [take_more1 hlq, List.filter_append, List.filter_cons, if_neg (by simpa using c), List.filter_nil, List.append_nil]
                exact hac
            · rintro H6 ⟨acc, w7, hac⟩
              rw [hlvl, List.take_length] at hac
              obtain ⟨F7, w8, e8, i8⟩ : ∃ F7, Wd F H F7 H6 [] ∧ Same F5 F7 ∧ F7 D2 = some (.lst acc) := ⟨_, w7.freeze.1, w7.freeze.2, upd_same⟩
              refine ⟨_, _, rfl, .inl ⟨_, .of (w8.fh _ _ i8), rfl⟩, .inl ⟨_, _, rfl, rfl, _, rfl, iteD (fun c => ?_) (fun c => ?_)⟩⟩
              · refine kN F7 H6 (fun cb => ?_) w8.done
                have : 0 < (ls.filter fun q => decide (cap * (q.2.length : Int) < q.1)).length := by omega
                obtain ⟨lq, hq⟩ := List.exists_mem_of_length_pos this
                have h2 := List.mem_filter.mp hq
                exact hall_lots.mp (cb.2 s (List.mem_of_getElem? hs)) lq (by rw [hls]; exact h2.1) (of_decide_eq_true h2.2)
              · refine ⟨F7, _, _, _, _, _, _, _, rfl, eC.trans (e5.trans e8), w8, fun s' hs' => ?_⟩
                rw [take_more1 hs] at hs'
                rcases List.mem_append.mp hs' with hs' | hs'
                · exact hh s' hs'
                · rw [List.mem_singleton.mp hs']
                  refine hall_lots.mpr fun lq hq hlt => ?_
                  rw [hls] at hq
                  have : 0 < (ls.filter fun q => decide (cap * (q.2.length : Int) < q.1)).length := List.length_pos_of_mem (List.mem_filter.mpr ⟨hq, decide_eq_true hlt⟩)
                  omega
        · rintro σ H4 ⟨F4, v3, v4, v5, v6, v7, v8, v9, rfl, e4, w4, hh⟩
          rw [List.length_map, List.take_length] at hh
          exact kY F4 H4 ⟨hne, hh⟩ w4.done

end
end Q

set_option Elab.async false
set_option linter.all false
set_option maxRecDepth 100000
set_option maxHeartbeats 8000000
namespace Q
open PySem PySem.Spec PyProof.Rows L2 PW Nt
section
variable {P : Program} {w : World} {K : PySem.W.Frag} {mg : Str → Option Value} {base : Heap} {A : Ad}
/-! ### lasting and fault, by the law -/
def spLastsL (K : PySem.W.Frag) : Sp := fun vs H Q _ => ∃ (F : Hp) (ra : Addr) (rows : List (List Int)) (cap : Int) (n k : Nat), vs = [.ref ra, .int cap, .int (n : Int), .int (k : Int)] ∧ Same F H ∧ ChAt K F ra rows ∧ RowsOk rows n ∧ rows.length ≤ 7 ∧ n ≤ 7 ∧
  (∀ F' H', ¬ Lasts cap rows n k → Step F H F' H' → Q (.bl false) H') ∧ (∀ F' H', Lasts cap rows n k → Step F H F' H' → Q (.bl true) H')
theorem ok_L_lasts (T : Txt K mg A) : FnOk P w K mg base CX0 4 A.a_L_lasts A.d_L_lasts ["_law_rows_here", "_law_cap", "_law_seats", "_law_at_once"] (spLastsL K) := by
  have okl := ok_L_losses (P := P) (w := w) (base := base) T
  have okc := ok_L_comes_back (P := P) (w := w) (base := base) T
  refine T.F_L_lasts.ok sc_L_lasts (fun vs H Q E h => ?_) (fun cdv A' outer s H vs Q E hr h => ?_)
  · obtain ⟨F, ra, rows, cap, n, kk, rfl, _⟩ := h; rfl
  · obtain ⟨F, ra, rows, cap, n, kk, rfl, eF, ch, rok, r7, n7, kN, kY⟩ := h
    have hu64 := hu64_of hr
    refine ⟨_, pss_cons (ps_for PassesOwn.never rfl (pi_listK (K := K) rfl (pe_call (ok_L_losses T) (hr.mono (by decide)) rfl T.g_L_losses T.F_L_losses.kp T.b_L_losses .nil pass0 (pa_cons (pv 2) (pa_cons (pe_callB (call_min2 rfl) (by rfl) T.n_min (by decide +kernel) (pa_cons (pv 3) (pa_cons (pv 2) pa_nil))) pa_nil)))) (pg_name (i := 4) sc_L_lasts.nd rfl (Or.inl rfl)) (pss_one (ps_if (pt_not (pt_val (pe_call (ok_L_comes_back T) (hr.mono (by decide)) rfl T.g_L_comes_back T.F_L_comes_back.kp T.b_L_comes_back .nil pass0 (pa_cons (pv 0) (pa_cons (pv 1) (pa_cons (pv 4) pa_nil)))))) (pss_one (ps_ret (pe_bl))) (pss_nil))))
  (pss_one (ps_ret (pe_bl))), ?_⟩
    have w0 := Wd.start eF
    have emin : (if (n : Int) < (kk : Int) then (n : Int) else (kk : Int)) = ((min kk n : Nat) : Int) := by
      by_cases c : (n : Int) < (kk : Int)
      · rw [if_pos c]; omega
      · rw [if_neg c]; omega
    refine ⟨_, rfl, _, rfl, _, rfl, _, _, rfl, ?_⟩
    rw [emin]
    refine ⟨F, n, min kk n, rfl, n7, Nat.min_le_right _ _, eF, fun q F1 H1 xs st1 hq dq => ?_⟩
    have w1 := w0.step st1
    have hxl : xs.length = (ascL n (min kk n)).length := by rw [dpa_len dq, List.length_map]
    refine ⟨q, rfl, ⟨_, same_l w1.fh hq⟩, ?_⟩
    refine for_list (xs := xs) (fun i σ H' => ∃ (F' : Hp) (v4 : Option V), σ = [some (.ref ra), some (.int cap), some (.int (n : Int)), some (.int (kk : Int)), v4] ∧ Same F1 F' ∧ Wd F H F' H' [] ∧ ∀ lost ∈ (ascL n (min kk n)).take i, CB cap rows lost) ⟨F1, _, rfl, .refl _, w1, (fun s h => nomatch h)⟩ ?_ ?_ ?_
    · rintro i σ H' _ ⟨F', v4, rfl, e, w, _⟩
      exact same_l (e.trans w.fh) hq
    · rintro i x σ H2 hx ⟨F2, v4, rfl, e2, w2, hh⟩
      obtain ⟨d, hd, dx⟩ := dpa_get dq hx
      obtain ⟨lost, hl, rfl⟩ := item_map hd
      obtain ⟨la, rfl, hla⟩ := dp_L dx
      refine ⟨_, rfl, _, rfl, _, rfl, F2, ra, la, rows, cap, lost, n, rfl, w2.fh, ch.mono (st1.ff.trans e2), rok, r7, n7, same_l e2 hla, fun F3 H3 nc st3 => ⟨false, rfl, iteT ?_⟩, fun F3 H3 cb st3 => ⟨true, rfl, iteF ?_⟩⟩
      · exact kN F3 H3 (fun h => nc (h lost (List.mem_of_getElem? hl))) (w2.step st3).done
      · refine ⟨F3, _, rfl, e2.trans st3.ff, w2.step st3, fun l' hl' => ?_⟩
        rw [take_more1 hl] at hl'
        rcases List.mem_append.mp hl' with hl' | hl'
        · exact hh l' hl'
        · rw [List.mem_singleton.mp hl']; exact cb
    · rintro σ H2 ⟨F2, v4, rfl, e2, w2, hh⟩
      rw [hxl, List.take_length] at hh
      exact kY F2 H2 hh w2.done
def spIsFaultL (K : PySem.W.Frag) : Sp := fun vs H Q _ => ∃ (F : Hp) (t oq ra : Addr) (seat : Int) (others : List Int) (rows : List (List Int)) (cap : Int) (n k : Nat), vs = [.ref t, .ref ra, .int cap, .int (n : Int), .int (k : Int)] ∧ Same F H ∧ F t = some (.tup [.int seat, .ref oq]) ∧ SqT K F oq (others.map V.int) ∧ ChAt K F ra rows ∧ RowsOk rows n ∧ rows.length ≤ 7 ∧ n ≤ 7 ∧ k ≤ 100 ∧ (0 ≤ seat ∧ seat < (n : Int)) ∧
  others.Sublist ((ntTo n).filter fun x => decide (x ≠ seat)) ∧ Fault cap rows k seat others ∧ ∀ F' H', Step F H F' H' → Q (.bl true) H'
theorem ok_L_is_fault (T : Txt K mg A) : FnOk P w K mg base CX0 2 A.a_L_is_fault A.d_L_is_fault ["_law_actual", "_law_rows_here", "_law_cap", "_law_seats", "_law_at_once"] (spIsFaultL K) := by
  refine T.F_L_is_fault.ok sc_L_is_fault (fun vs H Q E h => ?_) (fun cdv A' outer s H vs Q E hr h => ?_)
  · obtain ⟨F, t, oq, ra, seat, others, rows, cap, n, kk, rfl, _⟩ := h; rfl
  · obtain ⟨F, t, oq, ra, seat, others, rows, cap, n, kk, rfl, eF, hts, hoq, ch, rok, r7, n7, k100, hseat, hsub, hf, k⟩ := h
    have hu64 := hu64_of hr
    have hu65 := hu65_of hr
    obtain ⟨cv, hcv, hcl, dcv⟩ := ch.len
    have ht : SqT K F t [.int seat, .ref oq] := .of hts
    have hup : others.Pairwise (· < ·) := ((ntTo_up n).sublist List.filter_sublist).sublist hsub
    have hmem : ∀ x ∈ others, x ≠ seat ∧ 0 ≤ x ∧ x < (n : Int) := fun x hx => by
      have h1 := List.mem_filter.mp (hsub.subset hx)
      exact ⟨of_decide_eq_true h1.2, mem_ntTo.mp h1.1⟩
    have hns : seat ∉ others := fun h => (hmem seat h).1 rfl
    have hol : others.length ≤ 7 := by
      have h1 := hsub.length_le
      have h2 := List.length_filter_le (fun x => decide (x ≠ seat)) (ntTo n)
      rw [ntTo_len] at h2
      omega
    refine ⟨_, pss_cons (ps_if (PW.pt (pw_or (pt_not (pt_val (pe_callB (call_isiK1 (K := K) rfl) (by rfl) T.n_isinstance (by decide +kernel) (pa_cons (pv 0) (pa_cons (pe_bltn (v := .ty "tuple") (by rfl) T.n_tuple (by decide +kernel) rfl) pa_nil))))) (pw_or (pt_cmpR (op_neK (K := K) rfl hu64) (pe_callB (call_lenK (K := K) rfl) (by rfl) T.n_len (by decide +kernel) (pa_cons (pv 0) pa_nil)) (pe_int) (nomark _)) (pw_or1 (pt_not (pt_val (pe_callB (call_isiK1 (K := K) rfl) (by rfl) T.n_isinstance (by decide +kernel) (pa_cons (pe_ix (ix_K (K := K) rfl) (pv 0) (pe_int) (fun _ _ => rfl)) (pa_cons (pe_bltn (v := .ty "tuple") (by rfl) T.n_tuple (by decide +kernel) rfl) pa_nil))))))))) (pss_one (ps_ret (pe_bl))) (pss_nil))
  (pss_cons (ps_for PassesOwn.never rfl (pi_tupK (K := K) rfl (pe_op (op_addK (K := K) rfl) (pe_tup (pa_cons (pe_ix (ix_K (K := K) rfl) (pv 0) (pe_int) (fun _ _ => rfl)) pa_nil)) (pe_ix (ix_K (K := K) rfl) (pv 0) (pe_int) (fun _ _ => rfl)))) (pg_name (i := 5) sc_L_is_fault.nd rfl (Or.inl rfl)) (pss_one (ps_if (PW.pt (pw_or (pt_not (pt_val (pe_call (ok_L_is_integer T) (hr.mono (by decide)) rfl T.g_L_is_integer T.F_L_is_integer.kp T.b_L_is_integer .nil pass0 (pa_cons (pv 5) pa_nil)))) (pw_or (pt_cmpR (op_ltK (K := K) rfl) (pv 5) (pe_int) (nomark _)) (pw_or1 (pt_cmpR (op_geK (K := K) rfl) (pv 5) (pv 3) (nomark _)))))) (pss_one (ps_ret (pe_bl))) (pss_nil))))
  (pss_cons (ps_set (i := 6) sc_L_is_fault.nd rfl (Or.inr rfl) (pe_callTy (call_listK (K := K) rfl) (by rfl) T.n_list (by decide +kernel) (pa_cons (pe_ix (ix_K (K := K) rfl) (pv 0) (pe_int) (fun _ _ => rfl)) pa_nil)))
  (pss_cons (ps_if (PW.pt (pw_or (pt_cmpR (op_neK (K := K) rfl hu64) (pv 6) (pe_callB (cr_sortedK (K := K) rfl) (by rfl) T.n_sorted (by decide +kernel) (pa_cons (pv 6) pa_nil)) (nomark _)) (pw_or1 (pt_cmpR (op_inK (K := K) rfl hu65) (pe_ix (ix_K (K := K) rfl) (pv 0) (pe_int) (fun _ _ => rfl)) (pv 6) (by rfl))))) (pss_one (ps_ret (pe_bl))) (pss_nil))
  (pss_cons (ps_if (pt_cmpR (op_gtK (K := K) rfl) (pe_callB (call_lenK (K := K) rfl) (by rfl) T.n_len (by decide +kernel) (pa_cons (pe_lc (own := [("_law_k", 9)]) rfl sc_L_is_fault.nd (pi_range2 rfl T.n_range (pa_cons (pe_int) (pa_cons (pe_callB (call_lenK (K := K) rfl) (by rfl) T.n_len (by decide +kernel) (pa_cons (pv 6) pa_nil)) pa_nil))) (blkOk_by (own := [("_law_k", 9)]) (N := ["_law_actual", "_law_rows_here", "_law_cap", "_law_seats", "_law_at_once", "_law_seat", "_law_others", "_law_inside", "_law_row", "_law_k", "_law_j"]) (sc := defScope s_L_is_fault) (by decide +kernel)) (fun _ _ _ _ _ => pg_name (i := 9) sc_L_is_fault.nd rfl (Or.inl rfl)) (fun _ _ _ _ _ => pts_one (pt_cmpR (op_eqK (K := K) rfl hu64) (pe_ix (ix_K (K := K) rfl) (pv 6) (pe_op op_sub (pv 9) (pe_int)) (fun _ _ => rfl)) (pe_ix (ix_K (K := K) rfl) (pv 6) (pv 9) (fun _ _ => rfl)) (nomark _))) (fun _ _ _ _ _ => pv 9)) pa_nil)) (pe_int) (nomark _)) (pss_one (ps_ret (pe_bl))) (pss_nil))
  (pss_cons (ps_set (i := 7) sc_L_is_fault.nd rfl (Or.inl rfl) (pe_int))
  (pss_cons (ps_for PassesOwn.never rfl (pi_listK (K := K) rfl (pv 1)) (pg_name (i := 8) sc_L_is_fault.nd rfl (Or.inl rfl)) (pss_one (ps_if (PW.pt (pw_and (pt_cmpR (op_inK (K := K) rfl hu65) (pe_ix (ix_K (K := K) rfl) (pv 0) (pe_int) (fun _ _ => rfl)) (pv 8) (by rfl)) (pw_and1 (pt_cmpR (op_eqK (K := K) rfl hu64) (pe_callB (call_lenK (K := K) rfl) (by rfl) T.n_len (by decide +kernel) (pa_cons (pe_lc (own := [("_law_j", 10)]) rfl sc_L_is_fault.nd (pi_tupK (K := K) rfl (pv 8)) (blkOk_by (own := [("_law_j", 10)]) (N := ["_law_actual", "_law_rows_here", "_law_cap", "_law_seats", "_law_at_once", "_law_seat", "_law_others", "_law_inside", "_law_row", "_law_k", "_law_j"]) (sc := defScope s_L_is_fault) (by decide +kernel)) (fun _ _ _ _ _ => pg_name (i := 10) sc_L_is_fault.nd rfl (Or.inl rfl)) (fun _ _ _ _ _ => pts_one (PW.pt (pw_and (pt_cmpR (op_neK (K := K) rfl hu64) (pv 10) (pe_ix (ix_K (K := K) rfl) (pv 0) (pe_int) (fun _ _ => rfl)) (nomark _)) (pw_and1 (pt_cmpR (op_notInK (K := K) rfl hu65) (pv 10) (pv 6) (by rfl)))))) (fun _ _ _ _ _ => pv 10)) pa_nil)) (pe_int) (nomark _))))) (pss_one (ps_set (i := 7) sc_L_is_fault.nd rfl (Or.inl rfl) (pe_op (op_addK (K := K) rfl) (pv 7) (pe_int)))) (pss_nil))))
  (pss_one (ps_ret (pe_cmpR (op_gtK (K := K) rfl) (pv 7) (pe_op op_mulU (pv 2) (pe_callB (call_max2 rfl) (by rfl) T.n_max (by decide +kernel) (pa_cons (pe_int) (pa_cons (pe_op (op_addK (K := K) rfl) (pe_op op_sub (pe_callB (call_lenK (K := K) rfl) (by rfl) T.n_len (by decide +kernel) (pa_cons (pv 6) pa_nil)) (pv 4)) (pe_int)) pa_nil)))) (nomark _)))))))))), ?_⟩
    have w0 := Wd.start eF
    refine ⟨_, rfl, _, .ty "tuple", _, _, true, rfl, .ty "tuple", tyx_tup (same_t eF ht), kit_ty (by decide +kernel), true, rfl, iteF ?_⟩
    refine ⟨_, rfl, _, _, rfl, .inr ⟨_, same_t eF ht, rfl⟩, .inl ⟨rfl, _, rfl, iteNS rfl ?_⟩⟩
    refine ⟨_, rfl, tup_ix (v := .ref oq) (same_t eF ht) (by decide) rfl ⟨_, .ty "tuple", _, _, true, rfl, .ty "tuple", tyx_tup (same_t eF hoq), kit_ty (by decide +kernel), true, rfl, iteF ?_⟩⟩
    -- the numbers
    refine ⟨_, rfl, tup_ix (v := .int seat) (same_t eF ht) (by decide) rfl ⟨by show 1 ≤ sizeLine; decide, fun a ha => ?_⟩⟩
    obtain ⟨F2, w2, e2, i2⟩ := w0.fixE ha (.tup [.int seat])
    refine ⟨_, rfl, tup_ix (v := .ref oq) (same_t (e2.trans w2.fh) ht) (by decide) rfl ?_⟩
    refine wd_cat2 w2 (.of i2) (same_t e2 hoq) (by rw [List.length_map]; show 1 + _ ≤ _; omega) fun t3 F3 H3 w3 e3 ht3 => ?_
    refine ⟨t3, rfl, ⟨_, same_t w3.fh ht3⟩, ?_⟩
    refine for_tup (xs := [V.int seat] ++ others.map V.int) (fun i σ H' => ∃ (v5 : Option V), σ = [some (.ref t), some (.ref ra), some (.int cap), some (.int (n : Int)), some (.int (kk : Int)), v5, none, none, none, none, none] ∧ Wd F H F3 H' []) ⟨_, rfl, w3⟩ ?_ ?_ ?_
    · rintro i σ H' _ ⟨v5, rfl, w⟩
      exact same_t w.fh ht3
    · rintro i x σ H4 hx ⟨v5, rfl, w4⟩
      obtain ⟨z, hz, rfl⟩ : ∃ z, (0 ≤ z ∧ z < (n : Int)) ∧ x = V.int z := by
        rcases List.mem_append.mp (List.mem_of_getElem? hx) with h | h
        · exact ⟨seat, hseat, List.mem_singleton.mp h⟩
        · obtain ⟨z, hz, rfl⟩ := List.mem_map.mp h
          exact ⟨z, (hmem z hz).2, rfl⟩
      exact ⟨_, rfl, z, rfl, fun H5 s5 => ⟨true, rfl, iteF ⟨_, rfl, .inl ⟨_, _, rfl, rfl, _, rfl, iteNo (by omega) ⟨_, rfl, _, rfl, .inl ⟨_, _, rfl, rfl, _, rfl, iteNo (by omega) ⟨_, rfl, w4.same s5⟩⟩⟩⟩⟩⟩⟩
    · rintro σ H4 ⟨v5, rfl, w4⟩
      have eA := e2.trans e3
      refine ⟨_, rfl, tup_ix (v := .ref oq) (same_t (eA.trans w4.fh) ht) (by decide) rfl ⟨oq, _, rfl, .inr (same_t (eA.trans w4.fh) hoq), fun l hl => ?_⟩⟩
      obtain ⟨F5, w5, e5, i5⟩ := w4.fixE hl (.lst (others.map V.int))
      have eB := eA.trans e5
      -- rising
      refine ⟨_, rfl, _, rfl, l, others, rfl, .of (w5.fh _ _ i5), fun ns' p hperm hsorted hp => ?_⟩
      have hns' : ns' = others := up_eq hperm hsorted hup
      subst hns'
      obtain ⟨F6, w6, e6, i6⟩ := w5.fixE hp (.lst (ns'.map V.int))
      refine .inr ⟨_, _, dp_L_of (.of (w6.fh _ _ (e6 _ _ i5))), dp_L_of (.of (w6.fh _ _ i6)), shaped_L _, shaped_L _, _, rfl, ?_⟩
      rw [show PyData.eqv (encL ns') (encL ns') = true from SeqAt.eqv_refl _ (canlay_L _)]
      refine iteF ?_
      refine ⟨_, rfl, tup_ix (v := .int seat) (same_t ((eB.trans e6).trans w6.fh) ht) (by decide) rfl ⟨_, rfl, in_ints (.inl (.of (w6.fh _ _ (e6 _ _ i5)))) ⟨_, rfl, iteNo hns ?_⟩⟩⟩
      -- none twice
      refine ⟨_, rfl, _, _, rfl, .inl ⟨_, .of (w6.fh _ _ (e6 _ _ i5)), rfl⟩, 1, ((ns'.map V.int).length : Int), rfl, ⟨by decide, by decide, by rw [List.length_map]; omega, by rw [List.length_map]; omega⟩, fun D hD => ?_⟩
      have w7 := w6.own hD (.lst [])
      refine lc_range (lo := 1) (n := (((ns'.map V.int).length : Int) - 1).toNat) (fun i H' => Wd F H F6 H' [(D, .lst [])]) w7 ?_ ?_
      · intro i H7 hi w8
        rw [List.length_map] at hi
        obtain ⟨a', b', ha', hb'⟩ := at_pair (ns := ns') (i := i) (by omega)
        have hab := pw_lt hup ha' hb'
        have hls : SqL K H7 l (ns'.map V.int) := .of (w8.fh _ _ (e6 _ _ i5))
        exact ⟨rfl, _, rfl, _, rfl, _, _, rfl, rfl, row_ix hls ha' (by omega) ⟨_, rfl, _, rfl, row_ix hls hb' (by omega) (.inl ⟨rfl, _, rfl, iteNo (fun h => by have := V.int.inj h; omega) w8⟩)⟩⟩
      · intro H7 w8
        obtain ⟨F9, w9, e9, i9⟩ : ∃ F9, Wd F H F9 H7 [] ∧ Same F6 F9 ∧ F9 D = some (.lst []) := ⟨_, w8.freeze.1, w8.freeze.2, upd_same⟩
        refine ⟨_, _, rfl, .inl ⟨_, .of (w9.fh _ _ i9), rfl⟩, .inl ⟨_, _, rfl, rfl, _, rfl, iteNo (by decide) ?_⟩⟩
        have eC : Same F F9 := (eB.trans e6).trans e9
        have iC : F9 l = some (.lst (ns'.map V.int)) := (e6.trans e9) _ _ i5
        -- inside
        refine ⟨_, rfl, ra, rfl, ⟨_, same_l (eC.trans w9.fh) hcv⟩, ?_⟩
        refine for_list (xs := cv) (fun j σ H' => ∃ (F' : Hp) (v5 v8 v9 v10 : Option V), σ = [some (.ref t), some (.ref ra), some (.int cap), some (.int (n : Int)), some (.int (kk : Int)), v5, some (.ref l), some (.int (((rows.take j).filter fun r => decide (seat ∈ r ∧ within r (ns' ++ [seat]))).length : Int)), v8, v9, v10] ∧ Same F9 F' ∧ Wd F H F' H' []) ⟨F9, _, _, _, _, rfl, .refl _, w9⟩ ?_ ?_ ?_
        · rintro j σ H' _ ⟨F', v5, v8, v9, v10, rfl, e, w⟩
          exact same_l (eC.trans (e.trans w.fh)) hcv
        · rintro j x σ H8 hx ⟨F8, v5, v8, v9, v10, rfl, e8, w10⟩
          obtain ⟨d, hd, dx⟩ := dpa_get dcv hx
          obtain ⟨r, hr', rfl⟩ := item_map hd
          obtain ⟨q, rfl, hq⟩ := dp_I dx
          have eD := eC.trans e8
          have hrl : r.length ≤ 7 := Nat.le_trans (row_len rok (List.mem_of_getElem? hr')) n7
          have no : ¬ (seat ∈ r ∧ within r (ns' ++ [seat])) → ((rows.take (j + 1)).filter fun r => decide (seat ∈ r ∧ within r (ns' ++ [seat]))).length = ((rows.take j).filter fun r => decide (seat ∈ r ∧ within r (ns' ++ [seat]))).length := fun h => by
            rw [take_more1 hr', List.filter_append, List.filter_cons, if_neg (by simpa using h), List.filter_nil, List.append_nil]
          refine ⟨_, rfl, tup_ix (v := .int seat) (same_t (eD.trans w10.fh) ht) (by decide) rfl ⟨_, rfl, in_ints (.inr (same_t (eD.trans w10.fh) hq)) ⟨_, rfl, iteD (fun c => ?_) (fun c => ?_)⟩⟩⟩
          · refine ⟨_, rfl, q, rfl, ⟨_, same_t (eD.trans w10.fh) hq⟩, fun D2 hD2 => ?_⟩
            have w11 := w10.own hD2 (.lst [])
            refine in_tup (xs := r.map V.int) (fun m H' => Wd F H F8 H' [(D2, .lst (((r.take m).filter fun z => (!decide (V.int z = V.int seat)) && (!decide (z ∈ ns'))).map V.int))]) w11 (fun m H' w => same_t (eD.trans w.fh) hq) ?_ ?_
            · intro m y H9 hy w12
              obtain ⟨z, hz, rfl⟩ := item_int hy
              have hll := List.length_filter_le (fun z => (!decide (V.int z = V.int seat)) && (!decide (z ∈ ns'))) (r.take m)
              have hlt := List.length_take (i := m) (l := r)
              refine ⟨rfl, ?_⟩
              refine andB (!decide (V.int z = V.int seat)) (!decide (z ∈ ns')) (fun R' r' => ⟨_, rfl, _, rfl, tup_ix (v := .int seat) (same_t (eD.trans w12.fh) ht) (by decide) rfl (.inl ⟨rfl, _, rfl, r'⟩)⟩) (fun _ R' r' => ⟨_, rfl, _, rfl, notin_ints (.inl (.of (w12.fh _ _ (e8 _ _ iC)))) ⟨_, rfl, r'⟩⟩) ?_
              refine iteB (fun cc => ?_) (fun cc => ?_)
              · refine ⟨_, rfl, _, w12.at_, small' (by rw [List.length_map]; omega), ?_⟩
                rw [take_more1 hz, List.filter_append, List.filter_cons, if_pos cc, List.map_append]
                exact w12.set _
              · rw [take_more1 hz, List.filter_append, List.filter_cons, if_neg (by rw [cc]; decide), List.filter_nil, List.append_nil]
                exact w12
            · intro H9 w12
              rw [List.length_map, List.take_length] at w12
              obtain ⟨F10, w13, e13, i13⟩ : ∃ F10, Wd F H F10 H9 [] ∧ Same F8 F10 ∧ F10 D2 = some (.lst ((r.filter fun z => (!decide (V.int z = V.int seat)) && (!decide (z ∈ ns'))).map V.int)) := ⟨_, w12.freeze.1, w12.freeze.2, upd_same⟩
              have hin : (r.filter fun z => (!decide (V.int z = V.int seat)) && (!decide (z ∈ ns'))) = [] ↔ within r (ns' ++ [seat]) := by
                rw [List.filter_eq_nil_iff]
                refine ⟨fun h x hx => ?_, fun h x hx hc => ?_⟩
                · have h1 := h x hx
                  by_cases hxs : x = seat
                  · rw [hxs]; simp
                  · by_cases hxo : x ∈ ns'
                    · exact List.mem_append_left _ hxo
                    · exact absurd (by simp [hxs, hxo]) h1
                · rcases List.mem_append.mp (h x hx) with h1 | h1
                  · simp [h1] at hc
                  · rw [List.mem_singleton.mp h1] at hc
                    simp at hc
              refine ⟨_, _, rfl, .inl ⟨_, .of (w13.fh _ _ i13), rfl⟩, .inl ⟨rfl, _, rfl, iteD (fun c2 => ?_) (fun c2 => ?_)⟩⟩
              · have hw : within r (ns' ++ [seat]) := by
                  have c0 := V.int.inj c2
                  rw [List.length_map] at c0
                  exact hin.mp (List.length_eq_zero_iff.mp (by omega))
                refine ⟨_, rfl, .inl ⟨_, _, rfl, rfl, F10, v5, some (.ref q), v9, v10, ?_, e8.trans e13, w13⟩⟩
                rw [take_more1 hr', List.filter_append, List.filter_cons, if_pos (decide_eq_true ⟨c, hw⟩), List.length_append]
                rfl
              · have hw : ¬ within r (ns' ++ [seat]) := fun h => c2 (by rw [hin.mpr h]; rfl)
                refine ⟨F10, v5, some (.ref q), v9, v10, ?_, e8.trans e13, w13⟩
                rw [no fun h => hw h.2]
                rfl
          · refine iteF ⟨F8, v5, some (.ref q), v9, v10, ?_, e8, w10⟩
            rw [no fun h => c h.1]
            rfl
        · rintro σ H8 ⟨F8, v5, v8, v9, v10, rfl, e8, w10⟩
          rw [hcl, List.take_length]
          have hlen : ((ns'.map V.int).length : Int) = (ns'.length : Int) := by rw [List.length_map]
          have hmx : maxZ 0 ((ns'.length : Int) - (kk : Int) + 1) ≤ 100 ∧ 0 ≤ maxZ 0 ((ns'.length : Int) - (kk : Int) + 1) := ⟨maxZ_le (by decide) (by omega), (le_maxZ (a := 0) (b := (ns'.length : Int) - (kk : Int) + 1)).1⟩
          refine ⟨_, rfl, _, rfl, _, rfl, _, _, rfl, .inl ⟨_, .of (w10.fh _ _ (e8 _ _ iC)), rfl⟩, _, rfl, _, _, rfl, rfl, .inl ⟨_, _, rfl, rfl, _, _, rfl, ?_⟩⟩
          rw [hlen]
          refine .inl ⟨_, _, rfl, rfl, .inr ⟨by show -(2 ^ 64) < maxZ 0 ((ns'.length : Int) - (kk : Int) + 1); omega, by show maxZ 0 ((ns'.length : Int) - (kk : Int) + 1) < 2 ^ 64; omega⟩, .inl ⟨_, _, rfl, rfl, ?_⟩⟩
          have hf' : cap * (if (ns'.length : Int) - (kk : Int) + 1 > 0 then (ns'.length : Int) - (kk : Int) + 1 else 0) < ((rows.filter fun r => decide (seat ∈ r ∧ within r (ns' ++ [seat]))).length : Int) := hf
          show Q (.bl (decide _)) H8
          rw [decide_eq_true hf']
          exact k F8 H8 w10.done

end
end Q

set_option Elab.async false
set_option linter.all false
set_option maxRecDepth 100000
set_option maxHeartbeats 8000000
namespace Q
open PySem PySem.Spec PyProof.Rows L2 PW Nt
section
variable {P : Program} {w : World} {K : PySem.W.Frag} {mg : Str → Option Value} {base : Heap} {A : Ad}
/-! ### the law's judgement -/
theorem cut_take (xs : List V) (m : Nat) : cutV xs none (some (m : Int)) = xs.take m := by
  unfold cutV
  rw [HT.sIx_nat, HT.sIx_none, List.drop_zero, Nat.sub_zero]
  by_cases h : m ≤ xs.length
  · rw [Nat.min_eq_left h]
  · rw [Nat.min_eq_right (by omega), List.take_length, List.take_of_length_le (by omega)]
theorem eqLI (rows : List (List Int)) : PyData.eqv (.list (rows.map encI)) (.list (rows.map encI)) = true := SeqAt.eqv_refl _ (canlay_LI _)
def spJudged (K : PySem.W.Frag) : Sp := fun vs H Q _ => ∃ (F : Hp) (ra ha la : Addr) (hv : List V) (rows held : List (List Int)) (cap : Int) (n k : Nat) (lost : List Int), vs = [.ref ra, .ref ha, .int cap, .int (n : Int), .int (k : Int), .ref la] ∧ Same F H ∧ ChAt K F ra rows ∧ SqL K F ha hv ∧ DpAll K F hv (held.map encL) ∧ RowsOk rows n ∧ HeldOk rows held n ∧ rows.length ≤ 7 ∧ 1 ≤ n ∧ n ≤ 7 ∧ 0 ≤ cap ∧ 1 ≤ k ∧ k ≤ 100 ∧ SqL K F la (lost.map V.int) ∧ (∀ x ∈ lost, 0 ≤ x ∧ x < (n : Int)) ∧ lost.length ≤ 60 ∧
  ∀ F' H', Step F H F' H' → Q (.bl true) H'
theorem ok_L_judged (T : Txt K mg A) : FnOk P w K mg base CX0 8 A.a_L_judged A.d_L_judged ["_law_rows_here", "_law_holders_here", "_law_cap", "_law_seats", "_law_at_once", "_law_lost"] (spJudged K) := by
  refine T.F_L_judged.ok sc_L_judged (fun vs H Q E h => ?_) (fun cdv A' outer s H vs Q E hr h => ?_)
  · obtain ⟨F, ra, ha, la, hv, rows, held, cap, n, kk, lost, rfl, _⟩ := h; rfl
  · obtain ⟨F, ra, ha, la, hv, rows, held, cap, n, kk, lost, rfl, eF, ch, hha, dha, rok, hk, r7, n1, n7, c0, k1, k100, hla, hlost, hl60, k⟩ := h
    have hu64 := hu64_of hr
    have hu65 := hu65_of hr
    obtain ⟨cv, hcv, hcl, dcv⟩ := ch.len
    have hhl := hk.len
    have hvl : hv.length = held.length := by rw [dpa_len dha, List.length_map]
    have ft : Fits rows held n := ⟨hk.len.symm, by omega, rok, hk.sub, n1, by omega⟩
    obtain ⟨b, hb⟩ : ∃ b : Bool, b = true ↔ Lasts cap rows n kk := by classical exact ⟨decide _, decide_eq_true_iff⟩
    obtain ⟨b2, hb2⟩ : ∃ b : Bool, b = true ↔ CB cap rows lost := by classical exact ⟨decide _, decide_eq_true_iff⟩
    refine ⟨_, pss_cons (ps_set (i := 6) sc_L_judged.nd rfl (Or.inl rfl) (ClX.pe_cmeth (pe_glob (v := .ref A.A_Net) rfl T.g_Net rfl) T.cr_Net T.cm_Net_level (PW.toR (ok_Net_level T) T.b_Net_level) (hr.mono (by decide)) pass0 (pa_cons (pv 3) (pa_cons (pv 2) (pa_cons (pe_lc (own := [("_law_row", 13)]) rfl sc_L_judged.nd (pi_listK (K := K) rfl (pv 1)) (blkOk_by (own := [("_law_row", 13)]) (N := ["_law_rows_here", "_law_holders_here", "_law_cap", "_law_seats", "_law_at_once", "_law_lost", "_law_net", "_law_choice", "_law_lasts_here", "_law_told", "_law_fault", "_law_back", "_law_worst", "_law_row"]) (sc := defScope s_L_judged) (by decide +kernel)) (fun _ _ _ _ _ => pg_name (i := 13) sc_L_judged.nd rfl (Or.inl rfl)) (fun _ _ _ _ _ => pts_nil) (fun _ _ _ _ _ => pe_callTy (call_listK (K := K) rfl) (by rfl) T.n_list (by decide +kernel) (pa_cons (pv 13) pa_nil))) pa_nil)))))
  (pss_cons (ps_set (i := 7) sc_L_judged.nd rfl (Or.inl rfl) (pe_callTy (call_listK (K := K) rfl) (by rfl) T.n_list (by decide +kernel) (pa_cons (pv 0) pa_nil)))
  (Evl.pss_cut (ps_set (i := 8) sc_L_judged.nd rfl (Or.inl rfl) (pe_call (ok_L_lasts T) (hr.mono (by decide)) rfl T.g_L_lasts T.F_L_lasts.kp T.b_L_lasts .nil pass0 (pa_cons (pv 0) (pa_cons (pv 2) (pa_cons (pv 3) (pa_cons (pv 4) pa_nil))))))
  (Evl.pss_cut (ps_set (i := 9) sc_L_judged.nd rfl (Or.inl rfl) (pe_call (ok_is_lasting T) (hr.mono (by decide)) rfl T.g_is_lasting T.F_is_lasting.kp T.b_is_lasting .nil pass0 (pa_cons (pv 6) (pa_cons (pv 7) (pa_cons (pv 4) pa_nil)))))
  (pss_cons (ps_if (PW.pt (pw_or (pt_not (pt_val (pe_callB (call_isiK1 (K := K) rfl) (by rfl) T.n_isinstance (by decide +kernel) (pa_cons (pv 9) (pa_cons (pe_bltn (v := .ty "bool") (by rfl) T.n_bool (by decide +kernel) rfl) pa_nil))))) (pw_or (pt_cmpR (op_neK (K := K) rfl hu64) (pv 9) (pv 8) (nomark _)) (pw_or1 (pt_cmpR (op_neK (K := K) rfl hu64) (pv 7) (pv 0) (nomark _)))))) (pss_one (ps_ret (pe_bl))) (pss_nil))
  (Evl.pss_cut (ps_if (PW.pt (pw_and (pt_cmpR (op_gtK (K := K) rfl) (pv 3) (pv 4) (nomark _)) (pw_and (pt_truth (pv 9) (by intro _; rfl)) (pw_and1 (pt_cmpR (op_gtK (K := K) rfl) (pe_callB (call_lenK (K := K) rfl) (by rfl) T.n_len (by decide +kernel) (pa_cons (pv 0) pa_nil)) (pe_op op_fdiv (pe_op op_mulU (pe_op op_mulU (pv 2) (pv 3)) (pe_op op_sub (pv 3) (pv 4))) (pe_op (op_addK (K := K) rfl) (pv 4) (pe_int))) (nomark _)))))) (pss_one (ps_ret (pe_bl))) (pss_nil))
  (Evl.pss_cut (ps_set (i := 10) sc_L_judged.nd rfl (Or.inl rfl) (pe_call (ok_count_fault T) (hr.mono (by decide)) rfl T.g_count_fault T.F_count_fault.kp T.b_count_fault .nil pass0 (pa_cons (pv 7) (pa_cons (pv 3) (pa_cons (pv 2) (pa_cons (pv 4) pa_nil))))))
  (Evl.pss_cut (ps_set (i := 11) sc_L_judged.nd rfl (Or.inl rfl) (pe_call (ok_give_back T) (hr.mono (by decide)) rfl T.g_give_back T.F_give_back.kp T.b_give_back .nil pass0 (pa_cons (pv 6) (pa_cons (pv 7) (pa_cons (pe_callTy (call_listK (K := K) rfl) (by rfl) T.n_list (by decide +kernel) (pa_cons (pv 5) pa_nil)) pa_nil)))))
  (Evl.pss_cut (ps_if (PW.pt (pw_or (pt_cmpR (op_neK (K := K) rfl hu64) (pv 7) (pv 0) (nomark _)) (pw_or (pt_cmpR (op_neK (K := K) rfl hu64) (pe_cmp (pc_isN (pv 10))) (pv 8) (nomark _)) (pw_or1 (pt_cmpR (op_neK (K := K) rfl hu64) (pe_cmp (pc_notN (pv 11))) (pe_call (ok_L_comes_back T) (hr.mono (by decide)) rfl T.g_L_comes_back T.F_L_comes_back.kp T.b_L_comes_back .nil pass0 (pa_cons (pv 0) (pa_cons (pv 2) (pa_cons (pv 5) pa_nil)))) (nomark _)))))) (pss_one (ps_ret (pe_bl))) (pss_nil))
  (Evl.pss_cut (ps_if (pt_cmp (pc_notN (pv 10))) (pss_cons (ps_if (pt_not (pt_val (pe_call (ok_L_is_fault T) (hr.mono (by decide)) rfl T.g_L_is_fault T.F_L_is_fault.kp T.b_L_is_fault .nil pass0 (pa_cons (pv 10) (pa_cons (pv 0) (pa_cons (pv 2) (pa_cons (pv 3) (pa_cons (pv 4) pa_nil)))))))) (pss_one (ps_ret (pe_bl))) (pss_nil))
    (pss_cons (ps_set (i := 12) sc_L_judged.nd rfl (Or.inl rfl) (pe_callB (cr_sortedK (K := K) rfl) (by rfl) T.n_sorted (by decide +kernel) (pa_cons (pe_op (op_addK (K := K) rfl) (pe_lst (pa_cons (pe_ix (ix_K (K := K) rfl) (pv 10) (pe_int) (fun _ _ => rfl)) pa_nil)) (pe_slice (sl_K (K := K) rfl) (pe_callTy (call_listK (K := K) rfl) (by rfl) T.n_list (by decide +kernel) (pa_cons (pe_ix (ix_K (K := K) rfl) (pv 10) (pe_int) (fun _ _ => rfl)) pa_nil)) po_none (po_some (pe_op op_sub (pv 4) (pe_int))))) pa_nil)))
    (pss_one (ps_if (pt_cmp (pc_notN (pe_call (ok_give_back T) (hr.mono (by decide)) rfl T.g_give_back T.F_give_back.kp T.b_give_back .nil pass0 (pa_cons (pv 6) (pa_cons (pv 7) (pa_cons (pv 12) pa_nil)))))) (pss_one (ps_ret (pe_bl))) (pss_nil))))) (pss_nil))
  (pss_one (ps_ret (pe_and (pe_cmpR (op_eqK (K := K) rfl hu64) (pe_callTy (call_listK (K := K) rfl) (by rfl) T.n_list (by decide +kernel) (pa_cons (pe_fldK (K := K) rfl (pv 6) rfl) pa_nil)) (pe_lc (own := [("_law_row", 13)]) rfl sc_L_judged.nd (pi_listK (K := K) rfl (pv 1)) (blkOk_by (own := [("_law_row", 13)]) (N := ["_law_rows_here", "_law_holders_here", "_law_cap", "_law_seats", "_law_at_once", "_law_lost", "_law_net", "_law_choice", "_law_lasts_here", "_law_told", "_law_fault", "_law_back", "_law_worst", "_law_row"]) (sc := defScope s_L_judged) (by decide +kernel)) (fun _ _ _ _ _ => pg_name (i := 13) sc_L_judged.nd rfl (Or.inl rfl)) (fun _ _ _ _ _ => pts_nil) (fun _ _ _ _ _ => pe_callTy (call_tupleK (K := K) rfl) (by rfl) T.n_tuple (by decide +kernel) (pa_cons (pv 13) pa_nil))) (nomark _)) (pe_one (pe_cmpR (op_eqK (K := K) rfl hu64) (pv 7) (pv 0) (nomark _))))))))))))))), ?_⟩
    have w0 := Wd.start eF
    refine ⟨rfl, _, rfl, _, rfl, _, rfl, ha, rfl, ⟨_, same_l eF hha⟩, fun D hD => ?_⟩
    refine lc_wdL (xs := hv) (held.map encL) (by rw [List.length_map, hvl]) w0 hD hha (by omega) ?_ ?_
    · intro i x d F1 H1 acc Q1 hx hd e1 w1 kk
      obtain ⟨d2, hd2, dx⟩ := dpa_get dha hx
      rw [hd] at hd2
      cases hd2
      obtain ⟨h, hh, rfl⟩ := item_map hd
      obtain ⟨q, rfl, hq⟩ := dp_L dx
      refine ⟨rfl, _, rfl, q, _, rfl, .inl (same_l (e1.trans w1.fh) hq), fun l hl => ?_⟩
      obtain ⟨F2, w2, e2, i2⟩ := (Wd.start w1.fh).fixE hl (.lst (h.map V.int))
      exact kk _ F2 _ w2.done (dp_L_of (.of i2))
    · intro vs' F1 H1 e1 w1 da1
      obtain ⟨F2, w2, e2, i2⟩ : ∃ F2, Wd F H F2 H1 [] ∧ Same F1 F2 ∧ F2 D = some (.lst vs') := ⟨_, w1.freeze.1, w1.freeze.2, upd_same⟩
      refine ⟨F2, n, cap, D, vs', held, rfl, n1, by omega, c0, .of i2, dpa_mono e2 da1, hk.up, by omega, w2.fh, fun p F3 H3 st3 hp => ?_⟩
      have w3 := w2.step st3
      refine ⟨_, rfl, ra, cv, rfl, .inl (same_l ((e1.trans (e2.trans st3.ff)).trans w3.fh) hcv), fun l hl => ?_⟩
      obtain ⟨F4, w4, e4, i4⟩ := w3.fixE hl (.lst cv)
      have eA : Same F F4 := e1.trans (e2.trans (st3.ff.trans e4))
      have chl : ChAt K F4 l rows := ⟨cv, .of i4, dpa_mono eA dcv⟩
      have chr : ChAt K F4 ra rows := ch.mono eA
      have net : NetAt K A F4 p n cap held := hp.mono e4
      have dl : ∀ {Fx Hx : Hp}, Same F4 Fx → Wd F H Fx Hx [] → Dp K Hx (.ref l) (.list (rows.map encI)) := fun e w => .lst (.of (w.fh _ _ (e _ _ i4))) (dpa_mono ((eA.trans e).trans w.fh) dcv)
      have dr : ∀ {Fx Hx : Hp}, Same F4 Fx → Wd F H Fx Hx [] → Dp K Hx (.ref ra) (.list (rows.map encI)) := fun e w => .lst (same_l ((eA.trans e).trans w.fh) hcv) (dpa_mono ((eA.trans e).trans w.fh) dcv)
      -- lasting, by the law
      refine ⟨fun σ' H' => ∃ F', σ' = [some (.ref ra), some (.ref ha), some (.int cap), some (.int (n : Int)), some (.int (kk : Int)), some (.ref la), some (.ref p), some (.ref l), some (.bl b), none, none, none, none, none] ∧ Same F4 F' ∧ Wd F H F' H' [], ?_, ?_⟩
      · refine ⟨_, rfl, _, rfl, _, rfl, _, rfl, F4, ra, rows, cap, n, kk, rfl, w4.fh, chr, rok, r7, n7, fun F5 H5 nl st5 => ⟨F5, ?_, st5.ff, w4.step st5⟩, fun F5 H5 yl st5 => ⟨F5, ?_, st5.ff, w4.step st5⟩⟩
        · rw [Bool.eq_false_iff.mpr fun z => nl (hb.mp z)]; rfl
        · rw [hb.mpr yl]; rfl
      · rintro _ H5 ⟨F5, rfl, e5, w5⟩
        refine ⟨fun σ' H' => ∃ F', σ' = [some (.ref ra), some (.ref ha), some (.int cap), some (.int (n : Int)), some (.int (kk : Int)), some (.ref la), some (.ref p), some (.ref l), some (.bl b), some (.bl b), none, none, none, none] ∧ Same F4 F' ∧ Wd F H F' H' [], ?_, ?_⟩
        · refine ⟨_, rfl, _, rfl, _, rfl, F5, p, l, n, kk, cap, held, rows, rfl, w5.fh, net.mono e5, chl.mono e5, ft, n7, by omega, c0, fun F6 H6 nl st6 => ⟨F6, ?_, e5.trans st6.ff, w5.step st6⟩, fun F6 H6 yl st6 => ⟨F6, ?_, e5.trans st6.ff, w5.step st6⟩⟩
          · rw [Bool.eq_false_iff.mpr fun z => nl (hb.mp z)]; rfl
          · rw [hb.mpr yl]; rfl
        · rintro _ H6 ⟨F6, rfl, e6, w6⟩
          refine ⟨_, rfl, .bl b, .ty "bool", _, _, true, rfl, .ty "bool", .base (.bl b), kit_ty (by decide +kernel), true, rfl, iteF ?_⟩
          refine ⟨_, rfl, _, rfl, .inl ⟨rfl, _, rfl, iteNS rfl ?_⟩⟩
          refine ⟨_, rfl, _, rfl, .inr ⟨_, _, dl e6 w6, dr e6 w6, shaped_LI _, shaped_LI _, _, rfl, ?_⟩⟩
          rw [eqLI]
          refine iteF ?_
          -- few enough
          refine ⟨fun σ' H' => σ' = [some (.ref ra), some (.ref ha), some (.int cap), some (.int (n : Int)), some (.int (kk : Int)), some (.ref la), some (.ref p), some (.ref l), some (.bl b), some (.bl b), none, none, none, none] ∧ H' = H6, ?_, ?_⟩
          · refine ⟨_, rfl, _, rfl, .inl ⟨_, _, rfl, rfl, _, rfl, iteD (fun c => ?_) (fun c => iteF ⟨rfl, rfl⟩)⟩⟩
            refine ⟨_, rfl, b, rfl, iteB (fun eb => ?_) (fun eb => iteF ⟨rfl, rfl⟩)⟩
            have hfew := lasts_few rok c0 k1 (by omega) (hb.mp eb)
            refine ⟨_, rfl, _, _, rfl, .inl ⟨_, same_l ((eA.trans e6).trans w6.fh) hcv, rfl⟩, _, rfl, _, rfl, .inl ⟨_, _, rfl, rfl, .inr ⟨by omega, by omega⟩, _, rfl, _, rfl, _, _, rfl, rfl, .inl ⟨_, _, rfl, rfl, .inr ⟨by omega, by omega⟩, _, rfl, .inl ⟨_, _, rfl, rfl, _, _, rfl, rfl, ⟨by omega, by omega⟩, .inl ⟨_, _, rfl, rfl, _, rfl, iteNo ?_ ⟨rfl, rfl⟩⟩⟩⟩⟩⟩
            intro hlt
            rw [hcl] at hlt
            have := (Int.le_ediv_iff_mul_le (show (0 : Int) < (kk : Int) + 1 by omega)).mpr hfew
            omega
          · rintro _ _ ⟨rfl, rfl⟩
            -- the fault
            refine ⟨fun σ' H' => ∃ F' v10, σ' = [some (.ref ra), some (.ref ha), some (.int cap), some (.int (n : Int)), some (.int (kk : Int)), some (.ref la), some (.ref p), some (.ref l), some (.bl b), some (.bl b), some (v10), none, none, none] ∧ Same F4 F' ∧ Wd F H F' H' [] ∧ ((v10 = V.non ∧ b = true) ∨ ∃ t oq seat others, v10 = V.ref t ∧ b = false ∧ (0 ≤ seat ∧ seat < (n : Int)) ∧ others.Sublist ((ntTo n).filter fun x => decide (x ≠ seat)) ∧ Fault cap rows kk seat others ∧ F' t = some (.tup [.int seat, .ref oq]) ∧ SqT K F' oq (others.map V.int)), ?_, ?_⟩
            · refine ⟨_, rfl, _, rfl, _, rfl, _, rfl, F6, l, n, kk, cap, rows, rfl, w6.fh, chl.mono e6, rok, by omega, n7, k100, fun F7 H7 hno st7 => ⟨F7, _, rfl, e6.trans st7.ff, w6.step st7, .inl ⟨rfl, ?_⟩⟩, fun seat others t oq F7 H7 hs hsub hf st7 it io => ⟨F7, _, rfl, e6.trans st7.ff, w6.step st7, .inr ⟨t, oq, seat, others, rfl, ?_, hs, hsub, hf, it, io⟩⟩⟩
              · refine hb.mpr (Classical.byContradiction fun nl => ?_)
                obtain ⟨s', o', h1, h2, h3⟩ := lasts_fault rok c0 k1 nl
                exact hno s' o' h1 h2 h3
              · refine Bool.eq_false_iff.mpr fun z => ?_
                have hmem : ∀ x ∈ others, x ≠ seat ∧ 0 ≤ x ∧ x < (n : Int) := fun x hx => by
                  have h1 := List.mem_filter.mp (hsub.subset hx)
                  exact ⟨of_decide_eq_true h1.2, mem_ntTo.mp h1.1⟩
                exact fault_lasts rok c0 k1 (up_nd (((ntTo_up n).sublist List.filter_sublist).sublist hsub)) (fun h => (hmem seat h).1 rfl) hs (fun x hx => (hmem x hx).2) hf (hb.mp z)
            · rintro _ H7 ⟨F7, v10, rfl, e7, w7, cs⟩
              -- the way back
              refine ⟨fun σ' H' => ∃ F' v11, σ' = [some (.ref ra), some (.ref ha), some (.int cap), some (.int (n : Int)), some (.int (kk : Int)), some (.ref la), some (.ref p), some (.ref l), some (.bl b), some (.bl b), some (v10), some (v11), none, none] ∧ Same F7 F' ∧ Wd F H F' H' [] ∧ decide (v11 = V.non) = !b2, ?_, ?_⟩
              · refine ⟨_, rfl, _, rfl, _, rfl, la, _, rfl, .inl (same_l ((eA.trans e7).trans w7.fh) hla), fun l2 hl2 => ?_⟩
                obtain ⟨F8, w8, e8, i8⟩ := w7.fixE hl2 (.lst (lost.map V.int))
                refine ⟨F8, p, l, l2, n, cap, held, rows, lost, rfl, w8.fh, net.mono (e7.trans e8), chl.mono (e7.trans e8), ft, .of i8, hlost, hl60, by omega, c0, fun F9 H9 nc st9 => ⟨F9, _, rfl, e8.trans st9.ff, w8.step st9, ?_⟩, fun q F9 H9 yc st9 => ⟨F9, _, rfl, e8.trans st9.ff, w8.step st9, ?_⟩⟩
                · rw [Bool.eq_false_iff.mpr fun z => nc (hb2.mp z)]; rfl
                · rw [hb2.mpr yc]; rfl
              · rintro _ H8 ⟨F8, v11, rfl, e8, w8, h11⟩
                refine ⟨fun σ' H' => ∃ F', σ' = [some (.ref ra), some (.ref ha), some (.int cap), some (.int (n : Int)), some (.int (kk : Int)), some (.ref la), some (.ref p), some (.ref l), some (.bl b), some (.bl b), some (v10), some (v11), none, none] ∧ Same F8 F' ∧ Wd F H F' H' [], ?_, ?_⟩
                · refine ⟨_, rfl, _, rfl, .inr ⟨_, _, dl (e7.trans e8) w8, dr (e7.trans e8) w8, shaped_LI _, shaped_LI _, _, rfl, ?_⟩⟩
                  rw [eqLI]
                  refine iteF ?_
                  have h10 : decide (v10 = V.non) = b := by
                    rcases cs with ⟨rfl, h⟩ | ⟨t, oq, s', o', rfl, h, _⟩ <;> rw [h] <;> rfl
                  refine ⟨_, rfl, _, rfl, .inl ⟨rfl, _, rfl, iteNS (by rw [h10]) ?_⟩⟩
                  refine ⟨_, rfl, _, rfl, _, rfl, _, rfl, F8, ra, la, rows, cap, lost, n, rfl, w8.fh, chr.mono (e7.trans e8), rok, r7, n7, same_l (eA.trans (e7.trans e8)) hla, fun F9 H9 nc st9 => .inl ⟨rfl, _, rfl, iteNS ?_ ⟨F9, rfl, st9.ff, w8.step st9⟩⟩, fun F9 H9 yc st9 => .inl ⟨rfl, _, rfl, iteNS ?_ ⟨F9, rfl, st9.ff, w8.step st9⟩⟩⟩
                  · rw [h11, Bool.eq_false_iff.mpr fun z => nc (hb2.mp z)]; rfl
                  · rw [h11, hb2.mpr yc]; rfl
                · rintro _ H9 ⟨F9, rfl, e9, w9⟩
                  -- the fault, looked at
                  refine ⟨fun σ' H' => ∃ F' v12, σ' = [some (.ref ra), some (.ref ha), some (.int cap), some (.int (n : Int)), some (.int (kk : Int)), some (.ref la), some (.ref p), some (.ref l), some (.bl b), some (.bl b), some (v10), some (v11), v12, none] ∧ Same F9 F' ∧ Wd F H F' H' [], ?_, ?_⟩
                  · rcases cs with ⟨rfl, h⟩ | ⟨t, oq, seat, others, rfl, h, hs, hsub, hf, it, io⟩
                    · exact ⟨_, rfl, _, rfl, iteF ⟨F9, _, rfl, .refl _, w9⟩⟩
                    · refine ⟨_, rfl, _, rfl, iteT ?_⟩
                      have e89 := e8.trans e9
                      have eB : Same F4 F9 := e7.trans e89
                      refine ⟨_, rfl, _, rfl, _, rfl, _, rfl, _, rfl, F9, t, oq, ra, seat, others, rows, cap, n, kk, rfl, w9.fh, e89 _ _ it, same_t e89 io, chr.mono eB, rok, r7, n7, k100, hs, hsub, hf, fun F10 H10 st10 => ⟨true, rfl, iteF ?_⟩⟩
                      have wa := w9.step st10
                      have ea := e89.trans st10.ff
                      have hmem : ∀ x ∈ others, x ≠ seat ∧ 0 ≤ x ∧ x < (n : Int) := fun x hx => by
                        have h1 := List.mem_filter.mp (hsub.subset hx)
                        exact ⟨of_decide_eq_true h1.2, mem_ntTo.mp h1.1⟩
                      have hol : others.length ≤ 7 := by
                        have h1 := hsub.length_le
                        have h2 := List.length_filter_le (fun x => decide (x ≠ seat)) (ntTo n)
                        rw [ntTo_len] at h2
                        omega
                      refine ⟨_, rfl, tup_ix (v := .int seat) (.of (wa.fh _ _ (ea _ _ it))) (by decide) rfl ⟨by show 1 ≤ sizeLine; decide, fun p1 hp1 => ?_⟩⟩
                      obtain ⟨Fb, wb, eb, ib⟩ := wa.fixE hp1 (.lst [.int seat])
                      refine ⟨_, rfl, tup_ix (v := .ref oq) (.of (wb.fh _ _ ((ea.trans eb) _ _ it))) (by decide) rfl ⟨oq, _, rfl, .inr (same_t ((ea.trans eb).trans wb.fh) io), fun p2 hp2 => ?_⟩⟩
                      obtain ⟨Fc, wc, ec, ic⟩ := wb.fixE hp2 (.lst (others.map V.int))
                      refine ⟨_, rfl, _, _, rfl, rfl, _, rfl, .inr (.inl ⟨p2, _, rfl, .of (wc.fh _ _ ic), fun p3 hp3 => ?_⟩)⟩
                      rw [show ((kk : Int) - 1) = ((kk - 1 : Nat) : Int) by omega, cut_take, ← List.map_take]
                      obtain ⟨Fd, wd, ed, id⟩ := wc.fixE hp3 (.lst ((others.take (kk - 1)).map V.int))
                      refine .inr (.inr (.inl ⟨p1, p3, _, _, rfl, rfl, wd.fh _ _ ((ec.trans ed) _ _ ib), wd.fh _ _ id, small (by rw [List.length_map, List.length_take]; show 1 + _ ≤ _; omega), fun p4 hp4 => ?_⟩))
                      obtain ⟨Fe, we, ee, ie⟩ := wd.fixE hp4 (.lst ((seat :: others.take (kk - 1)).map V.int))
                      refine ⟨p4, seat :: others.take (kk - 1), rfl, .of (we.fh _ _ ie), fun ns' p5 hperm _ hp5 => ?_⟩
                      obtain ⟨Ff, wf, ef, if_⟩ := we.fixE hp5 (.lst (ns'.map V.int))
                      have eZ : Same F4 Ff := eB.trans (st10.ff.trans (eb.trans (ec.trans (ed.trans (ee.trans ef)))))
                      have hcut := fault_cut rok c0 k1 (up_nd (((ntTo_up n).sublist List.filter_sublist).sublist hsub)) (fun h => (hmem seat h).1 rfl) hf
                      have ncb : ¬ CB cap rows ns' := fun z => hcut (cb_mem (fun x => hperm.mem_iff) z)
                      have hlm : ∀ x ∈ ns', 0 ≤ x ∧ x < (n : Int) := fun x hx => by
                        rcases List.mem_cons.mp (hperm.mem_iff.mp hx) with h | h
                        · rw [h]; exact hs
                        · exact (hmem x (List.mem_of_mem_take h)).2
                      have hll : ns'.length ≤ 60 := by
                        rw [hperm.length_eq, List.length_cons, List.length_take]
                        omega
                      refine ⟨_, rfl, _, rfl, _, rfl, Ff, p, l, p5, n, cap, held, rows, ns', rfl, wf.fh, net.mono eZ, chl.mono eZ, ft, .of if_, hlm, hll, by omega, c0, fun F11 H11 nc st11 => ⟨_, rfl, iteF ?_⟩, fun q F11 H11 yc st11 => absurd yc ncb⟩
                      exact ⟨F11, _, rfl, st10.ff.trans (eb.trans (ec.trans (ed.trans (ee.trans (ef.trans st11.ff))))), wf.step st11⟩
                  · rintro _ H10 ⟨F10, v12, rfl, e10, w10⟩
                    have eB : Same F4 F10 := e7.trans (e8.trans (e9.trans e10))
                    obtain ⟨dx, nr, nh, g1, g2, g3⟩ := net.mono eB
                    obtain ⟨a', nv, ea', g4, g5⟩ := dp_tup g3
                    cases ea'
                    refine ⟨_, rfl, p, _, dx, _, _, rfl, w10.fh _ _ g1, T.cl_Net, T.o_Net_holders, nf_holders .., nh, nv, rfl, .inr (same_t w10.fh g4), fun l5 hl5 => ?_⟩
                    obtain ⟨F11, w11, e11, i11⟩ := w10.fixE hl5 (.lst nv)
                    have eH : Same F F11 := eA.trans (eB.trans e11)
                    refine ⟨_, rfl, ha, rfl, ⟨_, same_l (eH.trans w11.fh) hha⟩, fun D2 hD2 => ?_⟩
                    refine lc_wdL (xs := hv) (held.map encI) (by rw [List.length_map, hvl]) w11 hD2 (same_l eH hha) (by omega) ?_ ?_
                    · intro i x d F1 H1 acc Q1 hx hd e1 w1 kk
                      obtain ⟨d2, hd2, dx⟩ := dpa_get dha hx
                      obtain ⟨h, hh, rfl⟩ := item_map hd2
                      rw [List.getElem?_map, hh] at hd
                      cases hd
                      obtain ⟨q, rfl, hq⟩ := dp_L dx
                      refine ⟨rfl, _, rfl, q, _, rfl, .inl ⟨same_l ((eH.trans e1).trans w1.fh) hq, fun l hl => ?_⟩⟩
                      obtain ⟨F2, w2, e2, i2⟩ := (Wd.start w1.fh).fixE hl (.tup (h.map V.int))
                      exact kk _ F2 _ w2.done (dp_I_of (.of i2))
                    · intro rv F12 H12 e12 w12 da12
                      obtain ⟨F13, w13, e13, i13⟩ : ∃ F13, Wd F H F13 H12 [] ∧ Same F12 F13 ∧ F13 D2 = some (.lst rv) := ⟨_, w12.freeze.1, w12.freeze.2, upd_same⟩
                      have eG := e11.trans (e12.trans e13)
                      refine .inr ⟨_, _, .lst (.of (w13.fh _ _ ((e12.trans e13) _ _ i11))) (dpa_mono (eG.trans w13.fh) g5), .lst (.of (w13.fh _ _ i13)) (dpa_mono (e13.trans w13.fh) da12), shaped_LI _, shaped_LI _, ?_⟩
                      rw [eqLI]
                      refine ⟨true, rfl, iteT ?_⟩
                      refine ⟨_, rfl, _, rfl, .inr ⟨_, _, dl (eB.trans eG) w13, dr (eB.trans eG) w13, shaped_LI _, shaped_LI _, ?_⟩⟩
                      rw [eqLI]
                      exact k F13 _ w13.done

end
end Q

set_option Elab.async false
set_option linter.all false
set_option maxRecDepth 100000
set_option maxHeartbeats 8000000
namespace Q
open PySem PySem.Spec PyProof.Rows L2 PW Nt
section
variable {P : Program} {w : World} {K : PySem.W.Frag} {mg : Str → Option Value} {base : Heap} {A : Ad}
/-! ### the law -/
def szL : List Int := [8, 840, 840, 8, 12, 840, 60]
theorem szL_ok : ∀ s ∈ szL, 0 < s ∧ s < 1073741824 := by decide
theorem dpa_take {H : Hp} : ∀ {vs : List V} {ds : List PyData} (m : Nat), DpAll K H vs ds → DpAll K H (vs.take m) (ds.take m)
  | [], [], m, _ => by rw [List.take_nil, List.take_nil]; exact .nil
  | v :: vs, d :: ds, 0, _ => .nil
  | v :: vs, d :: ds, m + 1, h => by cases h with | cons a b => exact .cons a (dpa_take m b)
  | [], _ :: _, _, h => by cases h
  | _ :: _, [], _, h => by cases h
theorem held_take {rows held : List (List Int)} {n m : Nat} (h : HeldOk rows held n) : HeldOk (rows.take m) (held.take m) n := by
  refine ⟨by rw [List.length_take, List.length_take, h.len], fun x hx => h.up x (List.mem_of_mem_take hx), fun i r x hr hx => ?_⟩
  have hi : i < m := by
    have := (List.getElem?_eq_some_iff.mp hr).1
    rw [List.length_take] at this
    omega
  rw [List.getElem?_take, if_pos hi] at hr hx
  exact h.sub i r x hr hx
theorem caps_at {i : Nat} (h : i < 8) : ∃ c : Int, [V.int 0, .int 1, .int 1, .int 1, .int 1, .int 2, .int 2, .int (10 ^ (30 : Int).toNat)][i]? = some (.int c) ∧ 0 ≤ c := by
  have : i = 0 ∨ i = 1 ∨ i = 2 ∨ i = 3 ∨ i = 4 ∨ i = 5 ∨ i = 6 ∨ i = 7 := by omega
  rcases this with rfl | rfl | rfl | rfl | rfl | rfl | rfl | rfl <;> exact ⟨_, rfl, by decide⟩
theorem once_at {i : Nat} (h : i < 12) : ∃ c : Nat, [V.int 1, .int 1, .int 1, .int 1, .int 1, .int 2, .int 2, .int 2, .int 3, .int 4, .int 5, .int 6][i]? = some (.int (c : Int)) ∧ 1 ≤ c ∧ c ≤ 6 := by
  have : i = 0 ∨ i = 1 ∨ i = 2 ∨ i = 3 ∨ i = 4 ∨ i = 5 ∨ i = 6 ∨ i = 7 ∨ i = 8 ∨ i = 9 ∨ i = 10 ∨ i = 11 := by omega
  rcases this with rfl | rfl | rfl | rfl | rfl | rfl | rfl | rfl | rfl | rfl | rfl | rfl
  all_goals first | exact ⟨1, rfl, by decide, by decide⟩ | exact ⟨2, rfl, by decide, by decide⟩ | exact ⟨3, rfl, by decide, by decide⟩ | exact ⟨4, rfl, by decide, by decide⟩ | exact ⟨5, rfl, by decide, by decide⟩ | exact ⟨6, rfl, by decide, by decide⟩
theorem asc_some {n k : Nat} (h : k ≤ n) : 0 < (ascL n k).length := by
  refine List.length_pos_of_mem (a := (ntTo n).take k) (mem_ascL.mpr ⟨(ntTo_up n).sublist (List.take_sublist _ _), by rw [List.length_take, ntTo_len]; omega, fun x hx => mem_ntTo.mp (List.mem_of_mem_take hx)⟩)
def spLaw (K : PySem.W.Frag) : Sp := fun vs H Q _ => ∃ (a : Addr) (ns : List Int), vs = [.ref a] ∧ SqL K H a (ns.map V.int) ∧ ns.length ≤ 63 ∧ ∀ H', Q (.bl true) H'
theorem ok_law (T : Txt K mg A) : FnOk P w K mg base CX0 20 A.a_law A.d_law ["_law_script"] (spLaw K) := by
  suffices G : FnOk P w K mg base CX0 10 A.a_law A.d_law ["_law_script"] (spLaw K) from G.mono (by decide)
  refine T.F_law.ok sc_law (fun vs H Q E h => ?_) (fun cdv A' outer s H vs Q E hr h => ?_)
  · obtain ⟨a, ns, rfl, _⟩ := h; rfl
  · obtain ⟨a, ns, rfl, hs, hn, k⟩ := h
    have hu64 := hu64_of hr
    have w := Wd.start (Same.refl H)
    refine ⟨_, pss_cons (ps_set (i := 1) sc_law.nd rfl (Or.inl rfl) (pe_call (ok_L_draws T) (hr.mono (by decide)) rfl T.g_L_draws T.F_L_draws.kp T.b_L_draws .nil pass0 (pa_cons (pe_call (ok_L_cell T) (hr.mono (by decide)) rfl T.g_L_cell T.F_L_cell.kp T.b_L_cell .nil pass0 (pa_cons (pv 0) (pa_cons (pe_int) pa_nil))) (pa_cons (pe_lst (pa_cons (pe_int) (pa_cons (pe_int) (pa_cons (pe_int) (pa_cons (pe_int) (pa_cons (pe_int) (pa_cons (pe_int) (pa_cons (pe_int) pa_nil)))))))) pa_nil))))
  (pss_cons (ps_set (i := 2) sc_law.nd rfl (Or.inl rfl) (pe_op (op_addK (K := K) rfl) (pe_int) (pe_op op_mod (pe_callTy call_intU (by rfl) T.n_int (by decide +kernel) (pa_cons (pe_ix (ix_K (K := K) rfl) (pv 1) (pe_int) (fun _ _ => rfl)) pa_nil)) (pe_int))))
  (pss_cons (ps_set (i := 3) sc_law.nd rfl (Or.inl rfl) (pe_int))
  (Evl.pss_cut (ps_if (pt_cmpR (op_eqK (K := K) rfl hu64) (pv 2) (pe_int) (nomark _)) (pss_one (ps_set (i := 3) sc_law.nd rfl (Or.inl rfl) (pe_int))) (pss_nil))
  (Evl.pss_cut (ps_if (pt_cmpR (op_eqK (K := K) rfl hu64) (pe_ix (ix_K (K := K) rfl) (pv 1) (pe_int) (fun _ _ => rfl)) (pe_int) (nomark _)) (pss_cons (ps_set (i := 2) sc_law.nd rfl (Or.inl rfl) (pe_int))
    (pss_one (ps_set (i := 3) sc_law.nd rfl (Or.inl rfl) (pe_int)))) (pss_nil))
  (pss_cons (ps_set (i := 4) sc_law.nd rfl (Or.inl rfl) (pe_ix (ix_K (K := K) rfl) (pe_tup (pa_cons (pe_int) (pa_cons (pe_int) (pa_cons (pe_int) (pa_cons (pe_int) (pa_cons (pe_int) (pa_cons (pe_int) (pa_cons (pe_int) (pa_cons (pe_op op_pow (pe_int) (pe_int)) pa_nil))))))))) (pe_ix (ix_K (K := K) rfl) (pv 1) (pe_int) (fun _ _ => rfl)) (fun _ _ => rfl)))
  (pss_cons (ps_set (i := 5) sc_law.nd rfl (Or.inl rfl) (pe_ix (ix_K (K := K) rfl) (pe_tup (pa_cons (pe_int) (pa_cons (pe_int) (pa_cons (pe_int) (pa_cons (pe_int) (pa_cons (pe_int) (pa_cons (pe_int) (pa_cons (pe_int) (pa_cons (pe_int) (pa_cons (pe_int) (pa_cons (pe_int) (pa_cons (pe_int) (pa_cons (pe_int) pa_nil))))))))))))) (pe_ix (ix_K (K := K) rfl) (pv 1) (pe_int) (fun _ _ => rfl)) (fun _ _ => rfl)))
  (pss_cons (ps_set (i := 6) sc_law.nd rfl (Or.inl rfl) (pe_op op_mod (pe_callTy call_intU (by rfl) T.n_int (by decide +kernel) (pa_cons (pe_ix (ix_K (K := K) rfl) (pv 1) (pe_int) (fun _ _ => rfl)) pa_nil)) (pv 3)))
  (pss_cons (ps_set (i := 7) sc_law.nd rfl (Or.inl rfl) (pe_call (ok_L_rows T) (hr.mono (by decide)) rfl T.g_L_rows T.F_L_rows.kp T.b_L_rows .nil pass0 (pa_cons (pv 2) (pa_cons (pe_op (op_addK (K := K) rfl) (pv 6) (pe_int)) (pa_cons (pe_call (ok_L_cell T) (hr.mono (by decide)) rfl T.g_L_cell T.F_L_cell.kp T.b_L_cell .nil pass0 (pa_cons (pv 0) (pa_cons (pe_int) pa_nil))) pa_nil)))))
  (pss_cons (ps_set (i := 8) sc_law.nd rfl (Or.inl rfl) (pe_call (ok_L_holders T) (hr.mono (by decide)) rfl T.g_L_holders T.F_L_holders.kp T.b_L_holders .nil pass0 (pa_cons (pv 7) (pa_cons (pv 2) (pa_cons (pe_call (ok_L_cell T) (hr.mono (by decide)) rfl T.g_L_cell T.F_L_cell.kp T.b_L_cell .nil pass0 (pa_cons (pv 0) (pa_cons (pe_int) pa_nil))) pa_nil)))))
  (pss_cons (ps_set (i := 9) sc_law.nd rfl (Or.inl rfl) (pe_call (ok_L_losses T) (hr.mono (by decide)) rfl T.g_L_losses T.F_L_losses.kp T.b_L_losses .nil pass0 (pa_cons (pv 2) (pa_cons (pe_callB (call_min2 rfl) (by rfl) T.n_min (by decide +kernel) (pa_cons (pv 2) (pa_cons (pe_op (op_addK (K := K) rfl) (pe_op op_mod (pe_callTy call_intU (by rfl) T.n_int (by decide +kernel) (pa_cons (pe_ix (ix_K (K := K) rfl) (pv 1) (pe_int) (fun _ _ => rfl)) pa_nil)) (pv 5)) (pe_int)) pa_nil))) pa_nil))))
  (pss_cons (ps_set (i := 10) sc_law.nd rfl (Or.inl rfl) (pe_ix (ix_K (K := K) rfl) (pv 9) (pe_op op_mod (pe_callTy call_intU (by rfl) T.n_int (by decide +kernel) (pa_cons (pe_ix (ix_K (K := K) rfl) (pv 1) (pe_int) (fun _ _ => rfl)) pa_nil)) (pe_callB (call_lenK (K := K) rfl) (by rfl) T.n_len (by decide +kernel) (pa_cons (pv 9) pa_nil))) (fun _ _ => rfl)))
  (pss_cons (ps_if (pt_not (pt_val (pe_call (ok_L_judged T) (hr.mono (by decide)) rfl T.g_L_judged T.F_L_judged.kp T.b_L_judged .nil pass0 (pa_cons (pe_slice (sl_K (K := K) rfl) (pv 7) po_none (po_some (pv 6))) (pa_cons (pe_slice (sl_K (K := K) rfl) (pv 8) po_none (po_some (pv 6))) (pa_cons (pv 4) (pa_cons (pv 2) (pa_cons (pv 5) (pa_cons (pv 10) pa_nil))))))))) (pss_one (ps_ret (pe_bl))) (pss_nil))
  (pss_one (ps_ret (pe_call (ok_L_judged T) (hr.mono (by decide)) rfl T.g_L_judged T.F_L_judged.kp T.b_L_judged .nil pass0 (pa_cons (pv 7) (pa_cons (pv 8) (pa_cons (pv 4) (pa_cons (pv 2) (pa_cons (pv 5) (pa_cons (pv 10) pa_nil))))))))))))))))))))), ?_⟩
    refine ⟨_, rfl, a, ns, 0, rfl, hs, by decide, fun H1 s1 => ?_⟩
    have w1 := w.same s1
    refine ⟨by show 7 ≤ sizeLine; decide, fun p1 hp1 => ?_⟩
    obtain ⟨F2, w2, e2, i2⟩ := w1.fixE hp1 (.lst (szL.map V.int))
    refine ⟨F2, _, p1, szL, rfl, .of upd_same, szL_ok, by decide, w2.fh, fun dq F3 H3 ds st3 dr hdq => ?_⟩
    have w3 := w2.step st3
    obtain ⟨d0, D0, a0, b0⟩ := drawn_at dr (i := 0) (s := 8) rfl
    obtain ⟨d1, D1, a1, b1⟩ := drawn_at dr (i := 1) (s := 840) rfl
    obtain ⟨d2, D2, a2, b2⟩ := drawn_at dr (i := 2) (s := 840) rfl
    obtain ⟨d3, D3, a3, b3⟩ := drawn_at dr (i := 3) (s := 8) rfl
    obtain ⟨d4, D4, a4, b4⟩ := drawn_at dr (i := 4) (s := 12) rfl
    obtain ⟨d5, D5, a5, b5⟩ := drawn_at dr (i := 5) (s := 840) rfl
    obtain ⟨d6, D6, a6, b6⟩ := drawn_at dr (i := 6) (s := 60) rfl
    have hm4 : 0 ≤ d1 % 4 ∧ d1 % 4 < 4 := ⟨Int.emod_nonneg _ (by decide), Int.emod_lt_of_pos _ (by decide)⟩
    obtain ⟨n0, hn0⟩ : ∃ n : Nat, 2 + d1 % 4 = (n : Int) := ⟨(2 + d1 % 4).toNat, by omega⟩
    refine ⟨_, rfl, row_ix (w3.l hdq) D1 rfl (.inl ⟨_, rfl, _, _, rfl, rfl, (by show (0 : Int) < 4; decide), .inl ⟨_, _, rfl, rfl, ?_⟩⟩)⟩
    dsimp only
    rw [hn0]
    refine ⟨fun σ' H' => ∃ (n lim : Nat), σ' = [some (.ref a), some (.ref dq), some (.int (n : Int)), some (.int (lim : Int)), none, none, none, none, none, none, none] ∧ H3 = H' ∧ 2 ≤ n ∧ n ≤ 6 ∧ 1 ≤ lim ∧ lim ≤ 7, ?_, ?_⟩
    · refine ⟨_, rfl, .inl ⟨rfl, _, rfl, iteD (fun c => ?_) (fun c => ?_)⟩⟩
      · exact ⟨n0, 6, rfl, rfl, by omega, by omega, by decide, by decide⟩
      · exact ⟨n0, 7, rfl, rfl, by omega, by omega, by decide, by decide⟩
    · rintro _ _ ⟨n1, lim1, rfl, rfl, x1, x2, x3, x4⟩
      refine ⟨fun σ' H' => ∃ (n lim : Nat), σ' = [some (.ref a), some (.ref dq), some (.int (n : Int)), some (.int (lim : Int)), none, none, none, none, none, none, none] ∧ H3 = H' ∧ 2 ≤ n ∧ n ≤ 6 ∧ 1 ≤ lim ∧ lim ≤ 7, ?_, ?_⟩
      · refine ⟨_, rfl, row_ix (w3.l hdq) D0 rfl (.inl ⟨rfl, _, rfl, iteD (fun c => ?_) (fun c => ?_)⟩)⟩
        · exact ⟨6, 5, rfl, rfl, by decide, by decide, by decide, by decide⟩
        · exact ⟨n1, lim1, rfl, rfl, x1, x2, x3, x4⟩
      · rintro _ _ ⟨n, lim, rfl, rfl, y1, y2, y3, y4⟩
        -- the cap
        refine ⟨_, _, rfl, rfl, ⟨by decide, by decide, by decide⟩, by show 8 ≤ sizeLine; decide, fun p4 hp4 => ?_⟩
        obtain ⟨F4, w4, e4, i4⟩ := w3.fixE hp4 (.tup [.int 0, .int 1, .int 1, .int 1, .int 1, .int 2, .int 2, .int (10 ^ (30 : Int).toNat)])
        obtain ⟨cap, hcap, c0⟩ := caps_at (i := d3.toNat) (by omega)
        refine ⟨_, rfl, row_ix (w4.l (same_l e4 hdq)) D3 rfl (tup_ix (v := .int cap) (.of upd_same) a3 hcap ?_)⟩
        -- at once
        refine ⟨by show 12 ≤ sizeLine; decide, fun p5 hp5 => ?_⟩
        obtain ⟨F5, w5, e5, i5⟩ := w4.fixE hp5 (.tup [.int 1, .int 1, .int 1, .int 1, .int 1, .int 2, .int 2, .int 2, .int 3, .int 4, .int 5, .int 6])
        obtain ⟨kk, hkk, k1, k6⟩ := once_at (i := d4.toNat) (by omega)
        have hd5 : SqL K F5 dq (ds.map V.int) := same_l (e4.trans e5) hdq
        refine ⟨_, rfl, row_ix (w5.l hd5) D4 rfl (tup_ix (v := .int (kk : Int)) (.of upd_same) a4 hkk ?_)⟩
        -- how many
        obtain ⟨m, hm⟩ : ∃ m : Nat, d2 % (lim : Int) = (m : Int) := ⟨(d2 % (lim : Int)).toNat, by have := emod_in d2 y3; omega⟩
        have hml : m < lim := by have := emod_in d2 y3; omega
        refine ⟨_, rfl, row_ix (w5.l hd5) D2 rfl (.inl ⟨_, rfl, _, rfl, _, _, rfl, rfl, (by show (0 : Int) < (lim : Int); omega), ?_⟩)⟩
        dsimp only
        rw [hm]
        -- the rows
        have hs5 : SqL K F5 a (ns.map V.int) := same_l (e2.trans (st3.ff.trans (e4.trans e5))) hs
        refine ⟨_, rfl, _, rfl, .inl ⟨_, _, rfl, rfl, _, rfl, a, ns, 1, rfl, w5.l hs5, by decide, fun H6 s6 => ?_⟩⟩
        have w6 := w5.same s6
        refine ⟨F5, n, m + 1, _, rfl, by omega, by omega, by omega, w6.fh, fun rq F7 H7 rows st7 ch hrl rok => ?_⟩
        have w7 := w6.step st7
        -- the holders
        refine ⟨_, rfl, _, rfl, _, rfl, a, ns, 2, rfl, w7.l (same_l st7.ff hs5), by decide, fun H8 s8 => ?_⟩
        have w8 := w7.same s8
        refine ⟨F7, rq, rows, n, _, rfl, ch, rok, by omega, by omega, w8.fh, fun hq F9 H9 hv held st9 hhq dhv hok => ?_⟩
        have w9 := w8.step st9
        have hd9 : SqL K F9 dq (ds.map V.int) := same_l (st7.ff.trans st9.ff) hd5
        -- the losses
        obtain ⟨kz, hkz⟩ : ∃ z : Nat, d6 % (kk : Int) + 1 = (z : Int) := ⟨(d6 % (kk : Int) + 1).toNat, by have := emod_in d6 k1; omega⟩
        have emin : (if d6 % (kk : Int) + 1 < (n : Int) then d6 % (kk : Int) + 1 else (n : Int)) = ((min kz n : Nat) : Int) := by
          rw [hkz]
          by_cases c : (kz : Int) < (n : Int)
          · rw [if_pos c]; omega
          · rw [if_neg c]; omega
        refine ⟨_, rfl, _, rfl, _, rfl, row_ix (w9.l hd9) D6 rfl (.inl ⟨_, rfl, _, rfl, _, _, rfl, rfl, (by show (0 : Int) < (kk : Int); omega), .inl ⟨_, _, rfl, rfl, _, _, rfl, ?_⟩⟩)⟩
        dsimp only
        rw [emin]
        refine ⟨F9, n, min kz n, rfl, by omega, Nat.min_le_right _ _, w9.fh, fun lq F10 H10 xs st10 hlq dlq => ?_⟩
        have w10 := w9.step st10
        have hxl : xs.length = (ascL n (min kz n)).length := by rw [dpa_len dlq, List.length_map]
        have hpos := asc_some (n := n) (k := min kz n) (Nat.min_le_right _ _)
        have hix : 0 ≤ d5 % (xs.length : Int) ∧ d5 % (xs.length : Int) < (xs.length : Int) := emod_in d5 (by omega)
        obtain ⟨v, hv', dv⟩ : ∃ v, xs[(d5 % (xs.length : Int)).toNat]? = some v ∧ ∃ c, (ascL n (min kz n))[(d5 % (xs.length : Int)).toNat]? = some c ∧ Dp K F10 v (encL c) := by
          have hlt : (d5 % (xs.length : Int)).toNat < xs.length := by omega
          refine ⟨_, List.getElem?_eq_getElem hlt, ?_⟩
          obtain ⟨d, hd, dx⟩ := dpa_get dlq (List.getElem?_eq_getElem hlt)
          obtain ⟨c, hc, rfl⟩ := item_map hd
          exact ⟨c, hc, dx⟩
        obtain ⟨lost, hlost, dv⟩ := dv
        obtain ⟨la, rfl, hla⟩ := dp_L dv
        obtain ⟨_, hll, hlm⟩ := mem_ascL.mp (List.mem_of_getElem? hlost)
        have hd10 := same_l st10.ff hd9
        refine ⟨_, rfl, _, rfl, row_ix (w10.l hd10) D5 rfl (.inl ⟨_, rfl, _, rfl, _, _, rfl, .inl ⟨_, w10.l hlq, rfl⟩, _, _, rfl, rfl, (by show (0 : Int) < (xs.length : Int); omega), list_ix (w10.l hlq) hix.1 hv' ?_⟩)⟩
        -- without the last one
        obtain ⟨rv, hrv, drv⟩ := (ch.mono (st9.ff.trans st10.ff)).ex
        have hhv : SqL K F10 hq hv := same_l st10.ff hhq
        have dhv10 := dpa_mono st10.ff dhv
        refine ⟨_, rfl, _, rfl, _, rfl, .inr (.inl ⟨rq, rv, rfl, w10.l hrv, fun p11 hp11 => ?_⟩)⟩
        rw [cut_take]
        obtain ⟨F11, w11, e11, i11⟩ := w10.fixE hp11 (.lst (rv.take m))
        refine ⟨_, rfl, _, rfl, _, rfl, .inr (.inl ⟨hq, hv, rfl, w11.l (same_l e11 hhv), fun p12 hp12 => ?_⟩)⟩
        rw [cut_take]
        obtain ⟨F12, w12, e12, i12⟩ := w11.fixE hp12 (.lst (hv.take m))
        have eZ := e11.trans e12
        refine ⟨_, rfl, _, rfl, _, rfl, _, rfl, F12, p11, p12, la, hv.take m, rows.take m, held.take m, cap, n, kk, lost, rfl, w12.fh, ⟨rv.take m, .of (e12 _ _ i11), by rw [List.map_take]; exact dpa_take m (dpa_mono eZ drv)⟩, .of i12, by rw [List.map_take]; exact dpa_take m (dpa_mono eZ dhv10), rows_sub rok (List.take_sublist _ _), held_take hok, by rw [List.length_take]; omega, by omega, by omega, c0, k1, by omega, same_l eZ hla, hlm, by omega, fun F13 H13 st13 => ⟨true, rfl, iteF ?_⟩⟩
        have w13 := w12.step st13
        have eY := eZ.trans st13.ff
        exact ⟨_, rfl, _, rfl, _, rfl, _, rfl, _, rfl, _, rfl, F13, rq, hq, la, hv, rows, held, cap, n, kk, lost, rfl, w13.fh, ⟨rv, same_l eY hrv, dpa_mono eY drv⟩, same_l eY hhv, dpa_mono eY dhv10, rok, hok, by omega, by omega, by omega, c0, k1, by omega, same_l eY hla, hlm, by omega, fun F14 H14 st14 => k H14⟩

end
end Q

set_option Elab.async false
set_option linter.all false
set_option maxRecDepth 100000
set_option maxHeartbeats 8000000
namespace Q
open PySem PySem.Spec PyProof.Rows L2 PW Nt
theorem all_mk {P : Program} {w : World} {K : PySem.W.Frag} {h : Heap} {mg : Str → Option Value} {fa f_L_draws f_L_bits f_L_rows f_L_holders f_L_losses f_Net_level f_L_comes_back f_L_lasts f_are_roads f_has_twice f_are_below f_clean_holders f_Net_init f_is_rising f_check_choice f_lists_of f_find_road f_with_road f_senders_for f_give_back f_is_lasting f_tuples_of f_is_within f_count_fault f_L_is_integer f_L_is_fault f_L_judged f_L_cell f_law p_Net_level C_Net C_InvalidPool C_InvalidChoice C_PoolError : Addr} (X : K.In h) (G : h.Ns mainGlobals mg) (hfa : mg "law" = some (.ref fa))
    {od_L_draws an_L_draws od_L_bits an_L_bits od_L_rows an_L_rows od_L_holders an_L_holders od_L_losses an_L_losses od_Net_level an_Net_level od_L_comes_back an_L_comes_back od_L_lasts an_L_lasts od_are_roads an_are_roads od_has_twice an_has_twice od_are_below an_are_below od_clean_holders an_clean_holders od_Net_init an_Net_init od_is_rising an_is_rising od_check_choice an_check_choice od_lists_of an_lists_of od_find_road an_find_road od_with_road an_with_road od_senders_for an_senders_for od_give_back an_give_back od_is_lasting an_is_lasting od_tuples_of an_tuples_of od_is_within an_is_within od_count_fault an_count_fault od_L_is_integer an_L_is_integer od_L_is_fault an_L_is_fault od_L_judged an_L_judged od_L_cell an_L_cell od_law an_law : Option Addr} {sl_L_draws sl_L_bits sl_L_rows sl_L_holders sl_L_losses sl_Net_level sl_L_comes_back sl_L_lasts sl_are_roads sl_has_twice sl_are_below sl_clean_holders sl_Net_init sl_is_rising sl_check_choice sl_lists_of sl_find_road sl_with_road sl_senders_for sl_give_back sl_is_lasting sl_tuples_of sl_is_within sl_count_fault sl_L_is_integer sl_L_is_fault sl_L_judged sl_L_cell sl_law : Array (Option Value)} {oc_L_draws kV_L_draws dc_L_draws pm_L_draws cd_L_draws ct_L_draws oc_L_bits kV_L_bits dc_L_bits pm_L_bits cd_L_bits ct_L_bits oc_L_rows kV_L_rows dc_L_rows pm_L_rows cd_L_rows ct_L_rows oc_L_holders kV_L_holders dc_L_holders pm_L_holders cd_L_holders ct_L_holders oc_L_losses kV_L_losses dc_L_losses pm_L_losses cd_L_losses ct_L_losses oc_Net_level kV_Net_level dc_Net_level pm_Net_level cd_Net_level ct_Net_level oc_L_comes_back kV_L_comes_back dc_L_comes_back pm_L_comes_back cd_L_comes_back ct_L_comes_back oc_L_lasts kV_L_lasts dc_L_lasts pm_L_lasts cd_L_lasts ct_L_lasts oc_are_roads kV_are_roads dc_are_roads pm_are_roads cd_are_roads ct_are_roads oc_has_twice kV_has_twice dc_has_twice pm_has_twice cd_has_twice ct_has_twice oc_are_below kV_are_below dc_are_below pm_are_below cd_are_below ct_are_below oc_clean_holders kV_clean_holders dc_clean_holders pm_clean_holders cd_clean_holders ct_clean_holders oc_Net_init kV_Net_init dc_Net_init pm_Net_init cd_Net_init ct_Net_init oc_is_rising kV_is_rising dc_is_rising pm_is_rising cd_is_rising ct_is_rising oc_check_choice kV_check_choice dc_check_choice pm_check_choice cd_check_choice ct_check_choice oc_lists_of kV_lists_of dc_lists_of pm_lists_of cd_lists_of ct_lists_of oc_find_road kV_find_road dc_find_road pm_find_road cd_find_road ct_find_road oc_with_road kV_with_road dc_with_road pm_with_road cd_with_road ct_with_road oc_senders_for kV_senders_for dc_senders_for pm_senders_for cd_senders_for ct_senders_for oc_give_back kV_give_back dc_give_back pm_give_back cd_give_back ct_give_back oc_is_lasting kV_is_lasting dc_is_lasting pm_is_lasting cd_is_lasting ct_is_lasting oc_tuples_of kV_tuples_of dc_tuples_of pm_tuples_of cd_tuples_of ct_tuples_of oc_is_within kV_is_within dc_is_within pm_is_within cd_is_within ct_is_within oc_count_fault kV_count_fault dc_count_fault pm_count_fault cd_count_fault ct_count_fault oc_L_is_integer kV_L_is_integer dc_L_is_integer pm_L_is_integer cd_L_is_integer ct_L_is_integer oc_L_is_fault kV_L_is_fault dc_L_is_fault pm_L_is_fault cd_L_is_fault ct_L_is_fault oc_L_judged kV_L_judged dc_L_judged pm_L_judged cd_L_judged ct_L_judged oc_L_cell kV_L_cell dc_L_cell pm_L_cell cd_L_cell ct_L_cell oc_law kV_law dc_law pm_law cd_law ct_law : Value} {rs_Net_level : List Value}
    (A_Net : PySem.W.nsIn K mainGlobals "Net" = some (some (.ref C_Net)))
    (A_InvalidPool : PySem.W.nsIn K mainGlobals "InvalidPool" = some (some (.ref C_InvalidPool)))
    (A_InvalidChoice : PySem.W.nsIn K mainGlobals "InvalidChoice" = some (some (.ref C_InvalidChoice)))
    (A_PoolError : PySem.W.nsIn K mainGlobals "PoolError" = some (some (.ref C_PoolError)))
    (a_L_draws : PySem.W.nsIn K mainGlobals "_law_draws" = some (some (.ref f_L_draws)))
    (l_L_draws : K.lookup f_L_draws = some ⟨oc_L_draws, od_L_draws, .func (PySem.W.fnOf "_law_draws" "_law_draws" (defArgs s_L_draws) (defBody s_L_draws) (defScope s_L_draws) .none kV_L_draws dc_L_draws pm_L_draws an_L_draws cd_L_draws ct_L_draws), sl_L_draws⟩)
    (c_L_draws : PySem.W.codeIn K cd_L_draws "_law_draws" = true)
    (k_L_draws : PySem.W.keepIn K (.ref f_L_draws) = true)
    (a_L_bits : PySem.W.nsIn K mainGlobals "_law_bits" = some (some (.ref f_L_bits)))
    (l_L_bits : K.lookup f_L_bits = some ⟨oc_L_bits, od_L_bits, .func (PySem.W.fnOf "_law_bits" "_law_bits" (defArgs s_L_bits) (defBody s_L_bits) (defScope s_L_bits) .none kV_L_bits dc_L_bits pm_L_bits an_L_bits cd_L_bits ct_L_bits), sl_L_bits⟩)
    (c_L_bits : PySem.W.codeIn K cd_L_bits "_law_bits" = true)
    (k_L_bits : PySem.W.keepIn K (.ref f_L_bits) = true)
    (a_L_rows : PySem.W.nsIn K mainGlobals "_law_rows" = some (some (.ref f_L_rows)))
    (l_L_rows : K.lookup f_L_rows = some ⟨oc_L_rows, od_L_rows, .func (PySem.W.fnOf "_law_rows" "_law_rows" (defArgs s_L_rows) (defBody s_L_rows) (defScope s_L_rows) .none kV_L_rows dc_L_rows pm_L_rows an_L_rows cd_L_rows ct_L_rows), sl_L_rows⟩)
    (c_L_rows : PySem.W.codeIn K cd_L_rows "_law_rows" = true)
    (k_L_rows : PySem.W.keepIn K (.ref f_L_rows) = true)
    (a_L_holders : PySem.W.nsIn K mainGlobals "_law_holders" = some (some (.ref f_L_holders)))
    (l_L_holders : K.lookup f_L_holders = some ⟨oc_L_holders, od_L_holders, .func (PySem.W.fnOf "_law_holders" "_law_holders" (defArgs s_L_holders) (defBody s_L_holders) (defScope s_L_holders) .none kV_L_holders dc_L_holders pm_L_holders an_L_holders cd_L_holders ct_L_holders), sl_L_holders⟩)
    (c_L_holders : PySem.W.codeIn K cd_L_holders "_law_holders" = true)
    (k_L_holders : PySem.W.keepIn K (.ref f_L_holders) = true)
    (a_L_losses : PySem.W.nsIn K mainGlobals "_law_losses" = some (some (.ref f_L_losses)))
    (l_L_losses : K.lookup f_L_losses = some ⟨oc_L_losses, od_L_losses, .func (PySem.W.fnOf "_law_losses" "_law_losses" (defArgs s_L_losses) (defBody s_L_losses) (defScope s_L_losses) .none kV_L_losses dc_L_losses pm_L_losses an_L_losses cd_L_losses ct_L_losses), sl_L_losses⟩)
    (c_L_losses : PySem.W.codeIn K cd_L_losses "_law_losses" = true)
    (k_L_losses : PySem.W.keepIn K (.ref f_L_losses) = true)
    (a_Net_level : PySem.W.findCls K (.ref C_Net) (.type "type") "level" = some (.get (.builtin "classmethod.__get__") (.ref p_Net_level) .none (.ref C_Net)))
    (r_Net_level : PySem.W.recIn K p_Net_level "classmethod" = some (.ref f_Net_level :: rs_Net_level))
    (i_Net_level : PySem.W.fnIn K f_Net_level = true)
    (l_Net_level : K.lookup f_Net_level = some ⟨oc_Net_level, od_Net_level, .func (PySem.W.fnOf "level" "Net.level" (defArgs s_Net_level) (defBody s_Net_level) (defScope s_Net_level) .none kV_Net_level dc_Net_level pm_Net_level an_Net_level cd_Net_level ct_Net_level), sl_Net_level⟩)
    (c_Net_level : PySem.W.codeIn K cd_Net_level "Net.level" = true)
    (k_Net_level : PySem.W.keepIn K (.ref f_Net_level) = true)
    (a_L_comes_back : PySem.W.nsIn K mainGlobals "_law_comes_back" = some (some (.ref f_L_comes_back)))
    (l_L_comes_back : K.lookup f_L_comes_back = some ⟨oc_L_comes_back, od_L_comes_back, .func (PySem.W.fnOf "_law_comes_back" "_law_comes_back" (defArgs s_L_comes_back) (defBody s_L_comes_back) (defScope s_L_comes_back) .none kV_L_comes_back dc_L_comes_back pm_L_comes_back an_L_comes_back cd_L_comes_back ct_L_comes_back), sl_L_comes_back⟩)
    (c_L_comes_back : PySem.W.codeIn K cd_L_comes_back "_law_comes_back" = true)
    (k_L_comes_back : PySem.W.keepIn K (.ref f_L_comes_back) = true)
    (a_L_lasts : PySem.W.nsIn K mainGlobals "_law_lasts" = some (some (.ref f_L_lasts)))
    (l_L_lasts : K.lookup f_L_lasts = some ⟨oc_L_lasts, od_L_lasts, .func (PySem.W.fnOf "_law_lasts" "_law_lasts" (defArgs s_L_lasts) (defBody s_L_lasts) (defScope s_L_lasts) .none kV_L_lasts dc_L_lasts pm_L_lasts an_L_lasts cd_L_lasts ct_L_lasts), sl_L_lasts⟩)
    (c_L_lasts : PySem.W.codeIn K cd_L_lasts "_law_lasts" = true)
    (k_L_lasts : PySem.W.keepIn K (.ref f_L_lasts) = true)
    (a_are_roads : PySem.W.nsIn K mainGlobals "are_roads" = some (some (.ref f_are_roads)))
    (l_are_roads : K.lookup f_are_roads = some ⟨oc_are_roads, od_are_roads, .func (PySem.W.fnOf "are_roads" "are_roads" (defArgs s_are_roads) (defBody s_are_roads) (defScope s_are_roads) .none kV_are_roads dc_are_roads pm_are_roads an_are_roads cd_are_roads ct_are_roads), sl_are_roads⟩)
    (c_are_roads : PySem.W.codeIn K cd_are_roads "are_roads" = true)
    (k_are_roads : PySem.W.keepIn K (.ref f_are_roads) = true)
    (a_has_twice : PySem.W.nsIn K mainGlobals "has_twice" = some (some (.ref f_has_twice)))
    (l_has_twice : K.lookup f_has_twice = some ⟨oc_has_twice, od_has_twice, .func (PySem.W.fnOf "has_twice" "has_twice" (defArgs s_has_twice) (defBody s_has_twice) (defScope s_has_twice) .none kV_has_twice dc_has_twice pm_has_twice an_has_twice cd_has_twice ct_has_twice), sl_has_twice⟩)
    (c_has_twice : PySem.W.codeIn K cd_has_twice "has_twice" = true)
    (k_has_twice : PySem.W.keepIn K (.ref f_has_twice) = true)
    (a_are_below : PySem.W.nsIn K mainGlobals "are_below" = some (some (.ref f_are_below)))
    (l_are_below : K.lookup f_are_below = some ⟨oc_are_below, od_are_below, .func (PySem.W.fnOf "are_below" "are_below" (defArgs s_are_below) (defBody s_are_below) (defScope s_are_below) .none kV_are_below dc_are_below pm_are_below an_are_below cd_are_below ct_are_below), sl_are_below⟩)
    (c_are_below : PySem.W.codeIn K cd_are_below "are_below" = true)
    (k_are_below : PySem.W.keepIn K (.ref f_are_below) = true)
    (a_clean_holders : PySem.W.nsIn K mainGlobals "clean_holders" = some (some (.ref f_clean_holders)))
    (l_clean_holders : K.lookup f_clean_holders = some ⟨oc_clean_holders, od_clean_holders, .func (PySem.W.fnOf "clean_holders" "clean_holders" (defArgs s_clean_holders) (defBody s_clean_holders) (defScope s_clean_holders) .none kV_clean_holders dc_clean_holders pm_clean_holders an_clean_holders cd_clean_holders ct_clean_holders), sl_clean_holders⟩)
    (c_clean_holders : PySem.W.codeIn K cd_clean_holders "clean_holders" = true)
    (k_clean_holders : PySem.W.keepIn K (.ref f_clean_holders) = true)
    (a_Net_init : PySem.W.findIn K (.ref C_Net) "__init__" = some (some (.ref f_Net_init)))
    (i_Net_init : PySem.W.isFn K (.ref f_Net_init) = true)
    (l_Net_init : K.lookup f_Net_init = some ⟨oc_Net_init, od_Net_init, .func (PySem.W.fnOf "__init__" "Net.__init__" (defArgs s_Net_init) (defBody s_Net_init) (defScope s_Net_init) .none kV_Net_init dc_Net_init pm_Net_init an_Net_init cd_Net_init ct_Net_init), sl_Net_init⟩)
    (c_Net_init : PySem.W.codeIn K cd_Net_init "Net.__init__" = true)
    (k_Net_init : PySem.W.keepIn K (.ref f_Net_init) = true)
    (a_is_rising : PySem.W.nsIn K mainGlobals "is_rising" = some (some (.ref f_is_rising)))
    (l_is_rising : K.lookup f_is_rising = some ⟨oc_is_rising, od_is_rising, .func (PySem.W.fnOf "is_rising" "is_rising" (defArgs s_is_rising) (defBody s_is_rising) (defScope s_is_rising) .none kV_is_rising dc_is_rising pm_is_rising an_is_rising cd_is_rising ct_is_rising), sl_is_rising⟩)
    (c_is_rising : PySem.W.codeIn K cd_is_rising "is_rising" = true)
    (k_is_rising : PySem.W.keepIn K (.ref f_is_rising) = true)
    (a_check_choice : PySem.W.nsIn K mainGlobals "check_choice" = some (some (.ref f_check_choice)))
    (l_check_choice : K.lookup f_check_choice = some ⟨oc_check_choice, od_check_choice, .func (PySem.W.fnOf "check_choice" "check_choice" (defArgs s_check_choice) (defBody s_check_choice) (defScope s_check_choice) .none kV_check_choice dc_check_choice pm_check_choice an_check_choice cd_check_choice ct_check_choice), sl_check_choice⟩)
    (c_check_choice : PySem.W.codeIn K cd_check_choice "check_choice" = true)
    (k_check_choice : PySem.W.keepIn K (.ref f_check_choice) = true)
    (a_lists_of : PySem.W.nsIn K mainGlobals "lists_of" = some (some (.ref f_lists_of)))
    (l_lists_of : K.lookup f_lists_of = some ⟨oc_lists_of, od_lists_of, .func (PySem.W.fnOf "lists_of" "lists_of" (defArgs s_lists_of) (defBody s_lists_of) (defScope s_lists_of) .none kV_lists_of dc_lists_of pm_lists_of an_lists_of cd_lists_of ct_lists_of), sl_lists_of⟩)
    (c_lists_of : PySem.W.codeIn K cd_lists_of "lists_of" = true)
    (k_lists_of : PySem.W.keepIn K (.ref f_lists_of) = true)
    (a_find_road : PySem.W.nsIn K mainGlobals "find_road" = some (some (.ref f_find_road)))
    (l_find_road : K.lookup f_find_road = some ⟨oc_find_road, od_find_road, .func (PySem.W.fnOf "find_road" "find_road" (defArgs s_find_road) (defBody s_find_road) (defScope s_find_road) .none kV_find_road dc_find_road pm_find_road an_find_road cd_find_road ct_find_road), sl_find_road⟩)
    (c_find_road : PySem.W.codeIn K cd_find_road "find_road" = true)
    (k_find_road : PySem.W.keepIn K (.ref f_find_road) = true)
    (a_with_road : PySem.W.nsIn K mainGlobals "with_road" = some (some (.ref f_with_road)))
    (l_with_road : K.lookup f_with_road = some ⟨oc_with_road, od_with_road, .func (PySem.W.fnOf "with_road" "with_road" (defArgs s_with_road) (defBody s_with_road) (defScope s_with_road) .none kV_with_road dc_with_road pm_with_road an_with_road cd_with_road ct_with_road), sl_with_road⟩)
    (c_with_road : PySem.W.codeIn K cd_with_road "with_road" = true)
    (k_with_road : PySem.W.keepIn K (.ref f_with_road) = true)
    (a_senders_for : PySem.W.nsIn K mainGlobals "senders_for" = some (some (.ref f_senders_for)))
    (l_senders_for : K.lookup f_senders_for = some ⟨oc_senders_for, od_senders_for, .func (PySem.W.fnOf "senders_for" "senders_for" (defArgs s_senders_for) (defBody s_senders_for) (defScope s_senders_for) .none kV_senders_for dc_senders_for pm_senders_for an_senders_for cd_senders_for ct_senders_for), sl_senders_for⟩)
    (c_senders_for : PySem.W.codeIn K cd_senders_for "senders_for" = true)
    (k_senders_for : PySem.W.keepIn K (.ref f_senders_for) = true)
    (a_give_back : PySem.W.nsIn K mainGlobals "give_back" = some (some (.ref f_give_back)))
    (l_give_back : K.lookup f_give_back = some ⟨oc_give_back, od_give_back, .func (PySem.W.fnOf "give_back" "give_back" (defArgs s_give_back) (defBody s_give_back) (defScope s_give_back) .none kV_give_back dc_give_back pm_give_back an_give_back cd_give_back ct_give_back), sl_give_back⟩)
    (c_give_back : PySem.W.codeIn K cd_give_back "give_back" = true)
    (k_give_back : PySem.W.keepIn K (.ref f_give_back) = true)
    (a_is_lasting : PySem.W.nsIn K mainGlobals "is_lasting" = some (some (.ref f_is_lasting)))
    (l_is_lasting : K.lookup f_is_lasting = some ⟨oc_is_lasting, od_is_lasting, .func (PySem.W.fnOf "is_lasting" "is_lasting" (defArgs s_is_lasting) (defBody s_is_lasting) (defScope s_is_lasting) .none kV_is_lasting dc_is_lasting pm_is_lasting an_is_lasting cd_is_lasting ct_is_lasting), sl_is_lasting⟩)
    (c_is_lasting : PySem.W.codeIn K cd_is_lasting "is_lasting" = true)
    (k_is_lasting : PySem.W.keepIn K (.ref f_is_lasting) = true)
    (a_tuples_of : PySem.W.nsIn K mainGlobals "tuples_of" = some (some (.ref f_tuples_of)))
    (l_tuples_of : K.lookup f_tuples_of = some ⟨oc_tuples_of, od_tuples_of, .func (PySem.W.fnOf "tuples_of" "tuples_of" (defArgs s_tuples_of) (defBody s_tuples_of) (defScope s_tuples_of) .none kV_tuples_of dc_tuples_of pm_tuples_of an_tuples_of cd_tuples_of ct_tuples_of), sl_tuples_of⟩)
    (c_tuples_of : PySem.W.codeIn K cd_tuples_of "tuples_of" = true)
    (k_tuples_of : PySem.W.keepIn K (.ref f_tuples_of) = true)
    (a_is_within : PySem.W.nsIn K mainGlobals "is_within" = some (some (.ref f_is_within)))
    (l_is_within : K.lookup f_is_within = some ⟨oc_is_within, od_is_within, .func (PySem.W.fnOf "is_within" "is_within" (defArgs s_is_within) (defBody s_is_within) (defScope s_is_within) .none kV_is_within dc_is_within pm_is_within an_is_within cd_is_within ct_is_within), sl_is_within⟩)
    (c_is_within : PySem.W.codeIn K cd_is_within "is_within" = true)
    (k_is_within : PySem.W.keepIn K (.ref f_is_within) = true)
    (a_count_fault : PySem.W.nsIn K mainGlobals "count_fault" = some (some (.ref f_count_fault)))
    (l_count_fault : K.lookup f_count_fault = some ⟨oc_count_fault, od_count_fault, .func (PySem.W.fnOf "count_fault" "count_fault" (defArgs s_count_fault) (defBody s_count_fault) (defScope s_count_fault) .none kV_count_fault dc_count_fault pm_count_fault an_count_fault cd_count_fault ct_count_fault), sl_count_fault⟩)
    (c_count_fault : PySem.W.codeIn K cd_count_fault "count_fault" = true)
    (k_count_fault : PySem.W.keepIn K (.ref f_count_fault) = true)
    (a_L_is_integer : PySem.W.nsIn K mainGlobals "_law_is_integer" = some (some (.ref f_L_is_integer)))
    (l_L_is_integer : K.lookup f_L_is_integer = some ⟨oc_L_is_integer, od_L_is_integer, .func (PySem.W.fnOf "_law_is_integer" "_law_is_integer" (defArgs s_L_is_integer) (defBody s_L_is_integer) (defScope s_L_is_integer) .none kV_L_is_integer dc_L_is_integer pm_L_is_integer an_L_is_integer cd_L_is_integer ct_L_is_integer), sl_L_is_integer⟩)
    (c_L_is_integer : PySem.W.codeIn K cd_L_is_integer "_law_is_integer" = true)
    (k_L_is_integer : PySem.W.keepIn K (.ref f_L_is_integer) = true)
    (a_L_is_fault : PySem.W.nsIn K mainGlobals "_law_is_fault" = some (some (.ref f_L_is_fault)))
    (l_L_is_fault : K.lookup f_L_is_fault = some ⟨oc_L_is_fault, od_L_is_fault, .func (PySem.W.fnOf "_law_is_fault" "_law_is_fault" (defArgs s_L_is_fault) (defBody s_L_is_fault) (defScope s_L_is_fault) .none kV_L_is_fault dc_L_is_fault pm_L_is_fault an_L_is_fault cd_L_is_fault ct_L_is_fault), sl_L_is_fault⟩)
    (c_L_is_fault : PySem.W.codeIn K cd_L_is_fault "_law_is_fault" = true)
    (k_L_is_fault : PySem.W.keepIn K (.ref f_L_is_fault) = true)
    (a_L_judged : PySem.W.nsIn K mainGlobals "_law_judged" = some (some (.ref f_L_judged)))
    (l_L_judged : K.lookup f_L_judged = some ⟨oc_L_judged, od_L_judged, .func (PySem.W.fnOf "_law_judged" "_law_judged" (defArgs s_L_judged) (defBody s_L_judged) (defScope s_L_judged) .none kV_L_judged dc_L_judged pm_L_judged an_L_judged cd_L_judged ct_L_judged), sl_L_judged⟩)
    (c_L_judged : PySem.W.codeIn K cd_L_judged "_law_judged" = true)
    (k_L_judged : PySem.W.keepIn K (.ref f_L_judged) = true)
    (a_L_cell : PySem.W.nsIn K mainGlobals "_law_cell" = some (some (.ref f_L_cell)))
    (l_L_cell : K.lookup f_L_cell = some ⟨oc_L_cell, od_L_cell, .func (PySem.W.fnOf "_law_cell" "_law_cell" (defArgs s_L_cell) (defBody s_L_cell) (defScope s_L_cell) .none kV_L_cell dc_L_cell pm_L_cell an_L_cell cd_L_cell ct_L_cell), sl_L_cell⟩)
    (c_L_cell : PySem.W.codeIn K cd_L_cell "_law_cell" = true)
    (k_L_cell : PySem.W.keepIn K (.ref f_L_cell) = true)
    (a_law : PySem.W.nsIn K mainGlobals "law" = some (some (.ref f_law)))
    (l_law : K.lookup f_law = some ⟨oc_law, od_law, .func (PySem.W.fnOf "law" "law" (defArgs s_law) (defBody s_law) (defScope s_law) .none kV_law dc_law pm_law an_law cd_law ct_law), sl_law⟩)
    (c_law : PySem.W.codeIn K cd_law "law" = true)
    (k_law : PySem.W.keepIn K (.ref f_law) = true)
    (cr_Net : PySem.W.readsIn K C_Net (.type "type") = true)
    (cg_Net : PySem.W.specialIn K (.ref C_Net) "__getattribute__" = some (some (.builtin "type.__getattribute__")))
    (pg_Net : PySem.W.plainGet K C_Net Str.empty = true)
    (hd_Net : PySem.W.hasDictIn K C_Net = true)
    (po_Net : PySem.W.plainOver K C_Net = true)
    (sa_Net : PySem.W.findIn K (.ref C_Net) "__setattr__" = some (some (.builtin "object.__setattr__")))
    (mk_Net : PySem.W.makesIn K C_Net = true)
    (kc_Net : PySem.W.keepIn K (.ref C_Net) = true)
    (o_Net_roads : PySem.W.findIn K (.ref C_Net) "roads" = some none)
    (o_Net_holders : PySem.W.findIn K (.ref C_Net) "holders" = some none)
    (o_Net_seats : PySem.W.findIn K (.ref C_Net) "seats" = some none)
    (o_Net_pieces : PySem.W.findIn K (.ref C_Net) "pieces" = some none)
    (n_abs : PySem.W.nsIn K mainGlobals "abs" = some none)
    (n_range : PySem.W.nsIn K mainGlobals "range" = some none)
    (n_int : PySem.W.nsIn K mainGlobals "int" = some none)
    (n_len : PySem.W.nsIn K mainGlobals "len" = some none)
    (n_list : PySem.W.nsIn K mainGlobals "list" = some none)
    (n_tuple : PySem.W.nsIn K mainGlobals "tuple" = some none)
    (n_min : PySem.W.nsIn K mainGlobals "min" = some none)
    (n_set : PySem.W.nsIn K mainGlobals "set" = some none)
    (n_sorted : PySem.W.nsIn K mainGlobals "sorted" = some none)
    (n_enumerate : PySem.W.nsIn K mainGlobals "enumerate" = some none)
    (n_dict : PySem.W.nsIn K mainGlobals "dict" = some none)
    (n_max : PySem.W.nsIn K mainGlobals "max" = some none)
    (n_isinstance : PySem.W.nsIn K mainGlobals "isinstance" = some none)
    (n_bool : PySem.W.nsIn K mainGlobals "bool" = some none) :
    ∃ fd : FuncData, (∀ (s : Shared) (v : Value), BindsTo s fd ⟨[v], []⟩ [("_law_script", v)]) ∧ ∀ base : Heap, K.In base → base.Ns mainGlobals mg → FnOk P w K mg base CX0 20 fa fd ["_law_script"] (spLaw K) := by
  have e := hfa.symm.trans (PySem.W.mg_of X G a_law)
  cases e
  have F_L_draws := fun_mk (st := s_L_draws) l_L_draws c_L_draws k_L_draws
  have F_L_bits := fun_mk (st := s_L_bits) l_L_bits c_L_bits k_L_bits
  have F_L_rows := fun_mk (st := s_L_rows) l_L_rows c_L_rows k_L_rows
  have F_L_holders := fun_mk (st := s_L_holders) l_L_holders c_L_holders k_L_holders
  have F_L_losses := fun_mk (st := s_L_losses) l_L_losses c_L_losses k_L_losses
  have F_Net_level := fun_mk (st := s_Net_level) l_Net_level c_Net_level k_Net_level
  have F_L_comes_back := fun_mk (st := s_L_comes_back) l_L_comes_back c_L_comes_back k_L_comes_back
  have F_L_lasts := fun_mk (st := s_L_lasts) l_L_lasts c_L_lasts k_L_lasts
  have F_are_roads := fun_mk (st := s_are_roads) l_are_roads c_are_roads k_are_roads
  have F_has_twice := fun_mk (st := s_has_twice) l_has_twice c_has_twice k_has_twice
  have F_are_below := fun_mk (st := s_are_below) l_are_below c_are_below k_are_below
  have F_clean_holders := fun_mk (st := s_clean_holders) l_clean_holders c_clean_holders k_clean_holders
  have F_Net_init := fun_mk (st := s_Net_init) l_Net_init c_Net_init k_Net_init
  have F_is_rising := fun_mk (st := s_is_rising) l_is_rising c_is_rising k_is_rising
  have F_check_choice := fun_mk (st := s_check_choice) l_check_choice c_check_choice k_check_choice
  have F_lists_of := fun_mk (st := s_lists_of) l_lists_of c_lists_of k_lists_of
  have F_find_road := fun_mk (st := s_find_road) l_find_road c_find_road k_find_road
  have F_with_road := fun_mk (st := s_with_road) l_with_road c_with_road k_with_road
  have F_senders_for := fun_mk (st := s_senders_for) l_senders_for c_senders_for k_senders_for
  have F_give_back := fun_mk (st := s_give_back) l_give_back c_give_back k_give_back
  have F_is_lasting := fun_mk (st := s_is_lasting) l_is_lasting c_is_lasting k_is_lasting
  have F_tuples_of := fun_mk (st := s_tuples_of) l_tuples_of c_tuples_of k_tuples_of
  have F_is_within := fun_mk (st := s_is_within) l_is_within c_is_within k_is_within
  have F_count_fault := fun_mk (st := s_count_fault) l_count_fault c_count_fault k_count_fault
  have F_L_is_integer := fun_mk (st := s_L_is_integer) l_L_is_integer c_L_is_integer k_L_is_integer
  have F_L_is_fault := fun_mk (st := s_L_is_fault) l_L_is_fault c_L_is_fault k_L_is_fault
  have F_L_judged := fun_mk (st := s_L_judged) l_L_judged c_L_judged k_L_judged
  have F_L_cell := fun_mk (st := s_L_cell) l_L_cell c_L_cell k_L_cell
  have F_law := fun_mk (st := s_law) l_law c_law k_law
  have T : Txt K mg { a_L_draws := f_L_draws, d_L_draws := _, a_L_bits := f_L_bits, d_L_bits := _, a_L_rows := f_L_rows, d_L_rows := _, a_L_holders := f_L_holders, d_L_holders := _, a_L_losses := f_L_losses, d_L_losses := _, a_Net_level := f_Net_level, d_Net_level := _, a_L_comes_back := f_L_comes_back, d_L_comes_back := _, a_L_lasts := f_L_lasts, d_L_lasts := _, a_are_roads := f_are_roads, d_are_roads := _, a_has_twice := f_has_twice, d_has_twice := _, a_are_below := f_are_below, d_are_below := _, a_clean_holders := f_clean_holders, d_clean_holders := _, a_Net_init := f_Net_init, d_Net_init := _, a_is_rising := f_is_rising, d_is_rising := _, a_check_choice := f_check_choice, d_check_choice := _, a_lists_of := f_lists_of, d_lists_of := _, a_find_road := f_find_road, d_find_road := _, a_with_road := f_with_road, d_with_road := _, a_senders_for := f_senders_for, d_senders_for := _, a_give_back := f_give_back, d_give_back := _, a_is_lasting := f_is_lasting, d_is_lasting := _, a_tuples_of := f_tuples_of, d_tuples_of := _, a_is_within := f_is_within, d_is_within := _, a_count_fault := f_count_fault, d_count_fault := _, a_L_is_integer := f_L_is_integer, d_L_is_integer := _, a_L_is_fault := f_L_is_fault, d_L_is_fault := _, a_L_judged := f_L_judged, d_L_judged := _, a_L_cell := f_L_cell, d_L_cell := _, a_law := fa, d_law := _, p_Net_level := p_Net_level, A_Net := C_Net, A_InvalidPool := C_InvalidPool, A_InvalidChoice := C_InvalidChoice, A_PoolError := C_PoolError } := {
    F_L_draws := F_L_draws
    b_L_draws := F_L_draws.binds (ps := ["_law_cell_here", "_law_sizes"]) fun _ _ _ _ _ _ us hl => match us, hl with | [_, _], _ => rfl
    g_L_draws := PySem.W.mg_of X G a_L_draws
    F_L_bits := F_L_bits
    b_L_bits := F_L_bits.binds (ps := ["_law_mask", "_law_count"]) fun _ _ _ _ _ _ us hl => match us, hl with | [_, _], _ => rfl
    g_L_bits := PySem.W.mg_of X G a_L_bits
    F_L_rows := F_L_rows
    b_L_rows := F_L_rows.binds (ps := ["_law_seats", "_law_count", "_law_cell_here"]) fun _ _ _ _ _ _ us hl => match us, hl with | [_, _, _], _ => rfl
    g_L_rows := PySem.W.mg_of X G a_L_rows
    F_L_holders := F_L_holders
    b_L_holders := F_L_holders.binds (ps := ["_law_rows_here", "_law_seats", "_law_cell_here"]) fun _ _ _ _ _ _ us hl => match us, hl with | [_, _, _], _ => rfl
    g_L_holders := PySem.W.mg_of X G a_L_holders
    F_L_losses := F_L_losses
    b_L_losses := F_L_losses.binds (ps := ["_law_seats", "_law_size"]) fun _ _ _ _ _ _ us hl => match us, hl with | [_, _], _ => rfl
    g_L_losses := PySem.W.mg_of X G a_L_losses
    F_Net_level := F_Net_level
    b_Net_level := F_Net_level.binds (ps := ["cls", "seats", "cap", "holders"]) fun _ _ _ _ _ _ us hl => match us, hl with | [_, _, _, _], _ => rfl
    cm_Net_level := ⟨a_Net_level, ⟨_, r_Net_level⟩, i_Net_level⟩
    F_L_comes_back := F_L_comes_back
    b_L_comes_back := F_L_comes_back.binds (ps := ["_law_rows_here", "_law_cap", "_law_lost"]) fun _ _ _ _ _ _ us hl => match us, hl with | [_, _, _], _ => rfl
    g_L_comes_back := PySem.W.mg_of X G a_L_comes_back
    F_L_lasts := F_L_lasts
    b_L_lasts := F_L_lasts.binds (ps := ["_law_rows_here", "_law_cap", "_law_seats", "_law_at_once"]) fun _ _ _ _ _ _ us hl => match us, hl with | [_, _, _, _], _ => rfl
    g_L_lasts := PySem.W.mg_of X G a_L_lasts
    F_are_roads := F_are_roads
    b_are_roads := F_are_roads.binds (ps := ["roads"]) fun _ _ _ _ _ _ us hl => match us, hl with | [_], _ => rfl
    g_are_roads := PySem.W.mg_of X G a_are_roads
    F_has_twice := F_has_twice
    b_has_twice := F_has_twice.binds (ps := ["numbers"]) fun _ _ _ _ _ _ us hl => match us, hl with | [_], _ => rfl
    g_has_twice := PySem.W.mg_of X G a_has_twice
    F_are_below := F_are_below
    b_are_below := F_are_below.binds (ps := ["numbers", "limit"]) fun _ _ _ _ _ _ us hl => match us, hl with | [_, _], _ => rfl
    g_are_below := PySem.W.mg_of X G a_are_below
    F_clean_holders := F_clean_holders
    b_clean_holders := F_clean_holders.binds (ps := ["holders", "seats"]) fun _ _ _ _ _ _ us hl => match us, hl with | [_, _], _ => rfl
    g_clean_holders := PySem.W.mg_of X G a_clean_holders
    F_Net_init := F_Net_init
    b_Net_init := F_Net_init.binds (ps := ["self", "roads", "holders"]) fun _ _ _ _ _ _ us hl => match us, hl with | [_, _, _], _ => rfl
    M_Net := ⟨mk_Net, a_Net_init, i_Net_init, kc_Net⟩
    F_is_rising := F_is_rising
    b_is_rising := F_is_rising.binds (ps := ["numbers"]) fun _ _ _ _ _ _ us hl => match us, hl with | [_], _ => rfl
    g_is_rising := PySem.W.mg_of X G a_is_rising
    F_check_choice := F_check_choice
    b_check_choice := F_check_choice.binds (ps := ["net", "choice"]) fun _ _ _ _ _ _ us hl => match us, hl with | [_, _], _ => rfl
    g_check_choice := PySem.W.mg_of X G a_check_choice
    F_lists_of := F_lists_of
    b_lists_of := F_lists_of.binds (ps := ["items", "size"]) fun _ _ _ _ _ _ us hl => match us, hl with | [_, _], _ => rfl
    g_lists_of := PySem.W.mg_of X G a_lists_of
    F_find_road := F_find_road
    b_find_road := F_find_road.binds (ps := ["net", "choice", "given", "piece", "lost", "seat"]) fun _ _ _ _ _ _ us hl => match us, hl with | [_, _, _, _, _, _], _ => rfl
    g_find_road := PySem.W.mg_of X G a_find_road
    F_with_road := F_with_road
    b_with_road := F_with_road.binds (ps := ["given", "seen", "sender"]) fun _ _ _ _ _ _ us hl => match us, hl with | [_, _, _], _ => rfl
    g_with_road := PySem.W.mg_of X G a_with_road
    F_senders_for := F_senders_for
    b_senders_for := F_senders_for.binds (ps := ["net", "choice", "lost", "seat"]) fun _ _ _ _ _ _ us hl => match us, hl with | [_, _, _, _], _ => rfl
    g_senders_for := PySem.W.mg_of X G a_senders_for
    F_give_back := F_give_back
    b_give_back := F_give_back.binds (ps := ["net", "choice", "lost"]) fun _ _ _ _ _ _ us hl => match us, hl with | [_, _, _], _ => rfl
    g_give_back := PySem.W.mg_of X G a_give_back
    F_is_lasting := F_is_lasting
    b_is_lasting := F_is_lasting.binds (ps := ["net", "choice", "at_once"]) fun _ _ _ _ _ _ us hl => match us, hl with | [_, _, _], _ => rfl
    g_is_lasting := PySem.W.mg_of X G a_is_lasting
    F_tuples_of := F_tuples_of
    b_tuples_of := F_tuples_of.binds (ps := ["items", "least"]) fun _ _ _ _ _ _ us hl => match us, hl with | [_, _], _ => rfl
    g_tuples_of := PySem.W.mg_of X G a_tuples_of
    F_is_within := F_is_within
    b_is_within := F_is_within.binds (ps := ["held", "seats"]) fun _ _ _ _ _ _ us hl => match us, hl with | [_, _], _ => rfl
    g_is_within := PySem.W.mg_of X G a_is_within
    F_count_fault := F_count_fault
    b_count_fault := F_count_fault.binds (ps := ["choice", "seats", "cap", "at_once"]) fun _ _ _ _ _ _ us hl => match us, hl with | [_, _, _, _], _ => rfl
    g_count_fault := PySem.W.mg_of X G a_count_fault
    F_L_is_integer := F_L_is_integer
    b_L_is_integer := F_L_is_integer.binds (ps := ["_law_actual"]) fun _ _ _ _ _ _ us hl => match us, hl with | [_], _ => rfl
    g_L_is_integer := PySem.W.mg_of X G a_L_is_integer
    F_L_is_fault := F_L_is_fault
    b_L_is_fault := F_L_is_fault.binds (ps := ["_law_actual", "_law_rows_here", "_law_cap", "_law_seats", "_law_at_once"]) fun _ _ _ _ _ _ us hl => match us, hl with | [_, _, _, _, _], _ => rfl
    g_L_is_fault := PySem.W.mg_of X G a_L_is_fault
    F_L_judged := F_L_judged
    b_L_judged := F_L_judged.binds (ps := ["_law_rows_here", "_law_holders_here", "_law_cap", "_law_seats", "_law_at_once", "_law_lost"]) fun _ _ _ _ _ _ us hl => match us, hl with | [_, _, _, _, _, _], _ => rfl
    g_L_judged := PySem.W.mg_of X G a_L_judged
    F_L_cell := F_L_cell
    b_L_cell := F_L_cell.binds (ps := ["_law_script", "_law_k"]) fun _ _ _ _ _ _ us hl => match us, hl with | [_, _], _ => rfl
    g_L_cell := PySem.W.mg_of X G a_L_cell
    F_law := F_law
    b_law := F_law.binds (ps := ["_law_script"]) fun _ _ _ _ _ _ us hl => match us, hl with | [_], _ => rfl
    g_law := PySem.W.mg_of X G a_law
    cr_Net := ⟨cr_Net, cg_Net⟩
    cl_Net := ⟨pg_Net, hd_Net, po_Net, sa_Net⟩
    g_Net := PySem.W.mg_of X G A_Net
    o_Net_roads := o_Net_roads
    o_Net_holders := o_Net_holders
    o_Net_seats := o_Net_seats
    o_Net_pieces := o_Net_pieces
    g_InvalidPool := PySem.W.mg_of X G A_InvalidPool
    g_InvalidChoice := PySem.W.mg_of X G A_InvalidChoice
    g_PoolError := PySem.W.mg_of X G A_PoolError
    n_abs := PySem.W.mg_none_of X G n_abs
    n_range := PySem.W.mg_none_of X G n_range
    n_int := PySem.W.mg_none_of X G n_int
    n_len := PySem.W.mg_none_of X G n_len
    n_list := PySem.W.mg_none_of X G n_list
    n_tuple := PySem.W.mg_none_of X G n_tuple
    n_min := PySem.W.mg_none_of X G n_min
    n_set := PySem.W.mg_none_of X G n_set
    n_sorted := PySem.W.mg_none_of X G n_sorted
    n_enumerate := PySem.W.mg_none_of X G n_enumerate
    n_dict := PySem.W.mg_none_of X G n_dict
    n_max := PySem.W.mg_none_of X G n_max
    n_isinstance := PySem.W.mg_none_of X G n_isinstance
    n_bool := PySem.W.mg_none_of X G n_bool }
  exact ⟨_, fun s v => .of_eq rfl, fun base _ _ => ok_law T⟩
theorem walk {l : PySem.W.OpenLaw} {q : Program} {loose : List Str} {XP : (Str → Option Value) → Heap → Prop} {YP : World → Heap → Prop} {d : DefRec} {K : Params → PySem.W.Frag} (hn : l.most = some 63) (hdf : d.params.defaults = [])
    (hY : ∀ (w : World) (h : Heap), YP w h → (K w.params).In h)
    (F : ∀ (w : World) (mg : Str → Option Value) (fa : Addr) (h : Heap), (K w.params).In h → h.Ns mainGlobals mg → mg d.name = some (.ref fa) →
      ∃ fd : FuncData, (∀ (s : Shared) (u : Value), BindsTo s fd ⟨[u], []⟩ [("_law_script", u)]) ∧ ∀ base : Heap, (K w.params).In base → base.Ns mainGlobals mg → FnOk l.prog w (K w.params) mg base CX0 20 fa fd ["_law_script"] (spLaw (K w.params))) :
    PySem.W.WalkO q loose XP YP l.row.toRowW d [] (fun f vs => PySem.call f vs) :=
  L2.walk_of (n := 63) (k := 20) (x := "_law_script") (CX := fun _ => CX0) (sp := fun w => spLaw (K w.params)) hn (by decide) hdf ⟨rfl, by decide, by decide⟩ hY F (fun _ _ a ns hl _ hS => ⟨a, ns, rfl, hS, hl, fun _ => rfl⟩) fun _ _ _ _ _ z => z
end Q
open PySem PySem.W PyProof.Rows
set_option maxRecDepth 100000 in
set_option maxHeartbeats 0 in
theorem PySem.Challenge.cw_pairwarden_k73_counts_and_trials_holds : PySem.Challenge.rw_pairwarden_k73_counts_and_trials.Holds := by
  w_on; o_law; k_head; (case hw => w_witness2)
  k_fill
  refine Q.walk (l := PySem.Challenge.rw_pairwarden_k73_counts_and_trials) rfl rfl (fun w h Y => PySem.W.kIn_of Y) ?F
  case F =>
    intro w mg fa h KX G hmg
    refine' Q.all_mk KX G hmg ?A_Net ?A_InvalidPool ?A_InvalidChoice ?A_PoolError ?a_L_draws ?l_L_draws ?c_L_draws ?k_L_draws ?a_L_bits ?l_L_bits ?c_L_bits ?k_L_bits ?a_L_rows ?l_L_rows ?c_L_rows ?k_L_rows ?a_L_holders ?l_L_holders ?c_L_holders ?k_L_holders ?a_L_losses ?l_L_losses ?c_L_losses ?k_L_losses ?a_Net_level ?r_Net_level ?i_Net_level ?l_Net_level ?c_Net_level ?k_Net_level ?a_L_comes_back ?l_L_comes_back ?c_L_comes_back ?k_L_comes_back ?a_L_lasts ?l_L_lasts ?c_L_lasts ?k_L_lasts ?a_are_roads ?l_are_roads ?c_are_roads ?k_are_roads ?a_has_twice ?l_has_twice ?c_has_twice ?k_has_twice ?a_are_below ?l_are_below ?c_are_below ?k_are_below ?a_clean_holders ?l_clean_holders ?c_clean_holders ?k_clean_holders ?a_Net_init ?i_Net_init ?l_Net_init ?c_Net_init ?k_Net_init ?a_is_rising ?l_is_rising ?c_is_rising ?k_is_rising ?a_check_choice ?l_check_choice ?c_check_choice ?k_check_choice ?a_lists_of ?l_lists_of ?c_lists_of ?k_lists_of ?a_find_road ?l_find_road ?c_find_road ?k_find_road ?a_with_road ?l_with_road ?c_with_road ?k_with_road ?a_senders_for ?l_senders_for ?c_senders_for ?k_senders_for ?a_give_back ?l_give_back ?c_give_back ?k_give_back ?a_is_lasting ?l_is_lasting ?c_is_lasting ?k_is_lasting ?a_tuples_of ?l_tuples_of ?c_tuples_of ?k_tuples_of ?a_is_within ?l_is_within ?c_is_within ?k_is_within ?a_count_fault ?l_count_fault ?c_count_fault ?k_count_fault ?a_L_is_integer ?l_L_is_integer ?c_L_is_integer ?k_L_is_integer ?a_L_is_fault ?l_L_is_fault ?c_L_is_fault ?k_L_is_fault ?a_L_judged ?l_L_judged ?c_L_judged ?k_L_judged ?a_L_cell ?l_L_cell ?c_L_cell ?k_L_cell ?a_law ?l_law ?c_law ?k_law ?cr_Net ?cg_Net ?pg_Net ?hd_Net ?po_Net ?sa_Net ?mk_Net ?kc_Net ?o_Net_roads ?o_Net_holders ?o_Net_seats ?o_Net_pieces ?n_abs ?n_range ?n_int ?n_len ?n_list ?n_tuple ?n_min ?n_set ?n_sorted ?n_enumerate ?n_dict ?n_max ?n_isinstance ?n_bool
    (case A_Net => k_is)
    (case A_InvalidPool => k_is)
    (case A_InvalidChoice => k_is)
    (case A_PoolError => k_is)
    (case a_L_draws => k_is)
    (case l_L_draws => k_is)
    (case c_L_draws => k_is)
    (case k_L_draws => k_is)
    (case a_L_bits => k_is)
    (case l_L_bits => k_is)
    (case c_L_bits => k_is)
    (case k_L_bits => k_is)
    (case a_L_rows => k_is)
    (case l_L_rows => k_is)
    (case c_L_rows => k_is)
    (case k_L_rows => k_is)
    (case a_L_holders => k_is)
    (case l_L_holders => k_is)
    (case c_L_holders => k_is)
    (case k_L_holders => k_is)
    (case a_L_losses => k_is)
    (case l_L_losses => k_is)
    (case c_L_losses => k_is)
    (case k_L_losses => k_is)
    (case a_Net_level => k_is)
    (case r_Net_level => k_is)
    (case i_Net_level => k_is)
    (case l_Net_level => k_is)
    (case c_Net_level => k_is)
    (case k_Net_level => k_is)
    (case a_L_comes_back => k_is)
    (case l_L_comes_back => k_is)
    (case c_L_comes_back => k_is)
    (case k_L_comes_back => k_is)
    (case a_L_lasts => k_is)
    (case l_L_lasts => k_is)
    (case c_L_lasts => k_is)
    (case k_L_lasts => k_is)
    (case a_are_roads => k_is)
    (case l_are_roads => k_is)
    (case c_are_roads => k_is)
    (case k_are_roads => k_is)
    (case a_has_twice => k_is)
    (case l_has_twice => k_is)
    (case c_has_twice => k_is)
    (case k_has_twice => k_is)
    (case a_are_below => k_is)
    (case l_are_below => k_is)
    (case c_are_below => k_is)
    (case k_are_below => k_is)
    (case a_clean_holders => k_is)
    (case l_clean_holders => k_is)
    (case c_clean_holders => k_is)
    (case k_clean_holders => k_is)
    (case a_Net_init => k_is)
    (case i_Net_init => k_is)
    (case l_Net_init => k_is)
    (case c_Net_init => k_is)
    (case k_Net_init => k_is)
    (case a_is_rising => k_is)
    (case l_is_rising => k_is)
    (case c_is_rising => k_is)
    (case k_is_rising => k_is)
    (case a_check_choice => k_is)
    (case l_check_choice => k_is)
    (case c_check_choice => k_is)
    (case k_check_choice => k_is)
    (case a_lists_of => k_is)
    (case l_lists_of => k_is)
    (case c_lists_of => k_is)
    (case k_lists_of => k_is)
    (case a_find_road => k_is)
    (case l_find_road => k_is)
    (case c_find_road => k_is)
    (case k_find_road => k_is)
    (case a_with_road => k_is)
    (case l_with_road => k_is)
    (case c_with_road => k_is)
    (case k_with_road => k_is)
    (case a_senders_for => k_is)
    (case l_senders_for => k_is)
    (case c_senders_for => k_is)
    (case k_senders_for => k_is)
    (case a_give_back => k_is)
    (case l_give_back => k_is)
    (case c_give_back => k_is)
    (case k_give_back => k_is)
    (case a_is_lasting => k_is)
    (case l_is_lasting => k_is)
    (case c_is_lasting => k_is)
    (case k_is_lasting => k_is)
    (case a_tuples_of => k_is)
    (case l_tuples_of => k_is)
    (case c_tuples_of => k_is)
    (case k_tuples_of => k_is)
    (case a_is_within => k_is)
    (case l_is_within => k_is)
    (case c_is_within => k_is)
    (case k_is_within => k_is)
    (case a_count_fault => k_is)
    (case l_count_fault => k_is)
    (case c_count_fault => k_is)
    (case k_count_fault => k_is)
    (case a_L_is_integer => k_is)
    (case l_L_is_integer => k_is)
    (case c_L_is_integer => k_is)
    (case k_L_is_integer => k_is)
    (case a_L_is_fault => k_is)
    (case l_L_is_fault => k_is)
    (case c_L_is_fault => k_is)
    (case k_L_is_fault => k_is)
    (case a_L_judged => k_is)
    (case l_L_judged => k_is)
    (case c_L_judged => k_is)
    (case k_L_judged => k_is)
    (case a_L_cell => k_is)
    (case l_L_cell => k_is)
    (case c_L_cell => k_is)
    (case k_L_cell => k_is)
    (case a_law => k_is)
    (case l_law => k_is)
    (case c_law => k_is)
    (case k_law => k_is)
    (case cr_Net => k_is)
    (case cg_Net => k_is)
    (case pg_Net => k_is)
    (case hd_Net => k_is)
    (case po_Net => k_is)
    (case sa_Net => k_is)
    (case mk_Net => k_is)
    (case kc_Net => k_is)
    (case o_Net_roads => k_is)
    (case o_Net_holders => k_is)
    (case o_Net_seats => k_is)
    (case o_Net_pieces => k_is)
    (case n_abs => k_is)
    (case n_range => k_is)
    (case n_int => k_is)
    (case n_len => k_is)
    (case n_list => k_is)
    (case n_tuple => k_is)
    (case n_min => k_is)
    (case n_set => k_is)
    (case n_sorted => k_is)
    (case n_enumerate => k_is)
    (case n_dict => k_is)
    (case n_max => k_is)
    (case n_isinstance => k_is)
    (case n_bool => k_is)
