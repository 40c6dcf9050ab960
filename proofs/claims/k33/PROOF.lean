import PyProof.Rows.All
import Wide.All
import OpenK.AllK
import Wide.FinOn
import HandS.ForMost
import HandS.NoneIn
import HandS.Conv
import HandS.IsInst
import HandS.Wide
import HandS.SortInts
import PySem.Challenge.RW_tiehues_k33_bounds_of_lots
set_option Elab.async false
set_option linter.all false
set_option maxRecDepth 100000
set_option maxHeartbeats 4000000
namespace Cm
open PySem PySem.Spec PyProof.Rows L2

/-! ### named readings -/
def rLen (K : PySem.W.Frag) : List V → Hp → VK → Prop := fun xs H Q => ∃ p ys, xs = [.ref p] ∧ (SqL K H p ys ∨ SqT K H p ys) ∧ Q (.int ys.length) H
theorem q_len {X : Cx} : CallR X (.builtin "len") (rLen X.K) := call_len_seq
def rListOf (K : PySem.W.Frag) : List V → Hp → VK → Prop := fun xs H Q => ∃ p ys, xs = [.ref p] ∧ (SqL K H p ys ∨ SqT K H p ys) ∧ ∀ l, H l = none → Q (.ref l) (upd H l (.lst ys))
theorem q_listOf {X : Cx} : CallR X (.type "list") (rListOf X.K) := call_list_of
def rMax2 : List V → Hp → VK → Prop := fun xs H Q => ∃ i j, xs = [.int i, .int j] ∧ Q (.int (if j > i then j else i)) H
theorem q_max2 {X : Cx} (hc : X.calm = true) : CallR X (.builtin "max") rMax2 := call_max2 hc
def rMin2 : List V → Hp → VK → Prop := fun xs H Q => ∃ i j, xs = [.int i, .int j] ∧ Q (.int (if j < i then j else i)) H
theorem q_min2 {X : Cx} (hc : X.calm = true) : CallR X (.builtin "min") rMin2 := call_min2 hc
theorem q_isi {X : Cx} : CallR X (.builtin "isinstance") (rIsi X.K) := call_isi
def rIntOf : List V → Hp → VK → Prop := fun xs H Q => (∃ i, xs = [.int i] ∧ Q (.int i) H) ∨ ∃ k, xs = [.bl k] ∧ Q (.int (if k then 1 else 0)) H
theorem q_intB {X : Cx} : CallR X (.type "int") rIntOf := call_int1
theorem q_intI {X : Cx} : CallR X (.type "int") rIntOf := call_int1

/-! ### operators by names -/
def xAdd : R2 := rI0 fun i j => .int (i + j)
def xSub : R2 := rI0 fun i j => .int (i - j)
def xMul : R2 := rI CMul fun i j => .int (i * j)
def xMulW : R2 := rI CMulW fun i j => .int (i * j)
def xDiv : R2 := rI CDiv fun i j => .int (i / j)
def xDivW : R2 := rI CDivW fun i j => .int (i / j)
def xMod : R2 := rI (fun _ j => 0 < j) fun i j => .int (i % j)
def xPow : R2 := rI CPow fun i j => .int (i ^ j.toNat)
def xLt : R2 := rI0 fun i j => .bl (decide (i < j))
def xLe : R2 := rI0 fun i j => .bl (decide (i ≤ j))
def xGt : R2 := rI0 fun i j => .bl (decide (j < i))
def xGe : R2 := rI0 fun i j => .bl (decide (j ≤ i))
def xNeg : V → Hp → VK → Prop := rU fun i => .int (-i)
def xIsN : R2 := fun x y H Q => y = .non ∧ Q (.bl (decide (x = .non))) H
def xNotN : R2 := fun x y H Q => y = .non ∧ Q (.bl (!decide (x = .non))) H
def xTru (K : PySem.W.Frag) (ta : TE) : TT := fun σ H Q => ta σ H fun x H' => ∃ k, TruV K x H' k ∧ Q k H'

/-! ### constants of the module -/
def g_tok (mg : Str → Option Value) (x : Str) : Tok := match mg x with
  | some (.int _ t) => t
  | _ => default
theorem tok_mk {mg : Str → Option Value} {x : Str} {n : Int} {t : Tok} (h : mg x = some (.int n t)) : mg x = some (.int n (g_tok mg x)) := by
  unfold g_tok
  rw [h]

/-! ### heaps -/
theorem same_new {H : Hp} {p : Addr} {o : HO} (h : H p = none) : Same H (upd H p o) := fun b x e => by
  rw [upd_ne (ne_of_none e h)]
  exact e
theorem same_mut {H H' : Hp} {p : Addr} {o : HO} (e : Same H H') (h : H p = none) : Same H (upd H' p o) := fun a u ha => by
  rw [upd_ne (ne_of_none ha h)]
  exact e a u ha
theorem same_seqT {K : PySem.W.Frag} {H H' : Hp} {a : Addr} {xs : List V} (e : Same H H') (h : SqT K H a xs) : SqT K H' a xs := by
  rcases h with (h | ⟨o, h⟩) | h
  · exact .inl (.inl (e _ _ h))
  · exact .inl (.inr ⟨o, e _ _ h⟩)
  · exact .inr h
theorem sl {K : PySem.W.Frag} {H : Hp} {a : Addr} {xs : List V} (h : H a = some (.lst xs)) : SqL K H a xs := .inl (.inl h)
theorem stp {K : PySem.W.Frag} {H : Hp} {a : Addr} {xs : List V} (h : H a = some (.tup xs)) : SqT K H a xs := .inl (.inl h)
theorem sz {n : Nat} (h : n ≤ 100000) : n ≤ sizeLine := Nat.le_trans h (by decide)
theorem szl {n : Nat} (h : n < 100000) : n < sizeLine := Nat.lt_of_lt_of_le h (by decide)

/-! ### data -/
mutual
theorem dp_same {K : PySem.W.Frag} {H H' : Hp} (e : Same H H') : ∀ {v : V} {d : PyData}, Dp K H v d → Dp K H' v d
  | _, _, .non => .non
  | _, _, .bl b => .bl b
  | _, _, .int i => .int i
  | _, _, .str x => .str x
  | _, _, .lst s r => .lst (e.seq s) (dpa_same e r)
  | _, _, .tup s r => .tup (same_seqT e s) (dpa_same e r)
theorem dpa_same {K : PySem.W.Frag} {H H' : Hp} (e : Same H H') : ∀ {vs : List V} {ds : List PyData}, DpAll K H vs ds → DpAll K H' vs ds
  | _, _, .nil => .nil
  | _, _, .cons h r => .cons (dp_same e h) (dpa_same e r)
end
section
variable {K : PySem.W.Frag} {H : Hp}
theorem dp_int {v : V} {i : Int} (h : Dp K H v (.int i)) : v = .int i := by cases h; rfl
theorem dp_bool {v : V} {b : Bool} (h : Dp K H v (.bool b)) : v = .bl b := by cases h; rfl
theorem dp_str {v : V} {s : Str} (h : Dp K H v (.str s)) : v = .str s := by cases h; rfl
theorem dp_list {v : V} {ds : List PyData} (h : Dp K H v (.list ds)) : ∃ a xs, v = .ref a ∧ SqL K H a xs ∧ DpAll K H xs ds := by
  cases h with | lst s r => exact ⟨_, _, rfl, s, r⟩
theorem dp_tup {v : V} {ds : List PyData} (h : Dp K H v (.tuple ds)) : ∃ a xs, v = .ref a ∧ SqT K H a xs ∧ DpAll K H xs ds := by
  cases h with | tup s r => exact ⟨_, _, rfl, s, r⟩
theorem dp_tup2 {v : V} {c d : PyData} (h : Dp K H v (.tuple [c, d])) : ∃ a x y, v = .ref a ∧ SqT K H a [x, y] ∧ Dp K H x c ∧ Dp K H y d := by
  cases h with | tup s r =>
    cases r with | cons h1 r =>
      cases r with | cons h2 r =>
        cases r
        exact ⟨_, _, _, rfl, s, h1, h2⟩
theorem dp_pair {v : V} {a b : Int} (h : Dp K H v (.tuple [.int a, .int b])) : ∃ p, v = .ref p ∧ SqT K H p [.int a, .int b] := by
  obtain ⟨p, x, y, rfl, s, h1, h2⟩ := dp_tup2 h
  rw [dp_int h1, dp_int h2] at s
  exact ⟨p, rfl, s⟩
theorem dpa_ints : ∀ {ns : List Int} {vs : List V}, DpAll K H vs (ns.map PyData.int) → vs = ns.map V.int
  | [], _, h => by cases h; rfl
  | n :: r, _, h => by
    cases h with | cons h1 h2 => rw [dp_int h1, dpa_ints h2]; rfl
theorem dpa_of_ints : ∀ ns : List Int, DpAll K H (ns.map V.int) (ns.map PyData.int)
  | [] => .nil
  | n :: r => .cons (.int n) (dpa_of_ints r)
theorem dpa_len : ∀ {vs : List V} {ds : List PyData}, DpAll K H vs ds → vs.length = ds.length
  | _, _, .nil => rfl
  | _, _, .cons _ r => by simp [dpa_len r]
theorem dpa_get : ∀ {vs : List V} {ds : List PyData} {i : Nat} {v : V}, DpAll K H vs ds → vs[i]? = some v → ∃ d, ds[i]? = some d ∧ Dp K H v d
  | _, _, _, _, .nil, e => by simp at e
  | _, _, 0, _, .cons h _, e => by simp at e; subst e; exact ⟨_, rfl, h⟩
  | _, _, i + 1, _, .cons _ r, e => by
    obtain ⟨d, h1, h2⟩ := dpa_get (i := i) r (by simpa using e)
    exact ⟨d, by simpa using h1, h2⟩
theorem dpa_get2 : ∀ {vs : List V} {ds : List PyData} {i : Nat} {d : PyData}, DpAll K H vs ds → ds[i]? = some d → ∃ v, vs[i]? = some v ∧ Dp K H v d
  | _, _, _, _, .nil, e => by simp at e
  | _, _, 0, _, .cons h _, e => by simp at e; subst e; exact ⟨_, rfl, h⟩
  | _, _, i + 1, _, .cons _ r, e => by
    obtain ⟨d, h1, h2⟩ := dpa_get2 (i := i) r (by simpa using e)
    exact ⟨d, by simpa using h1, h2⟩
theorem dpa_app {vs ws : List V} {ds es : List PyData} : DpAll K H vs ds → DpAll K H ws es → DpAll K H (vs ++ ws) (ds ++ es)
  | .nil, r => r
  | .cons h t, r => .cons h (dpa_app t r)
/-- a list of ints -/
abbrev dInts (ns : List Int) : PyData := .list (ns.map PyData.int)
theorem dp_ints {v : V} {ns : List Int} (h : Dp K H v (dInts ns)) : ∃ a, v = .ref a ∧ SqL K H a (ns.map V.int) := by
  obtain ⟨a, xs, rfl, s, r⟩ := dp_list h
  rw [dpa_ints r] at s
  exact ⟨a, rfl, s⟩
theorem dp_of_ints {a : Addr} {ns : List Int} (h : SqL K H a (ns.map V.int)) : Dp K H (.ref a) (dInts ns) := .lst h (dpa_of_ints ns)
/-- a pair of ints -/
abbrev dPair (p : Int × Int) : PyData := .tuple [.int p.1, .int p.2]
theorem dp_of_pair {a : Addr} {x y : Int} (h : SqT K H a [.int x, .int y]) : Dp K H (.ref a) (dPair (x, y)) := .tup h (.cons (.int x) (.cons (.int y) .nil))
abbrev dPairs (ps : List (Int × Int)) : PyData := .list (ps.map dPair)
end

theorem dpairs_get {K : PySem.W.Frag} {H : Hp} {xs : List V} {ps : List (Int × Int)} {i : Nat} {x : V} (hxs : DpAll K H xs (ps.map dPair)) (hx : xs[i]? = some x) : ∃ p c, ps[i]? = some p ∧ x = .ref c ∧ SqT K H c [.int p.1, .int p.2] := by
  obtain ⟨d, hd, hdx⟩ := dpa_get hxs hx
  rw [List.getElem?_map] at hd
  obtain ⟨p, hp, rfl⟩ := Option.map_eq_some_iff.mp hd
  obtain ⟨c, rfl, hcs⟩ := dp_pair hdx
  exact ⟨p, c, hp, rfl, hcs⟩
/-- data that may be compared: no dicts, at most n deep -/
def Sh (n : Nat) (d : PyData) : Prop := d.canLay0 = true ∧ d.depth ≤ n
theorem Sh.shaped {n : Nat} {d : PyData} (h : Sh n d) (hn : n ≤ 64) : SeqAt.shaped d = true := by
  unfold SeqAt.shaped
  rw [h.1, decide_eq_true (Nat.le_trans h.2 hn)]; rfl
theorem Sh.mono {n m : Nat} {d : PyData} (h : Sh n d) (hn : n ≤ m) : Sh m d := ⟨h.1, Nat.le_trans h.2 hn⟩
theorem sh_int {n : Nat} {i : Int} : Sh n (.int i) := ⟨rfl, Nat.zero_le _⟩
theorem sh_bool {n : Nat} {b : Bool} : Sh n (.bool b) := ⟨rfl, Nat.zero_le _⟩
theorem sh_none {n : Nat} : Sh n .none := ⟨rfl, Nat.zero_le _⟩
theorem sh_all {n : Nat} : ∀ {ds : List PyData}, (∀ d ∈ ds, Sh n d) → PyData.canLayAll0 ds = true ∧ PyData.depthAll ds ≤ n
  | [], _ => ⟨rfl, Nat.zero_le _⟩
  | d :: r, h => by
    obtain ⟨h1, h2⟩ := sh_all (ds := r) fun x hx => h x (List.mem_cons_of_mem _ hx)
    obtain ⟨h3, h4⟩ := h d List.mem_cons_self
    refine ⟨?_, ?_⟩
    · show (PyData.canLay0 d && PyData.canLayAll0 r) = true
      rw [h3, h1]; rfl
    · show max d.depth (PyData.depthAll r) ≤ n
      omega
theorem sh_list {n : Nat} {ds : List PyData} (h : ∀ d ∈ ds, Sh n d) : Sh (n + 1) (.list ds) := by
  obtain ⟨h1, h2⟩ := sh_all h
  exact ⟨h1, by show PyData.depthAll ds + 1 ≤ n + 1; omega⟩
theorem sh_tup {n : Nat} {ds : List PyData} (h : ∀ d ∈ ds, Sh n d) : Sh (n + 1) (.tuple ds) := by
  obtain ⟨h1, h2⟩ := sh_all h
  exact ⟨h1, by show PyData.depthAll ds + 1 ≤ n + 1; omega⟩
theorem sh_ints {n : Nat} (ns : List Int) : Sh (n + 1) (dInts ns) := sh_list fun d hd => by
  obtain ⟨i, _, rfl⟩ := List.mem_map.mp hd
  exact sh_int
theorem sh_pair {n : Nat} (p : Int × Int) : Sh (n + 1) (dPair p) := sh_tup fun d hd => by
  rcases List.mem_cons.mp hd with rfl | hd
  · exact sh_int
  · rcases List.mem_cons.mp hd with rfl | hd
    · exact sh_int
    · cases hd
theorem sh_pairs {n : Nat} (ps : List (Int × Int)) : Sh (n + 2) (dPairs ps) := sh_list fun d hd => by
  obtain ⟨p, _, rfl⟩ := List.mem_map.mp hd
  exact sh_pair p
theorem sh_two {n : Nat} {c d : PyData} (h1 : Sh n c) (h2 : Sh n d) : Sh (n + 1) (.tuple [c, d]) := sh_tup fun x hx => by
  rcases List.mem_cons.mp hx with rfl | hx
  · exact h1
  · rcases List.mem_cons.mp hx with rfl | hx
    · exact h2
    · cases hx
theorem Sh.refl {n : Nat} {d : PyData} (h : Sh n d) : PyData.eqv d d = true := SeqAt.eqv_refl d h.1
theorem ff_iff {P : Prop} (h : ¬ P) : false = true ↔ P := ⟨fun z => (nomatch z), fun z => (h z).elim⟩
theorem tt_iff {P : Prop} (h : P) : true = true ↔ P := ⟨fun _ => h, fun _ => rfl⟩

theorem ixN_of {n : Nat} {i : Int} (h0 : 0 ≤ i) (h1 : i < n) : ixN n i = some i.toNat := by unfold ixN; rw [if_pos h0, if_pos h1]
theorem map_erase (ns : List Int) (i : Nat) : (ns.map V.int).eraseIdx i = (ns.eraseIdx i).map V.int := by
  induction ns generalizing i with
  | nil => rfl
  | cons x r ih => cases i with
    | zero => rfl
    | succ i => show V.int x :: (r.map V.int).eraseIdx i = _; rw [ih]; rfl
theorem erase_perm {α : Type} (l : List α) (i : Nat) (h : i < l.length) : (l[i] :: l.eraseIdx i).Perm l := by
  induction l generalizing i with
  | nil => exact absurd h (by simp)
  | cons x r ih => cases i with
    | zero => exact List.Perm.refl _
    | succ i =>
      have h' : i < r.length := by simpa using h
      show (r[i] :: x :: r.eraseIdx i).Perm (x :: r)
      exact (List.Perm.swap _ _ _).trans ((ih i h').cons x)
theorem getD_memI {ns : List Int} {i : Int} (h0 : 0 ≤ i) (h1 : i < ns.length) : ns.getD i.toNat 0 ∈ ns := by
  have h : i.toNat < ns.length := by omega
  rw [List.getD_eq_getElem?_getD, List.getElem?_eq_getElem h]
  exact List.getElem_mem h
theorem not_in2 {p a b : Addr} (h1 : p ≠ a) (h2 : p ≠ b) : p ∉ [a, b] := by
  intro z
  rcases List.mem_cons.mp z with z | z
  · exact h1 z
  · rcases List.mem_cons.mp z with z | z
    · exact h2 z
    · cases z

/-! ### readings, step by step -/
section
variable {K : PySem.W.Frag} {σ : L2.St} {H : Hp} {D : Ends} {Q : VK} {ta tb te : TE} {t u : TT} {s1 s2 : TS} {QT : Bool → Hp → Prop} {QA : List V → Hp → Prop} {tr : TA} {QS : L2.St → Hp → Prop}
theorem k_seq (h : s1 { D with nx := s2 D } σ H) : tSeq s1 s2 D σ H := h
theorem k_nx {nx : L2.St → Hp → Prop} {rt : VK} {bk ct : L2.St → Hp → Prop} (h : nx σ H) : Ends.nx ⟨nx, rt, bk, ct⟩ σ H := h
theorem k_next (h : D.nx σ H) : tNext D σ H := h
theorem k_set {i : Nat} (h : te σ H fun x H1 => D.nx (σ.set i (some x)) H1) : tAsg te (gName i) D σ H := h
theorem k_asg {g : TG} (h : te σ H fun x H1 => g x σ H1 D.nx) : tAsg te g D σ H := h
theorem k_drop (h : te σ H fun _ H1 => D.nx σ H1) : tDrop te D σ H := h
theorem k_ret (h : te σ H D.rt) : tRet te D σ H := h
theorem k_if (h : t σ H fun b H1 => if b = true then s1 D σ H1 else s2 D σ H1) : tIfS t s1 s2 D σ H := h
theorem k_var {i : Nat} {v : V} (e : σ[i]? = some (some v)) (h : Q v H) : tVar i σ H Q := ⟨v, e, h⟩
theorem k_c {v : V} (h : Q v H) : tC v σ H Q := h
theorem k_op {r : R2} (h : ta σ H fun x H1 => tb σ H1 fun y H2 => r x y H2 Q) : tOp r ta tb σ H Q := h
theorem k_un {r : V → Hp → VK → Prop} (h : ta σ H fun x H1 => r x H1 Q) : tUn r ta σ H Q := h
theorem k_I0 {g : Int → Int → V} {i j : Int} (h : Q (g i j) H) : rI0 g (.int i) (.int j) H Q := ⟨i, j, rfl, rfl, h⟩
theorem k_I {C : Int → Int → Prop} {g : Int → Int → V} {i j : Int} (hc : C i j) (h : Q (g i j) H) : rI C g (.int i) (.int j) H Q := ⟨i, j, rfl, rfl, hc, h⟩
theorem k_add {i j : Int} (h : Q (.int (i + j)) H) : xAdd (.int i) (.int j) H Q := ⟨i, j, rfl, rfl, h⟩
theorem k_sub {i j : Int} (h : Q (.int (i - j)) H) : xSub (.int i) (.int j) H Q := ⟨i, j, rfl, rfl, h⟩
theorem k_mul {i j : Int} (hc : CMul i j) (h : Q (.int (i * j)) H) : xMul (.int i) (.int j) H Q := ⟨i, j, rfl, rfl, hc, h⟩
theorem k_mulW {i j : Int} (hc : CMulW i j) (h : Q (.int (i * j)) H) : xMulW (.int i) (.int j) H Q := ⟨i, j, rfl, rfl, hc, h⟩
theorem k_div {i j : Int} (hc : CDiv i j) (h : Q (.int (i / j)) H) : xDiv (.int i) (.int j) H Q := ⟨i, j, rfl, rfl, hc, h⟩
theorem k_divW {i j : Int} (hc : CDivW i j) (h : Q (.int (i / j)) H) : xDivW (.int i) (.int j) H Q := ⟨i, j, rfl, rfl, hc, h⟩
theorem k_mod {i j : Int} (hc : 0 < j) (h : Q (.int (i % j)) H) : xMod (.int i) (.int j) H Q := ⟨i, j, rfl, rfl, hc, h⟩
theorem k_pow {i j : Int} (hc : CPow i j) (h : Q (.int (i ^ j.toNat)) H) : xPow (.int i) (.int j) H Q := ⟨i, j, rfl, rfl, hc, h⟩
theorem k_lt {i j : Int} (h : Q (.bl (decide (i < j))) H) : xLt (.int i) (.int j) H Q := ⟨i, j, rfl, rfl, h⟩
theorem k_le {i j : Int} (h : Q (.bl (decide (i ≤ j))) H) : xLe (.int i) (.int j) H Q := ⟨i, j, rfl, rfl, h⟩
theorem k_gt {i j : Int} (h : Q (.bl (decide (j < i))) H) : xGt (.int i) (.int j) H Q := ⟨i, j, rfl, rfl, h⟩
theorem k_ge {i j : Int} (h : Q (.bl (decide (j ≤ i))) H) : xGe (.int i) (.int j) H Q := ⟨i, j, rfl, rfl, h⟩
theorem k_neg {i : Int} (h : Q (.int (-i)) H) : xNeg (.int i) H Q := ⟨i, rfl, h⟩
theorem k_U {g : Int → V} {i : Int} (h : Q (g i) H) : rU g (.int i) H Q := ⟨i, rfl, h⟩
theorem k_eqI {i j : Int} (h : Q (.bl (decide (i = j))) H) : rEq (.int i) (.int j) H Q := ⟨rfl, by
  have e : decide (V.int i = V.int j) = decide (i = j) := by
    by_cases c : i = j
    · rw [decide_eq_true c, decide_eq_true (by rw [c])]
    · rw [decide_eq_false c, decide_eq_false (fun z => c (V.int.inj z))]
  rw [e]; exact h⟩
theorem k_neI {i j : Int} (h : Q (.bl (!decide (i = j))) H) : rNe (.int i) (.int j) H Q := ⟨rfl, by
  have e : decide (V.int i = V.int j) = decide (i = j) := by
    by_cases c : i = j
    · rw [decide_eq_true c, decide_eq_true (by rw [c])]
    · rw [decide_eq_false c, decide_eq_false (fun z => c (V.int.inj z))]
  rw [e]; exact h⟩
theorem k_test (h : te σ H fun x H1 => ∃ k, x = .bl k ∧ QT k H1) : tTest te σ H QT := h
theorem k_B (h : te σ H fun x H1 => ∃ k, x = .bl k ∧ QT k H1) : tB te σ H QT := h
theorem k_bl {b : Bool} {R : Bool → Prop} (h : R b) : ∃ k, V.bl b = .bl k ∧ R k := ⟨b, rfl, h⟩
theorem k_and (h : t σ H fun c H1 => if c = true then u σ H1 QT else QT false H1) : tAnd t u σ H QT := h
theorem k_or (h : t σ H fun c H1 => if c = true then QT true H1 else u σ H1 QT) : tOr t u σ H QT := h
theorem k_not (h : t σ H fun c H1 => QT (!c) H1) : tNot t σ H QT := h
theorem k_notV (h : ta σ H fun x H1 => ∃ c, x = .bl c ∧ Q (.bl (!c)) H1) : tNotV ta σ H Q := h
theorem k_andV (h : ta σ H fun x H1 => ∃ c, x = .bl c ∧ if c = true then tb σ H1 Q else Q (.bl false) H1) : tAndV ta tb σ H Q := h
theorem k_orV (h : ta σ H fun x H1 => ∃ c, x = .bl c ∧ if c = true then Q (.bl true) H1 else tb σ H1 Q) : tOrV ta tb σ H Q := h
theorem k_cb {r : List V → Hp → VK → Prop} (h : tr σ H fun vs H1 => r vs H1 Q) : tCB r tr σ H Q := h
theorem k_nil (h : QA [] H) : tNil σ H QA := h
theorem k_cons (h : ta σ H fun x H1 => tr σ H1 fun xs H2 => QA (x :: xs) H2) : tCons ta tr σ H QA := h
theorem k_call {sp : Sp} {dvs : List V} {E : XK} (h : tr σ H fun vs H1 => sp (vs ++ dvs) H1 Q E) : tCall sp dvs E tr σ H Q := h
theorem k_len {p : Addr} {ys : List V} (hs : SqL K H p ys) (h : Q (.int ys.length) H) : rLen K [.ref p] H Q := ⟨p, ys, rfl, .inl hs, h⟩
theorem k_len0 {p : Addr} (hs : H p = some (.lst [])) (h : Q (.int 0) H) : rLen K [.ref p] H Q := ⟨p, [], rfl, .inl (sl hs), h⟩
theorem k_lenT {p : Addr} {ys : List V} (hs : SqT K H p ys) (h : Q (.int ys.length) H) : rLen K [.ref p] H Q := ⟨p, ys, rfl, .inr hs, h⟩
theorem k_lenI {p : Addr} {ns : List Int} (hs : SqL K H p (ns.map V.int)) (h : Q (.int ns.length) H) : rLen K [.ref p] H Q := ⟨p, _, rfl, .inl hs, by rw [List.length_map]; exact h⟩
theorem k_list {p : Addr} {ys : List V} (hs : SqL K H p ys) (h : ∀ l, H l = none → Q (.ref l) (upd H l (.lst ys))) : rListOf K [.ref p] H Q := ⟨p, ys, rfl, .inl hs, h⟩
theorem k_lst (h : tr σ H fun xs H1 => xs.length ≤ sizeLine ∧ ∀ p, H1 p = none → Q (.ref p) (upd H1 p (.lst xs))) : tLst tr σ H Q := h
theorem k_tup (h : tr σ H fun xs H1 => xs.length ≤ sizeLine ∧ ∀ p, H1 p = none → Q (.ref p) (upd H1 p (.tup xs))) : tTup tr σ H Q := h
theorem k_new {xs : List V} {R : Addr → Prop} (hn : xs.length ≤ 100000) (h : ∀ p, H p = none → R p) : xs.length ≤ sizeLine ∧ ∀ p, H p = none → R p := ⟨sz hn, h⟩
theorem k_gtup {n : Nat} {g : TGs} {a : Addr} {xs : List V} (hs : SqT K H a xs) (hn : xs.length = n) (h : g xs σ H QS) : gTup K n g (.ref a) σ H QS := ⟨a, xs, rfl, hs, hn, h⟩
theorem k_gunl {n : Nat} {g : TGs} {a : Addr} {xs : List V} (hs : SqL K H a xs) (hn : xs.length = n) (h : g xs σ H QS) : gUnl K n g (.ref a) σ H QS := ⟨a, xs, rfl, hs, hn, h⟩
theorem k_gcons {g : TG} {gs : TGs} {v : V} {r : List V} (h : g v σ H fun σ' H' => gs r σ' H' QS) : gCons g gs (v :: r) σ H QS := ⟨v, r, rfl, h⟩
theorem k_gnil (h : QS σ H) : gNil [] σ H QS := ⟨rfl, h⟩
theorem k_gname {i : Nat} {v : V} (h : QS (σ.set i (some v)) H) : gName i v σ H QS := h
theorem k_gsub {to ti : TE} {ts : TSet} {v : V} (h : to σ H fun o H1 => ti σ H1 fun i H2 => ts o i v H2 fun H3 => QS σ H3) : gSub to ti ts v σ H QS := h
theorem k_setL {p : Addr} {xs : List V} {k : Int} {j : Nat} {v : V} {QH : Hp → Prop} (hp : H p = some (.lst xs)) (hj : ixN xs.length k = some j) (h : QH (upd H p (.lst (xs.set j v)))) : rSetL (.ref p) (.int k) v H QH := ⟨p, xs, k, j, rfl, rfl, hp, hj, h⟩
theorem k_ixL {p : Addr} {xs : List V} {i : Int} {v : V} (hs : SqL K H p xs) (ha : atI xs i = some v) (h : Q v H) : rIxL K (.ref p) (.int i) H Q := ⟨p, xs, i, v, rfl, rfl, hs, ha, h⟩
theorem k_ixT {p : Addr} {xs : List V} {i : Int} {v : V} (hs : SqT K H p xs) (ha : atI xs i = some v) (h : Q v H) : rIxT K (.ref p) (.int i) H Q := ⟨p, xs, i, v, rfl, rfl, hs, ha, h⟩
theorem k_min {p : Addr} {ns : List Int} (hs : SqL K H p (ns.map V.int)) (h0 : 0 < ns.length) (h : ∀ m, m ∈ ns → (∀ y, y ∈ ns → m ≤ y) → Q (.int m) H) : rMin K [.ref p] H Q := ⟨p, ns, rfl, hs, h0, h⟩
theorem k_max {p : Addr} {ns : List Int} (hs : SqL K H p (ns.map V.int)) (h0 : 0 < ns.length) (h : ∀ m, m ∈ ns → (∀ y, y ∈ ns → y ≤ m) → Q (.int m) H) : rMax K [.ref p] H Q := ⟨p, ns, rfl, hs, h0, h⟩
theorem k_popI {p : Addr} {ns : List Int} {i : Int} (hp : H p = some (.lst (ns.map V.int))) (h0 : 0 ≤ i) (h1 : i < ns.length) (h2 : i < 1000000) (h : Q (.int (ns.getD i.toNat 0)) (upd H p (.lst ((ns.eraseIdx i.toNat).map V.int)))) : rPopAt (.ref p) [.int i] H Q := by
  refine ⟨p, _, i, i.toNat, .int (ns.getD i.toNat 0), rfl, rfl, hp, by omega, by omega, ?_, ?_, ?_⟩
  · exact (ixN_seq (ixN_of h0 (by rw [List.length_map]; exact h1))).1
  · have hh : i.toNat < ns.length := by omega
    rw [List.getElem?_map, List.getElem?_eq_getElem hh]
    simp [List.getD_eq_getElem?_getD, List.getElem?_eq_getElem hh]
  · have e : (ns.map V.int).eraseIdx i.toNat = (ns.eraseIdx i.toNat).map V.int := map_erase ns _
    rw [e]; exact h
theorem k_sortedI {a : Addr} {ns : List Int} (hs : SqL K H a (ns.map V.int)) (h : ∀ (ns' : List Int) (p : Addr), ns'.Perm ns → ns'.Pairwise (· ≤ ·) → H p = none → Q (.ref p) (upd H p (.lst (ns'.map V.int)))) : rSortedI K [.ref a] H Q := ⟨a, ns, rfl, hs, h⟩
theorem k_max2 {i j : Int} (h : Q (.int (if j > i then j else i)) H) : rMax2 [.int i, .int j] H Q := ⟨i, j, rfl, h⟩
theorem k_min2 {i j : Int} (h : Q (.int (if j < i then j else i)) H) : rMin2 [.int i, .int j] H Q := ⟨i, j, rfl, h⟩
theorem k_bm {T : String} {r : V → List V → Hp → VK → Prop} (h : ta σ H fun x H1 => tyV K T x H1 ∧ tr σ H1 fun xs H2 => r x xs H2 Q) : tBM K T r ta tr σ H Q := h
theorem k_bm0 {T : String} {r : V → List V → Hp → VK → Prop} (h : ta σ H fun x H1 => tyV K T x H1 ∧ r x [] H1 Q) : tBM0 K T r ta σ H Q := h
theorem k_tyL {p : Addr} {xs : List V} {R : Prop} (hp : SqL K H p xs) (h : R) : tyV K "list" (.ref p) H ∧ R := ⟨.inl ⟨rfl, _, hp⟩, h⟩
theorem k_append {p : Addr} {xs : List V} {y : V} (hp : H p = some (.lst xs)) (hn : xs.length < 100000) (h : Q .non (upd H p (.lst (xs ++ [y])))) : rAppend (.ref p) [y] H Q := ⟨p, xs, y, rfl, rfl, hp, szl hn, h⟩
theorem k_itT {b : Bool} {A B : Prop} (e : b = true) (h : A) : if b = true then A else B := by rw [if_pos e]; exact h
theorem k_itF {b : Bool} {A B : Prop} (e : b = false) (h : B) : if b = true then A else B := by rw [e]; exact h
theorem iteNT {A B : Prop} (h : B) : if (!true) = true then A else B := iteF h
theorem iteNF {A B : Prop} (h : A) : if (!false) = true then A else B := iteT h
theorem k_itDT {c A B : Prop} [Decidable c] (e : c) (h : A) : if decide c = true then A else B := by rw [if_pos (decide_eq_true e)]; exact h
theorem k_itDF {c A B : Prop} [Decidable c] (e : ¬ c) (h : B) : if decide c = true then A else B := by rw [decide_eq_false e]; exact h
theorem k_itNT {c A B : Prop} [Decidable c] (e : ¬ c) (h : A) : if (!decide c) = true then A else B := by rw [decide_eq_false e]; exact h
theorem k_itNF {c A B : Prop} [Decidable c] (e : c) (h : B) : if (!decide c) = true then A else B := by rw [decide_eq_true e]; exact h
theorem k_for {wi : TI} {g : TG} {tb : TS} (h : wi σ H fun J H1 => ∃ W : Nat → Nat → L2.St → Hp → Prop, (∃ m, W 0 m σ H1) ∧ ∀ i m σ H, W i m σ H →
  (J.stop i H ∧ D.nx σ H) ∨ (J.go i H ∧ ∃ N : L2.St → Hp → Prop, (∀ σ' H', N σ' H' → ∃ m', m' < m ∧ W (i + 1) m' σ' H') ∧ ∀ x H', J.yld i H x H' → g x σ H' fun σ2 H2 => tb { D with nx := N, ct := N, bk := D.nx } σ2 H2)) : tFor wi g tb D σ H := h
theorem k_iList {R : It → Hp → Prop} (h : te σ H fun x H1 => ∃ a, x = .ref a ∧ (∃ xs, SqL K H1 a xs) ∧ R (Itl K a) H1) : iList K te σ H R := h
theorem k_iTup {R : It → Hp → Prop} (h : te σ H fun x H1 => ∃ a, x = .ref a ∧ (∃ xs, SqT K H1 a xs) ∧ R (Itt K a) H1) : iTup K te σ H R := h
theorem k_iRng1 {R : It → Hp → Prop} (h : tr σ H fun vs H1 => ∃ j : Int, vs = [.int j] ∧ -(2 ^ 62) ≤ j ∧ j < 2 ^ 62 ∧ R (Itr 0 j.toNat) H1) : iRng1 tr σ H R := h
theorem k_iRng2 {R : It → Hp → Prop} (h : tr σ H fun vs H1 => ∃ i j : Int, vs = [.int i, .int j] ∧ (-(2 ^ 62) ≤ i ∧ i < 2 ^ 62 ∧ -(2 ^ 62) ≤ j ∧ j < 2 ^ 62) ∧ R (Itr i (j - i).toNat) H1) : iRng2 tr σ H R := h
theorem k_rj1 {j : Int} {R : Int → Prop} (h1 : -(2 ^ 62) ≤ j) (h2 : j < 2 ^ 62) (h : R j) : ∃ j' : Int, [V.int j] = [.int j'] ∧ -(2 ^ 62) ≤ j' ∧ j' < 2 ^ 62 ∧ R j' := ⟨j, rfl, h1, h2, h⟩
theorem k_rj2 {i j : Int} {R : Int → Int → Prop} (h1 : -(2 ^ 62) ≤ i ∧ i < 2 ^ 62 ∧ -(2 ^ 62) ≤ j ∧ j < 2 ^ 62) (h : R i j) : ∃ i' j' : Int, [V.int i, V.int j] = [.int i', .int j'] ∧ (-(2 ^ 62) ≤ i' ∧ i' < 2 ^ 62 ∧ -(2 ^ 62) ≤ j' ∧ j' < 2 ^ 62) ∧ R i' j' := ⟨i, j, rfl, h1, h⟩
theorem k_it {c A B : Prop} [Decidable c] (h1 : c → A) (h2 : ¬ c → B) : if decide c = true then A else B := by
  by_cases h : c
  · rw [if_pos (decide_eq_true h)]; exact h1 h
  · rw [decide_eq_false h]; exact h2 h
theorem k_itn {c A B : Prop} [Decidable c] (h1 : ¬ c → A) (h2 : c → B) : if (!decide c) = true then A else B := by
  by_cases h : c
  · rw [decide_eq_true h]; exact h2 h
  · rw [decide_eq_false h]; exact h1 h
theorem k_itb {b : Bool} {A B : Prop} (h1 : b = true → A) (h2 : b = false → B) : if b = true then A else B := by
  cases b with
  | true => exact h1 rfl
  | false => exact h2 rfl
theorem k_isi {x : V} {c : String} {tx : String} {b : Bool} (ht : TyX K H x (.type tx)) (hb : kitB tx c = some b) (h : Q (.bl b) H) : rIsi K [x, .ty c] H Q := ⟨x, .ty c, .type tx, .type c, b, rfl, .ty c, ht, kit_ty hb, h⟩

theorem ty_list {p : Addr} {xs : List V} (h : SqL K H p xs) : TyX K H (.ref p) (.type "list") := by
  rcases h with (h | ⟨o, h⟩) | ⟨o, its, n, h, c, _⟩
  · exact .base (.lst h)
  · exact .base (.frz h)
  · exact .kList h c
theorem k_isiL {p : Addr} {xs : List V} (hs : SqL K H p xs) (h : Q (.bl true) H) : rIsi K [.ref p, .ty "list"] H Q := k_isi (ty_list hs) (by decide +kernel) h
theorem k_isiLI {i : Int} (h : Q (.bl false) H) : rIsi K [.int i, .ty "list"] H Q := k_isi (.base (.int i)) (by decide +kernel) h
theorem k_isiI {i : Int} (h : Q (.bl true) H) : rIsi K [.int i, .ty "int"] H Q := k_isi (.base (.int i)) (by decide +kernel) h
theorem k_isiB {i : Int} (h : Q (.bl false) H) : rIsi K [.int i, .ty "bool"] H Q := k_isi (.base (.int i)) (by decide +kernel) h
theorem inV_ints (x : Int) : ∀ ns : List Int, inV (.int x) (ns.map V.int) = decide (x ∈ ns)
  | [] => rfl
  | n :: r => by
    show (eqV (.int n) (.int x) || inV (.int x) (r.map V.int)) = decide (x ∈ n :: r)
    rw [inV_ints x r]
    show ((n == x) || decide (x ∈ r)) = decide (x ∈ n :: r)
    by_cases h : n = x
    · subst h; simp
    · have : (n == x) = false := by simp [h]
      rw [this, Bool.false_or]
      have h' : ¬ x = n := fun e => h e.symm
      simp [h']
theorem flat_ints : ∀ ns : List Int, (ns.map V.int).all flatV = true
  | [] => rfl
  | _ :: r => by show (true && (r.map V.int).all flatV) = true; rw [flat_ints r]; rfl
theorem k_inI {p : Addr} {ns : List Int} {x : Int} (hs : SqL K H p (ns.map V.int)) (h : Q (.bl (decide (x ∈ ns))) H) : rIn K false (.int x) (.ref p) H Q :=
  ⟨p, _, rfl, .inl hs, rfl, flat_ints ns, by rw [if_neg Bool.false_ne_true, inV_ints]; exact h⟩
theorem k_notInI {p : Addr} {ns : List Int} {x : Int} (hs : SqL K H p (ns.map V.int)) (h : Q (.bl (!decide (x ∈ ns))) H) : rIn K true (.int x) (.ref p) H Q :=
  ⟨p, _, rfl, .inl hs, rfl, flat_ints ns, by rw [if_pos rfl, inV_ints]; exact h⟩
theorem k_intB {b : Bool} (h : Q (.int (if b then 1 else 0)) H) : rIntOf [.bl b] H Q := .inr ⟨b, rfl, h⟩
theorem at_int {ns : List Int} {i : Int} (h0 : 0 ≤ i) (h1 : i < ns.length) : atI (ns.map V.int) i = some (.int (ns.getD i.toNat 0)) := by
  obtain ⟨k, rfl⟩ : ∃ k : Nat, i = k := ⟨i.toNat, by omega⟩
  have h : k < ns.length := by omega
  refine atI_nat ?_
  rw [List.getElem?_map]
  simp [List.getElem?_eq_getElem h, List.getD_eq_getElem?_getD]
theorem k_ixI {p : Addr} {ns : List Int} {i : Int} (hs : SqL K H p (ns.map V.int)) (h0 : 0 ≤ i) (h1 : i < ns.length) (h : Q (.int (ns.getD i.toNat 0)) H) : rIxL K (.ref p) (.int i) H Q := k_ixL hs (at_int h0 h1) h
theorem k_eqD {x y : V} {c d : PyData} {n : Nat} (hx : Dp K H x c) (hy : Dp K H y d) (h1 : Sh n c) (h2 : Sh n d) (hn : n ≤ 64) (h : Q (.bl (PyData.eqv c d)) H) : rEqD K x y H Q := ⟨c, d, hx, hy, h1.shaped hn, h2.shaped hn, h⟩
theorem k_neD {x y : V} {c d : PyData} {n : Nat} (hx : Dp K H x c) (hy : Dp K H y d) (h1 : Sh n c) (h2 : Sh n d) (hn : n ≤ 64) (h : Q (.bl (!PyData.eqv c d)) H) : rNeD K x y H Q := ⟨c, d, hx, hy, h1.shaped hn, h2.shaped hn, h⟩
theorem k_neD0 {x y : V} {c : PyData} {n : Nat} (hx : Dp K H x c) (hy : Dp K H y c) (h1 : Sh n c) (hn : n ≤ 64) (h : Q (.bl false) H) : rNeD K x y H Q := k_neD hx hy h1 h1 hn (by rw [h1.refl]; exact h)
theorem k_eqD1 {x y : V} {c : PyData} {n : Nat} (hx : Dp K H x c) (hy : Dp K H y c) (h1 : Sh n c) (hn : n ≤ 64) (h : Q (.bl true) H) : rEqD K x y H Q := k_eqD hx hy h1 h1 hn (by rw [h1.refl]; exact h)
/-- new objects, the heap behind as a letter -/
theorem k_newL {xs : List V} (hn : xs.length ≤ 100000) (h : ∀ p H', H p = none → Same H H' → H' p = some (.lst xs) → Q (.ref p) H') : xs.length ≤ sizeLine ∧ ∀ p, H p = none → Q (.ref p) (upd H p (.lst xs)) :=
  ⟨sz hn, fun p np => h p _ np (same_new np) upd_same⟩
theorem k_newT {xs : List V} (hn : xs.length ≤ 100000) (h : ∀ p H', H p = none → Same H H' → H' p = some (.tup xs) → Q (.ref p) H') : xs.length ≤ sizeLine ∧ ∀ p, H p = none → Q (.ref p) (upd H p (.tup xs)) :=
  ⟨sz hn, fun p np => h p _ np (same_new np) upd_same⟩
theorem k_listN {p : Addr} {ys : List V} (hs : SqL K H p ys) (h : ∀ l H', H l = none → Same H H' → H' l = some (.lst ys) → Q (.ref l) H') : rListOf K [.ref p] H Q := k_list hs fun l nl => h l _ nl (same_new nl) upd_same
theorem k_slL {a : Addr} {xs : List V} {lo hi : Option Int} (hs : SqL K H a xs) (h : ∀ p H', H p = none → Same H H' → H' p = some (.lst (cutV xs lo hi)) → Q (.ref p) H') : rSlL K (.ref a) lo hi H Q := ⟨a, xs, rfl, hs, fun p np => h p _ np (same_new np) upd_same⟩
theorem k_sl {r : V → Option Int → Option Int → Hp → VK → Prop} {tl th : TO} (h : te σ H fun x H1 => tl σ H1 fun l H2 => th σ H2 fun u H3 => r x l u H3 Q) : tSl r te tl th σ H Q := h
theorem k_nopart {QO : Option Int → Hp → Prop} (h : QO none H) : tNoPart σ H QO := h
theorem k_part {QO : Option Int → Hp → Prop} (h : te σ H fun x H1 => ∃ i, x = .int i ∧ QO (some i) H1) : tPart te σ H QO := h
theorem k_int {i : Int} {R : Int → Prop} (h : R i) : ∃ j, V.int i = .int j ∧ R j := ⟨i, rfl, h⟩
theorem rg_ints (a b : Int) : rgV a b = ((List.range (b - a).toNat).map fun i => a + (i : Nat)).map V.int := by
  unfold rgV; rw [List.map_map]; rfl
theorem k_listRg {tg : L2.St → Hp → (Int → Int → Hp → Prop) → Prop} (h : tg σ H fun a b H1 => RgOk a b ∧ ∀ q, H1 q = none → Q (.ref q) (upd H1 q (.lst (rgV a b)))) : tLstRg tg σ H Q := h
theorem k_rg1 {QR : Int → Int → Hp → Prop} (h : ta σ H fun x H1 => ∃ n, x = .int n ∧ QR 0 n H1) : tRg1 ta σ H QR := h
theorem k_rgN {a b : Int} (hr : RgOk a b) (h : ∀ p H', H p = none → Same H H' → H' p = some (.lst (rgV a b)) → Q (.ref p) H') : RgOk a b ∧ ∀ q, H q = none → Q (.ref q) (upd H q (.lst (rgV a b))) := ⟨hr, fun q nq => h q _ nq (same_new nq) upd_same⟩
theorem dp_of_int {i j : Int} (e : i = j) : Dp K H (.int i) (.int j) := e ▸ .int i
end
/-! ### heaps with some places out of sight -/
def hid (S : List Addr) (H : Hp) : Hp := fun b => if b ∈ S then none else H b
theorem hid_ne {S : List Addr} {H : Hp} {b : Addr} (h : b ∉ S) : hid S H b = H b := if_neg h
theorem hid_in {S : List Addr} {H : Hp} {b : Addr} (h : b ∈ S) : hid S H b = none := if_pos h
theorem hid_some {S : List Addr} {H : Hp} {b : Addr} {o : HO} (h : hid S H b = some o) : b ∉ S ∧ H b = some o := by
  unfold hid at h
  split at h
  · cases h
  · exact ⟨by assumption, h⟩
theorem hid_same (S : List Addr) (H : Hp) : Same (hid S H) H := fun b o h => (hid_some h).2
theorem hid_mono {S : List Addr} {H H' : Hp} (e : Same H H') : Same (hid S H) (hid S H') := fun b o h => by
  obtain ⟨n, h⟩ := hid_some h
  rw [hid_ne n]
  exact e b o h
theorem hid_sub {S S' : List Addr} {H : Hp} (h : ∀ a ∈ S, a ∈ S') : Same (hid S' H) (hid S H) := fun b o e => by
  obtain ⟨n, e⟩ := hid_some e
  rw [hid_ne fun z => n (h b z)]
  exact e
/-- a change at a hidden place -/
theorem hid_upd {S : List Addr} {H : Hp} {p : Addr} {o : HO} (h : p ∈ S) : hid S (upd H p o) = hid S H := by
  funext b
  unfold hid
  split
  · rfl
  · rename_i n
    rw [upd_ne fun e => n (by rw [e]; exact h)]
theorem same_hid_upd {S : List Addr} {H0 H : Hp} {p : Addr} {o : HO} (e : Same H0 (hid S H)) (h : p ∈ S) : Same H0 (hid S (upd H p o)) := by rw [hid_upd h]; exact e
/-- what the law's data says stays when a fresh object is changed -/
theorem same_hid_mut {S : List Addr} {H0 H : Hp} {p : Addr} {o : HO} (e : Same H0 (hid S H)) (h : H0 p = none) : Same H0 (hid S (upd H p o)) := fun b u hb => by
  have := e b u hb
  obtain ⟨n, q⟩ := hid_some this
  rw [hid_ne n, upd_ne (ne_of_none hb h)]
  exact q
theorem hid_more {S S' : List Addr} {H H' : Hp} (e : Same (hid S H) (hid S H')) (h : ∀ a ∈ S, a ∈ S') : Same (hid S' H) (hid S' H') := fun b o hb => by
  obtain ⟨n, q⟩ := hid_some hb
  have n' : b ∉ S := fun z => n (h b z)
  have := e b o (by rw [hid_ne n']; exact q)
  rw [hid_ne n'] at this
  rw [hid_ne n]
  exact this
theorem same_hid_new {S : List Addr} {H : Hp} {p : Addr} {o : HO} (h : H p = none) : Same (hid S H) (hid S (upd H p o)) := hid_mono (same_new h)

/-! ### the law's purse: a list of the cells and the turn -/
structure Pu (H : Hp) (pu ce : Addr) (n : Nat) (t : Int) : Prop where
  hp : H pu = some (.lst [.ref ce, .int t])
  hc : ∃ cs : List Int, cs.length = n ∧ H ce = some (.lst (cs.map V.int))
  n0 : 0 < n
  n1 : n ≤ 63
  t0 : 0 ≤ t
theorem Pu.ne {H : Hp} {pu ce : Addr} {n : Nat} {t : Int} (h : Pu H pu ce n t) : pu ≠ ce := fun e => by
  obtain ⟨cs, hl, hc⟩ := h.hc
  have hp := h.hp
  rw [e, hc] at hp
  cases cs with
  | nil => injection hp with hp; injection hp with hp; cases hp
  | cons x r => injection hp with hp; injection hp with hp; injection hp with h1 h2; cases h1
theorem Pu.fresh {H : Hp} {pu ce : Addr} {n : Nat} {t : Int} (h : Pu H pu ce n t) {p : Addr} (np : H p = none) : p ∉ [pu, ce] := fun z => by
  obtain ⟨cs, hl, hc⟩ := h.hc
  rcases List.mem_cons.mp z with rfl | z
  · rw [h.hp] at np; cases np
  · rcases List.mem_cons.mp z with rfl | z
    · rw [hc] at np; cases np
    · cases z
theorem Pu.upd {H : Hp} {pu ce : Addr} {n : Nat} {t : Int} (h : Pu H pu ce n t) {p : Addr} {o : HO} (np : p ∉ [pu, ce]) : Pu (upd H p o) pu ce n t := by
  have h1 : pu ≠ p := fun e => np (by rw [e]; exact List.mem_cons_self)
  have h2 : ce ≠ p := fun e => np (by rw [e]; exact List.mem_cons_of_mem _ List.mem_cons_self)
  obtain ⟨cs, hl, hc⟩ := h.hc
  exact ⟨by rw [upd_ne h1]; exact h.hp, ⟨cs, hl, by rw [upd_ne h2]; exact hc⟩, h.n0, h.n1, h.t0⟩
theorem Pu.same {H H' : Hp} {pu ce : Addr} {n : Nat} {t : Int} (h : Pu H pu ce n t) (e : Same H H') : Pu H' pu ce n t := by
  obtain ⟨cs, hl, hc⟩ := h.hc
  exact ⟨e _ _ h.hp, ⟨cs, hl, e _ _ hc⟩, h.n0, h.n1, h.t0⟩
/-- an object that is none of the purse's stays as it is -/
theorem keeps {S : List Addr} {H H' : Hp} (e : Same (hid S H) (hid S H')) {b : Addr} {o : HO} (hb : H b = some o) (n : b ∉ S) : H' b = some o := by
  have := e b o (by rw [hid_ne n]; exact hb)
  rw [hid_ne n] at this
  exact this
theorem fresh_hid {S : List Addr} {H H' : Hp} (e : Same (hid S H) (hid S H')) {b : Addr} (hb : H' b = none) (n : b ∉ S) : H b = none := by
  have := e.free (l := b) (by rw [hid_ne n]; exact hb)
  rw [hid_ne n] at this
  exact this
theorem getD_set_len {α : Type} (l : List α) (i : Nat) (v : α) : (l.set i v).length = l.length := List.length_set
theorem map_set_int (cs : List Int) (i : Nat) (v : Int) : (cs.map V.int).set i (.int v) = (cs.set i v).map V.int := by rw [List.map_set]

/-! ### comprehensions whose block leaves the heap as it is -/
section
variable {K : PySem.W.Frag} {σ : L2.St} {H1 : Hp} {Q : VK} {g : TG} {tt : TT} {te : TE} {vs : List Nat}
theorem k_lc {wi : TI} (h : wi σ H1 fun J H1 => ∀ D, H1 D = none → ∃ W : Nat → Nat → Hp → Prop, (∃ m, W 0 m (upd H1 D (.lst []))) ∧ ∀ i m H, W i m H →
  (J.stop i H ∧ Q (.ref D) H) ∨ (J.go i H ∧ ∃ Nx : Hp → Prop, (∀ H', Nx H' → ∃ m', m' < m ∧ W (i + 1) m' H') ∧ ∀ x H', J.yld i H x H' → g x (wipe σ vs) H' fun σ2 H2 => wipe σ2 vs = wipe σ vs ∧ tt σ2 H2 fun b H3 =>
    if b = true then te σ2 H3 fun y H4 => ∃ acc, H4 D = some (.lst acc) ∧ acc.length < sizeLine ∧ Nx (upd H4 D (.lst (acc ++ [y]))) else Nx H3)) : tLc wi g tt te vs σ H1 Q := h
theorem k_wipe {σ' : L2.St} {R : Prop} (e : wipe σ' vs = wipe σ vs) (h : R) : wipe σ' vs = wipe σ vs ∧ R := ⟨e, h⟩
theorem k_yes {QT : Bool → Hp → Prop} (h : QT true H1) : tYes σ H1 QT := h
theorem take_filterMap {α β : Type} {f : α → Option β} {ps : List α} {i : Nat} {p : α} (h : ps[i]? = some p) : (ps.take (i + 1)).filterMap f = (ps.take i).filterMap f ++ (f p).toList := by
  rw [List.take_add_one, h, List.filterMap_append]
  simp [List.filterMap_cons]
  cases f p <;> rfl
/-- over a list of which ps tells the items -/
theorem lc_pure {QD : Addr → Hp → Prop} {α : Type} {a : Addr} {xs : List V} (hs : SqL K H1 a xs) (ps : List α) (hl : xs.length = ps.length) (hz : ps.length ≤ 50000) (f : α → Option V)
    (step : ∀ (i : Nat) x p H', xs[i]? = some x → ps[i]? = some p → Same H1 H' → ∀ (R : V → Hp → Prop) (R0 : Hp → Prop), (∀ y, f p = some y → R y H') → (f p = none → R0 H') →
      g x (wipe σ vs) H' fun σ2 H2 => wipe σ2 vs = wipe σ vs ∧ tt σ2 H2 fun b H3 => if b = true then te σ2 H3 R else R0 H3)
    (h : ∀ D H', H1 D = none → Same H1 H' → H' D = some (.lst (ps.filterMap f)) → QD D H') :
    ∃ a', V.ref a = .ref a' ∧ (∃ xs, SqL K H1 a' xs) ∧ ∀ D, H1 D = none → ∃ W : Nat → Nat → Hp → Prop, (∃ m, W 0 m (upd H1 D (.lst []))) ∧ ∀ i m H, W i m H →
      ((Itl K a').stop i H ∧ QD D H) ∨ ((Itl K a').go i H ∧ ∃ Nx : Hp → Prop, (∀ H', Nx H' → ∃ m', m' < m ∧ W (i + 1) m' H') ∧ ∀ x H', (Itl K a').yld i H x H' → g x (wipe σ vs) H' fun σ2 H2 => wipe σ2 vs = wipe σ vs ∧ tt σ2 H2 fun b H3 =>
        if b = true then te σ2 H3 fun y H4 => ∃ acc, H4 D = some (.lst acc) ∧ acc.length < sizeLine ∧ Nx (upd H4 D (.lst (acc ++ [y]))) else Nx H3) := by
  refine ⟨a, rfl, ⟨xs, hs⟩, fun D nD => lc_list (xs := xs) (fun i H => Same H1 H ∧ H D = some (.lst ((ps.take i).filterMap f))) ⟨same_new nD, by rw [upd_same]; simp⟩ (fun i H _ e => e.1.seq hs) ?_ ?_⟩
  · rintro i x H hx ⟨sm, hD⟩
    have hi : i < xs.length := (List.getElem?_eq_some_iff.mp hx).1
    obtain ⟨p, hp⟩ : ∃ p, ps[i]? = some p := ⟨ps[i]'(by omega), List.getElem?_eq_getElem (by omega)⟩
    have tk := take_filterMap (f := f) hp
    refine step i x p H hx hp sm _ _ (fun y hy => ⟨_, hD, szl ?_, same_mut sm nD, ?_⟩) (fun hn => ⟨sm, ?_⟩)
    · have := List.length_filterMap_le f (ps.take i)
      rw [List.length_take] at this
      omega
    · rw [upd_same, tk, hy]; rfl
    · rw [tk, hn, hD]; simp
  · rintro H ⟨sm, hD⟩
    rw [hl, List.take_length] at hD
    exact h D H nD sm hD
theorem range_take {n i : Nat} (h : i < n) : (List.range n)[i]? = some i := by simp [h]
/-- over a range -/
theorem lc_pureR {QD : Addr → Hp → Prop} {lo : Int} {n : Nat} (hz : n ≤ 50000) (f : Nat → Option V)
    (step : ∀ (i : Nat) H', i < n → Same H1 H' → ∀ (R : V → Hp → Prop) (R0 : Hp → Prop), (∀ y, f i = some y → R y H') → (f i = none → R0 H') →
      g (.int (lo + (i : Nat))) (wipe σ vs) H' fun σ2 H2 => wipe σ2 vs = wipe σ vs ∧ tt σ2 H2 fun b H3 => if b = true then te σ2 H3 R else R0 H3)
    (h : ∀ D H', H1 D = none → Same H1 H' → H' D = some (.lst ((List.range n).filterMap f)) → QD D H') :
    ∀ D, H1 D = none → ∃ W : Nat → Nat → Hp → Prop, (∃ m, W 0 m (upd H1 D (.lst []))) ∧ ∀ i m H, W i m H →
      ((Itr lo n).stop i H ∧ QD D H) ∨ ((Itr lo n).go i H ∧ ∃ Nx : Hp → Prop, (∀ H', Nx H' → ∃ m', m' < m ∧ W (i + 1) m' H') ∧ ∀ x H', (Itr lo n).yld i H x H' → g x (wipe σ vs) H' fun σ2 H2 => wipe σ2 vs = wipe σ vs ∧ tt σ2 H2 fun b H3 =>
        if b = true then te σ2 H3 fun y H4 => ∃ acc, H4 D = some (.lst acc) ∧ acc.length < sizeLine ∧ Nx (upd H4 D (.lst (acc ++ [y]))) else Nx H3) := by
  refine fun D nD => lc_range (fun i H => Same H1 H ∧ H D = some (.lst (((List.range n).take i).filterMap f))) ⟨same_new nD, by rw [upd_same]; simp⟩ ?_ ?_
  · rintro i H hi ⟨sm, hD⟩
    have tk := take_filterMap (f := f) (range_take hi)
    refine step i H hi sm _ _ (fun y hy => ⟨_, hD, szl ?_, same_mut sm nD, ?_⟩) (fun hn => ⟨sm, ?_⟩)
    · have := List.length_filterMap_le f ((List.range n).take i)
      rw [List.length_take, List.length_range] at this
      omega
    · rw [upd_same, tk, hy]; rfl
    · rw [tk, hn, hD]; simp
  · rintro H ⟨sm, hD⟩
    rw [List.take_of_length_le (by simp)] at hD
    exact h D H nD sm hD
end
end Cm

namespace Pf
open PySem PySem.Spec PyProof.Rows L2 Cm
local macro_rules | `(tactic| walk_at "sq") => `(tactic| first
  | assumption
  | exact sl (by assumption)
  | exact stp (by assumption)
  | exact sl upd_same
  | exact stp upd_same
  | (apply Same.seq; assumption; walk_at "sq")
  | (apply same_seqT; assumption; walk_at "sq")
  | (apply Same.seq; (exact same_new (by assumption)); walk_at "sq")
  | (apply same_seqT; (exact same_new (by assumption)); walk_at "sq"))
local macro_rules | `(tactic| walk_at "cI") => `(tactic| first
  | (refine Or.inl ⟨?_, ?_⟩ <;> omega)
  | (refine Or.inr ⟨?_, ?_⟩ <;> omega)
  | (refine ⟨?_, ?_⟩ <;> omega)
  | decide)
local macro_rules | `(tactic| walk_at "pf") => `(tactic| first | omega | decide)
local macro_rules | `(tactic| walk_at "s0") => `(tactic| with_reducible first
  | refine k_var (by with_unfolding_all rfl) ?_
  | refine k_c ?_
  | refine k_op ?_
  | refine k_add ?_
  | refine k_sub ?_
  | refine k_lt ?_
  | refine k_le ?_
  | refine k_gt ?_
  | refine k_ge ?_
  | refine k_neg ?_
  | refine k_seq ?_
  | refine k_next ?_
  | refine k_set ?_
  | refine k_asg ?_
  | refine k_if ?_
  | refine k_test ?_
  | refine k_bl ?_
  | refine k_or ?_
  | refine k_and ?_
  | refine k_not ?_
  | refine k_B ?_
  | refine k_cb ?_
  | refine k_cons ?_
  | refine k_nil ?_
  | refine k_call ?_
  | refine k_eqI ?_
  | refine k_neI ?_
  | refine k_ret ?_
  | refine k_drop ?_
  | refine k_un ?_
  | refine k_gcons ?_
  | refine k_gnil ?_
  | refine k_gname ?_
  | refine k_gsub ?_
  | refine k_lst ?_
  | refine k_tup ?_
  | refine k_bm ?_
  | refine k_bm0 ?_
  | refine k_sl ?_
  | refine k_nopart ?_
  | refine k_part ?_
  | refine k_int ?_
  | refine k_max2 ?_
  | refine k_min2 ?_
  | refine k_notV ?_
  | refine k_andV ?_
  | refine k_orV ?_
  | refine k_isiI ?_
  | refine k_isiB ?_
  | refine k_isiLI ?_
  | refine k_intB ?_
  | refine k_listRg ?_
  | refine k_rg1 ?_
  | refine k_len0 (by assumption) ?_
  | refine k_lenI (by with_unfolding_all walk_at "sq") ?_
  | refine k_len (by with_unfolding_all walk_at "sq") ?_
  | refine k_isiL (by with_unfolding_all walk_at "sq") ?_
  | refine k_inI (by with_unfolding_all walk_at "sq") ?_
  | refine k_notInI (by with_unfolding_all walk_at "sq") ?_
  | refine k_mod (by with_unfolding_all first | decide | omega) ?_
  | refine k_mul (by with_unfolding_all walk_at "cI") ?_
  | refine k_div (by with_unfolding_all walk_at "cI") ?_
  | refine k_pow (by with_unfolding_all exact ⟨by decide, by decide, by decide⟩) ?_
  | refine iteT ?_
  | refine iteF ?_
  | refine iteNT ?_
  | refine iteNF ?_
  | refine k_itDT (by with_unfolding_all walk_at "pf") ?_
  | refine k_itDF (by with_unfolding_all walk_at "pf") ?_
  | refine k_itNT (by with_unfolding_all walk_at "pf") ?_
  | refine k_itNF (by with_unfolding_all walk_at "pf") ?_
  | refine k_gtup (by with_unfolding_all walk_at "sq") (by with_unfolding_all rfl) ?_
  | refine k_for ?_
  | refine k_iList ?_
  | refine k_iTup ?_
  | refine k_iRng1 ?_
  | refine k_iRng2 ?_
  | refine k_rj1 (by omega) (by omega) ?_
  | refine k_rj2 (by omega) ?_
  | refine k_lc ?_
  | refine k_wipe (by with_unfolding_all rfl) ?_
  | refine k_yes ?_
  | refine k_nx ?_)
local macro_rules | `(tactic| walk_at "s1") => `(tactic| first
  | walk_at "s0"
  | ((with_reducible show rIxT _ (V.ref _) (V.int _) _ _); refine k_ixT (by walk_at "sq") (by with_unfolding_all rfl) ?_))
local macro_rules | `(tactic| walk_at "s") => `(tactic| repeat walk_at "s1")
def topS (i : Nat) : Stmt := PySem.Challenge.pw_tiehues_k33_bounds_of_lots.main.body.getD i (.Pass ⟨0, 0, 0, 0⟩)
abbrev s_must_be_crossing : Stmt := topS 7
theorem sc_must_be_crossing : FnScope ["crossing", "many", "pairs", "s", "t"] ["crossing"] (defScope s_must_be_crossing) := ⟨rfl, rfl, rfl, by decide +kernel, rfl, by decide +kernel, by decide +kernel⟩
abbrev s_is_lot : Stmt := topS 8
theorem sc_is_lot : FnScope ["crossing", "lot", "k"] ["crossing", "lot"] (defScope s_is_lot) := ⟨rfl, rfl, rfl, by decide +kernel, rfl, by decide +kernel, by decide +kernel⟩
abbrev s_bound_of : Stmt := topS 9
theorem sc_bound_of : FnScope ["crossing", "lot", "within", "half", "s", "t"] ["crossing", "lot"] (defScope s_bound_of) := ⟨rfl, rfl, rfl, by decide +kernel, rfl, by decide +kernel, by decide +kernel⟩
abbrev s_lot_bound : Stmt := topS 10
theorem sc_lot_bound : FnScope ["crossing", "lot"] ["crossing", "lot"] (defScope s_lot_bound) := ⟨rfl, rfl, rfl, by decide +kernel, rfl, by decide +kernel, by decide +kernel⟩
abbrev s_law_purse : Stmt := topS 12
theorem sc_law_purse : FnScope ["_law_script", "_law_cells"] ["_law_script"] (defScope s_law_purse) := ⟨rfl, rfl, rfl, by decide +kernel, rfl, by decide +kernel, by decide +kernel⟩
abbrev s_law_draw : Stmt := topS 13
theorem sc_law_draw : FnScope ["_law_purse_here", "_law_out_of", "_law_cells", "_law_turn", "_law_at", "_law_cell", "_law_number"] ["_law_purse_here", "_law_out_of"] (defScope s_law_draw) := ⟨rfl, rfl, rfl, by decide +kernel, rfl, by decide +kernel, by decide +kernel⟩
abbrev s_law_some : Stmt := topS 14
theorem sc_law_some : FnScope ["_law_purse_here", "_law_many", "_law_found", "_law_left", "_law_k"] ["_law_purse_here", "_law_many"] (defScope s_law_some) := ⟨rfl, rfl, rfl, by decide +kernel, rfl, by decide +kernel, by decide +kernel⟩
abbrev s_law_crossing : Stmt := topS 15
theorem sc_law_crossing : FnScope ["_law_purse_here", "_law_many", "_law_lot", "_law_pairs", "_law_k", "_law_some_here", "_law_one", "_law_other"] ["_law_purse_here", "_law_many", "_law_lot"] (defScope s_law_crossing) := ⟨rfl, rfl, rfl, by decide +kernel, rfl, by decide +kernel, by decide +kernel⟩
abbrev s_law_due : Stmt := topS 16
theorem sc_law_due : FnScope ["_law_crossing_here", "_law_lot", "_law_within", "_law_one", "_law_other", "_law_bound"] ["_law_crossing_here", "_law_lot"] (defScope s_law_due) := ⟨rfl, rfl, rfl, by decide +kernel, rfl, by decide +kernel, by decide +kernel⟩
abbrev s_law_good : Stmt := topS 17
theorem sc_law_good : FnScope ["_law_crossing_here", "_law_lot", "_law_handed", "_law_found"] ["_law_crossing_here", "_law_lot"] (defScope s_law_good) := ⟨rfl, rfl, rfl, by decide +kernel, rfl, by decide +kernel, by decide +kernel⟩
abbrev s_law : Stmt := topS 18
theorem sc_law : FnScope ["_law_script", "_law_purse_here", "_law_turn", "_law_many", "_law_lot", "_law_other", "_law_crossing_here", "_law_some_here"] ["_law_script"] (defScope s_law) := ⟨rfl, rfl, rfl, by decide +kernel, rfl, by decide +kernel, by decide +kernel⟩
structure Ad where
  a_must_be_crossing : Addr
  d_must_be_crossing : FuncData
  a_is_lot : Addr
  d_is_lot : FuncData
  a_bound_of : Addr
  d_bound_of : FuncData
  a_lot_bound : Addr
  d_lot_bound : FuncData
  a_law_purse : Addr
  d_law_purse : FuncData
  a_law_draw : Addr
  d_law_draw : FuncData
  a_law_some : Addr
  d_law_some : FuncData
  a_law_crossing : Addr
  d_law_crossing : FuncData
  a_law_due : Addr
  d_law_due : FuncData
  a_law_good : Addr
  d_law_good : FuncData
  a_law : Addr
  d_law : FuncData
structure Txt (K : PySem.W.Frag) (mg : Str → Option Value) (A : Ad) : Prop where
  g_must_be_crossing : mg "must_be_crossing" = some (.ref A.a_must_be_crossing)
  F_must_be_crossing : Fun K "must_be_crossing" "must_be_crossing" s_must_be_crossing A.a_must_be_crossing A.d_must_be_crossing
  b_must_be_crossing : Binds K A.d_must_be_crossing ["crossing"] []
  g_is_lot : mg "is_lot" = some (.ref A.a_is_lot)
  F_is_lot : Fun K "is_lot" "is_lot" s_is_lot A.a_is_lot A.d_is_lot
  b_is_lot : Binds K A.d_is_lot ["crossing", "lot"] []
  g_bound_of : mg "bound_of" = some (.ref A.a_bound_of)
  F_bound_of : Fun K "bound_of" "bound_of" s_bound_of A.a_bound_of A.d_bound_of
  b_bound_of : Binds K A.d_bound_of ["crossing", "lot"] []
  g_lot_bound : mg "lot_bound" = some (.ref A.a_lot_bound)
  F_lot_bound : Fun K "lot_bound" "lot_bound" s_lot_bound A.a_lot_bound A.d_lot_bound
  b_lot_bound : Binds K A.d_lot_bound ["crossing", "lot"] []
  g_law_purse : mg "_law_purse" = some (.ref A.a_law_purse)
  F_law_purse : Fun K "_law_purse" "_law_purse" s_law_purse A.a_law_purse A.d_law_purse
  b_law_purse : Binds K A.d_law_purse ["_law_script"] []
  g_law_draw : mg "_law_draw" = some (.ref A.a_law_draw)
  F_law_draw : Fun K "_law_draw" "_law_draw" s_law_draw A.a_law_draw A.d_law_draw
  b_law_draw : Binds K A.d_law_draw ["_law_purse_here", "_law_out_of"] []
  g_law_some : mg "_law_some" = some (.ref A.a_law_some)
  F_law_some : Fun K "_law_some" "_law_some" s_law_some A.a_law_some A.d_law_some
  b_law_some : Binds K A.d_law_some ["_law_purse_here", "_law_many"] []
  g_law_crossing : mg "_law_crossing" = some (.ref A.a_law_crossing)
  F_law_crossing : Fun K "_law_crossing" "_law_crossing" s_law_crossing A.a_law_crossing A.d_law_crossing
  b_law_crossing : Binds K A.d_law_crossing ["_law_purse_here", "_law_many", "_law_lot"] []
  g_law_due : mg "_law_due" = some (.ref A.a_law_due)
  F_law_due : Fun K "_law_due" "_law_due" s_law_due A.a_law_due A.d_law_due
  b_law_due : Binds K A.d_law_due ["_law_crossing_here", "_law_lot"] []
  g_law_good : mg "_law_good" = some (.ref A.a_law_good)
  F_law_good : Fun K "_law_good" "_law_good" s_law_good A.a_law_good A.d_law_good
  b_law_good : Binds K A.d_law_good ["_law_crossing_here", "_law_lot"] []
  g_law : mg "law" = some (.ref A.a_law)
  F_law : Fun K "law" "law" s_law A.a_law A.d_law
  b_law : Binds K A.d_law ["_law_script"] []
  c_MOST_TIES : mg "MOST_TIES" = some (.int 60 (g_tok mg "MOST_TIES"))
  c_MOST_PAIRS : mg "MOST_PAIRS" = some (.int 60 (g_tok mg "MOST_PAIRS"))
  z_bool : mg "bool" = none
  z_int : mg "int" = none
  z_isinstance : mg "isinstance" = none
  z_len : mg "len" = none
  z_list : mg "list" = none
  z_max : mg "max" = none
  z_min : mg "min" = none
  z_range : mg "range" = none
  z_sorted : mg "sorted" = none
abbrev dCr (n : Int) (ps : List (Int × Int)) : PyData := .tuple [.int n, dPairs ps]
def CrOk (n : Int) (ps : List (Int × Int)) : Prop := 0 ≤ n ∧ n ≤ 60 ∧ ps.length ≤ 60 ∧ ∀ p ∈ ps, 0 ≤ p.1 ∧ p.1 ≤ p.2 ∧ p.2 < n
variable {P : Program} {w : World} {K : PySem.W.Frag} {mg : Str → Option Value} {base : Heap} {A : Ad}
def pr_must_be_crossing (K : PySem.W.Frag) (v0 : V) (H : Hp) (Q : VK) (_ : XK) : Prop := ∃ n ps, Dp K H v0 (dCr n ps) ∧ CrOk n ps ∧ Q .non H
def t_must_be_crossing (K : PySem.W.Frag) : TS :=
  (tSeq (tAsg (tVar 0) (gTup K 2 (gCons (gName 1) (gCons (gName 2) gNil))))
    (tSeq (tIfS (tOr (tTest (tOp xLt (tVar 1) (tC (.int 0)))) (tOr (tTest (tOp xGt (tVar 1) (tC (.int 60)))) (tTest (tOp xGt (tCB (rLen K) (tCons (tVar 2) tNil)) (tC (.int 60)))))) tNever tNext)
    (tFor (iList K (tVar 2)) (gTup K 2 (gCons (gName 3) (gCons (gName 4) gNil)))
      (tIfS (tOr (tTest (tOp xLt (tVar 3) (tC (.int 0)))) (tOr (tTest (tOp xGt (tVar 3) (tVar 4))) (tTest (tOp xGe (tVar 4) (tVar 1))))) tNever tNext))))
theorem pure_must_be_crossing {v0 : V} {H : Hp} {Q : VK} {E : XK} (h : pr_must_be_crossing K v0 H Q E) : t_must_be_crossing K { nx := fun _ H' => Q .non H', rt := Q } [some v0, none, none, none, none] H := by
  obtain ⟨n, ps, hc, ⟨h0, h1, h2, h3⟩, q⟩ := h
  obtain ⟨a, x, y, rfl, hs, hx, hy⟩ := dp_tup2 hc
  obtain rfl := dp_int hx
  obtain ⟨b, xs, rfl, hb, hxs⟩ := dp_list hy
  have hl := dpa_len hxs
  rw [List.length_map] at hl
  unfold t_must_be_crossing
  walk_at "s"
  refine ⟨_, rfl, ⟨_, hb⟩, for_list (xs := xs) (fun i σ' H' => H' = H ∧ ∃ s t, σ' = [some (.ref a), some (.int n), some (.ref b), s, t]) ⟨rfl, none, none, rfl⟩ (fun i σ' H' _ ⟨e, _⟩ => e ▸ hb) ?_ (fun σ' H' ⟨e, _⟩ => e ▸ q)⟩
  rintro i x σ' H' hi ⟨rfl, s, t, rfl⟩
  obtain ⟨d, hd, hdx⟩ := dpa_get hxs hi
  rw [List.getElem?_map] at hd
  obtain ⟨p, hp, rfl⟩ := Option.map_eq_some_iff.mp hd
  obtain ⟨h4, h5, h6⟩ := h3 p (List.mem_of_getElem? hp)
  obtain ⟨c, rfl, hcs⟩ := dp_pair hdx
  walk_at "s"
  exact ⟨rfl, _, _, rfl⟩
abbrev sp_must_be_crossing (K : PySem.W.Frag) : Sp := fun vs H Q E => ∃ v0, vs = [v0] ∧ pr_must_be_crossing K v0 H Q E
theorem ok_must_be_crossing (T : Txt K mg A) : FnOk P w K mg base CX0 1 A.a_must_be_crossing A.d_must_be_crossing ["crossing"] (sp_must_be_crossing K) := by
  refine T.F_must_be_crossing.ok sc_must_be_crossing (fun vs H Q E h => by obtain ⟨v0, rfl, _⟩ := h; rfl) (fun cdv A0 outer s H vs Q E hr h => ?_)
  obtain ⟨v0, rfl, h⟩ := h
  exact ⟨t_must_be_crossing K, (pss_cons (ps_asg (pv 0) (pg_tup (by rfl) (pgs_cons (pg_name (i := 1) sc_must_be_crossing.nd rfl (Or.inl rfl)) (pgs_cons (pg_name (i := 2) sc_must_be_crossing.nd rfl (Or.inl rfl)) pgs_nil))))
      (pss_cons (ps_if (PW.pt (pw_or (pt_cmpR op_lt (pv 1) pe_int (nomark _)) (pw_or (pt_cmpR op_gt (pv 1) (pe_glob (v := .int 60) (by rfl) T.c_MOST_TIES ⟨_, rfl⟩) (nomark _)) (pw_or1 (pt_cmpR op_gt (pe_callB q_len (by rfl) T.z_len (by decide +kernel) (pa_cons (pv 2) pa_nil)) (pe_glob (v := .int 60) (by rfl) T.c_MOST_PAIRS ⟨_, rfl⟩) (nomark _)))))) (pss_one ps_never) pss_nil)
      (pss_one (ps_for PassesOwn.never rfl (pi_list (pv 2)) (pg_tup (by rfl) (pgs_cons (pg_name (i := 3) sc_must_be_crossing.nd rfl (Or.inl rfl)) (pgs_cons (pg_name (i := 4) sc_must_be_crossing.nd rfl (Or.inl rfl)) pgs_nil)))
      (pss_one (ps_if (PW.pt (pw_or (pt_cmpR op_lt (pv 3) pe_int (nomark _)) (pw_or (pt_cmpR op_gt (pv 3) (pv 4) (nomark _)) (pw_or1 (pt_cmpR op_ge (pv 4) (pv 1) (nomark _)))))) (pss_one ps_never) pss_nil)))))), pure_must_be_crossing h⟩


def LotOk (n : Int) (ns : List Int) : Prop := 3 ≤ ns.length ∧ ns.length % 2 = 1 ∧ (∀ x ∈ ns, 0 ≤ x ∧ x < n) ∧ ∀ i, i + 1 < ns.length → ns.getD i 0 < ns.getD (i + 1) 0
def pr_is_lot (K : PySem.W.Frag) (v0 v1 : V) (H : Hp) (Q : VK) (_ : XK) : Prop := ∃ n ps ns, Dp K H v0 (dCr n ps) ∧ Dp K H v1 (dInts ns) ∧ ns.length ≤ 1000 ∧ ∀ H' b, Same H H' → (b = true ↔ LotOk n ns) → Q (.bl b) H'
def t_is_lot (K : PySem.W.Frag) : TS :=
  (tSeq (tIfS (tOr (tNot (tB (tCB (rIsi K) (tCons (tVar 1) (tCons (tC (.ty "list")) tNil))))) (tTest (tOp xGt (tCB (rLen K) (tCons (tLc (iList K (tVar 1)) (gName 2) (tOr (tB (tCB (rIsi K) (tCons (tVar 2) (tCons (tC (.ty "bool")) tNil)))) (tNot (tB (tCB (rIsi K) (tCons (tVar 2) (tCons (tC (.ty "int")) tNil)))))) (tVar 2) [2]) tNil)) (tC (.int 0))))) (tRet (tC (.bl false))) tNext)
    (tSeq (tIfS (tOr (tTest (tOp xLt (tCB (rLen K) (tCons (tVar 1) tNil)) (tC (.int 3)))) (tOr (tTest (tOp rEq (tOp xMod (tCB (rLen K) (tCons (tVar 1) tNil)) (tC (.int 2))) (tC (.int 0)))) (tOr (tTest (tOp xLt (tCB (rMin K) (tCons (tVar 1) tNil)) (tC (.int 0)))) (tTest (tOp xGe (tCB (rMax K) (tCons (tVar 1) tNil)) (tOp (rIxT K) (tVar 0) (tC (.int 0)))))))) (tRet (tC (.bl false))) tNext)
    (tRet (tOp rEq (tCB (rLen K) (tCons (tLc (iRng2 (tCons (tC (.int 1)) (tCons (tCB (rLen K) (tCons (tVar 1) tNil)) tNil))) (gName 2) (tTest (tOp xLe (tOp (rIxL K) (tVar 1) (tVar 2)) (tOp (rIxL K) (tVar 1) (tOp xSub (tVar 2) (tC (.int 1)))))) (tVar 2) [2]) tNil)) (tC (.int 0))))))
theorem pure_is_lot {v0 v1 : V} {H : Hp} {Q : VK} {E : XK} (h : pr_is_lot K v0 v1 H Q E) : t_is_lot K { nx := fun _ H' => Q .non H', rt := Q } [some v0, some v1, none] H := by
  obtain ⟨n, ps, ns, hc, hn, hz, q⟩ := h
  obtain ⟨a, x, y, rfl, hs, hx, hy⟩ := dp_tup2 hc
  obtain rfl := dp_int hx
  obtain ⟨b, rfl, hb⟩ := dp_ints hn
  unfold t_is_lot
  walk_at "s"
  refine lc_pure hb ns (by simp) (by omega) (fun _ => none) ?_ ?_
  · intro i x p H' hx hp sm R R0 h1 h2
    rw [List.getElem?_map, hp] at hx
    cases hx
    walk_at "s"
    exact h2 rfl
  intro D H1 nD sm hD
  have e0 : List.filterMap (fun (_ : Int) => (none : Option V)) ns = [] := by simp
  rw [e0] at hD
  walk_at "s"
  refine k_it (fun c1 => ?_) (fun c1 => ?_)
  · walk_at "s"
    exact q _ _ sm (ff_iff fun z => absurd z.1 (by omega))
  walk_at "s"
  refine k_it (fun c2 => ?_) (fun c2 => ?_)
  · walk_at "s"
    exact q _ _ sm (ff_iff fun z => absurd z.2.1 (by omega))
  walk_at "s"
  refine k_min (sm.seq hb) (by omega) (fun m1 hm1 hm2 => ?_)
  walk_at "s"
  refine k_it (fun c3 => ?_) (fun c3 => ?_)
  · walk_at "s"
    exact q _ _ sm (ff_iff fun z => absurd (z.2.2.1 m1 hm1).1 (by omega))
  walk_at "s"
  refine k_max (sm.seq hb) (by omega) (fun m2 hm3 hm4 => ?_)
  walk_at "s"
  refine k_it (fun c4 => ?_) (fun c4 => ?_)
  · walk_at "s"
    exact q _ _ sm (ff_iff fun z => absurd (z.2.2.1 m2 hm3).2 (by omega))
  walk_at "s"
  have hb1 := sm.seq hb
  refine lc_pureR (by omega) (fun i => if ns.getD (i + 1) 0 ≤ ns.getD i 0 then some (.int (1 + (i : Nat))) else none) ?_ ?_
  · intro i H' hi sm' R R0 h1 h2
    walk_at "s"
    refine k_ixI (sm'.seq hb1) (by omega) (by omega) ?_
    walk_at "s"
    refine k_ixI (sm'.seq hb1) (by omega) (by omega) ?_
    walk_at "s"
    rw [show (1 + (i : Int)).toNat = i + 1 by omega, show (1 + (i : Int) - 1).toNat = i by omega]
    refine k_it (fun c => ?_) (fun c => ?_)
    · walk_at "s"
      exact h1 _ (if_pos c)
    · exact h2 (if_neg c)
  intro D2 H2 nD2 sm2 hD2
  walk_at "s"
  refine q _ _ (sm.trans sm2) ?_
  simp only [decide_eq_true_eq]
  constructor
  · intro e
    refine ⟨by omega, by omega, fun x hx => ⟨?_, ?_⟩, fun i hi => ?_⟩
    · have := hm2 x hx; omega
    · have := hm4 x hx; omega
    · have e1 : ∀ x ∈ List.range (↑ns.length - 1 : Int).toNat, (if ns.getD (x + 1) 0 ≤ ns.getD x 0 then some (V.int (1 + (x : Nat))) else none) = none := by
        have : (List.filterMap (fun i => if ns.getD (i + 1) 0 ≤ ns.getD i 0 then some (V.int (1 + (i : Nat))) else none) (List.range (↑ns.length - 1 : Int).toNat)) = [] := List.eq_nil_of_length_eq_zero (by omega)
        exact List.filterMap_eq_nil_iff.mp this
      have e2 := e1 i (by simp; omega)
      by_cases c : ns.getD (i + 1) 0 ≤ ns.getD i 0
      · rw [if_pos c] at e2; cases e2
      · omega
  · intro z
    have : (List.filterMap (fun i => if ns.getD (i + 1) 0 ≤ ns.getD i 0 then some (V.int (1 + (i : Nat))) else none) (List.range (↑ns.length - 1 : Int).toNat)) = [] := by
      refine List.filterMap_eq_nil_iff.mpr fun i hi => if_neg ?_
      have := z.2.2.2 i (by simp at hi; omega)
      omega
    rw [this]; rfl
abbrev sp_is_lot (K : PySem.W.Frag) : Sp := fun vs H Q E => ∃ v0 v1, vs = [v0, v1] ∧ pr_is_lot K v0 v1 H Q E
theorem ok_is_lot (T : Txt K mg A) : FnOk P w K mg base CX0 1 A.a_is_lot A.d_is_lot ["crossing", "lot"] (sp_is_lot K) := by
  refine T.F_is_lot.ok sc_is_lot (fun vs H Q E h => by obtain ⟨v0, v1, rfl, _⟩ := h; rfl) (fun cdv A0 outer s H vs Q E hr h => ?_)
  obtain ⟨v0, v1, rfl, h⟩ := h
  exact ⟨t_is_lot K, (pss_cons (ps_if (PW.pt (pw_or (pt_not (pt_val (pe_callB q_isi (by rfl) T.z_isinstance (by decide +kernel) (pa_cons (pv 1) (pa_cons (pe_bltn (v := .ty "list") (by rfl) T.z_list (by decide +kernel) rfl) pa_nil))))) (pw_or1 (pt_cmpR op_gt (pe_callB q_len (by rfl) T.z_len (by decide +kernel) (pa_cons (pe_lc (own := [("k", 2)]) (by rfl) sc_is_lot.nd (pi_list (pv 1)) (blkOk_by (own := [("k", 2)]) (N := ["crossing", "lot", "k"]) (sc := defScope s_is_lot) (by decide +kernel)) (fun _ _ _ _ _ => (pg_name (i := 2) sc_is_lot.nd rfl (Or.inl rfl))) (fun _ _ _ _ _ => (pts_one (PW.pt (pw_or (pt_val (pe_callB q_isi (by rfl) T.z_isinstance (by decide +kernel) (pa_cons (pv 2) (pa_cons (pe_bltn (v := .ty "bool") (by rfl) T.z_bool (by decide +kernel) rfl) pa_nil)))) (pw_or1 (pt_not (pt_val (pe_callB q_isi (by rfl) T.z_isinstance (by decide +kernel) (pa_cons (pv 2) (pa_cons (pe_bltn (v := .ty "int") (by rfl) T.z_int (by decide +kernel) rfl) pa_nil)))))))))) (fun _ _ _ _ _ => (pv 2))) pa_nil)) pe_int (nomark _))))) (pss_one (ps_ret pe_bl)) pss_nil)
      (pss_cons (ps_if (PW.pt (pw_or (pt_cmpR op_lt (pe_callB q_len (by rfl) T.z_len (by decide +kernel) (pa_cons (pv 1) pa_nil)) pe_int (nomark _)) (pw_or (pt_cmpR op_eq (pe_op op_mod (pe_callB q_len (by rfl) T.z_len (by decide +kernel) (pa_cons (pv 1) pa_nil)) pe_int) pe_int (nomark _)) (pw_or (pt_cmpR op_lt (pe_callB (cr_min (by rfl)) (by rfl) T.z_min (by decide +kernel) (pa_cons (pv 1) pa_nil)) pe_int (nomark _)) (pw_or1 (pt_cmpR op_ge (pe_callB (cr_max (by rfl)) (by rfl) T.z_max (by decide +kernel) (pa_cons (pv 1) pa_nil)) (pe_ix ix_tup (pv 0) pe_int (fun _ _ => rfl)) (nomark _))))))) (pss_one (ps_ret pe_bl)) pss_nil)
      (pss_one (ps_ret (pe_cmpR op_eq (pe_callB q_len (by rfl) T.z_len (by decide +kernel) (pa_cons (pe_lc (own := [("k", 2)]) (by rfl) sc_is_lot.nd (pi_range2 (by rfl) T.z_range (pa_cons pe_int (pa_cons (pe_callB q_len (by rfl) T.z_len (by decide +kernel) (pa_cons (pv 1) pa_nil)) pa_nil))) (blkOk_by (own := [("k", 2)]) (N := ["crossing", "lot", "k"]) (sc := defScope s_is_lot) (by decide +kernel)) (fun _ _ _ _ _ => (pg_name (i := 2) sc_is_lot.nd rfl (Or.inl rfl))) (fun _ _ _ _ _ => (pts_one (pt_cmpR op_le (pe_ix ix_list (pv 1) (pv 2) (fun _ _ => rfl)) (pe_ix ix_list (pv 1) (pe_op op_sub (pv 2) pe_int) (fun _ _ => rfl)) (nomark _)))) (fun _ _ _ _ _ => (pv 2))) pa_nil)) pe_int (nomark _)))))), pure_is_lot h⟩


def inLot (ns : List Int) (p : Int × Int) : Bool := decide (p.1 ≠ p.2 ∧ p.1 ∈ ns ∧ p.2 ∈ ns)
def within (ps : List (Int × Int)) (ns : List Int) : Nat := (ps.filter (inLot ns)).length
def bnd (ps : List (Int × Int)) (ns : List Int) : Int := ((within ps ns : Int) + (ns.length : Int) / 2 - 1) / ((ns.length : Int) / 2)
def pr_bound_of (K : PySem.W.Frag) (v0 v1 : V) (H : Hp) (Q : VK) (_ : XK) : Prop := ∃ n ps ns, Dp K H v0 (dCr n ps) ∧ Dp K H v1 (dInts ns) ∧ 2 ≤ ns.length ∧ ns.length ≤ 1000 ∧ ps.length ≤ 1000 ∧ ∀ H', Same H H' → Q (.int (bnd ps ns)) H'
def t_bound_of (K : PySem.W.Frag) : TS :=
  (tSeq (tAsg (tCB (rLen K) (tCons (tLc (iList K (tOp (rIxT K) (tVar 0) (tC (.int 1)))) (gTup K 2 (gCons (gName 4) (gCons (gName 5) gNil))) (tAnd (tTest (tOp rNe (tVar 4) (tVar 5))) (tAnd (tTest (tOp (rIn K false) (tVar 4) (tVar 1))) (tTest (tOp (rIn K false) (tVar 5) (tVar 1))))) (tC (.int 1)) [4, 5]) tNil)) (gName 2))
    (tSeq (tAsg (tOp xDiv (tCB (rLen K) (tCons (tVar 1) tNil)) (tC (.int 2))) (gName 3))
    (tRet (tOp xDiv (tOp xSub (tOp xAdd (tVar 2) (tVar 3)) (tC (.int 1))) (tVar 3)))))
theorem pure_bound_of {v0 v1 : V} {H : Hp} {Q : VK} {E : XK} (h : pr_bound_of K v0 v1 H Q E) : t_bound_of K { nx := fun _ H' => Q .non H', rt := Q } [some v0, some v1, none, none, none, none] H := by
  obtain ⟨n, ps, ns, hc, hn, hz0, hz, hz2, q⟩ := h
  obtain ⟨a, x, y, rfl, hs, hx, hy⟩ := dp_tup2 hc
  obtain rfl := dp_int hx
  obtain ⟨b, rfl, hb⟩ := dp_ints hn
  obtain ⟨c, xs, rfl, hcx, hxs⟩ := dp_list hy
  have hl := dpa_len hxs
  rw [List.length_map] at hl
  unfold t_bound_of
  walk_at "s"
  refine lc_pure hcx ps hl (by omega) (fun p => if inLot ns p then some (.int 1) else none) ?_ ?_
  · intro i x p H' hx hp sm R R0 h1 h2
    obtain ⟨p', d, hp', rfl, hd⟩ := dpairs_get hxs hx
    rw [hp] at hp'
    cases hp'
    walk_at "s"
    refine k_itn (fun c1 => ?_) (fun c1 => ?_)
    · walk_at "s"
      refine k_it (fun c2 => ?_) (fun c2 => ?_)
      · walk_at "s"
        refine k_it (fun c3 => ?_) (fun c3 => ?_)
        · walk_at "s"
          exact h1 _ (if_pos (decide_eq_true ⟨c1, c2, c3⟩))
        · exact h2 (if_neg fun z => c3 (of_decide_eq_true z).2.2)
      · walk_at "s"
        exact h2 (if_neg fun z => c2 (of_decide_eq_true z).2.1)
    · walk_at "s"
      exact h2 (if_neg fun z => (of_decide_eq_true z).1 c1)
  intro D H1 nD sm hD
  have e1 : (ps.filterMap fun p => if inLot ns p then some (V.int 1) else none).length = within ps ns := by
    unfold within
    clear hD hl hxs hcx hy hc hz2 q
    induction ps with
    | nil => rfl
    | cons p r ih =>
      by_cases c : inLot ns p = true
      · rw [List.filterMap_cons, if_pos c, List.filter_cons, if_pos c]; simp [ih]
      · rw [List.filterMap_cons, if_neg c, List.filter_cons, if_neg c]; exact ih
  walk_at "s"
  rw [e1]
  exact q _ sm
abbrev sp_bound_of (K : PySem.W.Frag) : Sp := fun vs H Q E => ∃ v0 v1, vs = [v0, v1] ∧ pr_bound_of K v0 v1 H Q E
theorem ok_bound_of (T : Txt K mg A) : FnOk P w K mg base CX0 1 A.a_bound_of A.d_bound_of ["crossing", "lot"] (sp_bound_of K) := by
  refine T.F_bound_of.ok sc_bound_of (fun vs H Q E h => by obtain ⟨v0, v1, rfl, _⟩ := h; rfl) (fun cdv A0 outer s H vs Q E hr h => ?_)
  obtain ⟨v0, v1, rfl, h⟩ := h
  exact ⟨t_bound_of K, (pss_cons (ps_set (i := 2) sc_bound_of.nd rfl (Or.inl rfl) (pe_callB q_len (by rfl) T.z_len (by decide +kernel) (pa_cons (pe_lc (own := [("s", 4), ("t", 5)]) (by rfl) sc_bound_of.nd (pi_list (pe_ix ix_tup (pv 0) pe_int (fun _ _ => rfl))) (blkOk_by (own := [("s", 4), ("t", 5)]) (N := ["crossing", "lot", "within", "half", "s", "t"]) (sc := defScope s_bound_of) (by decide +kernel)) (fun _ _ _ _ _ => (pg_tup (by rfl) (pgs_cons (pg_name (i := 4) sc_bound_of.nd rfl (Or.inl rfl)) (pgs_cons (pg_name (i := 5) sc_bound_of.nd rfl (Or.inl rfl)) pgs_nil)))) (fun _ _ _ _ _ => (pts_one (PW.pt (pw_and (pt_cmpR op_ne (pv 4) (pv 5) (nomark _)) (pw_and (pt_cmpR op_in_seq (pv 4) (pv 1) (by rfl)) (pw_and1 (pt_cmpR op_in_seq (pv 5) (pv 1) (by rfl)))))))) (fun _ _ _ _ _ => pe_int)) pa_nil)))
      (pss_cons (ps_set (i := 3) sc_bound_of.nd rfl (Or.inl rfl) (pe_op op_fdiv (pe_callB q_len (by rfl) T.z_len (by decide +kernel) (pa_cons (pv 1) pa_nil)) pe_int))
      (pss_one (ps_ret (pe_op op_fdiv (pe_op op_sub (pe_op op_add (pv 2) (pv 3)) pe_int) (pv 3)))))), pure_bound_of h⟩
def pr_lot_bound (K : PySem.W.Frag) (v0 v1 : V) (H : Hp) (Q : VK) (_ : XK) : Prop := ∃ n ps ns, Dp K H v0 (dCr n ps) ∧ Dp K H v1 (dInts ns) ∧ CrOk n ps ∧ LotOk n ns ∧ ns.length ≤ 1000 ∧ ∀ H', Same H H' → Q (.int (bnd ps ns)) H'
def t_lot_bound (K : PySem.W.Frag) : TS :=
  (tSeq (tDrop (tCall (sp_must_be_crossing K) [] E0 (tCons (tVar 0) tNil)))
    (tSeq (tIfS (tNot (tB (tCall (sp_is_lot K) [] E0 (tCons (tVar 0) (tCons (tVar 1) tNil))))) tNever tNext)
    (tRet (tCall (sp_bound_of K) [] E0 (tCons (tVar 0) (tCons (tVar 1) tNil))))))
theorem pure_lot_bound {v0 v1 : V} {H : Hp} {Q : VK} {E : XK} (h : pr_lot_bound K v0 v1 H Q E) : t_lot_bound K { nx := fun _ H' => Q .non H', rt := Q } [some v0, some v1] H := by
  obtain ⟨n, ps, ns, hc, hn, hok, hlot, hz, q⟩ := h
  unfold t_lot_bound
  walk_at "s"
  refine ⟨_, rfl, n, ps, hc, hok, ?_⟩
  walk_at "s"
  refine ⟨_, _, rfl, n, ps, ns, hc, hn, hz, fun H1 b sm hb => ?_⟩
  obtain rfl := hb.mpr hlot
  walk_at "s"
  refine ⟨_, _, rfl, n, ps, ns, dp_same sm hc, dp_same sm hn, ?_, hz, ?_, fun H2 sm2 => q _ (sm.trans sm2)⟩
  · have := hlot.1; omega
  · have := hok.2.2.1; omega
abbrev sp_lot_bound (K : PySem.W.Frag) : Sp := fun vs H Q E => ∃ v0 v1, vs = [v0, v1] ∧ pr_lot_bound K v0 v1 H Q E
theorem ok_lot_bound (T : Txt K mg A) : FnOk P w K mg base CX0 2 A.a_lot_bound A.d_lot_bound ["crossing", "lot"] (sp_lot_bound K) := by
  refine T.F_lot_bound.ok sc_lot_bound (fun vs H Q E h => by obtain ⟨v0, v1, rfl, _⟩ := h; rfl) (fun cdv A0 outer s H vs Q E hr h => ?_)
  obtain ⟨v0, v1, rfl, h⟩ := h
  exact ⟨t_lot_bound K, (pss_cons (ps_expr (pe_call (ok_must_be_crossing T) (hr.mono (by decide)) (by rfl) T.g_must_be_crossing T.F_must_be_crossing.kp T.b_must_be_crossing .nil pass0 (pa_cons (pv 0) pa_nil)))
      (pss_cons (ps_if (pt_not (pt_val (pe_call (ok_is_lot T) (hr.mono (by decide)) (by rfl) T.g_is_lot T.F_is_lot.kp T.b_is_lot .nil pass0 (pa_cons (pv 0) (pa_cons (pv 1) pa_nil))))) (pss_one ps_never) pss_nil)
      (pss_one (ps_ret (pe_call (ok_bound_of T) (hr.mono (by decide)) (by rfl) T.g_bound_of T.F_bound_of.kp T.b_bound_of .nil pass0 (pa_cons (pv 0) (pa_cons (pv 1) pa_nil))))))), pure_lot_bound h⟩


def pr_law_purse (K : PySem.W.Frag) (v0 : V) (H : Hp) (Q : VK) (_ : XK) : Prop := ∃ (a : Addr) (ns : List Int), v0 = .ref a ∧ SqL K H a (ns.map V.int) ∧ ns.length ≤ 63 ∧ ∀ pu ce n H', Same H H' → H pu = none → H ce = none → Pu H' pu ce n 0 → Q (.ref pu) H'
def t_law_purse (K : PySem.W.Frag) : TS :=
  (tSeq (tAsg (tSl (rSlL K) (tVar 0) tNoPart (tPart (tC (.int 63)))) (gName 1))
    (tSeq (tIfS (tTest (tOp (rEqD K) (tVar 1) (tLst tNil))) (tAsg (tLst (tCons (tC (.int 0)) tNil)) (gName 1)) tNext)
    (tRet (tLst (tCons (tVar 1) (tCons (tC (.int 0)) tNil))))))
theorem cut63 {ns : List Int} (h : ns.length ≤ 63) : cutV (ns.map V.int) none (some 63) = ns.map V.int := by
  unfold cutV
  rw [HT.sIx_none, show HT.sIx (ns.map V.int).length (ns.map V.int).length (some 63) = min 63 (ns.map V.int).length from HT.sIx_nat _ _ 63]
  rw [List.drop_zero, List.length_map]
  exact List.take_of_length_le (by rw [List.length_map]; omega)
theorem pure_law_purse {v0 : V} {H : Hp} {Q : VK} {E : XK} (h : pr_law_purse K v0 H Q E) : t_law_purse K { nx := fun _ H' => Q .non H', rt := Q } [some v0, none] H := by
  obtain ⟨a, ns, rfl, ha, hz, q⟩ := h
  unfold t_law_purse
  walk_at "s"
  refine k_slL ha (fun ce H1 nce sm1 hce => ?_)
  rw [cut63 hz] at hce
  walk_at "s"
  refine ⟨sz (by simp), fun em nem => ?_⟩
  have hce2 : upd H1 em (.lst []) ce = some (.lst (ns.map V.int)) := same_new nem _ _ hce
  have sm2 : Same H (upd H1 em (.lst [])) := sm1.trans (same_new nem)
  refine k_eqD (c := dInts ns) (d := dInts []) (n := 1) (dp_of_ints (sl hce2)) (dp_of_ints (ns := []) (sl upd_same)) (sh_ints ns) (sh_ints []) (by decide) ?_
  cases ns with
  | nil =>
    refine k_bl ?_
    refine k_itT rfl ?_
    walk_at "s"
    refine ⟨sz (by simp), fun c2 nc2 => ?_⟩
    walk_at "s"
    refine ⟨sz (by simp), fun pu npu => ?_⟩
    have hc2 : upd (upd H1 em (.lst [])) c2 (.lst [.int 0]) c2 = some (.lst ([(0 : Int)].map V.int)) := upd_same
    exact q pu c2 1 _ (sm2.trans ((same_new nc2).trans (same_new npu))) ((sm2.trans (same_new nc2)).free npu) (sm2.free nc2) ⟨upd_same, ⟨[0], rfl, same_new npu _ _ hc2⟩, by decide, by decide, by decide⟩
  | cons x r =>
    refine k_bl ?_
    refine k_itF rfl ?_
    walk_at "s"
    refine ⟨sz (by simp), fun pu npu => ?_⟩
    exact q pu ce (x :: r).length _ (sm2.trans (same_new npu)) (sm2.free npu) nce ⟨upd_same, ⟨_, rfl, same_new npu _ _ hce2⟩, by simp, hz, by decide⟩
abbrev sp_law_purse (K : PySem.W.Frag) : Sp := fun vs H Q E => ∃ v0, vs = [v0] ∧ pr_law_purse K v0 H Q E
theorem ok_law_purse (T : Txt K mg A) : FnOk P w K mg base CX0 1 A.a_law_purse A.d_law_purse ["_law_script"] (sp_law_purse K) := by
  refine T.F_law_purse.ok sc_law_purse (fun vs H Q E h => by obtain ⟨v0, rfl, _⟩ := h; rfl) (fun cdv A0 outer s H vs Q E hr h => ?_)
  obtain ⟨v0, rfl, h⟩ := h
  exact ⟨t_law_purse K, (pss_cons (ps_set (i := 1) sc_law_purse.nd rfl (Or.inl rfl) (pe_slice sl_list (pv 0) po_none (po_some pe_int)))
      (pss_cons (ps_if (pt_cmpR (op_eqD hr.units) (pv 1) (pe_lst pa_nil) (nomark _)) (pss_one (ps_set (i := 1) sc_law_purse.nd rfl (Or.inl rfl) (pe_lst (pa_cons pe_int pa_nil)))) pss_nil)
      (pss_one (ps_ret (pe_lst (pa_cons (pv 1) (pa_cons pe_int pa_nil))))))), pure_law_purse h⟩
def pr_law_draw (K : PySem.W.Frag) (v0 v1 : V) (H : Hp) (Q : VK) (_ : XK) : Prop := ∃ pu ce n t m, v0 = .ref pu ∧ v1 = .int m ∧ Pu H pu ce n t ∧ t < 1000000 ∧ 0 < m ∧ m < 2 ^ 200 ∧ ∀ r H', 0 ≤ r → r < m → Pu H' pu ce n (t + 1) → Same (hid [pu, ce] H) (hid [pu, ce] H') → Q (.int r) H'
def t_law_draw (K : PySem.W.Frag) : TS :=
  (tSeq (tAsg (tVar 0) (gUnl K 2 (gCons (gName 2) (gCons (gName 3) gNil))))
    (tSeq (tAsg (tOp xMod (tVar 3) (tCB (rLen K) (tCons (tVar 2) tNil))) (gName 4))
    (tSeq (tAsg (tOp (rIxL K) (tVar 2) (tVar 4)) (gName 5))
    (tSeq (tAsg (tOp xAdd (tVar 3) (tC (.int 1))) (gSub (tVar 0) (tC (.int 1)) rSetL))
    (tSeq (tIfS (tTest (tOp xGe (tVar 5) (tOp xPow (tC (.int 10)) (tC (.int 18))))) (tSeq (tAsg (tOp xDivW (tVar 5) (tVar 1)) (gSub (tVar 2) (tVar 4) rSetL))
    (tRet (tOp xMod (tVar 5) (tVar 1)))) tNext)
    (tSeq (tAsg (tOp xMod (tOp xAdd (tOp xAdd (tOp xMul (tOp xMod (tVar 5) (tC (.int 2147483647))) (tC (.int 48271))) (tOp xMul (tOp xMul (tVar 3) (tVar 3)) (tC (.int 69621)))) (tC (.int 7))) (tC (.int 2147483647))) (gName 6))
    (tSeq (tAsg (tOp xMod (tOp xMul (tVar 6) (tVar 6)) (tC (.int 2147483629))) (gName 6))
    (tRet (tOp xMod (tOp xMod (tOp xMul (tVar 6) (tVar 6)) (tC (.int 2147483587))) (tVar 1))))))))))
theorem pure_law_draw {v0 v1 : V} {H : Hp} {Q : VK} {E : XK} (h : pr_law_draw K v0 v1 H Q E) : t_law_draw K { nx := fun _ H' => Q .non H', rt := Q } [some v0, some v1, none, none, none, none, none] H := by
  obtain ⟨pu, ce, n, t, m, rfl, rfl, hP, ht, hm0, hm1, q⟩ := h
  obtain ⟨cs, hl, hc⟩ := hP.hc
  have hp := hP.hp
  have n0 := hP.n0
  have t0 := hP.t0
  have ne := hP.ne
  unfold t_law_draw
  walk_at "s"
  refine k_gunl (sl hp) rfl ?_
  walk_at "s"
  have a0 : 0 ≤ t % (cs.length : Int) := Int.emod_nonneg _ (by omega)
  have a1 : t % (cs.length : Int) < cs.length := Int.emod_lt_of_pos _ (by omega)
  refine k_ixI (sl hc) a0 a1 ?_
  walk_at "s"
  refine k_setL hp (j := 1) rfl ?_
  have hc1 : upd H pu (.lst [.ref ce, .int (t + 1)]) ce = some (.lst (cs.map V.int)) := by rw [upd_ne ne.symm]; exact hc
  have P1 : Pu (upd H pu (.lst [.ref ce, .int (t + 1)])) pu ce n (t + 1) := ⟨upd_same, ⟨cs, hl, hc1⟩, n0, hP.n1, by omega⟩
  have S1 : Same (hid [pu, ce] H) (hid [pu, ce] (upd H pu (.lst [.ref ce, .int (t + 1)]))) := same_hid_upd (Same.refl _) (by simp)
  walk_at "s"
  refine k_it (fun c1 => ?_) (fun c1 => ?_)
  · walk_at "s"
    refine k_divW (wide_div hm0 (b := 201) (by omega) (by decide) (by decide)) ?_
    walk_at "s"
    refine k_setL hc1 (ixN_of a0 (by rw [List.length_map]; exact a1)) ?_
    walk_at "s"
    refine q _ _ (Int.emod_nonneg _ (by omega)) (Int.emod_lt_of_pos _ hm0) ⟨by rw [upd_ne ne]; exact upd_same, ⟨_, ?_, by rw [upd_same, map_set_int]⟩, n0, hP.n1, by omega⟩ (same_hid_upd S1 (by simp))
    rw [List.length_set]; exact hl
  · walk_at "s"
    exact q _ _ (Int.emod_nonneg _ (by omega)) (Int.emod_lt_of_pos _ hm0) P1 S1
abbrev sp_law_draw (K : PySem.W.Frag) : Sp := fun vs H Q E => ∃ v0 v1, vs = [v0, v1] ∧ pr_law_draw K v0 v1 H Q E
theorem ok_law_draw (T : Txt K mg A) : FnOk P w K mg base CX0 1 A.a_law_draw A.d_law_draw ["_law_purse_here", "_law_out_of"] (sp_law_draw K) := by
  refine T.F_law_draw.ok sc_law_draw (fun vs H Q E h => by obtain ⟨v0, v1, rfl, _⟩ := h; rfl) (fun cdv A0 outer s H vs Q E hr h => ?_)
  obtain ⟨v0, v1, rfl, h⟩ := h
  exact ⟨t_law_draw K, (pss_cons (ps_asg (pv 0) (pg_unl (by rfl) (pgs_cons (pg_name (i := 2) sc_law_draw.nd rfl (Or.inl rfl)) (pgs_cons (pg_name (i := 3) sc_law_draw.nd rfl (Or.inl rfl)) pgs_nil))))
      (pss_cons (ps_set (i := 4) sc_law_draw.nd rfl (Or.inl rfl) (pe_op op_mod (pv 3) (pe_callB q_len (by rfl) T.z_len (by decide +kernel) (pa_cons (pv 2) pa_nil))))
      (pss_cons (ps_set (i := 5) sc_law_draw.nd rfl (Or.inl rfl) (pe_ix ix_list (pv 2) (pv 4) (fun _ _ => rfl)))
      (pss_cons (ps_asg (pe_op op_add (pv 3) pe_int) (pg_sub (pv 0) pe_int set_list))
      (pss_cons (ps_if (pt_cmpR op_ge (pv 5) (pe_op op_pow pe_int pe_int) (nomark _)) (pss_cons (ps_asg (pe_op op_fdivW (pv 5) (pv 1)) (pg_sub (pv 2) (pv 4) set_list))
      (pss_one (ps_ret (pe_op op_mod (pv 5) (pv 1))))) pss_nil)
      (pss_cons (ps_set (i := 6) sc_law_draw.nd rfl (Or.inl rfl) (pe_op op_mod (pe_op op_add (pe_op op_add (pe_op op_mul (pe_op op_mod (pv 5) pe_int) pe_int) (pe_op op_mul (pe_op op_mul (pv 3) (pv 3)) pe_int)) pe_int) pe_int))
      (pss_cons (ps_set (i := 6) sc_law_draw.nd rfl (Or.inl rfl) (pe_op op_mod (pe_op op_mul (pv 6) (pv 6)) pe_int))
      (pss_one (ps_ret (pe_op op_mod (pe_op op_mod (pe_op op_mul (pv 6) (pv 6)) pe_int) (pv 1))))))))))), pure_law_draw h⟩

def pr_law_some (K : PySem.W.Frag) (v0 v1 : V) (H : Hp) (Q : VK) (_ : XK) : Prop := ∃ pu ce n t m, v0 = .ref pu ∧ v1 = .int m ∧ Pu H pu ce n t ∧ t < 900000 ∧ 3 ≤ m ∧ m ≤ 60 ∧
  ∀ p ns t' H', H p = none → p ∉ [pu, ce] → Pu H' pu ce n t' → t' ≤ t + 100 → Same (hid [pu, ce] H) (hid [pu, ce] H') → H' p = some (.lst (ns.map V.int)) → LotOk m ns → ns.length ≤ 60 → Q (.ref p) H'
def t_law_some (K : PySem.W.Frag) : TS :=
  (tSeq (tAsg (tLst tNil) (gName 2))
    (tSeq (tAsg (tLstRg (tRg1 (tVar 1))) (gName 3))
    (tSeq (tFor (iRng1 (tCons (tOp xAdd (tC (.int 3)) (tOp xMul (tC (.int 2)) (tCall (sp_law_draw K) [] E0 (tCons (tVar 0) (tCons (tOp (rIxL K) (tLst (tCons (tC (.int 1)) (tCons (tOp xDiv (tOp xSub (tVar 1) (tC (.int 1))) (tC (.int 2))) tNil))) (tCall (sp_law_draw K) [] E0 (tCons (tVar 0) (tCons (tC (.int 2)) tNil)))) tNil))))) tNil)) (gName 4)
      (tDrop (tBM K "list" rAppend (tVar 2) (tCons (tBM K "list" rPopAt (tVar 3) (tCons (tCall (sp_law_draw K) [] E0 (tCons (tVar 0) (tCons (tCB (rLen K) (tCons (tVar 3) tNil)) tNil))) tNil)) tNil))))
    (tRet (tCB (rSortedI K) (tCons (tVar 2) tNil))))))
theorem lot_of {m : Int} {fs ls ns : List Int} (hm : 0 ≤ m) (h1 : (fs ++ ls).Perm ((List.range m.toNat).map fun i => (0 : Int) + (i : Nat))) (h2 : ns.Perm fs) (h3 : ns.Pairwise (· ≤ ·)) (h4 : 3 ≤ fs.length) (h5 : fs.length % 2 = 1) : LotOk m ns ∧ ns.length ≤ m.toNat := by
  have hl := h2.length_eq
  have nd : (fs ++ ls).Nodup := h1.nodup_iff.mpr (List.pairwise_map.mpr (List.nodup_range.imp fun {a b} hab e => hab (by have : (0 : Int) + (a : Nat) = 0 + (b : Nat) := e; omega)))
  have ndn : ns.Nodup := h2.nodup_iff.mpr (List.nodup_append.mp nd).1
  have lt : ns.Pairwise (· < ·) := by
    have := h3.and ndn
    exact this.imp fun ⟨a, b⟩ => by omega
  have len := h1.length_eq
  rw [List.length_append, List.length_map, List.length_range] at len
  refine ⟨⟨by omega, by omega, fun x hx => ?_, fun i hi => ?_⟩, by omega⟩
  · have : x ∈ fs ++ ls := List.mem_append_left _ (h2.mem_iff.mp hx)
    obtain ⟨k, hk, e⟩ := List.mem_map.mp (h1.mem_iff.mp this)
    have := List.mem_range.mp hk
    omega
  · rw [List.getD_eq_getElem?_getD, List.getD_eq_getElem?_getD, List.getElem?_eq_getElem (by omega), List.getElem?_eq_getElem hi]
    exact List.pairwise_iff_getElem.mp lt i (i + 1) (by omega) hi (by omega)
theorem perm_pop {fs ls rs : List Int} {i : Nat} (h : (fs ++ ls).Perm rs) (hi : i < ls.length) : ((fs ++ [ls.getD i 0]) ++ ls.eraseIdx i).Perm rs := by
  refine List.Perm.trans ?_ h
  rw [List.append_assoc]
  refine List.Perm.append_left fs ?_
  have e : ls.getD i 0 = ls[i] := by rw [List.getD_eq_getElem?_getD, List.getElem?_eq_getElem hi]; rfl
  rw [e]
  exact erase_perm ls i hi
theorem pure_law_some {v0 v1 : V} {H : Hp} {Q : VK} {E : XK} (h : pr_law_some K v0 v1 H Q E) : t_law_some K { nx := fun _ H' => Q .non H', rt := Q } [some v0, some v1, none, none, none] H := by
  obtain ⟨pu, ce, n, t, m, rfl, rfl, hP, ht, hm0, hm1, q⟩ := h
  have t0 := hP.t0
  unfold t_law_some
  walk_at "s"
  refine ⟨sz (by simp), fun fo nfo => ?_⟩
  walk_at "s"
  refine ⟨.of_le (by omega) (by omega) (by omega) (by omega), fun le nle => ?_⟩
  have sm1 := same_new (o := .lst (rgV 0 m)) nle
  have hle := upd_same (H := upd H fo (.lst [])) (a := le) (o := .lst (rgV 0 m))
  generalize upd (upd H fo (.lst [])) le (.lst (rgV 0 m)) = H1 at sm1 hle ⊢
  have hfo := sm1 _ _ (upd_same (H := H) (a := fo) (o := .lst []))
  have nfo' := hP.fresh nfo
  have P1 := (hP.upd (o := .lst []) nfo').same sm1
  have nle' := (hP.upd (o := .lst []) nfo').fresh nle
  have flne : fo ≠ le := fun e => by rw [← e, upd_same] at nle; cases nle
  have nle0 : H le = none := (same_new nfo).free nle
  have S1 : Same (hid [pu, ce] H) (hid [pu, ce] H1) := hid_mono ((same_new nfo).trans sm1)
  rw [rg_ints] at hle
  walk_at "s"
  refine ⟨sz (by simp), fun dl ndl => ?_⟩
  walk_at "s"
  have P2 := P1.same (same_new (o := .lst [.int 1, .int ((m - 1) / 2)]) ndl)
  have ndl' := P1.fresh ndl
  refine ⟨_, _, rfl, pu, ce, n, t, 2, rfl, rfl, P2, by omega, by decide, by decide, fun r H2 r0 r1 P3 S2 => ?_⟩
  have hdl : H2 dl = some (.lst ([1, (m - 1) / 2].map V.int)) := keeps S2 upd_same ndl'
  refine k_ixI (sl hdl) r0 (by simpa using r1) ?_
  have hv := getD_memI (ns := [1, (m - 1) / 2]) r0 (by simpa using r1)
  generalize hg : ([1, (m - 1) / 2] : List Int).getD r.toNat 0 = b at hv ⊢
  have hb : 1 ≤ b ∧ 2 * b + 1 ≤ m := by
    simp only [List.mem_cons, List.not_mem_nil, or_false] at hv
    rcases hv with rfl | rfl <;> omega
  walk_at "s"
  refine ⟨_, _, rfl, pu, ce, n, t + 1, b, rfl, rfl, P3, by omega, by omega, by omega, fun d H3 d0 d1 P4 S3 => ?_⟩
  walk_at "s"
  have hfo3 : H3 fo = some (.lst (([] : List Int).map V.int)) := keeps S3 (keeps S2 (same_new ndl _ _ hfo) nfo') nfo'
  have hle3 := keeps S3 (keeps S2 (same_new ndl _ _ hle) nle') nle'
  have S4 : Same (hid [pu, ce] H) (hid [pu, ce] H3) := S1.trans ((same_hid_new ndl).trans (S2.trans S3))
  refine for_range (fun i σ' H' => ∃ fs ls t' kk, σ' = [some (.ref pu), some (.int m), some (.ref fo), some (.ref le), kk] ∧ Pu H' pu ce n t' ∧ t' ≤ t + 2 + i ∧ Same (hid [pu, ce] H) (hid [pu, ce] H') ∧
    H' fo = some (.lst (List.map V.int fs)) ∧ H' le = some (.lst (List.map V.int ls)) ∧ fs.length = i ∧ (fs ++ ls).Perm ((List.range m.toNat).map fun i => (0 : Int) + (i : Nat)))
    ⟨[], _, _, none, rfl, P4, by omega, S4, hfo3, hle3, rfl, by rw [Int.sub_zero]; exact List.Perm.refl _⟩ ?_ ?_
  · rintro i σ' H' hi ⟨fs, ls, t', kk, rfl, P5, ht', S5, hf, hl, hfl, hpm⟩
    have len := hpm.length_eq
    rw [List.length_append, List.length_map, List.length_range] at len
    walk_at "s"
    refine k_tyL (sl hf) ?_
    walk_at "s"
    refine k_tyL (sl hl) ?_
    walk_at "s"
    refine ⟨_, _, rfl, pu, ce, n, t', ls.length, rfl, rfl, P5, by omega, by omega, by omega, fun r2 H4 r20 r21 P6 S6 => ?_⟩
    walk_at "s"
    have hf4 := keeps S6 hf nfo'
    have hl4 := keeps S6 hl nle'
    refine k_popI hl4 r20 r21 (by omega) ?_
    walk_at "s"
    refine k_append (xs := fs.map V.int) (by rw [upd_ne flne]; exact hf4) (by rw [List.length_map]; omega) ?_
    refine ⟨fs ++ [ls.getD r2.toNat 0], ls.eraseIdx r2.toNat, t' + 1, _, rfl, (P6.upd nle').upd nfo', by omega, ?_, ?_, ?_, ?_, perm_pop hpm (by omega)⟩
    · refine same_hid_mut (same_hid_mut (S5.trans S6) ?_) ?_
      · rw [hid_ne nle']; exact nle0
      · rw [hid_ne nfo']; exact nfo
    · rw [upd_same, List.map_append]; rfl
    · rw [upd_ne flne.symm, upd_same]
    · rw [List.length_append, hfl]; rfl
  · rintro σ' H' ⟨fs, ls, t', kk, rfl, P5, ht', S5, hf, hl, hfl, hpm⟩
    walk_at "s"
    refine k_sortedI (sl hf) (fun ns p pm srt np => ?_)
    obtain ⟨lo, ll⟩ := lot_of (by omega) hpm pm srt (by omega) (by omega)
    have npS := P5.fresh np
    have np0 : H p = none := fresh_hid S5 np npS
    exact q p ns t' _ np0 npS (P5.upd npS) (by omega) (S5.trans (same_hid_new np)) upd_same lo (by omega)
abbrev sp_law_some (K : PySem.W.Frag) : Sp := fun vs H Q E => ∃ v0 v1, vs = [v0, v1] ∧ pr_law_some K v0 v1 H Q E
theorem ok_law_some (T : Txt K mg A) : FnOk P w K mg base CX0 2 A.a_law_some A.d_law_some ["_law_purse_here", "_law_many"] (sp_law_some K) := by
  refine T.F_law_some.ok sc_law_some (fun vs H Q E h => by obtain ⟨v0, v1, rfl, _⟩ := h; rfl) (fun cdv A0 outer s H vs Q E hr h => ?_)
  obtain ⟨v0, v1, rfl, h⟩ := h
  exact ⟨t_law_some K, (pss_cons (ps_set (i := 2) sc_law_some.nd rfl (Or.inl rfl) (pe_lst pa_nil))
      (pss_cons (ps_set (i := 3) sc_law_some.nd rfl (Or.inl rfl) (pe_listRg (by rfl) (by rfl) T.z_list (prg_1 (by rfl) T.z_range (pv 1))))
      (pss_cons (ps_for PassesOwn.never rfl (pi_range1 (by rfl) T.z_range (pa_cons (pe_op op_add pe_int (pe_op op_mul pe_int (pe_call (ok_law_draw T) (hr.mono (by decide)) (by rfl) T.g_law_draw T.F_law_draw.kp T.b_law_draw .nil pass0 (pa_cons (pv 0) (pa_cons (pe_ix ix_list (pe_lst (pa_cons pe_int (pa_cons (pe_op op_fdiv (pe_op op_sub (pv 1) pe_int) pe_int) pa_nil))) (pe_call (ok_law_draw T) (hr.mono (by decide)) (by rfl) T.g_law_draw T.F_law_draw.kp T.b_law_draw .nil pass0 (pa_cons (pv 0) (pa_cons pe_int pa_nil))) (fun _ _ => rfl)) pa_nil))))) pa_nil)) (pg_name (i := 4) sc_law_some.nd rfl (Or.inl rfl))
      (pss_one (ps_expr (pe_bm PySem.F.plainAttrs_list PySem.F.slot_list_append PySem.F.type_list_append mt_append (pv 2) (pa_cons (pe_bm PySem.F.plainAttrs_list PySem.F.slot_list_pop PySem.F.type_list_pop mt_popAt (pv 3) (pa_cons (pe_call (ok_law_draw T) (hr.mono (by decide)) (by rfl) T.g_law_draw T.F_law_draw.kp T.b_law_draw .nil pass0 (pa_cons (pv 0) (pa_cons (pe_callB q_len (by rfl) T.z_len (by decide +kernel) (pa_cons (pv 3) pa_nil)) pa_nil))) pa_nil)) pa_nil)))))
      (pss_one (ps_ret (pe_callB cr_sortedI (by rfl) T.z_sorted (by decide +kernel) (pa_cons (pv 2) pa_nil))))))), pure_law_some h⟩

def pr_law_crossing (K : PySem.W.Frag) (v0 v1 v2 : V) (H : Hp) (Q : VK) (_ : XK) : Prop := ∃ pu ce n t m lo ns, v0 = .ref pu ∧ v1 = .int m ∧ v2 = .ref lo ∧ Pu H pu ce n t ∧ t < 900000 ∧ 3 ≤ m ∧ m ≤ 60 ∧
  H lo = some (.lst (List.map V.int ns)) ∧ lo ∉ [pu, ce] ∧ 0 < ns.length ∧ ns.length ≤ 100 ∧ (∀ x ∈ ns, 0 ≤ x ∧ x < m) ∧
  ∀ v ps t' H', Pu H' pu ce n t' → t' ≤ t + 300 → Same (hid [pu, ce] H) (hid [pu, ce] H') → Dp K (hid [pu, ce] H') v (dCr m ps) → CrOk m ps → Q v H'
def t_law_crossing (K : PySem.W.Frag) : TS :=
  (tSeq (tAsg (tLst tNil) (gName 3))
    (tSeq (tFor (iRng1 (tCons (tCall (sp_law_draw K) [] E0 (tCons (tVar 0) (tCons (tC (.int 61)) tNil))) tNil)) (gName 4)
      (tSeq (tAsg (tOp (rIxL K) (tLst (tCons (tLstRg (tRg1 (tVar 1))) (tCons (tVar 2) (tCons (tVar 2) tNil)))) (tCall (sp_law_draw K) [] E0 (tCons (tVar 0) (tCons (tC (.int 3)) tNil)))) (gName 5))
    (tSeq (tAsg (tOp (rIxL K) (tVar 5) (tCall (sp_law_draw K) [] E0 (tCons (tVar 0) (tCons (tCB (rLen K) (tCons (tVar 5) tNil)) tNil)))) (gName 6))
    (tSeq (tAsg (tOp (rIxL K) (tVar 5) (tCall (sp_law_draw K) [] E0 (tCons (tVar 0) (tCons (tCB (rLen K) (tCons (tVar 5) tNil)) tNil)))) (gName 7))
    (tDrop (tBM K "list" rAppend (tVar 3) (tCons (tTup (tCons (tCB rMin2 (tCons (tVar 6) (tCons (tVar 7) tNil))) (tCons (tCB rMax2 (tCons (tVar 6) (tCons (tVar 7) tNil))) tNil))) tNil)))))))
    (tRet (tTup (tCons (tVar 1) (tCons (tVar 3) tNil))))))
theorem one_of_three {m : Int} {ns : List Int} {r : Int} {rl lo : Addr} {H : Hp} (r0 : 0 ≤ r) (r1 : r < 3) (h0 : 0 < ns.length) (h1 : ns.length ≤ 100) (hn : ∀ x ∈ ns, 0 ≤ x ∧ x < m) (hm0 : 3 ≤ m) (hm : m ≤ 60)
    (hr : H rl = some (.lst (rgV 0 m))) (hl : H lo = some (.lst (List.map V.int ns))) :
    ∃ so qs, atI [V.ref rl, .ref lo, .ref lo] r = some (.ref so) ∧ (so = rl ∨ so = lo) ∧ H so = some (.lst (List.map V.int qs)) ∧ 0 < qs.length ∧ qs.length ≤ 100 ∧ ∀ x ∈ qs, 0 ≤ x ∧ x < m := by
  have c : r = 0 ∨ r = 1 ∨ r = 2 := by omega
  rcases c with rfl | rfl | rfl
  · refine ⟨rl, _, rfl, .inl rfl, by rw [hr, rg_ints], ?_, ?_, fun x hx => ?_⟩
    · rw [List.length_map, List.length_range]; omega
    · rw [List.length_map, List.length_range]; omega
    · obtain ⟨k, hk, rfl⟩ := List.mem_map.mp hx
      have := List.mem_range.mp hk
      omega
  · exact ⟨lo, ns, rfl, .inr rfl, hl, h0, h1, hn⟩
  · exact ⟨lo, ns, rfl, .inr rfl, hl, h0, h1, hn⟩
theorem pure_law_crossing {v0 v1 v2 : V} {H : Hp} {Q : VK} {E : XK} (h : pr_law_crossing K v0 v1 v2 H Q E) : t_law_crossing K { nx := fun _ H' => Q .non H', rt := Q } [some v0, some v1, some v2, none, none, none, none, none] H := by
  obtain ⟨pu, ce, n, t, m, lo, ns, rfl, rfl, rfl, hP, ht, hm0, hm1, hlo, nlo, hn0, hn1, hns, q⟩ := h
  have t0 := hP.t0
  unfold t_law_crossing
  walk_at "s"
  refine ⟨sz (by simp), fun pl npl => ?_⟩
  have npl' := hP.fresh npl
  have P1 := hP.upd (o := .lst []) npl'
  have S1 : Same (hid [pu, ce] H) (hid [pu, ce] (upd H pl (.lst []))) := same_hid_new npl
  have hpl : upd H pl (.lst []) pl = some (.lst []) := upd_same
  generalize upd H pl (.lst []) = H1 at P1 S1 hpl ⊢
  walk_at "s"
  refine ⟨_, _, rfl, pu, ce, n, t, 61, rfl, rfl, P1, by omega, by decide, by decide, fun many H2 r0 r1 P2 S2 => ?_⟩
  walk_at "s"
  have hlo2 : H2 lo = some (.lst (List.map V.int ns)) := keeps (S1.trans S2) hlo nlo
  refine for_range (fun i σ' H' => ∃ xs ps t' k5 k6 k7 k8, σ' = [some (.ref pu), some (.int m), some (.ref lo), some (.ref pl), k5, k6, k7, k8] ∧ Pu H' pu ce n t' ∧ t' ≤ t + 1 + 3 * i ∧ Same (hid [pu, ce] H) (hid [pu, ce] H') ∧
    H' pl = some (.lst xs) ∧ DpAll K (hid [pu, ce, pl] H') xs (ps.map dPair) ∧ ps.length = i ∧ ∀ p ∈ ps, 0 ≤ p.1 ∧ p.1 ≤ p.2 ∧ p.2 < m)
    ⟨[], [], _, none, none, none, none, rfl, P2, by omega, S1.trans S2, keeps S2 hpl npl', .nil, rfl, fun _ z => by cases z⟩ ?_ ?_
  · rintro i σ' H' hi ⟨xs, ps, t', k5, k6, k7, k8, rfl, P3, ht', S3, hx, hd, hl, hps⟩
    walk_at "s"
    refine ⟨.of_le (by omega) (by omega) (by omega) (by omega), fun rl nrl => ?_⟩
    walk_at "s"
    refine ⟨sz (by simp), fun dl ndl => ?_⟩
    walk_at "s"
    have nrl' := P3.fresh nrl
    have P4 := P3.upd (o := .lst (rgV 0 m)) nrl'
    have ndl' := P4.fresh ndl
    have P5 := P4.upd (o := .lst [.ref rl, .ref lo, .ref lo]) ndl'
    have hdl : upd (upd H' rl (.lst (rgV 0 m))) dl (.lst [.ref rl, .ref lo, .ref lo]) dl = some (.lst [.ref rl, .ref lo, .ref lo]) := upd_same
    have sm45 : Same H' (upd (upd H' rl (.lst (rgV 0 m))) dl (.lst [.ref rl, .ref lo, .ref lo])) := (same_new nrl).trans (same_new ndl)
    have hrl : upd (upd H' rl (.lst (rgV 0 m))) dl (.lst [.ref rl, .ref lo, .ref lo]) rl = some (.lst (rgV 0 m)) := same_new ndl _ _ upd_same
    generalize upd (upd H' rl (.lst (rgV 0 m))) dl (.lst [.ref rl, .ref lo, .ref lo]) = H5 at P5 hdl sm45 hrl ⊢
    refine ⟨_, _, rfl, pu, ce, n, t', 3, rfl, rfl, P5, by omega, by decide, by decide, fun r H6 r0 r1 P6 S6 => ?_⟩
    have hlo6 : H6 lo = some (.lst (List.map V.int ns)) := keeps S6 (sm45 _ _ (keeps S3 hlo nlo)) nlo
    obtain ⟨so, qs, hat, hwh, hso, hq0, hq1, hqs⟩ := one_of_three r0 r1 hn0 hn1 hns hm0 hm1 (keeps S6 hrl nrl') hlo6
    refine k_ixL (sl (keeps S6 hdl ndl')) hat ?_
    have nso : so ∉ [pu, ce] := by rcases hwh with rfl | rfl <;> assumption
    walk_at "s"
    refine ⟨_, _, rfl, pu, ce, n, t' + 1, qs.length, rfl, rfl, P6, by omega, by omega, by omega, fun r2 H7 r20 r21 P7 S7 => ?_⟩
    have hso7 := keeps S7 hso nso
    refine k_ixI (sl hso7) r20 r21 ?_
    have hA := hqs _ (getD_memI r20 r21)
    generalize qs.getD r2.toNat 0 = A1 at hA ⊢
    walk_at "s"
    refine ⟨_, _, rfl, pu, ce, n, t' + 1 + 1, qs.length, rfl, rfl, P7, by omega, by omega, by omega, fun r3 H8 r30 r31 P8 S8 => ?_⟩
    refine k_ixI (sl (keeps S8 hso7 nso)) r30 r31 ?_
    have hB := hqs _ (getD_memI r30 r31)
    generalize qs.getD r3.toNat 0 = B1 at hB ⊢
    have S58 : Same (hid [pu, ce] H') (hid [pu, ce] H8) := (hid_mono sm45).trans (S6.trans (S7.trans S8))
    have hx8 := keeps S58 hx npl'
    walk_at "s"
    refine k_tyL (sl hx8) ?_
    walk_at "s"
    refine ⟨sz (by simp), fun tp ntp => ?_⟩
    have ntp' := P8.fresh ntp
    have ntl : pl ≠ tp := ne_of_none hx8 ntp
    have ntp3 : tp ∉ [pu, ce, pl] := fun z => by
      rcases List.mem_cons.mp z with z | z
      · exact ntp' (by rw [z]; exact List.mem_cons_self)
      · rcases List.mem_cons.mp z with z | z
        · exact ntp' (by rw [z]; simp)
        · exact ntl (List.mem_singleton.mp z).symm
    walk_at "s"
    refine k_append (xs := xs) (by rw [upd_ne ntl]; exact hx8) (by have := dpa_len hd; rw [List.length_map] at this; omega) ?_
    refine ⟨_, ps ++ [(if B1 < A1 then B1 else A1, if B1 > A1 then B1 else A1)], t' + 1 + 1 + 1, _, _, _, _, rfl, (P8.upd ntp').upd npl', by omega, ?_, upd_same, ?_, ?_, ?_⟩
    · refine same_hid_mut ((S3.trans S58).trans (same_hid_new ntp)) ?_
      rw [hid_ne npl']; exact npl
    · rw [hid_upd (by simp), List.map_append]
      refine dpa_app (dpa_same ((hid_more S58 (by simp)).trans (same_hid_new ntp)) hd) (.cons (dp_of_pair (stp ?_)) .nil)
      rw [hid_ne ntp3, upd_same]
    · rw [List.length_append, hl]; rfl
    · intro p hp
      rcases List.mem_append.mp hp with hp | hp
      · exact hps p hp
      · have e : p = (if B1 < A1 then B1 else A1, if B1 > A1 then B1 else A1) := by simpa using hp
        subst e
        show 0 ≤ (if B1 < A1 then B1 else A1) ∧ (if B1 < A1 then B1 else A1) ≤ (if B1 > A1 then B1 else A1) ∧ (if B1 > A1 then B1 else A1) < m
        refine ⟨?_, ?_, ?_⟩ <;> repeat' split
        all_goals omega
  · rintro σ' H' ⟨xs, ps, t', k5, k6, k7, k8, rfl, P3, ht', S3, hx, hd, hl, hps⟩
    walk_at "s"
    refine ⟨sz (by simp), fun cr ncr => ?_⟩
    have ncr' := P3.fresh ncr
    have npc : pl ≠ cr := ne_of_none hx ncr
    have sub : Same (hid [pu, ce, pl] H') (hid [pu, ce] (upd H' cr (.tup [.int m, .ref pl]))) := (hid_sub (by simp)).trans (same_hid_new ncr)
    refine q (.ref cr) ps t' _ (P3.upd ncr') (by omega) (S3.trans (same_hid_new ncr)) (.tup (stp (by rw [hid_ne ncr', upd_same])) (.cons (.int m) (.cons (.lst (sl ?_) (dpa_same sub hd)) .nil))) ⟨by omega, by omega, by omega, hps⟩
    rw [hid_ne npl', upd_ne npc]; exact hx
abbrev sp_law_crossing (K : PySem.W.Frag) : Sp := fun vs H Q E => ∃ v0 v1 v2, vs = [v0, v1, v2] ∧ pr_law_crossing K v0 v1 v2 H Q E
theorem ok_law_crossing (T : Txt K mg A) : FnOk P w K mg base CX0 2 A.a_law_crossing A.d_law_crossing ["_law_purse_here", "_law_many", "_law_lot"] (sp_law_crossing K) := by
  refine T.F_law_crossing.ok sc_law_crossing (fun vs H Q E h => by obtain ⟨v0, v1, v2, rfl, _⟩ := h; rfl) (fun cdv A0 outer s H vs Q E hr h => ?_)
  obtain ⟨v0, v1, v2, rfl, h⟩ := h
  exact ⟨t_law_crossing K, (pss_cons (ps_set (i := 3) sc_law_crossing.nd rfl (Or.inl rfl) (pe_lst pa_nil))
      (pss_cons (ps_for PassesOwn.never rfl (pi_range1 (by rfl) T.z_range (pa_cons (pe_call (ok_law_draw T) (hr.mono (by decide)) (by rfl) T.g_law_draw T.F_law_draw.kp T.b_law_draw .nil pass0 (pa_cons (pv 0) (pa_cons pe_int pa_nil))) pa_nil)) (pg_name (i := 4) sc_law_crossing.nd rfl (Or.inl rfl))
      (pss_cons (ps_set (i := 5) sc_law_crossing.nd rfl (Or.inl rfl) (pe_ix ix_list (pe_lst (pa_cons (pe_listRg (by rfl) (by rfl) T.z_list (prg_1 (by rfl) T.z_range (pv 1))) (pa_cons (pv 2) (pa_cons (pv 2) pa_nil)))) (pe_call (ok_law_draw T) (hr.mono (by decide)) (by rfl) T.g_law_draw T.F_law_draw.kp T.b_law_draw .nil pass0 (pa_cons (pv 0) (pa_cons pe_int pa_nil))) (fun _ _ => rfl)))
      (pss_cons (ps_set (i := 6) sc_law_crossing.nd rfl (Or.inl rfl) (pe_ix ix_list (pv 5) (pe_call (ok_law_draw T) (hr.mono (by decide)) (by rfl) T.g_law_draw T.F_law_draw.kp T.b_law_draw .nil pass0 (pa_cons (pv 0) (pa_cons (pe_callB q_len (by rfl) T.z_len (by decide +kernel) (pa_cons (pv 5) pa_nil)) pa_nil))) (fun _ _ => rfl)))
      (pss_cons (ps_set (i := 7) sc_law_crossing.nd rfl (Or.inl rfl) (pe_ix ix_list (pv 5) (pe_call (ok_law_draw T) (hr.mono (by decide)) (by rfl) T.g_law_draw T.F_law_draw.kp T.b_law_draw .nil pass0 (pa_cons (pv 0) (pa_cons (pe_callB q_len (by rfl) T.z_len (by decide +kernel) (pa_cons (pv 5) pa_nil)) pa_nil))) (fun _ _ => rfl)))
      (pss_one (ps_expr (pe_bm PySem.F.plainAttrs_list PySem.F.slot_list_append PySem.F.type_list_append mt_append (pv 3) (pa_cons (pe_tup (pa_cons (pe_callB (q_min2 (by rfl)) (by rfl) T.z_min (by decide +kernel) (pa_cons (pv 6) (pa_cons (pv 7) pa_nil))) (pa_cons (pe_callB (q_max2 (by rfl)) (by rfl) T.z_max (by decide +kernel) (pa_cons (pv 6) (pa_cons (pv 7) pa_nil))) pa_nil))) pa_nil))))))))
      (pss_one (ps_ret (pe_tup (pa_cons (pv 1) (pa_cons (pv 3) pa_nil))))))), pure_law_crossing h⟩

def pr_law_due (K : PySem.W.Frag) (v0 v1 : V) (H : Hp) (Q : VK) (_ : XK) : Prop := ∃ n ps ns, Dp K H v0 (dCr n ps) ∧ Dp K H v1 (dInts ns) ∧ CrOk n ps ∧ 2 ≤ ns.length ∧ ns.length ≤ 1000 ∧ Q (.int (bnd ps ns)) H
def t_law_due (K : PySem.W.Frag) : TS :=
  (tSeq (tAsg (tC (.int 0)) (gName 2))
    (tSeq (tFor (iList K (tOp (rIxT K) (tVar 0) (tC (.int 1)))) (gTup K 2 (gCons (gName 3) (gCons (gName 4) gNil)))
      (tIfS (tAnd (tTest (tOp xLt (tVar 3) (tVar 4))) (tAnd (tTest (tOp (rIn K false) (tVar 3) (tVar 1))) (tTest (tOp (rIn K false) (tVar 4) (tVar 1))))) (tAsg (tOp xAdd (tVar 2) (tC (.int 1))) (gName 2)) tNext))
    (tSeq (tAsg (tC (.int 0)) (gName 5))
    (tSeq (tWhile (tTest (tOp xLt (tOp xMul (tVar 5) (tOp xDiv (tCB (rLen K) (tCons (tVar 1) tNil)) (tC (.int 2)))) (tVar 2)))
      (tAsg (tOp xAdd (tVar 5) (tC (.int 1))) (gName 5)))
    (tRet (tVar 5))))))
theorem within_take {ps : List (Int × Int)} {ns : List Int} {i : Nat} {p : Int × Int} (h : ps[i]? = some p) : within (ps.take (i + 1)) ns = within (ps.take i) ns + (if inLot ns p = true then 1 else 0) := by
  unfold within
  rw [List.take_add_one, h, List.filter_append, List.length_append]
  by_cases c : inLot ns p = true
  · simp [c]
  · simp [c]
theorem bnd_lt {W h b : Int} (h0 : 0 < h) : b * h < W ↔ b + 1 ≤ (W + h - 1) / h := by
  rw [Int.le_ediv_iff_mul_le h0, Int.add_mul, Int.one_mul]
  omega
theorem pure_law_due {v0 v1 : V} {H : Hp} {Q : VK} {E : XK} (h : pr_law_due K v0 v1 H Q E) : t_law_due K { nx := fun _ H' => Q .non H', rt := Q } [some v0, some v1, none, none, none, none] H := by
  obtain ⟨n, ps, ns, hc, hn, hok, hz0, hz, q⟩ := h
  obtain ⟨a, x, y, rfl, hs, hx, hy⟩ := dp_tup2 hc
  obtain rfl := dp_int hx
  obtain ⟨b, rfl, hb⟩ := dp_ints hn
  obtain ⟨c, xs, rfl, hcx, hxs⟩ := dp_list hy
  have hl := dpa_len hxs
  rw [List.length_map] at hl
  unfold t_law_due
  walk_at "s"
  refine ⟨_, rfl, ⟨_, hcx⟩, for_list (xs := xs) (fun i σ' H' => H' = H ∧ ∃ k3 k4, σ' = [some (.ref a), some (.ref b), some (.int (within (ps.take i) ns)), k3, k4, none]) ⟨rfl, none, none, rfl⟩ (fun i σ' H' _ ⟨e, _⟩ => e ▸ hcx) ?_ ?_⟩
  · rintro i x σ' H' hi ⟨rfl, k3, k4, rfl⟩
    obtain ⟨p, d, hp, rfl, hd⟩ := dpairs_get hxs hi
    have hw := within_take (ns := ns) hp
    obtain ⟨p0, p1, p2⟩ := hok.2.2.2 p (List.mem_of_getElem? hp)
    walk_at "s"
    refine k_it (fun c1 => ?_) (fun c1 => ?_)
    · walk_at "s"
      refine k_it (fun c2 => ?_) (fun c2 => ?_)
      · walk_at "s"
        refine k_it (fun c3 => ?_) (fun c3 => ?_)
        · walk_at "s"
          have : inLot ns p = true := decide_eq_true ⟨by omega, c2, c3⟩
          rw [if_pos this] at hw
          exact ⟨rfl, _, _, by rw [hw]; rfl⟩
        · walk_at "s"
          rw [if_neg fun z => c3 (of_decide_eq_true z).2.2] at hw
          exact ⟨rfl, _, _, by rw [hw]; rfl⟩
      · walk_at "s"
        rw [if_neg fun z => c2 (of_decide_eq_true z).2.1] at hw
        exact ⟨rfl, _, _, by rw [hw]; rfl⟩
    · walk_at "s"
      rw [if_neg fun z => (of_decide_eq_true z).1 (by omega)] at hw
      exact ⟨rfl, _, _, by rw [hw]; rfl⟩
  · rintro σ' H' ⟨rfl, k3, k4, rfl⟩
    rw [hl, List.take_length]
    walk_at "s"
    refine ⟨fun m σ' H'' => H'' = H' ∧ ∃ bb : Int, σ' = [some (.ref a), some (.ref b), some (.int (within ps ns)), k3, k4, some (.int bb)] ∧ 0 ≤ bb ∧ bb ≤ bnd ps ns ∧ m = (bnd ps ns - bb).toNat, ⟨_, rfl, 0, rfl, by omega, ?_, rfl⟩, ?_⟩
    · exact Int.ediv_nonneg (by omega) (by omega)
    · rintro m σ' H'' ⟨rfl, bb, rfl, b0, b1, rfl⟩
      have hb1 : within ps ns < 1000000 := by
        have : within ps ns ≤ ps.length := List.length_filter_le _ _
        have := hok.2.2.1
        omega
      have key := bnd_lt (W := (within ps ns : Int)) (h := (ns.length : Int) / 2) (b := bb) (by omega)
      have e1 : bnd ps ns = ((within ps ns : Int) + (ns.length : Int) / 2 - 1) / ((ns.length : Int) / 2) := rfl
      rw [← e1] at key
      have hbnd : bnd ps ns ≤ 2000000 := by
        rw [e1]
        refine Int.le_trans (Int.ediv_le_self _ (by omega)) (by omega)
      walk_at "s"
      refine k_it (fun c1 => ?_) (fun c1 => ?_)
      · refine ⟨fun σ' H3 => H3 = H'' ∧ σ' = [some (.ref a), some (.ref b), some (.int (within ps ns)), k3, k4, some (.int (bb + 1))], fun σ' H3 ⟨e1, e2⟩ => ⟨_, ?_, e1, bb + 1, e2, by omega, by omega, rfl⟩, ?_⟩
        · omega
        · walk_at "s"
          exact ⟨rfl, rfl⟩
      · have : bb = bnd ps ns := by omega
        subst this
        walk_at "s"
        exact q
abbrev sp_law_due (K : PySem.W.Frag) : Sp := fun vs H Q E => ∃ v0 v1, vs = [v0, v1] ∧ pr_law_due K v0 v1 H Q E
theorem ok_law_due (T : Txt K mg A) : FnOk P w K mg base CX0 1 A.a_law_due A.d_law_due ["_law_crossing_here", "_law_lot"] (sp_law_due K) := by
  refine T.F_law_due.ok sc_law_due (fun vs H Q E h => by obtain ⟨v0, v1, rfl, _⟩ := h; rfl) (fun cdv A0 outer s H vs Q E hr h => ?_)
  obtain ⟨v0, v1, rfl, h⟩ := h
  exact ⟨t_law_due K, (pss_cons (ps_set (i := 2) sc_law_due.nd rfl (Or.inl rfl) pe_int)
      (pss_cons (ps_for PassesOwn.never rfl (pi_list (pe_ix ix_tup (pv 0) pe_int (fun _ _ => rfl))) (pg_tup (by rfl) (pgs_cons (pg_name (i := 3) sc_law_due.nd rfl (Or.inl rfl)) (pgs_cons (pg_name (i := 4) sc_law_due.nd rfl (Or.inl rfl)) pgs_nil)))
      (pss_one (ps_if (PW.pt (pw_and (pt_cmpR op_lt (pv 3) (pv 4) (nomark _)) (pw_and (pt_cmpR op_in_seq (pv 3) (pv 1) (by rfl)) (pw_and1 (pt_cmpR op_in_seq (pv 4) (pv 1) (by rfl)))))) (pss_one (ps_set (i := 2) sc_law_due.nd rfl (Or.inl rfl) (pe_op op_add (pv 2) pe_int))) pss_nil)))
      (pss_cons (ps_set (i := 5) sc_law_due.nd rfl (Or.inl rfl) pe_int)
      (pss_cons (ps_while PassesOwn.never (pt_cmpR op_lt (pe_op op_mul (pv 5) (pe_op op_fdiv (pe_callB q_len (by rfl) T.z_len (by decide +kernel) (pa_cons (pv 1) pa_nil)) pe_int)) (pv 2) (nomark _))
      (pss_one (ps_set (i := 5) sc_law_due.nd rfl (Or.inl rfl) (pe_op op_add (pv 5) pe_int))))
      (pss_one (ps_ret (pv 5))))))), pure_law_due h⟩

def pr_law_good (K : PySem.W.Frag) (v0 v1 : V) (H : Hp) (Q : VK) (_ : XK) : Prop := ∃ n ps ns, Dp K H v0 (dCr n ps) ∧ Dp K H v1 (dInts ns) ∧ CrOk n ps ∧ LotOk n ns ∧ ns.length ≤ 1000 ∧ ∀ H', Same H H' → Q (.bl true) H'
def t_law_good (K : PySem.W.Frag) : TS :=
  (tSeq (tAsg (tTup (tCons (tTup (tCons (tOp (rIxT K) (tVar 0) (tC (.int 0))) (tCons (tCB (rListOf K) (tCons (tOp (rIxT K) (tVar 0) (tC (.int 1))) tNil)) tNil))) (tCons (tCB (rListOf K) (tCons (tVar 1) tNil)) tNil))) (gName 2))
    (tSeq (tAsg (tCall (sp_lot_bound K) [] E0 (tCons (tOp (rIxT K) (tVar 2) (tC (.int 0))) (tCons (tOp (rIxT K) (tVar 2) (tC (.int 1))) tNil))) (gName 3))
    (tSeq (tIfS (tOr (tNot (tB (tCB (rIsi K) (tCons (tVar 3) (tCons (tC (.ty "int")) tNil))))) (tOr (tB (tCB (rIsi K) (tCons (tVar 3) (tCons (tC (.ty "bool")) tNil)))) (tTest (tOp (rNeD K) (tVar 2) (tTup (tCons (tVar 0) (tCons (tVar 1) tNil))))))) (tRet (tC (.bl false))) tNext)
    (tRet (tOp rEq (tVar 3) (tCall (sp_law_due K) [] E0 (tCons (tVar 0) (tCons (tVar 1) tNil))))))))
theorem pure_law_good {v0 v1 : V} {H : Hp} {Q : VK} {E : XK} (h : pr_law_good K v0 v1 H Q E) : t_law_good K { nx := fun _ H' => Q .non H', rt := Q } [some v0, some v1, none, none] H := by
  obtain ⟨n, ps, ns, hc, hn, hok, hlot, hz, q⟩ := h
  have hc' := hc
  have hn' := hn
  obtain ⟨a, x, y, rfl, hs, hx, hy⟩ := dp_tup2 hc
  obtain rfl := dp_int hx
  obtain ⟨b, rfl, hb⟩ := dp_ints hn
  obtain ⟨c, xs, rfl, hcx, hxs⟩ := dp_list hy
  unfold t_law_good
  walk_at "s"
  refine k_list hcx (fun l1 n1 => ?_)
  have s1 := same_new (o := .lst xs) n1
  have e1 := upd_same (H := H) (a := l1) (o := .lst xs)
  generalize upd H l1 (.lst xs) = H1 at s1 e1 ⊢
  walk_at "s"
  refine ⟨sz (by simp), fun t1 n2 => ?_⟩
  have s2 := same_new (o := .tup [.int n, .ref l1]) n2
  have e2 := upd_same (H := H1) (a := t1) (o := .tup [.int n, .ref l1])
  generalize upd H1 t1 (.tup [.int n, .ref l1]) = H2 at s2 e2 ⊢
  walk_at "s"
  refine k_list ((s1.trans s2).seq hb) (fun l2 n3 => ?_)
  have s3 := same_new (o := .lst (ns.map V.int)) n3
  have e3 := upd_same (H := H2) (a := l2) (o := .lst (ns.map V.int))
  generalize upd H2 l2 (.lst (ns.map V.int)) = H3 at s3 e3 ⊢
  walk_at "s"
  refine ⟨sz (by simp), fun t2 n4 => ?_⟩
  have s4 := same_new (o := .tup [.ref t1, .ref l2]) n4
  have e4 := upd_same (H := H3) (a := t2) (o := .tup [.ref t1, .ref l2])
  generalize upd H3 t2 (.tup [.ref t1, .ref l2]) = H4 at s4 e4 ⊢
  have s14 : Same H1 H4 := s2.trans (s3.trans s4)
  have s04 : Same H H4 := s1.trans s14
  have dc : Dp K H4 (.ref t1) (dCr n ps) := .tup (stp ((s3.trans s4) _ _ e2)) (.cons (.int n) (.cons (.lst (sl (s14 _ _ e1)) (dpa_same s04 hxs)) .nil))
  have dn : Dp K H4 (.ref l2) (dInts ns) := dp_of_ints (sl (s4 _ _ e3))
  walk_at "s"
  refine ⟨_, _, rfl, n, ps, ns, dc, dn, hok, hlot, hz, fun H5 s5 => ?_⟩
  walk_at "s"
  refine ⟨sz (by simp), fun t3 n6 => ?_⟩
  have s6 := same_new (o := .tup [.ref a, .ref b]) n6
  have e6 := upd_same (H := H5) (a := t3) (o := .tup [.ref a, .ref b])
  generalize upd H5 t3 (.tup [.ref a, .ref b]) = H6 at s6 e6 ⊢
  have s46 := s5.trans s6
  have s06 := s04.trans s46
  refine k_neD0 (c := .tuple [dCr n ps, dInts ns]) (n := 4) (.tup (stp (s46 _ _ e4)) (.cons (dp_same s46 dc) (.cons (dp_same s46 dn) .nil))) (.tup (stp e6) (.cons (dp_same s06 hc') (.cons (dp_same s06 hn') .nil))) (sh_two (sh_two sh_int (sh_pairs ps)) (sh_ints ns)) (by decide) ?_
  walk_at "s"
  refine ⟨_, _, rfl, n, ps, ns, dp_same s06 hc', dp_same s06 hn', hok, by have := hlot.1; omega, hz, ?_⟩
  walk_at "s"
  have : decide (bnd ps ns = bnd ps ns) = true := by simp
  rw [this]
  exact q _ s06
abbrev sp_law_good (K : PySem.W.Frag) : Sp := fun vs H Q E => ∃ v0 v1, vs = [v0, v1] ∧ pr_law_good K v0 v1 H Q E
theorem ok_law_good (T : Txt K mg A) : FnOk P w K mg base CX0 3 A.a_law_good A.d_law_good ["_law_crossing_here", "_law_lot"] (sp_law_good K) := by
  refine T.F_law_good.ok sc_law_good (fun vs H Q E h => by obtain ⟨v0, v1, rfl, _⟩ := h; rfl) (fun cdv A0 outer s H vs Q E hr h => ?_)
  obtain ⟨v0, v1, rfl, h⟩ := h
  exact ⟨t_law_good K, (pss_cons (ps_set (i := 2) sc_law_good.nd rfl (Or.inl rfl) (pe_tup (pa_cons (pe_tup (pa_cons (pe_ix ix_tup (pv 0) pe_int (fun _ _ => rfl)) (pa_cons (pe_callTy q_listOf (by rfl) T.z_list (by decide +kernel) (pa_cons (pe_ix ix_tup (pv 0) pe_int (fun _ _ => rfl)) pa_nil)) pa_nil))) (pa_cons (pe_callTy q_listOf (by rfl) T.z_list (by decide +kernel) (pa_cons (pv 1) pa_nil)) pa_nil))))
      (pss_cons (ps_set (i := 3) sc_law_good.nd rfl (Or.inl rfl) (pe_call (ok_lot_bound T) (hr.mono (by decide)) (by rfl) T.g_lot_bound T.F_lot_bound.kp T.b_lot_bound .nil pass0 (pa_cons (pe_ix ix_tup (pv 2) pe_int (fun _ _ => rfl)) (pa_cons (pe_ix ix_tup (pv 2) pe_int (fun _ _ => rfl)) pa_nil))))
      (pss_cons (ps_if (PW.pt (pw_or (pt_not (pt_val (pe_callB q_isi (by rfl) T.z_isinstance (by decide +kernel) (pa_cons (pv 3) (pa_cons (pe_bltn (v := .ty "int") (by rfl) T.z_int (by decide +kernel) rfl) pa_nil))))) (pw_or (pt_val (pe_callB q_isi (by rfl) T.z_isinstance (by decide +kernel) (pa_cons (pv 3) (pa_cons (pe_bltn (v := .ty "bool") (by rfl) T.z_bool (by decide +kernel) rfl) pa_nil)))) (pw_or1 (pt_cmpR (op_neD hr.units) (pv 2) (pe_tup (pa_cons (pv 0) (pa_cons (pv 1) pa_nil))) (nomark _)))))) (pss_one (ps_ret pe_bl)) pss_nil)
      (pss_one (ps_ret (pe_cmpR op_eq (pv 3) (pe_call (ok_law_due T) (hr.mono (by decide)) (by rfl) T.g_law_due T.F_law_due.kp T.b_law_due .nil pass0 (pa_cons (pv 0) (pa_cons (pv 1) pa_nil))) (nomark _))))))), pure_law_good h⟩

def sp_law (K : PySem.W.Frag) : Sp := fun vs H Q _ => ∃ (a : Addr) (ns : List Int), vs = [.ref a] ∧ SqL K H a (ns.map V.int) ∧ ns.length ≤ 63 ∧ ∀ H', Q (.bl true) H'
def t_law (K : PySem.W.Frag) : TS :=
  (tSeq (tAsg (tCall (sp_law_purse K) [] E0 (tCons (tVar 0) tNil)) (gName 1))
    (tSeq (tFor (iRng1 (tCons (tC (.int 5)) tNil)) (gName 2)
      (tSeq (tAsg (tOp xAdd (tC (.int 3)) (tCall (sp_law_draw K) [] E0 (tCons (tVar 1) (tCons (tOp (rIxL K) (tLst (tCons (tC (.int 4)) (tCons (tC (.int 58)) tNil))) (tCall (sp_law_draw K) [] E0 (tCons (tVar 1) (tCons (tC (.int 2)) tNil)))) tNil)))) (gName 3))
    (tSeq (tAsg (tCall (sp_law_some K) [] E0 (tCons (tVar 1) (tCons (tVar 3) tNil))) (gName 4))
    (tSeq (tAsg (tCall (sp_law_some K) [] E0 (tCons (tVar 1) (tCons (tVar 3) tNil))) (gName 5))
    (tSeq (tAsg (tCall (sp_law_crossing K) [] E0 (tCons (tVar 1) (tCons (tVar 3) (tCons (tVar 4) tNil)))) (gName 6))
    (tFor (iList K (tLst (tCons (tVar 4) (tCons (tVar 5) (tCons (tVar 4) (tCons (tLst (tCons (tC (.int 0)) (tCons (tOp xSub (tVar 3) (tC (.int 2))) (tCons (tOp xSub (tVar 3) (tC (.int 1))) tNil)))) tNil)))))) (gName 7)
      (tIfS (tNot (tB (tCall (sp_law_good K) [] E0 (tCons (tVar 6) (tCons (tVar 7) tNil))))) (tRet (tC (.bl false))) tNext)))))))
    (tRet (tC (.bl true)))))
theorem pure_law {v0 : V} {H : Hp} {Q : VK} (h : ∃ (a : Addr) (ns : List Int), v0 = .ref a ∧ SqL K H a (ns.map V.int) ∧ ns.length ≤ 63 ∧ ∀ H', Q (.bl true) H') : t_law K { nx := fun _ H' => Q .non H', rt := Q } [some v0, none, none, none, none, none, none, none] H := by
  obtain ⟨a, ns, rfl, ha, hz, q⟩ := h
  unfold t_law
  walk_at "s"
  refine ⟨_, rfl, a, ns, rfl, ha, hz, fun pu ce n H1 s1 npu nce P1 => ?_⟩
  walk_at "s"
  refine for_range (fun i σ' H' => ∃ t' k2 k3 k4 k5 k6 k7, σ' = [some (.ref a), some (.ref pu), k2, k3, k4, k5, k6, k7] ∧ Pu H' pu ce n t' ∧ t' ≤ 1000 * i) ⟨0, none, none, none, none, none, none, rfl, P1, by omega⟩ ?_ ?_
  · rintro i σ' H' hi ⟨t', k2, k3, k4, k5, k6, k7, rfl, P2, ht'⟩
    have hi5 : i < 5 := hi
    have t0 := P2.t0
    walk_at "s"
    refine ⟨sz (by simp), fun dl ndl => ?_⟩
    walk_at "s"
    have ndl' := P2.fresh ndl
    refine ⟨_, _, rfl, pu, ce, n, t', 2, rfl, rfl, P2.upd ndl', by omega, by decide, by decide, fun r H2 r0 r1 P3 S2 => ?_⟩
    have hdl : H2 dl = some (.lst ([4, 58].map V.int)) := keeps S2 upd_same ndl'
    refine k_ixI (sl hdl) r0 (by simpa using r1) ?_
    have hv := getD_memI (ns := [4, 58]) r0 (by simpa using r1)
    generalize ([4, 58] : List Int).getD r.toNat 0 = b at hv ⊢
    have hb : 1 ≤ b ∧ b ≤ 58 := by
      simp only [List.mem_cons, List.not_mem_nil, or_false] at hv
      rcases hv with rfl | rfl <;> omega
    walk_at "s"
    refine ⟨_, _, rfl, pu, ce, n, t' + 1, b, rfl, rfl, P3, by omega, by omega, by omega, fun d H3 d0 d1 P4 S3 => ?_⟩
    walk_at "s"
    refine ⟨_, _, rfl, pu, ce, n, t' + 1 + 1, 3 + d, rfl, rfl, P4, by omega, by omega, by omega, fun l1 n1 t4 H4 nl1 nl1' P5 ht4 S4 hl1 lo1 len1 => ?_⟩
    walk_at "s"
    refine ⟨_, _, rfl, pu, ce, n, t4, 3 + d, rfl, rfl, P5, by omega, by omega, by omega, fun l2 n2 t5 H5 nl2 nl2' P6 ht5 S5 hl2 lo2 len2 => ?_⟩
    have hl1' := keeps S5 hl1 nl1'
    walk_at "s"
    refine ⟨_, _, _, rfl, pu, ce, n, t5, 3 + d, l1, n1, rfl, rfl, rfl, P6, by omega, by omega, by omega, hl1', nl1', by have := lo1.1; omega, by omega, lo1.2.2.1, fun cr ps t6 H6 P7 ht6 S6 hcr hok => ?_⟩
    have h1 := keeps S6 hl1' nl1'
    have h2 := keeps S6 hl2 nl2'
    have hcr' : Dp K H6 cr (dCr (3 + d) ps) := dp_same (hid_same _ _) hcr
    walk_at "s"
    refine ⟨sz (by simp), fun l3 nl3 => ?_⟩
    have s7 := same_new (o := .lst [.int 0, .int (3 + d - 2), .int (3 + d - 1)]) nl3
    have e7 : upd H6 l3 (.lst [.int 0, .int (3 + d - 2), .int (3 + d - 1)]) l3 = some (.lst ([0, 3 + d - 2, 3 + d - 1].map V.int)) := upd_same
    generalize upd H6 l3 (.lst [.int 0, .int (3 + d - 2), .int (3 + d - 1)]) = H7 at s7 e7 ⊢
    walk_at "s"
    refine ⟨sz (by simp), fun l4 nl4 => ?_⟩
    have s8 := same_new (o := .lst [.ref l1, .ref l2, .ref l1, .ref l3]) nl4
    have e8 := upd_same (H := H7) (a := l4) (o := .lst [.ref l1, .ref l2, .ref l1, .ref l3])
    generalize upd H7 l4 (.lst [.ref l1, .ref l2, .ref l1, .ref l3]) = H8 at s8 e8 ⊢
    have lo3 : LotOk (3 + d) [0, 3 + d - 2, 3 + d - 1] := by
      refine ⟨by simp, by simp, fun x hx => ?_, fun i hi => ?_⟩
      · simp only [List.mem_cons, List.not_mem_nil, or_false] at hx
        rcases hx with rfl | rfl | rfl <;> omega
      · have c : i = 0 ∨ i = 1 := by simp at hi; omega
        rcases c with rfl | rfl
        · show (0 : Int) < 3 + d - 2; omega
        · show 3 + d - 2 < 3 + d - 1; omega
    have all : ∀ (j : Nat) x, [V.ref l1, .ref l2, .ref l1, .ref l3][j]? = some x → ∃ ks, Dp K H8 x (dInts ks) ∧ LotOk (3 + d) ks ∧ ks.length ≤ 1000 := by
      intro j x hx
      have d1 : Dp K H8 (.ref l1) (dInts n1) := dp_of_ints (sl ((s7.trans s8) _ _ h1))
      have d2 : Dp K H8 (.ref l2) (dInts n2) := dp_of_ints (sl ((s7.trans s8) _ _ h2))
      have d3 : Dp K H8 (.ref l3) (dInts [0, 3 + d - 2, 3 + d - 1]) := dp_of_ints (sl (s8 _ _ e7))
      have hm := List.mem_of_getElem? hx
      simp only [List.mem_cons, List.not_mem_nil, or_false] at hm
      rcases hm with rfl | rfl | rfl | rfl
      · exact ⟨_, d1, lo1, by omega⟩
      · exact ⟨_, d2, lo2, by omega⟩
      · exact ⟨_, d1, lo1, by omega⟩
      · exact ⟨_, d3, lo3, by simp⟩
    have P8 := P7.same (s7.trans s8)
    walk_at "s"
    refine ⟨_, rfl, ⟨_, sl e8⟩, for_list (xs := [V.ref l1, .ref l2, .ref l1, .ref l3]) (fun j σ' H' => Same H8 H' ∧ ∃ k7, σ' = [some (.ref a), some (.ref pu), some (.int (0 + (i : Nat))), some (.int (3 + d)), some (.ref l1), some (.ref l2), some cr, k7]) ⟨Same.refl _, _, rfl⟩ (fun j σ' H' _ ⟨e, _⟩ => e.seq (sl e8)) ?_ ?_⟩
    · rintro j x σ' H' hx ⟨sm, k7, rfl⟩
      obtain ⟨ks, dk, lk, zk⟩ := all j x hx
      walk_at "s"
      refine ⟨_, _, rfl, 3 + d, ps, ks, dp_same ((s7.trans s8).trans sm) hcr', dp_same sm dk, hok, lk, zk, fun H9 s9 => ?_⟩
      walk_at "s"
      exact ⟨sm.trans s9, _, rfl⟩
    · rintro σ' H' ⟨sm, k7, rfl⟩
      exact ⟨t6, _, _, _, _, _, _, rfl, P8.same sm, by omega⟩
  · rintro σ' H' ⟨t', k2, k3, k4, k5, k6, k7, rfl, P2, ht'⟩
    walk_at "s"
    exact q _
theorem ok_law (T : Txt K mg A) : FnOk P w K mg base CX0 4 A.a_law A.d_law ["_law_script"] (sp_law K) := by
  refine T.F_law.ok sc_law (fun vs H Q E h => by obtain ⟨a, ns, rfl, _⟩ := h; rfl) (fun cdv A0 outer s H vs Q E hr h => ?_)
  obtain ⟨a, ns, rfl, h⟩ := h
  exact ⟨t_law K, (pss_cons (ps_set (i := 1) sc_law.nd rfl (Or.inl rfl) (pe_call (ok_law_purse T) (hr.mono (by decide)) (by rfl) T.g_law_purse T.F_law_purse.kp T.b_law_purse .nil pass0 (pa_cons (pv 0) pa_nil)))
      (pss_cons (ps_for PassesOwn.never rfl (pi_range1 (by rfl) T.z_range (pa_cons pe_int pa_nil)) (pg_name (i := 2) sc_law.nd rfl (Or.inl rfl))
      (pss_cons (ps_set (i := 3) sc_law.nd rfl (Or.inl rfl) (pe_op op_add pe_int (pe_call (ok_law_draw T) (hr.mono (by decide)) (by rfl) T.g_law_draw T.F_law_draw.kp T.b_law_draw .nil pass0 (pa_cons (pv 1) (pa_cons (pe_ix ix_list (pe_lst (pa_cons pe_int (pa_cons pe_int pa_nil))) (pe_call (ok_law_draw T) (hr.mono (by decide)) (by rfl) T.g_law_draw T.F_law_draw.kp T.b_law_draw .nil pass0 (pa_cons (pv 1) (pa_cons pe_int pa_nil))) (fun _ _ => rfl)) pa_nil)))))
      (pss_cons (ps_set (i := 4) sc_law.nd rfl (Or.inl rfl) (pe_call (ok_law_some T) (hr.mono (by decide)) (by rfl) T.g_law_some T.F_law_some.kp T.b_law_some .nil pass0 (pa_cons (pv 1) (pa_cons (pv 3) pa_nil))))
      (pss_cons (ps_set (i := 5) sc_law.nd rfl (Or.inl rfl) (pe_call (ok_law_some T) (hr.mono (by decide)) (by rfl) T.g_law_some T.F_law_some.kp T.b_law_some .nil pass0 (pa_cons (pv 1) (pa_cons (pv 3) pa_nil))))
      (pss_cons (ps_set (i := 6) sc_law.nd rfl (Or.inl rfl) (pe_call (ok_law_crossing T) (hr.mono (by decide)) (by rfl) T.g_law_crossing T.F_law_crossing.kp T.b_law_crossing .nil pass0 (pa_cons (pv 1) (pa_cons (pv 3) (pa_cons (pv 4) pa_nil)))))
      (pss_one (ps_for PassesOwn.never rfl (pi_list (pe_lst (pa_cons (pv 4) (pa_cons (pv 5) (pa_cons (pv 4) (pa_cons (pe_lst (pa_cons pe_int (pa_cons (pe_op op_sub (pv 3) pe_int) (pa_cons (pe_op op_sub (pv 3) pe_int) pa_nil)))) pa_nil)))))) (pg_name (i := 7) sc_law.nd rfl (Or.inl rfl))
      (pss_one (ps_if (pt_not (pt_val (pe_call (ok_law_good T) (hr.mono (by decide)) (by rfl) T.g_law_good T.F_law_good.kp T.b_law_good .nil pass0 (pa_cons (pv 6) (pa_cons (pv 7) pa_nil))))) (pss_one (ps_ret pe_bl)) pss_nil)))))))))
      (pss_one (ps_ret pe_bl)))), pure_law ⟨a, ns, rfl, h⟩⟩

theorem all_mk {l : PySem.W.OpenLaw} {w : World} {K : PySem.W.Frag} {h : Heap} {mg : Str → Option Value} {fa : Addr} {f0 f1 f2 f3 f4 f5 f6 f7 f8 f9 f10 : Addr} (X : K.In h) (G : h.Ns mainGlobals mg) (hfa : mg "law" = some (.ref fa))
    {od0 an0 od1 an1 od2 an2 od3 an3 od4 an4 od5 an5 od6 an6 od7 an7 od8 an8 od9 an9 od10 an10 : Option Addr} {sl0 sl1 sl2 sl3 sl4 sl5 sl6 sl7 sl8 sl9 sl10 : Array (Option Value)} {oc0 kV0 dc0 pm0 cd0 ct0 oc1 kV1 dc1 pm1 cd1 ct1 oc2 kV2 dc2 pm2 cd2 ct2 oc3 kV3 dc3 pm3 cd3 ct3 oc4 kV4 dc4 pm4 cd4 ct4 oc5 kV5 dc5 pm5 cd5 ct5 oc6 kV6 dc6 pm6 cd6 ct6 oc7 kV7 dc7 pm7 cd7 ct7 oc8 kV8 dc8 pm8 cd8 ct8 oc9 kV9 dc9 pm9 cd9 ct9 oc10 kV10 dc10 pm10 cd10 ct10 : Value}
    {tk0 tk1 : Tok}
    (a0 : PySem.W.nsIn K mainGlobals "must_be_crossing" = some (some (.ref f0))) (l0 : K.lookup f0 = some ⟨oc0, od0, .func (PySem.W.fnOf "must_be_crossing" "must_be_crossing" (defArgs s_must_be_crossing) (defBody s_must_be_crossing) (defScope s_must_be_crossing) .none kV0 dc0 pm0 an0 cd0 ct0), sl0⟩) (c0 : PySem.W.codeIn K cd0 "must_be_crossing" = true) (k0 : PySem.W.keepIn K (.ref f0) = true)
    (a1 : PySem.W.nsIn K mainGlobals "is_lot" = some (some (.ref f1))) (l1 : K.lookup f1 = some ⟨oc1, od1, .func (PySem.W.fnOf "is_lot" "is_lot" (defArgs s_is_lot) (defBody s_is_lot) (defScope s_is_lot) .none kV1 dc1 pm1 an1 cd1 ct1), sl1⟩) (c1 : PySem.W.codeIn K cd1 "is_lot" = true) (k1 : PySem.W.keepIn K (.ref f1) = true)
    (a2 : PySem.W.nsIn K mainGlobals "bound_of" = some (some (.ref f2))) (l2 : K.lookup f2 = some ⟨oc2, od2, .func (PySem.W.fnOf "bound_of" "bound_of" (defArgs s_bound_of) (defBody s_bound_of) (defScope s_bound_of) .none kV2 dc2 pm2 an2 cd2 ct2), sl2⟩) (c2 : PySem.W.codeIn K cd2 "bound_of" = true) (k2 : PySem.W.keepIn K (.ref f2) = true)
    (a3 : PySem.W.nsIn K mainGlobals "lot_bound" = some (some (.ref f3))) (l3 : K.lookup f3 = some ⟨oc3, od3, .func (PySem.W.fnOf "lot_bound" "lot_bound" (defArgs s_lot_bound) (defBody s_lot_bound) (defScope s_lot_bound) .none kV3 dc3 pm3 an3 cd3 ct3), sl3⟩) (c3 : PySem.W.codeIn K cd3 "lot_bound" = true) (k3 : PySem.W.keepIn K (.ref f3) = true)
    (a4 : PySem.W.nsIn K mainGlobals "_law_purse" = some (some (.ref f4))) (l4 : K.lookup f4 = some ⟨oc4, od4, .func (PySem.W.fnOf "_law_purse" "_law_purse" (defArgs s_law_purse) (defBody s_law_purse) (defScope s_law_purse) .none kV4 dc4 pm4 an4 cd4 ct4), sl4⟩) (c4 : PySem.W.codeIn K cd4 "_law_purse" = true) (k4 : PySem.W.keepIn K (.ref f4) = true)
    (a5 : PySem.W.nsIn K mainGlobals "_law_draw" = some (some (.ref f5))) (l5 : K.lookup f5 = some ⟨oc5, od5, .func (PySem.W.fnOf "_law_draw" "_law_draw" (defArgs s_law_draw) (defBody s_law_draw) (defScope s_law_draw) .none kV5 dc5 pm5 an5 cd5 ct5), sl5⟩) (c5 : PySem.W.codeIn K cd5 "_law_draw" = true) (k5 : PySem.W.keepIn K (.ref f5) = true)
    (a6 : PySem.W.nsIn K mainGlobals "_law_some" = some (some (.ref f6))) (l6 : K.lookup f6 = some ⟨oc6, od6, .func (PySem.W.fnOf "_law_some" "_law_some" (defArgs s_law_some) (defBody s_law_some) (defScope s_law_some) .none kV6 dc6 pm6 an6 cd6 ct6), sl6⟩) (c6 : PySem.W.codeIn K cd6 "_law_some" = true) (k6 : PySem.W.keepIn K (.ref f6) = true)
    (a7 : PySem.W.nsIn K mainGlobals "_law_crossing" = some (some (.ref f7))) (l7 : K.lookup f7 = some ⟨oc7, od7, .func (PySem.W.fnOf "_law_crossing" "_law_crossing" (defArgs s_law_crossing) (defBody s_law_crossing) (defScope s_law_crossing) .none kV7 dc7 pm7 an7 cd7 ct7), sl7⟩) (c7 : PySem.W.codeIn K cd7 "_law_crossing" = true) (k7 : PySem.W.keepIn K (.ref f7) = true)
    (a8 : PySem.W.nsIn K mainGlobals "_law_due" = some (some (.ref f8))) (l8 : K.lookup f8 = some ⟨oc8, od8, .func (PySem.W.fnOf "_law_due" "_law_due" (defArgs s_law_due) (defBody s_law_due) (defScope s_law_due) .none kV8 dc8 pm8 an8 cd8 ct8), sl8⟩) (c8 : PySem.W.codeIn K cd8 "_law_due" = true) (k8 : PySem.W.keepIn K (.ref f8) = true)
    (a9 : PySem.W.nsIn K mainGlobals "_law_good" = some (some (.ref f9))) (l9 : K.lookup f9 = some ⟨oc9, od9, .func (PySem.W.fnOf "_law_good" "_law_good" (defArgs s_law_good) (defBody s_law_good) (defScope s_law_good) .none kV9 dc9 pm9 an9 cd9 ct9), sl9⟩) (c9 : PySem.W.codeIn K cd9 "_law_good" = true) (k9 : PySem.W.keepIn K (.ref f9) = true)
    (a10 : PySem.W.nsIn K mainGlobals "law" = some (some (.ref f10))) (l10 : K.lookup f10 = some ⟨oc10, od10, .func (PySem.W.fnOf "law" "law" (defArgs s_law) (defBody s_law) (defScope s_law) .none kV10 dc10 pm10 an10 cd10 ct10), sl10⟩) (c10 : PySem.W.codeIn K cd10 "law" = true) (k10 : PySem.W.keepIn K (.ref f10) = true)
    (e0 : PySem.W.nsIn K mainGlobals "MOST_TIES" = some (some (.int 60 tk0)))
    (e1 : PySem.W.nsIn K mainGlobals "MOST_PAIRS" = some (some (.int 60 tk1)))
    (z0 : PySem.W.nsIn K mainGlobals "bool" = some none)
    (z1 : PySem.W.nsIn K mainGlobals "int" = some none)
    (z2 : PySem.W.nsIn K mainGlobals "isinstance" = some none)
    (z3 : PySem.W.nsIn K mainGlobals "len" = some none)
    (z4 : PySem.W.nsIn K mainGlobals "list" = some none)
    (z5 : PySem.W.nsIn K mainGlobals "max" = some none)
    (z6 : PySem.W.nsIn K mainGlobals "min" = some none)
    (z7 : PySem.W.nsIn K mainGlobals "range" = some none)
    (z8 : PySem.W.nsIn K mainGlobals "sorted" = some none)
    : ∃ fd : FuncData, (∀ (s : Shared) (v : Value), BindsTo s fd ⟨[v], []⟩ [("_law_script", v)]) ∧ ∀ base : Heap, K.In base → base.Ns mainGlobals mg → FnOk l.prog w K mg base CX0 4 fa fd ["_law_script"] (sp_law K) := by
  have e := hfa.symm.trans (PySem.W.mg_of X G a10)
  cases e
  have F0 := fun_mk (st := s_must_be_crossing) l0 c0 k0
  have b0 := F0.binds (ps := ["crossing"]) fun _ _ _ _ _ _ us hl => match us, hl with | [_], _ => rfl
  have F1 := fun_mk (st := s_is_lot) l1 c1 k1
  have b1 := F1.binds (ps := ["crossing", "lot"]) fun _ _ _ _ _ _ us hl => match us, hl with | [_, _], _ => rfl
  have F2 := fun_mk (st := s_bound_of) l2 c2 k2
  have b2 := F2.binds (ps := ["crossing", "lot"]) fun _ _ _ _ _ _ us hl => match us, hl with | [_, _], _ => rfl
  have F3 := fun_mk (st := s_lot_bound) l3 c3 k3
  have b3 := F3.binds (ps := ["crossing", "lot"]) fun _ _ _ _ _ _ us hl => match us, hl with | [_, _], _ => rfl
  have F4 := fun_mk (st := s_law_purse) l4 c4 k4
  have b4 := F4.binds (ps := ["_law_script"]) fun _ _ _ _ _ _ us hl => match us, hl with | [_], _ => rfl
  have F5 := fun_mk (st := s_law_draw) l5 c5 k5
  have b5 := F5.binds (ps := ["_law_purse_here", "_law_out_of"]) fun _ _ _ _ _ _ us hl => match us, hl with | [_, _], _ => rfl
  have F6 := fun_mk (st := s_law_some) l6 c6 k6
  have b6 := F6.binds (ps := ["_law_purse_here", "_law_many"]) fun _ _ _ _ _ _ us hl => match us, hl with | [_, _], _ => rfl
  have F7 := fun_mk (st := s_law_crossing) l7 c7 k7
  have b7 := F7.binds (ps := ["_law_purse_here", "_law_many", "_law_lot"]) fun _ _ _ _ _ _ us hl => match us, hl with | [_, _, _], _ => rfl
  have F8 := fun_mk (st := s_law_due) l8 c8 k8
  have b8 := F8.binds (ps := ["_law_crossing_here", "_law_lot"]) fun _ _ _ _ _ _ us hl => match us, hl with | [_, _], _ => rfl
  have F9 := fun_mk (st := s_law_good) l9 c9 k9
  have b9 := F9.binds (ps := ["_law_crossing_here", "_law_lot"]) fun _ _ _ _ _ _ us hl => match us, hl with | [_, _], _ => rfl
  have F10 := fun_mk (st := s_law) l10 c10 k10
  have b10 := F10.binds (ps := ["_law_script"]) fun _ _ _ _ _ _ us hl => match us, hl with | [_], _ => rfl
  have T : Txt K mg ⟨f0, _, f1, _, f2, _, f3, _, f4, _, f5, _, f6, _, f7, _, f8, _, f9, _, fa, _⟩ :=
    ⟨PySem.W.mg_of X G a0, F0, b0, PySem.W.mg_of X G a1, F1, b1, PySem.W.mg_of X G a2, F2, b2, PySem.W.mg_of X G a3, F3, b3, PySem.W.mg_of X G a4, F4, b4, PySem.W.mg_of X G a5, F5, b5, PySem.W.mg_of X G a6, F6, b6, PySem.W.mg_of X G a7, F7, b7, PySem.W.mg_of X G a8, F8, b8, PySem.W.mg_of X G a9, F9, b9, PySem.W.mg_of X G a10, F10, b10, tok_mk (PySem.W.mg_of X G e0), tok_mk (PySem.W.mg_of X G e1), PySem.W.mg_none_of X G z0, PySem.W.mg_none_of X G z1, PySem.W.mg_none_of X G z2, PySem.W.mg_none_of X G z3, PySem.W.mg_none_of X G z4, PySem.W.mg_none_of X G z5, PySem.W.mg_none_of X G z6, PySem.W.mg_none_of X G z7, PySem.W.mg_none_of X G z8⟩
  exact ⟨_, fun s v => .of_eq rfl, fun base _ _ => ok_law T⟩
end Pf
open PySem PySem.W PyProof.Rows
set_option maxHeartbeats 0 in
theorem PySem.Challenge.cw_tiehues_k33_bounds_of_lots_holds : PySem.Challenge.rw_tiehues_k33_bounds_of_lots.Holds := by
  w_on; o_law; k_head; (case hw => w_witness2)
  k_fill
  refine L2.walk_ofK (l := PySem.Challenge.rw_tiehues_k33_bounds_of_lots) (n := 63) (k := 4) (x := "_law_script") (CX := L2.CX0) (sp := Pf.sp_law) rfl (by decide) rfl ⟨rfl, by decide, by decide⟩ (fun w h Y => PySem.W.kIn_of Y) ?F (fun _ _ a ns hl _ hS => ⟨a, ns, rfl, hS, hl, fun _ => rfl⟩) (fun _ _ _ _ h => h)
  case F =>
    intro w mg fa h KX G hmg
    refine' Pf.all_mk KX G hmg ?a0 ?l0 ?c0 ?k0 ?a1 ?l1 ?c1 ?k1 ?a2 ?l2 ?c2 ?k2 ?a3 ?l3 ?c3 ?k3 ?a4 ?l4 ?c4 ?k4 ?a5 ?l5 ?c5 ?k5 ?a6 ?l6 ?c6 ?k6 ?a7 ?l7 ?c7 ?k7 ?a8 ?l8 ?c8 ?k8 ?a9 ?l9 ?c9 ?k9 ?a10 ?l10 ?c10 ?k10 ?e0 ?e1 ?z0 ?z1 ?z2 ?z3 ?z4 ?z5 ?z6 ?z7 ?z8
    (case a0 => k_is); (case l0 => k_is); (case c0 => k_is); (case k0 => k_is); (case a1 => k_is); (case l1 => k_is); (case c1 => k_is); (case k1 => k_is); (case a2 => k_is); (case l2 => k_is); (case c2 => k_is); (case k2 => k_is); (case a3 => k_is); (case l3 => k_is); (case c3 => k_is); (case k3 => k_is); (case a4 => k_is); (case l4 => k_is); (case c4 => k_is); (case k4 => k_is); (case a5 => k_is); (case l5 => k_is); (case c5 => k_is); (case k5 => k_is); (case a6 => k_is); (case l6 => k_is); (case c6 => k_is); (case k6 => k_is); (case a7 => k_is); (case l7 => k_is); (case c7 => k_is); (case k7 => k_is); (case a8 => k_is); (case l8 => k_is); (case c8 => k_is); (case k8 => k_is); (case a9 => k_is); (case l9 => k_is); (case c9 => k_is); (case k9 => k_is); (case a10 => k_is); (case l10 => k_is); (case c10 => k_is); (case k10 => k_is); (case e0 => k_is); (case e1 => k_is); (case z0 => k_is); (case z1 => k_is); (case z2 => k_is); (case z3 => k_is); (case z4 => k_is); (case z5 => k_is); (case z6 => k_is); (case z7 => k_is); (case z8 => k_is)
