import PyProof.Rows.All
import Wide.All
import OpenK.AllK
import Wide.FinOn
import HandS.ForMost
import HandS.NoneIn
import HandS.Conv
import HandS.IsInst
import HandS.Wide
import HandS.SortInts
import HandS.Walk
import KE.DataMinMax
import HandS.Text
import HandS.Zip
import HandS.Exc
import HandS.WordsDict
import HandS.Deep
import HandS.Iter
import HandS.Sort
import HandS.Dict
import HandS.ExcOwn
import HandS.More
import HandS.Style
import HandS.List
import HandS.Rev
import PySem.Challenge.RW_tiehues_k52_whole_cases_found
set_option Elab.async false
set_option linter.all false
set_option maxRecDepth 100000
set_option maxHeartbeats 4000000
set_option synthInstance.maxHeartbeats 0
set_option synthInstance.maxSize 1000000
namespace Cm
open PySem PySem.Spec PyProof.Rows L2

/-! ### named readings -/
def rLenX (K : PySem.W.Frag) : List V → Hp → VK → Prop := fun xs H Q => ∃ p ys, xs = [.ref p] ∧ (SqL K H p ys ∨ SqT K H p ys) ∧ Q (.int ys.length) H
theorem q_len {X : Cx} : CallR X (.builtin "len") (rLenX X.K) := call_len_seq
def rListOf (K : PySem.W.Frag) : List V → Hp → VK → Prop := fun xs H Q => ∃ p ys, xs = [.ref p] ∧ (SqL K H p ys ∨ SqT K H p ys) ∧ ∀ l, H l = none → Q (.ref l) (upd H l (.lst ys))
theorem q_listOf {X : Cx} : CallR X (.type "list") (rListOf X.K) := call_list_of
def rMax2 : List V → Hp → VK → Prop := fun xs H Q => ∃ i j, xs = [.int i, .int j] ∧ Q (.int (if j > i then j else i)) H
theorem q_max2 {X : Cx} (hc : X.calm = true) : CallR X (.builtin "max") rMax2 := call_max2 hc
def rMin2 : List V → Hp → VK → Prop := fun xs H Q => ∃ i j, xs = [.int i, .int j] ∧ Q (.int (if j < i then j else i)) H
theorem q_min2 {X : Cx} (hc : X.calm = true) : CallR X (.builtin "min") rMin2 := call_min2 hc
theorem q_isi {X : Cx} : CallR X (.builtin "isinstance") (rIsi X.K) := call_isi
def rIntOf : List V → Hp → VK → Prop := fun xs H Q => (∃ i, xs = [.int i] ∧ Q (.int i) H) ∨ ∃ k, xs = [.bl k] ∧ Q (.int (if k then 1 else 0)) H
theorem q_intB {X : Cx} : CallR X (.type "int") rIntOf := call_int1
theorem q_intI {X : Cx} : CallR X (.type "int") rIntOf := call_int1

/-! ### operators by names -/
def xAdd : R2 := rI0 fun i j => .int (i + j)
def xSub : R2 := rI0 fun i j => .int (i - j)
def xMul : R2 := rI CMul fun i j => .int (i * j)
def xMulW : R2 := rI CMulW fun i j => .int (i * j)
def xDiv : R2 := rI CDiv fun i j => .int (i / j)
def xDivW : R2 := rI CDivW fun i j => .int (i / j)
def xMod : R2 := rI (fun _ j => 0 < j) fun i j => .int (i % j)
def xPow : R2 := rI CPow fun i j => .int (i ^ j.toNat)
def xLt : R2 := rI0 fun i j => .bl (decide (i < j))
def xLe : R2 := rI0 fun i j => .bl (decide (i ≤ j))
def xGt : R2 := rI0 fun i j => .bl (decide (j < i))
def xGe : R2 := rI0 fun i j => .bl (decide (j ≤ i))
def xNeg : V → Hp → VK → Prop := rU fun i => .int (-i)
def xIsN : R2 := fun x y H Q => y = .non ∧ Q (.bl (decide (x = .non))) H
def xNotN : R2 := fun x y H Q => y = .non ∧ Q (.bl (!decide (x = .non))) H
def xTru (K : PySem.W.Frag) (ta : TE) : TT := fun σ H Q => ta σ H fun x H' => ∃ k, TruV K x H' k ∧ Q k H'

/-! ### xs[i] += e -/
def rGetL (K : PySem.W.Frag) : V → V → Hp → VK → Prop := fun x y H Q => ∃ p xs i v, x = .ref p ∧ y = .int i ∧ SqL K H p xs ∧ 0 ≤ i ∧ atI xs i = some v ∧ Q v H
theorem get_list {X : Cx} : PGet X (rGetL X.K) := by
  intro pins s σ H x y v u Q I rx ry h
  obtain ⟨p, xs, i, z, rfl, rfl, hq, h0, he, q⟩ := h
  cases rx
  obtain ⟨t, rfl⟩ := ry
  obtain ⟨its, r, pl, hz⟩ := I.list hq
  obtain ⟨j, h1, h2, h3, h4, h5⟩ := atI_get he
  obtain ⟨w, ew, rw'⟩ := r.get h2
  have hl := r.length
  have hn := line63
  have fin : EP X pins σ Q w s := ⟨z, H, I, rw', q⟩
  have hj : i.toNat = j := by
    rw [seqIndex_of h0 h5] at h1
    exact Option.some.inj h1
  exact wpAny_getItem_list pl.isList h0 (by omega) (by rw [hj]; simpa using ew) fin
def xAugL (K : PySem.W.Frag) (to ti te : TE) : TS := tAugS to ti te (rGetL K) (ipI fun i j => i + j) rSetL
theorem q_augL {X : Cx} {o i e : Expr} {to ti te : TE} {tpos pos : Pos} (ho : PE X o to) (hi : PE X i ti) (he : PE X e te)
    (ha : ∀ ov iv new, augStore i ov iv new = (do holding [new, ov, iv] (setItem ov iv new); release [new, ov, iv] []; pure .next) := by intros; rfl) : PS X (.AugAssign (.Subscript o i tpos) .Add e pos) (xAugL X.K to ti te) :=
  ps_augS ho hi get_list he ip_add set_list ha

/-! ### constants of the module -/
def g_tok (mg : Str → Option Value) (x : Str) : Tok := match mg x with
  | some (.int _ t) => t
  | _ => default
theorem tok_mk {mg : Str → Option Value} {x : Str} {n : Int} {t : Tok} (h : mg x = some (.int n t)) : mg x = some (.int n (g_tok mg x)) := by
  unfold g_tok
  rw [h]

/-! ### heaps -/
theorem same_new {H : Hp} {p : Addr} {o : HO} (h : H p = none) : Same H (upd H p o) := fun b x e => by
  rw [upd_ne (ne_of_none e h)]
  exact e
theorem same_mut {H H' : Hp} {p : Addr} {o : HO} (e : Same H H') (h : H p = none) : Same H (upd H' p o) := fun a u ha => by
  rw [upd_ne (ne_of_none ha h)]
  exact e a u ha
theorem same_seqT {K : PySem.W.Frag} {H H' : Hp} {a : Addr} {xs : List V} (e : Same H H') (h : SqT K H a xs) : SqT K H' a xs := by
  rcases h with (h | ⟨o, h⟩) | h
  · exact .inl (.inl (e _ _ h))
  · exact .inl (.inr ⟨o, e _ _ h⟩)
  · exact .inr h
theorem sl {K : PySem.W.Frag} {H : Hp} {a : Addr} {xs : List V} (h : H a = some (.lst xs)) : SqL K H a xs := .inl (.inl h)
theorem stp {K : PySem.W.Frag} {H : Hp} {a : Addr} {xs : List V} (h : H a = some (.tup xs)) : SqT K H a xs := .inl (.inl h)
theorem sz {n : Nat} (h : n ≤ 100000) : n ≤ sizeLine := Nat.le_trans h (by decide)
theorem szl {n : Nat} (h : n < 100000) : n < sizeLine := Nat.lt_of_lt_of_le h (by decide)

/-! ### data -/
mutual
theorem dp_same {K : PySem.W.Frag} {H H' : Hp} (e : Same H H') : ∀ {v : V} {d : PyData}, Dp K H v d → Dp K H' v d
  | _, _, .non => .non
  | _, _, .bl b => .bl b
  | _, _, .int i => .int i
  | _, _, .str x => .str x
  | _, _, .lst s r => .lst (e.seq s) (dpa_same e r)
  | _, _, .tup s r => .tup (same_seqT e s) (dpa_same e r)
theorem dpa_same {K : PySem.W.Frag} {H H' : Hp} (e : Same H H') : ∀ {vs : List V} {ds : List PyData}, DpAll K H vs ds → DpAll K H' vs ds
  | _, _, .nil => .nil
  | _, _, .cons h r => .cons (dp_same e h) (dpa_same e r)
end
section
variable {K : PySem.W.Frag} {H : Hp}
theorem dp_int {v : V} {i : Int} (h : Dp K H v (.int i)) : v = .int i := by cases h; rfl
theorem dp_bool {v : V} {b : Bool} (h : Dp K H v (.bool b)) : v = .bl b := by cases h; rfl
theorem dp_str {v : V} {s : Str} (h : Dp K H v (.str s)) : v = .str s := by cases h; rfl
theorem dp_list {v : V} {ds : List PyData} (h : Dp K H v (.list ds)) : ∃ a xs, v = .ref a ∧ SqL K H a xs ∧ DpAll K H xs ds := by
  cases h with | lst s r => exact ⟨_, _, rfl, s, r⟩
theorem dp_tup {v : V} {ds : List PyData} (h : Dp K H v (.tuple ds)) : ∃ a xs, v = .ref a ∧ SqT K H a xs ∧ DpAll K H xs ds := by
  cases h with | tup s r => exact ⟨_, _, rfl, s, r⟩
theorem dp_tup2 {v : V} {c d : PyData} (h : Dp K H v (.tuple [c, d])) : ∃ a x y, v = .ref a ∧ SqT K H a [x, y] ∧ Dp K H x c ∧ Dp K H y d := by
  cases h with | tup s r =>
    cases r with | cons h1 r =>
      cases r with | cons h2 r =>
        cases r
        exact ⟨_, _, _, rfl, s, h1, h2⟩
theorem dp_pair {v : V} {a b : Int} (h : Dp K H v (.tuple [.int a, .int b])) : ∃ p, v = .ref p ∧ SqT K H p [.int a, .int b] := by
  obtain ⟨p, x, y, rfl, s, h1, h2⟩ := dp_tup2 h
  rw [dp_int h1, dp_int h2] at s
  exact ⟨p, rfl, s⟩
theorem dpa_ints : ∀ {ns : List Int} {vs : List V}, DpAll K H vs (ns.map PyData.int) → vs = ns.map V.int
  | [], _, h => by cases h; rfl
  | n :: r, _, h => by
    cases h with | cons h1 h2 => rw [dp_int h1, dpa_ints h2]; rfl
theorem dpa_of_ints : ∀ ns : List Int, DpAll K H (ns.map V.int) (ns.map PyData.int)
  | [] => .nil
  | n :: r => .cons (.int n) (dpa_of_ints r)
theorem dpa_len : ∀ {vs : List V} {ds : List PyData}, DpAll K H vs ds → vs.length = ds.length
  | _, _, .nil => rfl
  | _, _, .cons _ r => by simp [dpa_len r]
theorem dpa_get : ∀ {vs : List V} {ds : List PyData} {i : Nat} {v : V}, DpAll K H vs ds → vs[i]? = some v → ∃ d, ds[i]? = some d ∧ Dp K H v d
  | _, _, _, _, .nil, e => by simp at e
  | _, _, 0, _, .cons h _, e => by simp at e; subst e; exact ⟨_, rfl, h⟩
  | _, _, i + 1, _, .cons _ r, e => by
    obtain ⟨d, h1, h2⟩ := dpa_get (i := i) r (by simpa using e)
    exact ⟨d, by simpa using h1, h2⟩
theorem dpa_get2 : ∀ {vs : List V} {ds : List PyData} {i : Nat} {d : PyData}, DpAll K H vs ds → ds[i]? = some d → ∃ v, vs[i]? = some v ∧ Dp K H v d
  | _, _, _, _, .nil, e => by simp at e
  | _, _, 0, _, .cons h _, e => by simp at e; subst e; exact ⟨_, rfl, h⟩
  | _, _, i + 1, _, .cons _ r, e => by
    obtain ⟨d, h1, h2⟩ := dpa_get2 (i := i) r (by simpa using e)
    exact ⟨d, by simpa using h1, h2⟩
theorem dpa_app {vs ws : List V} {ds es : List PyData} : DpAll K H vs ds → DpAll K H ws es → DpAll K H (vs ++ ws) (ds ++ es)
  | .nil, r => r
  | .cons h t, r => .cons h (dpa_app t r)
/-- a list of ints -/
abbrev dInts (ns : List Int) : PyData := .list (ns.map PyData.int)
theorem dp_ints {v : V} {ns : List Int} (h : Dp K H v (dInts ns)) : ∃ a, v = .ref a ∧ SqL K H a (ns.map V.int) := by
  obtain ⟨a, xs, rfl, s, r⟩ := dp_list h
  rw [dpa_ints r] at s
  exact ⟨a, rfl, s⟩
theorem dp_of_ints {a : Addr} {ns : List Int} (h : SqL K H a (ns.map V.int)) : Dp K H (.ref a) (dInts ns) := .lst h (dpa_of_ints ns)
/-- a pair of ints -/
abbrev dPair (p : Int × Int) : PyData := .tuple [.int p.1, .int p.2]
theorem dp_of_pair {a : Addr} {x y : Int} (h : SqT K H a [.int x, .int y]) : Dp K H (.ref a) (dPair (x, y)) := .tup h (.cons (.int x) (.cons (.int y) .nil))
abbrev dPairs (ps : List (Int × Int)) : PyData := .list (ps.map dPair)
end

theorem dpairs_get {K : PySem.W.Frag} {H : Hp} {xs : List V} {ps : List (Int × Int)} {i : Nat} {x : V} (hxs : DpAll K H xs (ps.map dPair)) (hx : xs[i]? = some x) : ∃ p c, ps[i]? = some p ∧ x = .ref c ∧ SqT K H c [.int p.1, .int p.2] := by
  obtain ⟨d, hd, hdx⟩ := dpa_get hxs hx
  rw [List.getElem?_map] at hd
  obtain ⟨p, hp, rfl⟩ := Option.map_eq_some_iff.mp hd
  obtain ⟨c, rfl, hcs⟩ := dp_pair hdx
  exact ⟨p, c, hp, rfl, hcs⟩
/-- data that may be compared: no dicts, at most n deep -/
def Sh (n : Nat) (d : PyData) : Prop := d.canLay0 = true ∧ d.depth ≤ n
theorem Sh.shaped {n : Nat} {d : PyData} (h : Sh n d) (hn : n ≤ 64) : SeqAt.shaped d = true := by
  unfold SeqAt.shaped
  rw [h.1, decide_eq_true (Nat.le_trans h.2 hn)]; rfl
theorem Sh.mono {n m : Nat} {d : PyData} (h : Sh n d) (hn : n ≤ m) : Sh m d := ⟨h.1, Nat.le_trans h.2 hn⟩
theorem sh_int {n : Nat} {i : Int} : Sh n (.int i) := ⟨rfl, Nat.zero_le _⟩
theorem sh_bool {n : Nat} {b : Bool} : Sh n (.bool b) := ⟨rfl, Nat.zero_le _⟩
theorem sh_none {n : Nat} : Sh n .none := ⟨rfl, Nat.zero_le _⟩
theorem sh_all {n : Nat} : ∀ {ds : List PyData}, (∀ d ∈ ds, Sh n d) → PyData.canLayAll0 ds = true ∧ PyData.depthAll ds ≤ n
  | [], _ => ⟨rfl, Nat.zero_le _⟩
  | d :: r, h => by
    obtain ⟨h1, h2⟩ := sh_all (ds := r) fun x hx => h x (List.mem_cons_of_mem _ hx)
    obtain ⟨h3, h4⟩ := h d List.mem_cons_self
    refine ⟨?_, ?_⟩
    · show (PyData.canLay0 d && PyData.canLayAll0 r) = true
      rw [h3, h1]; rfl
    · show max d.depth (PyData.depthAll r) ≤ n
      omega
theorem sh_list {n : Nat} {ds : List PyData} (h : ∀ d ∈ ds, Sh n d) : Sh (n + 1) (.list ds) := by
  obtain ⟨h1, h2⟩ := sh_all h
  exact ⟨h1, by show PyData.depthAll ds + 1 ≤ n + 1; omega⟩
theorem sh_tup {n : Nat} {ds : List PyData} (h : ∀ d ∈ ds, Sh n d) : Sh (n + 1) (.tuple ds) := by
  obtain ⟨h1, h2⟩ := sh_all h
  exact ⟨h1, by show PyData.depthAll ds + 1 ≤ n + 1; omega⟩
theorem sh_ints {n : Nat} (ns : List Int) : Sh (n + 1) (dInts ns) := sh_list fun d hd => by
  obtain ⟨i, _, rfl⟩ := List.mem_map.mp hd
  exact sh_int
theorem sh_pair {n : Nat} (p : Int × Int) : Sh (n + 1) (dPair p) := sh_tup fun d hd => by
  rcases List.mem_cons.mp hd with rfl | hd
  · exact sh_int
  · rcases List.mem_cons.mp hd with rfl | hd
    · exact sh_int
    · cases hd
theorem sh_pairs {n : Nat} (ps : List (Int × Int)) : Sh (n + 2) (dPairs ps) := sh_list fun d hd => by
  obtain ⟨p, _, rfl⟩ := List.mem_map.mp hd
  exact sh_pair p
theorem sh_two {n : Nat} {c d : PyData} (h1 : Sh n c) (h2 : Sh n d) : Sh (n + 1) (.tuple [c, d]) := sh_tup fun x hx => by
  rcases List.mem_cons.mp hx with rfl | hx
  · exact h1
  · rcases List.mem_cons.mp hx with rfl | hx
    · exact h2
    · cases hx
theorem Sh.refl {n : Nat} {d : PyData} (h : Sh n d) : PyData.eqv d d = true := SeqAt.eqv_refl d h.1
theorem ff_iff {P : Prop} (h : ¬ P) : false = true ↔ P := ⟨fun z => (nomatch z), fun z => (h z).elim⟩
theorem tt_iff {P : Prop} (h : P) : true = true ↔ P := ⟨fun _ => h, fun _ => rfl⟩

theorem ixN_of {n : Nat} {i : Int} (h0 : 0 ≤ i) (h1 : i < n) : ixN n i = some i.toNat := by unfold ixN; rw [if_pos h0, if_pos h1]
theorem map_erase (ns : List Int) (i : Nat) : (ns.map V.int).eraseIdx i = (ns.eraseIdx i).map V.int := by
  induction ns generalizing i with
  | nil => rfl
  | cons x r ih => cases i with
    | zero => rfl
    | succ i => show V.int x :: (r.map V.int).eraseIdx i = _; rw [ih]; rfl
theorem erase_perm {α : Type} (l : List α) (i : Nat) (h : i < l.length) : (l[i] :: l.eraseIdx i).Perm l := by
  induction l generalizing i with
  | nil => exact absurd h (by simp)
  | cons x r ih => cases i with
    | zero => exact List.Perm.refl _
    | succ i =>
      have h' : i < r.length := by simpa using h
      show (r[i] :: x :: r.eraseIdx i).Perm (x :: r)
      exact (List.Perm.swap _ _ _).trans ((ih i h').cons x)
theorem getD_memI {ns : List Int} {i : Int} (h0 : 0 ≤ i) (h1 : i < ns.length) : ns.getD i.toNat 0 ∈ ns := by
  have h : i.toNat < ns.length := by omega
  rw [List.getD_eq_getElem?_getD, List.getElem?_eq_getElem h]
  exact List.getElem_mem h
theorem not_in2 {p a b : Addr} (h1 : p ≠ a) (h2 : p ≠ b) : p ∉ [a, b] := by
  intro z
  rcases List.mem_cons.mp z with z | z
  · exact h1 z
  · rcases List.mem_cons.mp z with z | z
    · exact h2 z
    · cases z

/-! ### readings, step by step -/
section
variable {K : PySem.W.Frag} {σ : L2.St} {H : Hp} {D : Ends} {Q : VK} {ta tb te : TE} {t u : TT} {s1 s2 : TS} {QT : Bool → Hp → Prop} {QA : List V → Hp → Prop} {tr : TA} {QS : L2.St → Hp → Prop}
theorem k_seq {nx : L2.St → Hp → Prop} {rt : VK} {bk ct : L2.St → Hp → Prop} (h : s1 ⟨s2 ⟨nx, rt, bk, ct⟩, rt, bk, ct⟩ σ H) : tSeq s1 s2 ⟨nx, rt, bk, ct⟩ σ H := h
theorem k_nx {nx : L2.St → Hp → Prop} {rt : VK} {bk ct : L2.St → Hp → Prop} (h : nx σ H) : Ends.nx ⟨nx, rt, bk, ct⟩ σ H := h
theorem k_next {nx : L2.St → Hp → Prop} {rt : VK} {bk ct : L2.St → Hp → Prop} (h : nx σ H) : tNext ⟨nx, rt, bk, ct⟩ σ H := h
theorem k_cont {nx : L2.St → Hp → Prop} {rt : VK} {bk ct : L2.St → Hp → Prop} (h : ct σ H) : tCont ⟨nx, rt, bk, ct⟩ σ H := h
theorem k_brk {nx : L2.St → Hp → Prop} {rt : VK} {bk ct : L2.St → Hp → Prop} (h : bk σ H) : tBreak ⟨nx, rt, bk, ct⟩ σ H := h
theorem k_set {nx : L2.St → Hp → Prop} {rt : VK} {bk ct : L2.St → Hp → Prop} {i : Nat} (h : te σ H fun x H1 => nx (σ.set i (some x)) H1) : tAsg te (gName i) ⟨nx, rt, bk, ct⟩ σ H := h
theorem k_asg {nx : L2.St → Hp → Prop} {rt : VK} {bk ct : L2.St → Hp → Prop} {g : TG} (h : te σ H fun x H1 => g x σ H1 nx) : tAsg te g ⟨nx, rt, bk, ct⟩ σ H := h
theorem k_drop {nx : L2.St → Hp → Prop} {rt : VK} {bk ct : L2.St → Hp → Prop} (h : te σ H fun _ H1 => nx σ H1) : tDrop te ⟨nx, rt, bk, ct⟩ σ H := h
theorem k_ret {nx : L2.St → Hp → Prop} {rt : VK} {bk ct : L2.St → Hp → Prop} (h : te σ H rt) : tRet te ⟨nx, rt, bk, ct⟩ σ H := h
theorem k_retN {nx : L2.St → Hp → Prop} {rt : VK} {bk ct : L2.St → Hp → Prop} (h : rt .non H) : tRetN ⟨nx, rt, bk, ct⟩ σ H := h
theorem k_aug {nx : L2.St → Hp → Prop} {rt : VK} {bk ct : L2.St → Hp → Prop} {i : Nat} {f : Int → Int → Int} {a : Int} (e : σ[i]? = some (some (.int a))) (h : te σ H fun y H1 => ipI f (.int a) y H1 fun z H2 => nx (σ.set i (some z)) H2) : tAug i te (ipI f) ⟨nx, rt, bk, ct⟩ σ H := ⟨_, e, h⟩
theorem k_augL {nx : L2.St → Hp → Prop} {rt : VK} {bk ct : L2.St → Hp → Prop} {to ti : TE} (h : to σ H fun o H1 => ti σ H1 fun i H2 => rGetL K o i H2 fun x H3 => te σ H3 fun y H4 => ipI (fun i j => i + j) x y H4 fun z H5 => rSetL o i z H5 fun H6 => nx σ H6) : xAugL K to ti te ⟨nx, rt, bk, ct⟩ σ H := h
theorem k_ipI {f : Int → Int → Int} {a b : Int} (h : Q (.int (f a b)) H) : ipI f (.int a) (.int b) H Q := ⟨a, b, rfl, rfl, h⟩
theorem k_if (h : t σ H fun b H1 => if b = true then s1 D σ H1 else s2 D σ H1) : tIfS t s1 s2 D σ H := h
theorem k_var {i : Nat} {v : V} (e : σ[i]? = some (some v)) (h : Q v H) : tVar i σ H Q := ⟨v, e, h⟩
theorem k_c {v : V} (h : Q v H) : tC v σ H Q := h
theorem k_op {r : R2} (h : ta σ H fun x H1 => tb σ H1 fun y H2 => r x y H2 Q) : tOp r ta tb σ H Q := h
theorem k_un {r : V → Hp → VK → Prop} (h : ta σ H fun x H1 => r x H1 Q) : tUn r ta σ H Q := h
theorem k_I0 {g : Int → Int → V} {i j : Int} (h : Q (g i j) H) : rI0 g (.int i) (.int j) H Q := ⟨i, j, rfl, rfl, h⟩
theorem k_I {C : Int → Int → Prop} {g : Int → Int → V} {i j : Int} (hc : C i j) (h : Q (g i j) H) : rI C g (.int i) (.int j) H Q := ⟨i, j, rfl, rfl, hc, h⟩
theorem k_add {i j : Int} (h : Q (.int (i + j)) H) : xAdd (.int i) (.int j) H Q := ⟨i, j, rfl, rfl, h⟩
theorem k_sub {i j : Int} (h : Q (.int (i - j)) H) : xSub (.int i) (.int j) H Q := ⟨i, j, rfl, rfl, h⟩
theorem k_mul {i j : Int} (hc : CMul i j) (h : Q (.int (i * j)) H) : xMul (.int i) (.int j) H Q := ⟨i, j, rfl, rfl, hc, h⟩
theorem k_mulW {i j : Int} (hc : CMulW i j) (h : Q (.int (i * j)) H) : xMulW (.int i) (.int j) H Q := ⟨i, j, rfl, rfl, hc, h⟩
theorem k_div {i j : Int} (hc : CDiv i j) (h : Q (.int (i / j)) H) : xDiv (.int i) (.int j) H Q := ⟨i, j, rfl, rfl, hc, h⟩
theorem k_divW {i j : Int} (hc : CDivW i j) (h : Q (.int (i / j)) H) : xDivW (.int i) (.int j) H Q := ⟨i, j, rfl, rfl, hc, h⟩
theorem k_mod {i j : Int} (hc : 0 < j) (h : Q (.int (i % j)) H) : xMod (.int i) (.int j) H Q := ⟨i, j, rfl, rfl, hc, h⟩
theorem k_pow {i j : Int} (hc : CPow i j) (h : Q (.int (i ^ j.toNat)) H) : xPow (.int i) (.int j) H Q := ⟨i, j, rfl, rfl, hc, h⟩
theorem k_lt {i j : Int} (h : Q (.bl (decide (i < j))) H) : xLt (.int i) (.int j) H Q := ⟨i, j, rfl, rfl, h⟩
theorem k_le {i j : Int} (h : Q (.bl (decide (i ≤ j))) H) : xLe (.int i) (.int j) H Q := ⟨i, j, rfl, rfl, h⟩
theorem k_gt {i j : Int} (h : Q (.bl (decide (j < i))) H) : xGt (.int i) (.int j) H Q := ⟨i, j, rfl, rfl, h⟩
theorem k_ge {i j : Int} (h : Q (.bl (decide (j ≤ i))) H) : xGe (.int i) (.int j) H Q := ⟨i, j, rfl, rfl, h⟩
theorem k_neg {i : Int} (h : Q (.int (-i)) H) : xNeg (.int i) H Q := ⟨i, rfl, h⟩
theorem k_U {g : Int → V} {i : Int} (h : Q (g i) H) : rU g (.int i) H Q := ⟨i, rfl, h⟩
theorem k_eqI {i j : Int} (h : Q (.bl (decide (i = j))) H) : rEq (.int i) (.int j) H Q := ⟨rfl, by
  have e : decide (V.int i = V.int j) = decide (i = j) := by
    by_cases c : i = j
    · rw [decide_eq_true c, decide_eq_true (by rw [c])]
    · rw [decide_eq_false c, decide_eq_false (fun z => c (V.int.inj z))]
  rw [e]; exact h⟩
theorem k_neI {i j : Int} (h : Q (.bl (!decide (i = j))) H) : rNe (.int i) (.int j) H Q := ⟨rfl, by
  have e : decide (V.int i = V.int j) = decide (i = j) := by
    by_cases c : i = j
    · rw [decide_eq_true c, decide_eq_true (by rw [c])]
    · rw [decide_eq_false c, decide_eq_false (fun z => c (V.int.inj z))]
  rw [e]; exact h⟩
theorem k_test (h : te σ H fun x H1 => ∃ k, x = .bl k ∧ QT k H1) : tTest te σ H QT := h
theorem k_B (h : te σ H fun x H1 => ∃ k, x = .bl k ∧ QT k H1) : tB te σ H QT := h
theorem k_bl {b : Bool} {R : Bool → Prop} (h : R b) : ∃ k, V.bl b = .bl k ∧ R k := ⟨b, rfl, h⟩
theorem k_and (h : t σ H fun c H1 => if c = true then u σ H1 QT else QT false H1) : tAnd t u σ H QT := h
theorem k_or (h : t σ H fun c H1 => if c = true then QT true H1 else u σ H1 QT) : tOr t u σ H QT := h
theorem k_not (h : t σ H fun c H1 => QT (!c) H1) : tNot t σ H QT := h
theorem k_notV (h : ta σ H fun x H1 => ∃ c, x = .bl c ∧ Q (.bl (!c)) H1) : tNotV ta σ H Q := h
theorem k_andV (h : ta σ H fun x H1 => ∃ c, x = .bl c ∧ if c = true then tb σ H1 Q else Q (.bl false) H1) : tAndV ta tb σ H Q := h
theorem k_orV (h : ta σ H fun x H1 => ∃ c, x = .bl c ∧ if c = true then Q (.bl true) H1 else tb σ H1 Q) : tOrV ta tb σ H Q := h
theorem k_cb {r : List V → Hp → VK → Prop} (h : tr σ H fun vs H1 => r vs H1 Q) : tCB r tr σ H Q := h
theorem k_nil (h : QA [] H) : tNil σ H QA := h
theorem k_cons (h : ta σ H fun x H1 => tr σ H1 fun xs H2 => QA (x :: xs) H2) : tCons ta tr σ H QA := h
theorem k_call {sp : Sp} {dvs : List V} {E : XK} (h : tr σ H fun vs H1 => sp (vs ++ dvs) H1 Q E) : tCall sp dvs E tr σ H Q := h
theorem k_len {p : Addr} {ys : List V} (hs : SqL K H p ys) (h : Q (.int ys.length) H) : rLenX K [.ref p] H Q := ⟨p, ys, rfl, .inl hs, h⟩
theorem k_len0 {p : Addr} (hs : H p = some (.lst [])) (h : Q (.int 0) H) : rLenX K [.ref p] H Q := ⟨p, [], rfl, .inl (sl hs), h⟩
theorem k_lenT {p : Addr} {ys : List V} (hs : SqT K H p ys) (h : Q (.int ys.length) H) : rLenX K [.ref p] H Q := ⟨p, ys, rfl, .inr hs, h⟩
theorem k_lenI {p : Addr} {ns : List Int} (hs : SqL K H p (ns.map V.int)) (h : Q (.int ns.length) H) : rLenX K [.ref p] H Q := ⟨p, _, rfl, .inl hs, by rw [List.length_map]; exact h⟩
theorem k_list {p : Addr} {ys : List V} (hs : SqL K H p ys) (h : ∀ l, H l = none → Q (.ref l) (upd H l (.lst ys))) : rListOf K [.ref p] H Q := ⟨p, ys, rfl, .inl hs, h⟩
theorem k_lst (h : tr σ H fun xs H1 => xs.length ≤ sizeLine ∧ ∀ p, H1 p = none → Q (.ref p) (upd H1 p (.lst xs))) : tLst tr σ H Q := h
theorem k_tup (h : tr σ H fun xs H1 => xs.length ≤ sizeLine ∧ ∀ p, H1 p = none → Q (.ref p) (upd H1 p (.tup xs))) : tTup tr σ H Q := h
theorem k_new {xs : List V} {R : Addr → Prop} (hn : xs.length ≤ 100000) (h : ∀ p, H p = none → R p) : xs.length ≤ sizeLine ∧ ∀ p, H p = none → R p := ⟨sz hn, h⟩
theorem k_gtup {n : Nat} {g : TGs} {a : Addr} {xs : List V} (hs : SqT K H a xs) (hn : xs.length = n) (h : g xs σ H QS) : gTup K n g (.ref a) σ H QS := ⟨a, xs, rfl, hs, hn, h⟩
theorem k_gunl {n : Nat} {g : TGs} {a : Addr} {xs : List V} (hs : SqL K H a xs) (hn : xs.length = n) (h : g xs σ H QS) : gUnl K n g (.ref a) σ H QS := ⟨a, xs, rfl, hs, hn, h⟩
theorem k_gcons {g : TG} {gs : TGs} {v : V} {r : List V} (h : g v σ H fun σ' H' => gs r σ' H' QS) : gCons g gs (v :: r) σ H QS := ⟨v, r, rfl, h⟩
theorem k_gnil (h : QS σ H) : gNil [] σ H QS := ⟨rfl, h⟩
theorem k_gname {i : Nat} {v : V} (h : QS (σ.set i (some v)) H) : gName i v σ H QS := h
theorem k_gsub {to ti : TE} {ts : TSet} {v : V} (h : to σ H fun o H1 => ti σ H1 fun i H2 => ts o i v H2 fun H3 => QS σ H3) : gSub to ti ts v σ H QS := h
theorem k_setL {p : Addr} {xs : List V} {k : Int} {j : Nat} {v : V} {QH : Hp → Prop} (hp : H p = some (.lst xs)) (hj : ixN xs.length k = some j) (h : QH (upd H p (.lst (xs.set j v)))) : rSetL (.ref p) (.int k) v H QH := ⟨p, xs, k, j, rfl, rfl, hp, hj, h⟩
theorem k_ixL {p : Addr} {xs : List V} {i : Int} {v : V} (hs : SqL K H p xs) (ha : atI xs i = some v) (h : Q v H) : rIxL K (.ref p) (.int i) H Q := ⟨p, xs, i, v, rfl, rfl, hs, ha, h⟩
theorem k_ixT {p : Addr} {xs : List V} {i : Int} {v : V} (hs : SqT K H p xs) (ha : atI xs i = some v) (h : Q v H) : rIxT K (.ref p) (.int i) H Q := ⟨p, xs, i, v, rfl, rfl, hs, ha, h⟩
theorem k_min {p : Addr} {ns : List Int} (hs : SqL K H p (ns.map V.int)) (h0 : 0 < ns.length) (h : ∀ m, m ∈ ns → (∀ y, y ∈ ns → m ≤ y) → Q (.int m) H) : rMin K [.ref p] H Q := ⟨p, ns, rfl, hs, h0, h⟩
theorem k_max {p : Addr} {ns : List Int} (hs : SqL K H p (ns.map V.int)) (h0 : 0 < ns.length) (h : ∀ m, m ∈ ns → (∀ y, y ∈ ns → y ≤ m) → Q (.int m) H) : rMax K [.ref p] H Q := ⟨p, ns, rfl, hs, h0, h⟩
theorem k_popI {p : Addr} {ns : List Int} {i : Int} (hp : H p = some (.lst (ns.map V.int))) (h0 : 0 ≤ i) (h1 : i < ns.length) (h2 : i < 1000000) (h : Q (.int (ns.getD i.toNat 0)) (upd H p (.lst ((ns.eraseIdx i.toNat).map V.int)))) : rPopAt (.ref p) [.int i] H Q := by
  refine ⟨p, _, i, i.toNat, .int (ns.getD i.toNat 0), rfl, rfl, hp, by omega, by omega, ?_, ?_, ?_⟩
  · exact (ixN_seq (ixN_of h0 (by rw [List.length_map]; exact h1))).1
  · have hh : i.toNat < ns.length := by omega
    rw [List.getElem?_map, List.getElem?_eq_getElem hh]
    simp [List.getD_eq_getElem?_getD, List.getElem?_eq_getElem hh]
  · have e : (ns.map V.int).eraseIdx i.toNat = (ns.eraseIdx i.toNat).map V.int := map_erase ns _
    rw [e]; exact h
theorem k_sortedI {a : Addr} {ns : List Int} (hs : SqL K H a (ns.map V.int)) (h : ∀ (ns' : List Int) (p : Addr), ns'.Perm ns → ns'.Pairwise (· ≤ ·) → H p = none → Q (.ref p) (upd H p (.lst (ns'.map V.int)))) : rSortedI K [.ref a] H Q := ⟨a, ns, rfl, hs, h⟩
theorem k_max2 {i j : Int} (h : Q (.int (if j > i then j else i)) H) : rMax2 [.int i, .int j] H Q := ⟨i, j, rfl, h⟩
theorem k_min2 {i j : Int} (h : Q (.int (if j < i then j else i)) H) : rMin2 [.int i, .int j] H Q := ⟨i, j, rfl, h⟩
theorem k_bm {T : String} {r : V → List V → Hp → VK → Prop} (h : ta σ H fun x H1 => tyV K T x H1 ∧ tr σ H1 fun xs H2 => r x xs H2 Q) : tBM K T r ta tr σ H Q := h
theorem k_bm0 {T : String} {r : V → List V → Hp → VK → Prop} (h : ta σ H fun x H1 => tyV K T x H1 ∧ r x [] H1 Q) : tBM0 K T r ta σ H Q := h
theorem k_cat {p q : Addr} {xs ys : List V} (hp : H p = some (.lst xs)) (hq : H q = some (.lst ys)) (hz : xs.length + ys.length ≤ 100000) (h : ∀ l, H l = none → Q (.ref l) (upd H l (.lst (xs ++ ys)))) : rCat (.ref p) (.ref q) H Q := ⟨p, q, xs, ys, rfl, rfl, hp, hq, sz hz, h⟩
theorem k_tyL {p : Addr} {xs : List V} {R : Prop} (hp : SqL K H p xs) (h : R) : tyV K "list" (.ref p) H ∧ R := ⟨.inl ⟨rfl, _, hp⟩, h⟩
theorem k_append {p : Addr} {xs : List V} {y : V} (hp : H p = some (.lst xs)) (hn : xs.length < 100000) (h : Q .non (upd H p (.lst (xs ++ [y])))) : rAppend (.ref p) [y] H Q := ⟨p, xs, y, rfl, rfl, hp, szl hn, h⟩
theorem k_itT {b : Bool} {A B : Prop} (e : b = true) (h : A) : if b = true then A else B := by rw [if_pos e]; exact h
theorem k_itF {b : Bool} {A B : Prop} (e : b = false) (h : B) : if b = true then A else B := by rw [e]; exact h
theorem iteNT {A B : Prop} (h : B) : if (!true) = true then A else B := iteF h
theorem iteNF {A B : Prop} (h : A) : if (!false) = true then A else B := iteT h
theorem k_itDT {c A B : Prop} [Decidable c] (e : c) (h : A) : if decide c = true then A else B := by rw [if_pos (decide_eq_true e)]; exact h
theorem k_itDF {c A B : Prop} [Decidable c] (e : ¬ c) (h : B) : if decide c = true then A else B := by rw [decide_eq_false e]; exact h
theorem k_itNT {c A B : Prop} [Decidable c] (e : ¬ c) (h : A) : if (!decide c) = true then A else B := by rw [decide_eq_false e]; exact h
theorem k_itNF {c A B : Prop} [Decidable c] (e : c) (h : B) : if (!decide c) = true then A else B := by rw [decide_eq_true e]; exact h
theorem k_for {nx : L2.St → Hp → Prop} {rt : VK} {bk ct : L2.St → Hp → Prop} {wi : TI} {g : TG} {tb : TS} (h : wi σ H fun J H1 => ∃ W : Nat → Nat → L2.St → Hp → Prop, (∃ m, W 0 m σ H1) ∧ ∀ i m σ H, W i m σ H →
  (J.stop i H ∧ nx σ H) ∨ (J.go i H ∧ ∃ N : L2.St → Hp → Prop, (∀ σ' H', N σ' H' → ∃ m', m' < m ∧ W (i + 1) m' σ' H') ∧ ∀ x H', J.yld i H x H' → g x σ H' fun σ2 H2 => tb ⟨N, rt, nx, N⟩ σ2 H2)) : tFor wi g tb ⟨nx, rt, bk, ct⟩ σ H := h
theorem forL {nx : L2.St → Hp → Prop} {rt : VK} {b : Addr} {xs : List V} {g : TG} {tb : TS} (hs0 : SqL K H b xs) (Pv : Nat → L2.St → Hp → Prop) (h0 : Pv 0 σ H) (hl : ∀ i σ H, i ≤ xs.length → Pv i σ H → SqL K H b xs)
    (hs : ∀ (i : Nat) x σ H, xs[i]? = some x → Pv i σ H → g x σ H fun σ2 H2 => tb ⟨Pv (i + 1), rt, nx, Pv (i + 1)⟩ σ2 H2) (hd : ∀ σ H, Pv xs.length σ H → nx σ H) :
    ∃ a, V.ref b = .ref a ∧ (∃ xs, SqL K H a xs) ∧ ∃ W : Nat → Nat → L2.St → Hp → Prop, (∃ m, W 0 m σ H) ∧ ∀ i m σ H, W i m σ H →
      ((Itl K a).stop i H ∧ nx σ H) ∨ ((Itl K a).go i H ∧ ∃ N : L2.St → Hp → Prop, (∀ σ' H', N σ' H' → ∃ m', m' < m ∧ W (i + 1) m' σ' H') ∧ ∀ x H', (Itl K a).yld i H x H' → g x σ H' fun σ2 H2 => tb ⟨N, rt, nx, N⟩ σ2 H2) :=
  ⟨b, rfl, ⟨xs, hs0⟩, for_list (D := ⟨nx, rt, fun _ _ => False, fun _ _ => False⟩) Pv h0 hl hs hd⟩
theorem forR {nx : L2.St → Hp → Prop} {rt : VK} {lo : Int} {n : Nat} {g : TG} {tb : TS} (Pv : Nat → L2.St → Hp → Prop) (h0 : Pv 0 σ H)
    (hs : ∀ (i : Nat) σ H, i < n → Pv i σ H → g (.int (lo + i)) σ H fun σ2 H2 => tb ⟨Pv (i + 1), rt, nx, Pv (i + 1)⟩ σ2 H2) (hd : ∀ σ H, Pv n σ H → nx σ H) :
    ∃ W : Nat → Nat → L2.St → Hp → Prop, (∃ m, W 0 m σ H) ∧ ∀ i m σ H, W i m σ H →
      ((Itr lo n).stop i H ∧ nx σ H) ∨ ((Itr lo n).go i H ∧ ∃ N : L2.St → Hp → Prop, (∀ σ' H', N σ' H' → ∃ m', m' < m ∧ W (i + 1) m' σ' H') ∧ ∀ x H', (Itr lo n).yld i H x H' → g x σ H' fun σ2 H2 => tb ⟨N, rt, nx, N⟩ σ2 H2) :=
  for_range (D := ⟨nx, rt, fun _ _ => False, fun _ _ => False⟩) Pv h0 hs hd
theorem k_while {nx : L2.St → Hp → Prop} {rt : VK} {bk ct : L2.St → Hp → Prop} {c : TT} {tb : TS} (h : ∃ W : Nat → L2.St → Hp → Prop, (∃ m, W m σ H) ∧ ∀ m σ H, W m σ H →
  c σ H fun b H1 => if b = true then ∃ N : L2.St → Hp → Prop, (∀ σ' H', N σ' H' → ∃ m', m' < m ∧ W m' σ' H') ∧ tb ⟨N, rt, nx, N⟩ σ H1 else nx σ H1) : tWhile c tb ⟨nx, rt, bk, ct⟩ σ H := h
theorem whileW {nx : L2.St → Hp → Prop} {rt : VK} {bk ct : L2.St → Hp → Prop} {c : TT} {tb : TS} (W : Nat → L2.St → Hp → Prop) {m0 : Nat} (h0 : W m0 σ H)
    (hs : ∀ m σ H, W m σ H → c σ H fun b H1 => if b = true then tb ⟨fun σ' H' => ∃ m', m' < m ∧ W m' σ' H', rt, nx, fun σ' H' => ∃ m', m' < m ∧ W m' σ' H'⟩ σ H1 else nx σ H1)
    (mono : ∀ σ H (Q Q' : Bool → Hp → Prop), (∀ b H1, Q b H1 → Q' b H1) → c σ H Q → c σ H Q') : tWhile c tb ⟨nx, rt, bk, ct⟩ σ H := by
  refine ⟨W, ⟨m0, h0⟩, fun m σ H w => mono σ H _ _ (fun b H1 q => ?_) (hs m σ H w)⟩
  cases b with
  | true => exact ⟨_, fun σ' H' h => h, q⟩
  | false => exact q
theorem k_iList {R : It → Hp → Prop} (h : te σ H fun x H1 => ∃ a, x = .ref a ∧ (∃ xs, SqL K H1 a xs) ∧ R (Itl K a) H1) : iList K te σ H R := h
theorem k_iTup {R : It → Hp → Prop} (h : te σ H fun x H1 => ∃ a, x = .ref a ∧ (∃ xs, SqT K H1 a xs) ∧ R (Itt K a) H1) : iTup K te σ H R := h
theorem k_iZip {R : It → Hp → Prop} (h : tr σ H fun vs H1 => ∃ a b xs ys, vs = [.ref a, .ref b] ∧ SqL K H1 a xs ∧ SqL K H1 b ys ∧ R (Itz K a b) H1) : iZip K tr σ H R := h
theorem k_iEnum {R : It → Hp → Prop} (h : tr σ H fun vs H1 => ∃ a xs, vs = [.ref a] ∧ SqL K H1 a xs ∧ R (Ite K a) H1) : iEnum K tr σ H R := h
theorem k_iRng1 {R : It → Hp → Prop} (h : tr σ H fun vs H1 => ∃ j : Int, vs = [.int j] ∧ -(2 ^ 62) ≤ j ∧ j < 2 ^ 62 ∧ R (Itr 0 j.toNat) H1) : iRng1 tr σ H R := h
theorem k_iRng2 {R : It → Hp → Prop} (h : tr σ H fun vs H1 => ∃ i j : Int, vs = [.int i, .int j] ∧ (-(2 ^ 62) ≤ i ∧ i < 2 ^ 62 ∧ -(2 ^ 62) ≤ j ∧ j < 2 ^ 62) ∧ R (Itr i (j - i).toNat) H1) : iRng2 tr σ H R := h
theorem k_rj1 {j : Int} {R : Int → Prop} (h1 : -(2 ^ 62) ≤ j) (h2 : j < 2 ^ 62) (h : R j) : ∃ j' : Int, [V.int j] = [.int j'] ∧ -(2 ^ 62) ≤ j' ∧ j' < 2 ^ 62 ∧ R j' := ⟨j, rfl, h1, h2, h⟩
theorem k_rj2 {i j : Int} {R : Int → Int → Prop} (h1 : -(2 ^ 62) ≤ i ∧ i < 2 ^ 62 ∧ -(2 ^ 62) ≤ j ∧ j < 2 ^ 62) (h : R i j) : ∃ i' j' : Int, [V.int i, V.int j] = [.int i', .int j'] ∧ (-(2 ^ 62) ≤ i' ∧ i' < 2 ^ 62 ∧ -(2 ^ 62) ≤ j' ∧ j' < 2 ^ 62) ∧ R i' j' := ⟨i, j, rfl, h1, h⟩
theorem k_it {c A B : Prop} [Decidable c] (h1 : c → A) (h2 : ¬ c → B) : if decide c = true then A else B := by
  by_cases h : c
  · rw [if_pos (decide_eq_true h)]; exact h1 h
  · rw [decide_eq_false h]; exact h2 h
theorem k_itn {c A B : Prop} [Decidable c] (h1 : ¬ c → A) (h2 : c → B) : if (!decide c) = true then A else B := by
  by_cases h : c
  · rw [decide_eq_true h]; exact h2 h
  · rw [decide_eq_false h]; exact h1 h
theorem k_itb {b : Bool} {A B : Prop} (h1 : b = true → A) (h2 : b = false → B) : if b = true then A else B := by
  cases b with
  | true => exact h1 rfl
  | false => exact h2 rfl
theorem k_isi {x : V} {c : String} {tx : String} {b : Bool} (ht : TyX K H x (.type tx)) (hb : kitB tx c = some b) (h : Q (.bl b) H) : rIsi K [x, .ty c] H Q := ⟨x, .ty c, .type tx, .type c, b, rfl, .ty c, ht, kit_ty hb, h⟩

theorem ty_list {p : Addr} {xs : List V} (h : SqL K H p xs) : TyX K H (.ref p) (.type "list") := by
  rcases h with (h | ⟨o, h⟩) | ⟨o, its, n, h, c, _⟩
  · exact .base (.lst h)
  · exact .base (.frz h)
  · exact .kList h c
theorem k_isiL {p : Addr} {xs : List V} (hs : SqL K H p xs) (h : Q (.bl true) H) : rIsi K [.ref p, .ty "list"] H Q := k_isi (ty_list hs) (by decide +kernel) h
theorem k_isiLI {i : Int} (h : Q (.bl false) H) : rIsi K [.int i, .ty "list"] H Q := k_isi (.base (.int i)) (by decide +kernel) h
theorem k_isiI {i : Int} (h : Q (.bl true) H) : rIsi K [.int i, .ty "int"] H Q := k_isi (.base (.int i)) (by decide +kernel) h
theorem k_isiB {i : Int} (h : Q (.bl false) H) : rIsi K [.int i, .ty "bool"] H Q := k_isi (.base (.int i)) (by decide +kernel) h
theorem inV_ints (x : Int) : ∀ ns : List Int, inV (.int x) (ns.map V.int) = decide (x ∈ ns)
  | [] => rfl
  | n :: r => by
    show (eqV (.int n) (.int x) || inV (.int x) (r.map V.int)) = decide (x ∈ n :: r)
    rw [inV_ints x r]
    show ((n == x) || decide (x ∈ r)) = decide (x ∈ n :: r)
    by_cases h : n = x
    · subst h; simp
    · have : (n == x) = false := by simp [h]
      rw [this, Bool.false_or]
      have h' : ¬ x = n := fun e => h e.symm
      simp [h']
theorem flat_ints : ∀ ns : List Int, (ns.map V.int).all flatV = true
  | [] => rfl
  | _ :: r => by show (true && (r.map V.int).all flatV) = true; rw [flat_ints r]; rfl
theorem k_inI {p : Addr} {ns : List Int} {x : Int} (hs : SqL K H p (ns.map V.int)) (h : Q (.bl (decide (x ∈ ns))) H) : rIn K false (.int x) (.ref p) H Q :=
  ⟨p, _, rfl, .inl hs, rfl, flat_ints ns, by rw [if_neg Bool.false_ne_true, inV_ints]; exact h⟩
theorem k_notInI {p : Addr} {ns : List Int} {x : Int} (hs : SqL K H p (ns.map V.int)) (h : Q (.bl (!decide (x ∈ ns))) H) : rIn K true (.int x) (.ref p) H Q :=
  ⟨p, _, rfl, .inl hs, rfl, flat_ints ns, by rw [if_pos rfl, inV_ints]; exact h⟩
theorem k_intB {b : Bool} (h : Q (.int (if b then 1 else 0)) H) : rIntOf [.bl b] H Q := .inr ⟨b, rfl, h⟩
theorem at_int {ns : List Int} {i : Int} (h0 : 0 ≤ i) (h1 : i < ns.length) : atI (ns.map V.int) i = some (.int (ns.getD i.toNat 0)) := by
  obtain ⟨k, rfl⟩ : ∃ k : Nat, i = k := ⟨i.toNat, by omega⟩
  have h : k < ns.length := by omega
  refine atI_nat ?_
  rw [List.getElem?_map]
  simp [List.getElem?_eq_getElem h, List.getD_eq_getElem?_getD]
theorem k_ixI {p : Addr} {ns : List Int} {i : Int} (hs : SqL K H p (ns.map V.int)) (h0 : 0 ≤ i) (h1 : i < ns.length) (h : Q (.int (ns.getD i.toNat 0)) H) : rIxL K (.ref p) (.int i) H Q := k_ixL hs (at_int h0 h1) h
theorem k_eqD {x y : V} {c d : PyData} {n : Nat} (hx : Dp K H x c) (hy : Dp K H y d) (h1 : Sh n c) (h2 : Sh n d) (hn : n ≤ 64) (h : Q (.bl (PyData.eqv c d)) H) : rEqD K x y H Q := ⟨c, d, hx, hy, h1.shaped hn, h2.shaped hn, h⟩
theorem k_neD {x y : V} {c d : PyData} {n : Nat} (hx : Dp K H x c) (hy : Dp K H y d) (h1 : Sh n c) (h2 : Sh n d) (hn : n ≤ 64) (h : Q (.bl (!PyData.eqv c d)) H) : rNeD K x y H Q := ⟨c, d, hx, hy, h1.shaped hn, h2.shaped hn, h⟩
theorem k_neD0 {x y : V} {c : PyData} {n : Nat} (hx : Dp K H x c) (hy : Dp K H y c) (h1 : Sh n c) (hn : n ≤ 64) (h : Q (.bl false) H) : rNeD K x y H Q := k_neD hx hy h1 h1 hn (by rw [h1.refl]; exact h)
theorem k_eqD1 {x y : V} {c : PyData} {n : Nat} (hx : Dp K H x c) (hy : Dp K H y c) (h1 : Sh n c) (hn : n ≤ 64) (h : Q (.bl true) H) : rEqD K x y H Q := k_eqD hx hy h1 h1 hn (by rw [h1.refl]; exact h)
theorem k_getI {p : Addr} {ns : List Int} {i : Int} (hs : SqL K H p (ns.map V.int)) (h0 : 0 ≤ i) (h1 : i < ns.length) (h : Q (.int (ns.getD i.toNat 0)) H) : rGetL K (.ref p) (.int i) H Q := ⟨p, _, i, _, rfl, rfl, hs, h0, at_int h0 h1, h⟩
theorem k_setI {p : Addr} {ns : List Int} {k v : Int} {QH : Hp → Prop} (hp : H p = some (.lst (ns.map V.int))) (h0 : 0 ≤ k) (h1 : k < ns.length) (h : QH (upd H p (.lst ((ns.set k.toNat v).map V.int)))) : rSetL (.ref p) (.int k) (.int v) H QH :=
  ⟨p, _, k, k.toNat, rfl, rfl, hp, ixN_of h0 (by rw [List.length_map]; exact h1), by rw [List.map_set] at h; exact h⟩
theorem k_rep {p : Addr} {xs : List V} {k : Int} (hp : H p = some (.lst xs)) (h0 : 0 ≤ k) (h1 : k < 100000) (h2 : xs.length * k.toNat ≤ 100000) (h : ∀ l, H l = none → Q (.ref l) (upd H l (.lst (List.replicate k.toNat xs).flatten))) : rRep (.ref p) (.int k) H Q := ⟨p, k, xs, rfl, rfl, hp, by omega, by omega, sz h2, h⟩
theorem k_eqB {a b : Bool} (h : Q (.bl (decide (a = b))) H) : rEq (.bl a) (.bl b) H Q := ⟨rfl, by
  have e : decide (V.bl a = V.bl b) = decide (a = b) := by cases a <;> cases b <;> decide
  rw [e]; exact h⟩
theorem k_neB {a b : Bool} (h : Q (.bl (!decide (a = b))) H) : rNe (.bl a) (.bl b) H Q := ⟨rfl, by
  have e : decide (V.bl a = V.bl b) = decide (a = b) := by cases a <;> cases b <;> decide
  rw [e]; exact h⟩
/-- new objects, the heap behind as a letter -/
theorem k_newL {xs : List V} (hn : xs.length ≤ 100000) (h : ∀ p H', H p = none → Same H H' → H' p = some (.lst xs) → Q (.ref p) H') : xs.length ≤ sizeLine ∧ ∀ p, H p = none → Q (.ref p) (upd H p (.lst xs)) :=
  ⟨sz hn, fun p np => h p _ np (same_new np) upd_same⟩
theorem k_newT {xs : List V} (hn : xs.length ≤ 100000) (h : ∀ p H', H p = none → Same H H' → H' p = some (.tup xs) → Q (.ref p) H') : xs.length ≤ sizeLine ∧ ∀ p, H p = none → Q (.ref p) (upd H p (.tup xs)) :=
  ⟨sz hn, fun p np => h p _ np (same_new np) upd_same⟩
theorem k_listN {p : Addr} {ys : List V} (hs : SqL K H p ys) (h : ∀ l H', H l = none → Same H H' → H' l = some (.lst ys) → Q (.ref l) H') : rListOf K [.ref p] H Q := k_list hs fun l nl => h l _ nl (same_new nl) upd_same
theorem k_slL {a : Addr} {xs : List V} {lo hi : Option Int} (hs : SqL K H a xs) (h : ∀ p H', H p = none → Same H H' → H' p = some (.lst (cutV xs lo hi)) → Q (.ref p) H') : rSlL K (.ref a) lo hi H Q := ⟨a, xs, rfl, hs, fun p np => h p _ np (same_new np) upd_same⟩
theorem k_sl {r : V → Option Int → Option Int → Hp → VK → Prop} {tl th : TO} (h : te σ H fun x H1 => tl σ H1 fun l H2 => th σ H2 fun u H3 => r x l u H3 Q) : tSl r te tl th σ H Q := h
theorem k_nopart {QO : Option Int → Hp → Prop} (h : QO none H) : tNoPart σ H QO := h
theorem k_part {QO : Option Int → Hp → Prop} (h : te σ H fun x H1 => ∃ i, x = .int i ∧ QO (some i) H1) : tPart te σ H QO := h
theorem k_int {i : Int} {R : Int → Prop} (h : R i) : ∃ j, V.int i = .int j ∧ R j := ⟨i, rfl, h⟩
theorem rg_ints (a b : Int) : rgV a b = ((List.range (b - a).toNat).map fun i => a + (i : Nat)).map V.int := by
  unfold rgV; rw [List.map_map]; rfl
theorem k_listRg {tg : L2.St → Hp → (Int → Int → Hp → Prop) → Prop} (h : tg σ H fun a b H1 => RgOk a b ∧ ∀ q, H1 q = none → Q (.ref q) (upd H1 q (.lst (rgV a b)))) : tLstRg tg σ H Q := h
theorem k_rg1 {QR : Int → Int → Hp → Prop} (h : ta σ H fun x H1 => ∃ n, x = .int n ∧ QR 0 n H1) : tRg1 ta σ H QR := h
theorem k_rg2 {QR : Int → Int → Hp → Prop} (h : ta σ H fun x H1 => tb σ H1 fun y H2 => ∃ i j, x = .int i ∧ y = .int j ∧ QR i j H2) : tRg2 ta tb σ H QR := h
theorem k_int2 {i j : Int} {R : Int → Int → Prop} (h : R i j) : ∃ i' j', V.int i = .int i' ∧ V.int j = .int j' ∧ R i' j' := ⟨i, j, rfl, rfl, h⟩
theorem k_rgN {a b : Int} (hr : RgOk a b) (h : ∀ p H', H p = none → Same H H' → H' p = some (.lst (rgV a b)) → Q (.ref p) H') : RgOk a b ∧ ∀ q, H q = none → Q (.ref q) (upd H q (.lst (rgV a b))) := ⟨hr, fun q nq => h q _ nq (same_new nq) upd_same⟩
theorem dp_of_int {i j : Int} (e : i = j) : Dp K H (.int i) (.int j) := e ▸ .int i
end
/-! ### heaps with some places out of sight -/
def hid (S : List Addr) (H : Hp) : Hp := fun b => if b ∈ S then none else H b
theorem hid_ne {S : List Addr} {H : Hp} {b : Addr} (h : b ∉ S) : hid S H b = H b := if_neg h
theorem hid_in {S : List Addr} {H : Hp} {b : Addr} (h : b ∈ S) : hid S H b = none := if_pos h
theorem hid_some {S : List Addr} {H : Hp} {b : Addr} {o : HO} (h : hid S H b = some o) : b ∉ S ∧ H b = some o := by
  unfold hid at h
  split at h
  · cases h
  · exact ⟨by assumption, h⟩
theorem hid_same (S : List Addr) (H : Hp) : Same (hid S H) H := fun b o h => (hid_some h).2
theorem hid_mono {S : List Addr} {H H' : Hp} (e : Same H H') : Same (hid S H) (hid S H') := fun b o h => by
  obtain ⟨n, h⟩ := hid_some h
  rw [hid_ne n]
  exact e b o h
theorem hid_sub {S S' : List Addr} {H : Hp} (h : ∀ a ∈ S, a ∈ S') : Same (hid S' H) (hid S H) := fun b o e => by
  obtain ⟨n, e⟩ := hid_some e
  rw [hid_ne fun z => n (h b z)]
  exact e
/-- a change at a hidden place -/
theorem hid_upd {S : List Addr} {H : Hp} {p : Addr} {o : HO} (h : p ∈ S) : hid S (upd H p o) = hid S H := by
  funext b
  unfold hid
  split
  · rfl
  · rename_i n
    rw [upd_ne fun e => n (by rw [e]; exact h)]
theorem same_hid_upd {S : List Addr} {H0 H : Hp} {p : Addr} {o : HO} (e : Same H0 (hid S H)) (h : p ∈ S) : Same H0 (hid S (upd H p o)) := by rw [hid_upd h]; exact e
/-- what the law's data says stays when a fresh object is changed -/
theorem same_hid_mut {S : List Addr} {H0 H : Hp} {p : Addr} {o : HO} (e : Same H0 (hid S H)) (h : H0 p = none) : Same H0 (hid S (upd H p o)) := fun b u hb => by
  have := e b u hb
  obtain ⟨n, q⟩ := hid_some this
  rw [hid_ne n, upd_ne (ne_of_none hb h)]
  exact q
theorem hid_more {S S' : List Addr} {H H' : Hp} (e : Same (hid S H) (hid S H')) (h : ∀ a ∈ S, a ∈ S') : Same (hid S' H) (hid S' H') := fun b o hb => by
  obtain ⟨n, q⟩ := hid_some hb
  have n' : b ∉ S := fun z => n (h b z)
  have := e b o (by rw [hid_ne n']; exact q)
  rw [hid_ne n'] at this
  rw [hid_ne n]
  exact this
theorem same_hid_new {S : List Addr} {H : Hp} {p : Addr} {o : HO} (h : H p = none) : Same (hid S H) (hid S (upd H p o)) := hid_mono (same_new h)

theorem same_of_hid {S : List Addr} {H0 H1 H2 : Hp} (h : Same H0 H1) (f : ∀ a ∈ S, H0 a = none) (e : Same (hid S H1) (hid S H2)) : Same H0 H2 := fun b o hb => by
  have n : b ∉ S := fun z => by rw [f b z] at hb; cases hb
  have := e b o (by rw [hid_ne n]; exact h b o hb)
  rw [hid_ne n] at this
  exact this
theorem free1 {H0 : Hp} {p : Addr} (h : H0 p = none) : ∀ a ∈ [p], H0 a = none := fun a z => by rw [List.mem_singleton.mp z]; exact h
theorem cutTo {ns : List Int} (k : Nat) : cutV (ns.map V.int) none (some (k : Int)) = (ns.take k).map V.int := by
  unfold cutV
  rw [HT.sIx_none, HT.sIx_nat, List.drop_zero, List.length_map, Nat.sub_zero, List.map_take]
  by_cases h : k ≤ ns.length
  · rw [Nat.min_eq_left h]
  · rw [Nat.min_eq_right (by omega), List.take_of_length_le (by simp), List.take_of_length_le (by simp; omega)]
/-! ### the law's purse: a list of the cells and the turn -/
structure Pu (H : Hp) (pu ce : Addr) (n : Nat) (t : Int) : Prop where
  hp : H pu = some (.lst [.ref ce, .int t])
  hc : ∃ cs : List Int, cs.length = n ∧ H ce = some (.lst (cs.map V.int))
  n0 : 0 < n
  n1 : n ≤ 63
  t0 : 0 ≤ t
theorem Pu.ne {H : Hp} {pu ce : Addr} {n : Nat} {t : Int} (h : Pu H pu ce n t) : pu ≠ ce := fun e => by
  obtain ⟨cs, hl, hc⟩ := h.hc
  have hp := h.hp
  rw [e, hc] at hp
  cases cs with
  | nil => injection hp with hp; injection hp with hp; cases hp
  | cons x r => injection hp with hp; injection hp with hp; injection hp with h1 h2; cases h1
theorem Pu.fresh {H : Hp} {pu ce : Addr} {n : Nat} {t : Int} (h : Pu H pu ce n t) {p : Addr} (np : H p = none) : p ∉ [pu, ce] := fun z => by
  obtain ⟨cs, hl, hc⟩ := h.hc
  rcases List.mem_cons.mp z with rfl | z
  · rw [h.hp] at np; cases np
  · rcases List.mem_cons.mp z with rfl | z
    · rw [hc] at np; cases np
    · cases z
theorem Pu.upd {H : Hp} {pu ce : Addr} {n : Nat} {t : Int} (h : Pu H pu ce n t) {p : Addr} {o : HO} (np : p ∉ [pu, ce]) : Pu (upd H p o) pu ce n t := by
  have h1 : pu ≠ p := fun e => np (by rw [e]; exact List.mem_cons_self)
  have h2 : ce ≠ p := fun e => np (by rw [e]; exact List.mem_cons_of_mem _ List.mem_cons_self)
  obtain ⟨cs, hl, hc⟩ := h.hc
  exact ⟨by rw [upd_ne h1]; exact h.hp, ⟨cs, hl, by rw [upd_ne h2]; exact hc⟩, h.n0, h.n1, h.t0⟩
theorem Pu.same {H H' : Hp} {pu ce : Addr} {n : Nat} {t : Int} (h : Pu H pu ce n t) (e : Same H H') : Pu H' pu ce n t := by
  obtain ⟨cs, hl, hc⟩ := h.hc
  exact ⟨e _ _ h.hp, ⟨cs, hl, e _ _ hc⟩, h.n0, h.n1, h.t0⟩
/-- an object that is none of the purse's stays as it is -/
theorem keeps {S : List Addr} {H H' : Hp} (e : Same (hid S H) (hid S H')) {b : Addr} {o : HO} (hb : H b = some o) (n : b ∉ S) : H' b = some o := by
  have := e b o (by rw [hid_ne n]; exact hb)
  rw [hid_ne n] at this
  exact this
theorem fresh_hid {S : List Addr} {H H' : Hp} (e : Same (hid S H) (hid S H')) {b : Addr} (hb : H' b = none) (n : b ∉ S) : H b = none := by
  have := e.free (l := b) (by rw [hid_ne n]; exact hb)
  rw [hid_ne n] at this
  exact this
theorem getD_set_len {α : Type} (l : List α) (i : Nat) (v : α) : (l.set i v).length = l.length := List.length_set
theorem map_set_int (cs : List Int) (i : Nat) (v : Int) : (cs.map V.int).set i (.int v) = (cs.set i v).map V.int := by rw [List.map_set]

/-! ### the law's other purse: [a number, a mark, how many were drawn] -/
structure Le (H : Hp) (pu : Addr) (k : Int) : Prop where
  hp : ∃ x f : Int, H pu = some (.lst [.int x, .int f, .int k]) ∧ (f = 0 → 0 ≤ x ∧ x < 2147483629)
  k0 : 0 ≤ k
theorem Le.fresh {H : Hp} {pu : Addr} {k : Int} (h : Le H pu k) {p : Addr} (np : H p = none) : p ∉ [pu] := fun z => by
  obtain ⟨x, f, hp, _⟩ := h.hp
  rw [List.mem_singleton.mp z, hp] at np
  cases np
theorem Le.upd {H : Hp} {pu : Addr} {k : Int} (h : Le H pu k) {p : Addr} {o : HO} (np : p ∉ [pu]) : Le (upd H p o) pu k := by
  obtain ⟨x, f, hp, hx⟩ := h.hp
  exact ⟨⟨x, f, by rw [upd_ne fun e => np (by rw [e]; exact List.mem_singleton.mpr rfl)]; exact hp, hx⟩, h.k0⟩
theorem Le.same {H H' : Hp} {pu : Addr} {k : Int} (h : Le H pu k) (e : Same H H') : Le H' pu k := by
  obtain ⟨x, f, hp, hx⟩ := h.hp
  exact ⟨⟨x, f, e _ _ hp, hx⟩, h.k0⟩

/-! ### comprehensions whose block leaves the heap as it is -/
section
variable {K : PySem.W.Frag} {σ : L2.St} {H1 : Hp} {Q : VK} {g : TG} {tt : TT} {te : TE} {vs : List Nat}
theorem k_lc {wi : TI} (h : wi σ H1 fun J H1 => ∀ D, H1 D = none → ∃ W : Nat → Nat → Hp → Prop, (∃ m, W 0 m (upd H1 D (.lst []))) ∧ ∀ i m H, W i m H →
  (J.stop i H ∧ Q (.ref D) H) ∨ (J.go i H ∧ ∃ Nx : Hp → Prop, (∀ H', Nx H' → ∃ m', m' < m ∧ W (i + 1) m' H') ∧ ∀ x H', J.yld i H x H' → g x (wipe σ vs) H' fun σ2 H2 => wipe σ2 vs = wipe σ vs ∧ tt σ2 H2 fun b H3 =>
    if b = true then te σ2 H3 fun y H4 => ∃ acc, H4 D = some (.lst acc) ∧ acc.length < sizeLine ∧ Nx (upd H4 D (.lst (acc ++ [y]))) else Nx H3)) : tLc wi g tt te vs σ H1 Q := h
theorem k_wipe {σ' : L2.St} {R : Prop} (e : wipe σ' vs = wipe σ vs) (h : R) : wipe σ' vs = wipe σ vs ∧ R := ⟨e, h⟩
theorem k_yes {QT : Bool → Hp → Prop} (h : QT true H1) : tYes σ H1 QT := h
theorem take_filterMap {α β : Type} {f : α → Option β} {ps : List α} {i : Nat} {p : α} (h : ps[i]? = some p) : (ps.take (i + 1)).filterMap f = (ps.take i).filterMap f ++ (f p).toList := by
  rw [List.take_add_one, h, List.filterMap_append]
  simp [List.filterMap_cons]
  cases f p <;> rfl
/-- over a list of which ps tells the items -/
theorem lc_pure {QD : Addr → Hp → Prop} {α : Type} {a : Addr} {xs : List V} (hs : SqL K H1 a xs) (ps : List α) (hl : xs.length = ps.length) (hz : ps.length ≤ 50000) (f : α → Option V)
    (step : ∀ (i : Nat) x p H', xs[i]? = some x → ps[i]? = some p → Same H1 H' → ∀ (R : V → Hp → Prop) (R0 : Hp → Prop), (∀ y, f p = some y → R y H') → (f p = none → R0 H') →
      g x (wipe σ vs) H' fun σ2 H2 => wipe σ2 vs = wipe σ vs ∧ tt σ2 H2 fun b H3 => if b = true then te σ2 H3 R else R0 H3)
    (h : ∀ D H', H1 D = none → Same H1 H' → H' D = some (.lst (ps.filterMap f)) → QD D H') :
    ∃ a', V.ref a = .ref a' ∧ (∃ xs, SqL K H1 a' xs) ∧ ∀ D, H1 D = none → ∃ W : Nat → Nat → Hp → Prop, (∃ m, W 0 m (upd H1 D (.lst []))) ∧ ∀ i m H, W i m H →
      ((Itl K a').stop i H ∧ QD D H) ∨ ((Itl K a').go i H ∧ ∃ Nx : Hp → Prop, (∀ H', Nx H' → ∃ m', m' < m ∧ W (i + 1) m' H') ∧ ∀ x H', (Itl K a').yld i H x H' → g x (wipe σ vs) H' fun σ2 H2 => wipe σ2 vs = wipe σ vs ∧ tt σ2 H2 fun b H3 =>
        if b = true then te σ2 H3 fun y H4 => ∃ acc, H4 D = some (.lst acc) ∧ acc.length < sizeLine ∧ Nx (upd H4 D (.lst (acc ++ [y]))) else Nx H3) := by
  refine ⟨a, rfl, ⟨xs, hs⟩, fun D nD => lc_list (xs := xs) (fun i H => Same H1 H ∧ H D = some (.lst ((ps.take i).filterMap f))) ⟨same_new nD, by rw [upd_same]; simp⟩ (fun i H _ e => e.1.seq hs) ?_ ?_⟩
  · rintro i x H hx ⟨sm, hD⟩
    have hi : i < xs.length := (List.getElem?_eq_some_iff.mp hx).1
    obtain ⟨p, hp⟩ : ∃ p, ps[i]? = some p := ⟨ps[i]'(by omega), List.getElem?_eq_getElem (by omega)⟩
    have tk := take_filterMap (f := f) hp
    refine step i x p H hx hp sm _ _ (fun y hy => ⟨_, hD, szl ?_, same_mut sm nD, ?_⟩) (fun hn => ⟨sm, ?_⟩)
    · have := List.length_filterMap_le f (ps.take i)
      rw [List.length_take] at this
      omega
    · rw [upd_same, tk, hy]; rfl
    · rw [tk, hn, hD]; simp
  · rintro H ⟨sm, hD⟩
    rw [hl, List.take_length] at hD
    exact h D H nD sm hD
/-- the same where a turn may make new objects -/
theorem lc_grow {QD : Addr → Hp → Prop} {α : Type} {a : Addr} {xs : List V} (hs : SqL K H1 a xs) (ps : List α) (hl : xs.length = ps.length) (hz : ps.length ≤ 50000) (f : α → Option V)
    (step : ∀ (i : Nat) x p H', xs[i]? = some x → ps[i]? = some p → Same H1 H' → ∀ (R : V → Hp → Prop) (R0 : Hp → Prop), (∀ y H'', f p = some y → Same H' H'' → R y H'') → (∀ H'', f p = none → Same H' H'' → R0 H'') →
      g x (wipe σ vs) H' fun σ2 H2 => wipe σ2 vs = wipe σ vs ∧ tt σ2 H2 fun b H3 => if b = true then te σ2 H3 R else R0 H3)
    (h : ∀ D H', H1 D = none → Same H1 H' → H' D = some (.lst (ps.filterMap f)) → QD D H') :
    ∃ a', V.ref a = .ref a' ∧ (∃ xs, SqL K H1 a' xs) ∧ ∀ D, H1 D = none → ∃ W : Nat → Nat → Hp → Prop, (∃ m, W 0 m (upd H1 D (.lst []))) ∧ ∀ i m H, W i m H →
      ((Itl K a').stop i H ∧ QD D H) ∨ ((Itl K a').go i H ∧ ∃ Nx : Hp → Prop, (∀ H', Nx H' → ∃ m', m' < m ∧ W (i + 1) m' H') ∧ ∀ x H', (Itl K a').yld i H x H' → g x (wipe σ vs) H' fun σ2 H2 => wipe σ2 vs = wipe σ vs ∧ tt σ2 H2 fun b H3 =>
        if b = true then te σ2 H3 fun y H4 => ∃ acc, H4 D = some (.lst acc) ∧ acc.length < sizeLine ∧ Nx (upd H4 D (.lst (acc ++ [y]))) else Nx H3) := by
  refine ⟨a, rfl, ⟨xs, hs⟩, fun D nD => lc_list (xs := xs) (fun i H => Same H1 H ∧ H D = some (.lst ((ps.take i).filterMap f))) ⟨same_new nD, by rw [upd_same]; simp⟩ (fun i H _ e => e.1.seq hs) ?_ ?_⟩
  · rintro i x H hx ⟨sm, hD⟩
    have hi : i < xs.length := (List.getElem?_eq_some_iff.mp hx).1
    obtain ⟨p, hp⟩ : ∃ p, ps[i]? = some p := ⟨ps[i]'(by omega), List.getElem?_eq_getElem (by omega)⟩
    have tk := take_filterMap (f := f) hp
    refine step i x p H hx hp sm _ _ (fun y H'' hy s2 => ⟨_, s2 _ _ hD, szl ?_, same_mut (sm.trans s2) nD, ?_⟩) (fun H'' hn s2 => ⟨sm.trans s2, ?_⟩)
    · have := List.length_filterMap_le f (ps.take i)
      rw [List.length_take] at this
      omega
    · rw [upd_same, tk, hy]; rfl
    · rw [tk, hn, s2 _ _ hD]; simp
  · rintro H ⟨sm, hD⟩
    rw [hl, List.take_length] at hD
    exact h D H nD sm hD
theorem range_take {n i : Nat} (h : i < n) : (List.range n)[i]? = some i := by simp [h]
/-- over a range -/
theorem lc_pureR {QD : Addr → Hp → Prop} {lo : Int} {n : Nat} (hz : n ≤ 50000) (f : Nat → Option V)
    (step : ∀ (i : Nat) H', i < n → Same H1 H' → ∀ (R : V → Hp → Prop) (R0 : Hp → Prop), (∀ y, f i = some y → R y H') → (f i = none → R0 H') →
      g (.int (lo + (i : Nat))) (wipe σ vs) H' fun σ2 H2 => wipe σ2 vs = wipe σ vs ∧ tt σ2 H2 fun b H3 => if b = true then te σ2 H3 R else R0 H3)
    (h : ∀ D H', H1 D = none → Same H1 H' → H' D = some (.lst ((List.range n).filterMap f)) → QD D H') :
    ∀ D, H1 D = none → ∃ W : Nat → Nat → Hp → Prop, (∃ m, W 0 m (upd H1 D (.lst []))) ∧ ∀ i m H, W i m H →
      ((Itr lo n).stop i H ∧ QD D H) ∨ ((Itr lo n).go i H ∧ ∃ Nx : Hp → Prop, (∀ H', Nx H' → ∃ m', m' < m ∧ W (i + 1) m' H') ∧ ∀ x H', (Itr lo n).yld i H x H' → g x (wipe σ vs) H' fun σ2 H2 => wipe σ2 vs = wipe σ vs ∧ tt σ2 H2 fun b H3 =>
        if b = true then te σ2 H3 fun y H4 => ∃ acc, H4 D = some (.lst acc) ∧ acc.length < sizeLine ∧ Nx (upd H4 D (.lst (acc ++ [y]))) else Nx H3) := by
  refine fun D nD => lc_range (fun i H => Same H1 H ∧ H D = some (.lst (((List.range n).take i).filterMap f))) ⟨same_new nD, by rw [upd_same]; simp⟩ ?_ ?_
  · rintro i H hi ⟨sm, hD⟩
    have tk := take_filterMap (f := f) (range_take hi)
    refine step i H hi sm _ _ (fun y hy => ⟨_, hD, szl ?_, same_mut sm nD, ?_⟩) (fun hn => ⟨sm, ?_⟩)
    · have := List.length_filterMap_le f ((List.range n).take i)
      rw [List.length_take, List.length_range] at this
      omega
    · rw [upd_same, tk, hy]; rfl
    · rw [tk, hn, hD]; simp
  · rintro H ⟨sm, hD⟩
    rw [List.take_of_length_le (by simp)] at hD
    exact h D H nD sm hD
end
/-! ### min, max of a pair -/
def rMinT (K : PySem.W.Frag) : List V → Hp → VK → Prop := fun xs H Q => ∃ (p : Addr) (a b : Int), xs = [.ref p] ∧ SqT K H p [.int a, .int b] ∧ Q (.int (min a b)) H
def rMaxT (K : PySem.W.Frag) : List V → Hp → VK → Prop := fun xs H Q => ∃ (p : Addr) (a b : Int), xs = [.ref p] ∧ SqT K H p [.int a, .int b] ∧ Q (.int (max a b)) H
theorem reads_int {h : Heap} {v : Value} {n : Int} {as : List Addr} (r : Reads h v (.int n) as) : ∃ t, v = .int n t := by
  cases r; exact ⟨_, rfl⟩
theorem alike2 (a b : Int) : PySem.W.AlikeAll [.int a, .int b] := by
  refine ⟨fun x hx y hy => ?_, fun x hx => ?_⟩
  · simp only [List.mem_cons, List.not_mem_nil, or_false] at hx hy
    rcases hx with rfl | rfl <;> rcases hy with rfl | rfl <;> rfl
  · simp only [List.mem_cons, List.not_mem_nil, or_false] at hx
    rcases hx with rfl | rfl <;> (intro z; cases z)
theorem q_minT {X : Cx} (hc : X.calm = true) (hu : X.A.units + 64 < cLine) : CallR X (.builtin "min") (rMinT X.K) := by
  intro pins s σ H vs us Q I r h
  obtain ⟨p, a, b, rfl, hs, q⟩ := h
  obtain ⟨its, rv, hl, _⟩ := I.tuple hs
  rw [Vals.ref1 r]
  have ri : IntsAre its [a, b] := Vals.ints (ns := [a, b]) rv
  refine PySem.W.min_tuple_data (x := .int a) (xs := [.int b]) (as := []) (I.ok.hd hc) hl (ri.reads _) (alike2 a b) ?_ fun i v h' tk bs hi rd hk => ?_
  · have : PyData.depthAll [.int a, .int b] = 0 := rfl
    omega
  · rw [show PySem.W.minD (.int a) [.int b] = .int (min a b) from PySem.W.minD_ints a [b]] at rd
    obtain ⟨t, rfl⟩ := reads_int rd
    exact ⟨.int _, H, I.kept hk, ⟨_, rfl⟩, q⟩
theorem q_maxT {X : Cx} (hc : X.calm = true) (hu : X.A.units + 64 < cLine) : CallR X (.builtin "max") (rMaxT X.K) := by
  intro pins s σ H vs us Q I r h
  obtain ⟨p, a, b, rfl, hs, q⟩ := h
  obtain ⟨its, rv, hl, _⟩ := I.tuple hs
  rw [Vals.ref1 r]
  have ri : IntsAre its [a, b] := Vals.ints (ns := [a, b]) rv
  refine PySem.W.max_tuple_data (x := .int a) (xs := [.int b]) (as := []) (I.ok.hd hc) hl (ri.reads _) (alike2 a b) ?_ fun i v h' tk bs hi rd hk => ?_
  · have : PyData.depthAll [.int a, .int b] = 0 := rfl
    omega
  · rw [show PySem.W.maxD (.int a) [.int b] = .int (max a b) from PySem.W.maxD_ints a [b]] at rd
    obtain ⟨t, rfl⟩ := reads_int rd
    exact ⟨.int _, H, I.kept hk, ⟨_, rfl⟩, q⟩
theorem k_minT {K : PySem.W.Frag} {H : Hp} {Q : VK} {p : Addr} {a b : Int} (hs : SqT K H p [.int a, .int b]) (h : Q (.int (min a b)) H) : rMinT K [.ref p] H Q := ⟨p, a, b, rfl, hs, h⟩
theorem k_maxT {K : PySem.W.Frag} {H : Hp} {Q : VK} {p : Addr} {a b : Int} (hs : SqT K H p [.int a, .int b]) (h : Q (.int (max a b)) H) : rMaxT K [.ref p] H Q := ⟨p, a, b, rfl, hs, h⟩
end Cm

namespace Cm
open PySem PySem.Spec PyProof.Rows L2
/-! ### steps of a reading, found by instances -/
class Stp (p : Prop) (q : outParam Prop) : Prop where
  run : q → p
class Stps (p : Prop) (q : outParam Prop) : Prop where
  run : q → p
class Stps1 (p : Prop) (q : outParam Prop) : Prop where
  run : q → p
instance (priority := low) stps_nil {p : Prop} : Stps p p := ⟨id⟩
instance (priority := high) stps_cons {p q r : Prop} [a : Stp p q] [b : Stps q r] : Stps p r := ⟨fun h => a.run (b.run h)⟩
instance stps_one {p q r : Prop} [a : Stp p q] [b : Stps q r] : Stps1 p r := ⟨fun h => a.run (b.run h)⟩
theorem go {p q : Prop} [a : Stps1 p q] (h : q) : p := a.run h
class Slot (σ : L2.St) (i : Nat) (v : outParam V) : Prop where
  get : σ[i]? = some (some v)
instance {v : V} {r : L2.St} : Slot (some v :: r) 0 v := ⟨rfl⟩
instance {x : Option V} {v : V} {r : L2.St} {i : Nat} [a : Slot r i v] : Slot (x :: r) (i + 1) v := ⟨a.get⟩
class Put (σ : L2.St) (i : Nat) (v : Option V) (σ' : outParam L2.St) : Prop where
  eq : σ.set i v = σ'
instance {x v : Option V} {r : L2.St} : Put (x :: r) 0 v (v :: r) := ⟨rfl⟩
instance {x v : Option V} {r r' : L2.St} {i : Nat} [a : Put r i v r'] : Put (x :: r) (i + 1) v (x :: r') := ⟨by rw [List.set_cons_succ, a.eq]⟩
instance {σ σ0 σ' : L2.St} {j : Nat} {w : Option V} {i : Nat} {v : Option V} [a : Put σ j w σ0] [b : Put σ0 i v σ'] : Put (List.set σ j w) i v σ' := ⟨by rw [a.eq, b.eq]⟩
instance {σ σ0 : L2.St} {j : Nat} {w : Option V} {i : Nat} {v : V} [a : Put σ j w σ0] [b : Slot σ0 i v] : Slot (List.set σ j w) i v := ⟨by rw [a.eq, b.get]⟩
class Wip (σ : L2.St) (vs : List Nat) (σ' : outParam L2.St) : Prop where
  eq : wipe σ vs = σ'
instance {σ : L2.St} : Wip σ [] σ := ⟨rfl⟩
instance {σ σ' σ'' : L2.St} {i : Nat} {vs : List Nat} [b : Wip σ vs σ'] [a : Put σ' i none σ''] : Wip σ (i :: vs) σ'' := ⟨by
  show (wipe σ vs).set i none = σ''
  rw [b.eq, a.eq]⟩
instance {σ σ0 σ' : L2.St} {vs : List Nat} {i : Nat} {v : Option V} [a : Wip σ vs σ0] [b : Put σ0 i v σ'] : Put (wipe σ vs) i v σ' := ⟨by rw [a.eq, b.eq]⟩
/-- a new list, a new tuple -/
def newL (xs : List V) (H : Hp) (Q : VK) : Prop := xs.length ≤ sizeLine ∧ ∀ p, H p = none → Q (.ref p) (upd H p (.lst xs))
def newT (xs : List V) (H : Hp) (Q : VK) : Prop := xs.length ≤ sizeLine ∧ ∀ p, H p = none → Q (.ref p) (upd H p (.tup xs))
def newR (a b : Int) (H : Hp) (Q : VK) : Prop := RgOk a b ∧ ∀ q, H q = none → Q (.ref q) (upd H q (.lst (rgV a b)))
theorem kL {xs : List V} {H : Hp} {Q : VK} (hn : xs.length ≤ 100000) (h : ∀ p H', H p = none → Same H H' → H' p = some (.lst xs) → Q (.ref p) H') : newL xs H Q := ⟨sz hn, fun p np => h p _ np (same_new np) upd_same⟩
theorem kT {xs : List V} {H : Hp} {Q : VK} (hn : xs.length ≤ 100000) (h : ∀ p H', H p = none → Same H H' → H' p = some (.tup xs) → Q (.ref p) H') : newT xs H Q := ⟨sz hn, fun p np => h p _ np (same_new np) upd_same⟩
theorem kR {a b : Int} {H : Hp} {Q : VK} (hr : RgOk a b) (h : ∀ p H', H p = none → Same H H' → H' p = some (.lst (rgV a b)) → Q (.ref p) H') : newR a b H Q := ⟨hr, fun q nq => h q _ nq (same_new nq) upd_same⟩
section
variable {K : PySem.W.Frag} {σ σ' : L2.St} {H : Hp} {D : Ends} {Q : VK} {ta tb tc te to ti : TE} {t u : TT} {s1 s2 : TS} {QT : Bool → Hp → Prop} {QA : List V → Hp → Prop} {tr : TA} {QS : L2.St → Hp → Prop} {nx bk ct : L2.St → Hp → Prop} {rt : VK} {g : TG} {gs : TGs} {i j : Nat} {v w : V} {a b : Int} {wi : TI} {tS : TS}
instance : Stp (tSeq s1 s2 ⟨nx, rt, bk, ct⟩ σ H) (s1 ⟨s2 ⟨nx, rt, bk, ct⟩, rt, bk, ct⟩ σ H) := ⟨k_seq⟩
instance : Stp (tNext ⟨nx, rt, bk, ct⟩ σ H) (nx σ H) := ⟨k_next⟩
instance : Stp (tCont ⟨nx, rt, bk, ct⟩ σ H) (ct σ H) := ⟨k_cont⟩
instance : Stp (tBreak ⟨nx, rt, bk, ct⟩ σ H) (bk σ H) := ⟨k_brk⟩
instance : Stp (tAsg te g ⟨nx, rt, bk, ct⟩ σ H) (te σ H fun x H1 => g x σ H1 nx) := ⟨k_asg⟩
instance : Stp (tDrop te ⟨nx, rt, bk, ct⟩ σ H) (te σ H fun _ H1 => nx σ H1) := ⟨k_drop⟩
instance : Stp (tRet te ⟨nx, rt, bk, ct⟩ σ H) (te σ H rt) := ⟨k_ret⟩
instance : Stp (tRetN ⟨nx, rt, bk, ct⟩ σ H) (rt .non H) := ⟨k_retN⟩
instance {f : Int → Int → Int} [e : Slot σ i (.int a)] : Stp (tAug i te (ipI f) ⟨nx, rt, bk, ct⟩ σ H) (te σ H fun y H1 => ipI f (.int a) y H1 fun z H2 => gName i z σ H2 nx) := ⟨fun h => k_aug e.get h⟩
instance {f : Int → Int → Int} : Stp (ipI f (.int a) (.int b) H Q) (Q (.int (f a b)) H) := ⟨k_ipI⟩
instance : Stp (xAugL K to ti te ⟨nx, rt, bk, ct⟩ σ H) (to σ H fun o H1 => ti σ H1 fun i H2 => rGetL K o i H2 fun x H3 => te σ H3 fun y H4 => ipI (fun i j => i + j) x y H4 fun z H5 => rSetL o i z H5 fun H6 => nx σ H6) := ⟨k_augL⟩
instance : Stp (tIfS t s1 s2 D σ H) (t σ H fun b H1 => if b = true then s1 D σ H1 else s2 D σ H1) := ⟨k_if⟩
instance [e : Slot σ i v] : Stp (tVar i σ H Q) (Q v H) := ⟨fun h => k_var e.get h⟩
instance : Stp (tC v σ H Q) (Q v H) := ⟨k_c⟩
instance {r : R2} : Stp (tOp r ta tb σ H Q) (ta σ H fun x H1 => tb σ H1 fun y H2 => r x y H2 Q) := ⟨k_op⟩
instance {r : V → Hp → VK → Prop} : Stp (tUn r ta σ H Q) (ta σ H fun x H1 => r x H1 Q) := ⟨k_un⟩
instance : Stp (xAdd (.int a) (.int b) H Q) (Q (.int (a + b)) H) := ⟨k_add⟩
instance : Stp (xSub (.int a) (.int b) H Q) (Q (.int (a - b)) H) := ⟨k_sub⟩
instance : Stp (xLt (.int a) (.int b) H Q) (Q (.bl (decide (a < b))) H) := ⟨k_lt⟩
instance : Stp (xLe (.int a) (.int b) H Q) (Q (.bl (decide (a ≤ b))) H) := ⟨k_le⟩
instance : Stp (xGt (.int a) (.int b) H Q) (Q (.bl (decide (b < a))) H) := ⟨k_gt⟩
instance : Stp (xGe (.int a) (.int b) H Q) (Q (.bl (decide (b ≤ a))) H) := ⟨k_ge⟩
instance : Stp (xNeg (.int a) H Q) (Q (.int (-a)) H) := ⟨k_neg⟩
instance : Stp (rEq (.int a) (.int b) H Q) (Q (.bl (decide (a = b))) H) := ⟨k_eqI⟩
instance : Stp (rNe (.int a) (.int b) H Q) (Q (.bl (!decide (a = b))) H) := ⟨k_neI⟩
instance {a b : Bool} : Stp (rEq (.bl a) (.bl b) H Q) (Q (.bl (decide (a = b))) H) := ⟨k_eqB⟩
instance {a b : Bool} : Stp (rNe (.bl a) (.bl b) H Q) (Q (.bl (!decide (a = b))) H) := ⟨k_neB⟩
theorem k_eqNN (h : Q (.bl true) H) : rEq .non .non H Q := ⟨rfl, h⟩
theorem k_isN0 (h : Q (.bl true) H) : xIsN .non .non H Q := ⟨rfl, h⟩
theorem k_isNr {p : Addr} (h : Q (.bl false) H) : xIsN (.ref p) .non H Q := ⟨rfl, by rw [decide_eq_false (by intro z; cases z)]; exact h⟩
theorem k_isNi (h : Q (.bl false) H) : xIsN (.int a) .non H Q := ⟨rfl, by rw [decide_eq_false (by intro z; cases z)]; exact h⟩
theorem k_notN0 (h : Q (.bl false) H) : xNotN .non .non H Q := ⟨rfl, h⟩
theorem k_notNr {p : Addr} (h : Q (.bl true) H) : xNotN (.ref p) .non H Q := ⟨rfl, by rw [decide_eq_false (by intro z; cases z)]; exact h⟩
theorem k_notNi (h : Q (.bl true) H) : xNotN (.int a) .non H Q := ⟨rfl, by rw [decide_eq_false (by intro z; cases z)]; exact h⟩
instance : Stp (xIsN .non .non H Q) (Q (.bl true) H) := ⟨k_isN0⟩
instance {p : Addr} : Stp (xIsN (.ref p) .non H Q) (Q (.bl false) H) := ⟨k_isNr⟩
instance : Stp (xIsN (.int a) .non H Q) (Q (.bl false) H) := ⟨k_isNi⟩
instance : Stp (xNotN .non .non H Q) (Q (.bl false) H) := ⟨k_notN0⟩
instance {p : Addr} : Stp (xNotN (.ref p) .non H Q) (Q (.bl true) H) := ⟨k_notNr⟩
instance : Stp (xNotN (.int a) .non H Q) (Q (.bl true) H) := ⟨k_notNi⟩
instance : Stp (tTest te σ H QT) (te σ H fun x H1 => ∃ k, x = .bl k ∧ QT k H1) := ⟨k_test⟩
instance : Stp (tB te σ H QT) (te σ H fun x H1 => ∃ k, x = .bl k ∧ QT k H1) := ⟨k_B⟩
instance {b : Bool} {R : Bool → Prop} : Stp (∃ k, V.bl b = .bl k ∧ R k) (R b) := ⟨k_bl⟩
instance {R : Int → Prop} : Stp (∃ j, V.int a = .int j ∧ R j) (R a) := ⟨k_int⟩
instance {R : Int → Int → Prop} : Stp (∃ i' j', V.int a = .int i' ∧ V.int b = .int j' ∧ R i' j') (R a b) := ⟨k_int2⟩
instance : Stp (tAnd t u σ H QT) (t σ H fun c H1 => if c = true then u σ H1 QT else QT false H1) := ⟨k_and⟩
instance : Stp (tOr t u σ H QT) (t σ H fun c H1 => if c = true then QT true H1 else u σ H1 QT) := ⟨k_or⟩
instance : Stp (tNot t σ H QT) (t σ H fun c H1 => QT (!c) H1) := ⟨k_not⟩
instance : Stp (tNotV ta σ H Q) (ta σ H fun x H1 => ∃ c, x = .bl c ∧ Q (.bl (!c)) H1) := ⟨k_notV⟩
instance : Stp (tAndV ta tb σ H Q) (ta σ H fun x H1 => ∃ c, x = .bl c ∧ if c = true then tb σ H1 Q else Q (.bl false) H1) := ⟨k_andV⟩
instance : Stp (tOrV ta tb σ H Q) (ta σ H fun x H1 => ∃ c, x = .bl c ∧ if c = true then Q (.bl true) H1 else tb σ H1 Q) := ⟨k_orV⟩
instance {r : List V → Hp → VK → Prop} : Stp (tCB r tr σ H Q) (tr σ H fun vs H1 => r vs H1 Q) := ⟨k_cb⟩
instance : Stp (tNil σ H QA) (QA [] H) := ⟨k_nil⟩
instance : Stp (tCons ta tr σ H QA) (ta σ H fun x H1 => tr σ H1 fun xs H2 => QA (x :: xs) H2) := ⟨k_cons⟩
instance {sp : Sp} {E : XK} : Stp (tCall sp [] E tr σ H Q) (tr σ H fun vs H1 => sp vs H1 Q E) := ⟨fun h => k_call (by simpa only [List.append_nil] using h)⟩
instance : Stp (tLst tr σ H Q) (tr σ H fun xs H1 => newL xs H1 Q) := ⟨k_lst⟩
instance : Stp (tTup tr σ H Q) (tr σ H fun xs H1 => newT xs H1 Q) := ⟨k_tup⟩
instance {r : List V} : Stp (gCons g gs (v :: r) σ H QS) (g v σ H fun σ' H' => gs r σ' H' QS) := ⟨k_gcons⟩
instance : Stp (gNil [] σ H QS) (QS σ H) := ⟨k_gnil⟩
instance [e : Put σ i (some v) σ'] : Stp (gName i v σ H QS) (QS σ' H) := ⟨fun h => k_gname (by rw [e.eq]; exact h)⟩
instance {ts : TSet} : Stp (gSub to ti ts v σ H QS) (to σ H fun o H1 => ti σ H1 fun i H2 => ts o i v H2 fun H3 => QS σ H3) := ⟨k_gsub⟩
instance : Stp (rMax2 [.int a, .int b] H Q) (Q (.int (if b > a then b else a)) H) := ⟨k_max2⟩
instance : Stp (rMin2 [.int a, .int b] H Q) (Q (.int (if b < a then b else a)) H) := ⟨k_min2⟩
instance {T : String} {r : V → List V → Hp → VK → Prop} : Stp (tBM K T r ta tr σ H Q) (ta σ H fun x H1 => tyV K T x H1 ∧ tr σ H1 fun xs H2 => r x xs H2 Q) := ⟨k_bm⟩
instance {T : String} {r : V → List V → Hp → VK → Prop} : Stp (tBM0 K T r ta σ H Q) (ta σ H fun x H1 => tyV K T x H1 ∧ r x [] H1 Q) := ⟨k_bm0⟩
instance {A B : Prop} {i : Decidable (true = true)} : Stp (@ite Prop (true = true) i A B) A := ⟨fun h => by rw [if_pos rfl]; exact h⟩
instance {A B : Prop} {i : Decidable (false = true)} : Stp (@ite Prop (false = true) i A B) B := ⟨fun h => by rw [if_neg (by simp)]; exact h⟩
instance {A B : Prop} {i : Decidable ((!true) = true)} : Stp (@ite Prop ((!true) = true) i A B) B := ⟨fun h => by rw [if_neg (by simp)]; exact h⟩
instance {A B : Prop} {i : Decidable ((!false) = true)} : Stp (@ite Prop ((!false) = true) i A B) A := ⟨fun h => by rw [if_pos (by simp)]; exact h⟩
instance : Stp (tFor wi g tS ⟨nx, rt, bk, ct⟩ σ H) (wi σ H fun J H1 => ∃ W : Nat → Nat → L2.St → Hp → Prop, (∃ m, W 0 m σ H1) ∧ ∀ i m σ H, W i m σ H →
  (J.stop i H ∧ nx σ H) ∨ (J.go i H ∧ ∃ N : L2.St → Hp → Prop, (∀ σ' H', N σ' H' → ∃ m', m' < m ∧ W (i + 1) m' σ' H') ∧ ∀ x H', J.yld i H x H' → g x σ H' fun σ2 H2 => tS ⟨N, rt, nx, N⟩ σ2 H2)) := ⟨k_for⟩
instance {R : It → Hp → Prop} : Stp (iList K te σ H R) (te σ H fun x H1 => ∃ a, x = .ref a ∧ (∃ xs, SqL K H1 a xs) ∧ R (Itl K a) H1) := ⟨k_iList⟩
instance {R : It → Hp → Prop} : Stp (iTup K te σ H R) (te σ H fun x H1 => ∃ a, x = .ref a ∧ (∃ xs, SqT K H1 a xs) ∧ R (Itt K a) H1) := ⟨k_iTup⟩
instance {R : It → Hp → Prop} : Stp (iZip K tr σ H R) (tr σ H fun vs H1 => ∃ a b xs ys, vs = [.ref a, .ref b] ∧ SqL K H1 a xs ∧ SqL K H1 b ys ∧ R (Itz K a b) H1) := ⟨k_iZip⟩
instance {R : It → Hp → Prop} : Stp (iEnum K tr σ H R) (tr σ H fun vs H1 => ∃ a xs, vs = [.ref a] ∧ SqL K H1 a xs ∧ R (Ite K a) H1) := ⟨k_iEnum⟩
instance {R : It → Hp → Prop} : Stp (iRng1 tr σ H R) (tr σ H fun vs H1 => ∃ j : Int, vs = [.int j] ∧ -(2 ^ 62) ≤ j ∧ j < 2 ^ 62 ∧ R (Itr 0 j.toNat) H1) := ⟨k_iRng1⟩
instance {R : It → Hp → Prop} : Stp (iRng2 tr σ H R) (tr σ H fun vs H1 => ∃ i j : Int, vs = [.int i, .int j] ∧ (-(2 ^ 62) ≤ i ∧ i < 2 ^ 62 ∧ -(2 ^ 62) ≤ j ∧ j < 2 ^ 62) ∧ R (Itr i (j - i).toNat) H1) := ⟨k_iRng2⟩
instance {vs : List Nat} : Stp (tLc wi g t te vs σ H Q) (wi σ H fun J H1 => ∀ D, H1 D = none → ∃ W : Nat → Nat → Hp → Prop, (∃ m, W 0 m (upd H1 D (.lst []))) ∧ ∀ i m H, W i m H →
  (J.stop i H ∧ Q (.ref D) H) ∨ (J.go i H ∧ ∃ Nx : Hp → Prop, (∀ H', Nx H' → ∃ m', m' < m ∧ W (i + 1) m' H') ∧ ∀ x H', J.yld i H x H' → g x (wipe σ vs) H' fun σ2 H2 => wipe σ2 vs = wipe σ vs ∧ t σ2 H2 fun b H3 =>
    if b = true then te σ2 H3 fun y H4 => ∃ acc, H4 D = some (.lst acc) ∧ acc.length < sizeLine ∧ Nx (upd H4 D (.lst (acc ++ [y]))) else Nx H3)) := ⟨k_lc⟩
instance : Stp (tYes σ H QT) (QT true H) := ⟨k_yes⟩
instance {r : V → Option Int → Option Int → Hp → VK → Prop} {tl th : TO} : Stp (tSl r te tl th σ H Q) (te σ H fun x H1 => tl σ H1 fun l H2 => th σ H2 fun u H3 => r x l u H3 Q) := ⟨k_sl⟩
instance {QO : Option Int → Hp → Prop} : Stp (tNoPart σ H QO) (QO none H) := ⟨k_nopart⟩
instance {QO : Option Int → Hp → Prop} : Stp (tPart te σ H QO) (te σ H fun x H1 => ∃ i, x = .int i ∧ QO (some i) H1) := ⟨k_part⟩
instance {tg : L2.St → Hp → (Int → Int → Hp → Prop) → Prop} : Stp (tLstRg tg σ H Q) (tg σ H fun a b H1 => newR a b H1 Q) := ⟨k_listRg⟩
instance {QR : Int → Int → Hp → Prop} : Stp (tRg1 ta σ H QR) (ta σ H fun x H1 => ∃ n, x = .int n ∧ QR 0 n H1) := ⟨k_rg1⟩
instance {QR : Int → Int → Hp → Prop} : Stp (tRg2 ta tb σ H QR) (ta σ H fun x H1 => tb σ H1 fun y H2 => ∃ i j, x = .int i ∧ y = .int j ∧ QR i j H2) := ⟨k_rg2⟩
instance : Stp (rIsi K [.int a, .ty "int"] H Q) (Q (.bl true) H) := ⟨k_isiI⟩
instance : Stp (rIsi K [.int a, .ty "bool"] H Q) (Q (.bl false) H) := ⟨k_isiB⟩
instance : Stp (rIsi K [.int a, .ty "list"] H Q) (Q (.bl false) H) := ⟨k_isiLI⟩
instance {b : Bool} : Stp (rIntOf [.bl b] H Q) (Q (.int (if b then 1 else 0)) H) := ⟨k_intB⟩
theorem k_chain {r r' : R2} (h : ta σ H fun x H1 => tb σ H1 fun y H2 => r x y H2 fun z H3 => ∃ k, z = .bl k ∧ if k = true then tc σ H3 fun z H4 => r' y z H4 Q else Q (.bl false) H3) : tChain r r' ta tb tc σ H Q := h
instance {r r' : R2} : Stp (tChain r r' ta tb tc σ H Q) (ta σ H fun x H1 => tb σ H1 fun y H2 => r x y H2 fun z H3 => ∃ k, z = .bl k ∧ if k = true then tc σ H3 fun z H4 => r' y z H4 Q else Q (.bl false) H3) := ⟨k_chain⟩
theorem k_ifE (h : t σ H fun c H1 => if c = true then ta σ H1 Q else tb σ H1 Q) : tIf t ta tb σ H Q := h
instance : Stp (tIf t ta tb σ H Q) (t σ H fun c H1 => if c = true then ta σ H1 Q else tb σ H1 Q) := ⟨k_ifE⟩
def par2 (i j : Nat) (vs : List V) (σ : L2.St) (H : Hp) (nx : L2.St → Hp → Prop) : Prop := ∃ v w, vs = [v, w] ∧ nx ((σ.set i (some v)).set j (some w)) H
instance : Stp (tPar i j tr ⟨nx, rt, bk, ct⟩ σ H) (tr σ H fun vs H1 => par2 i j vs σ H1 nx) := ⟨fun h => h⟩
instance {σ'' : L2.St} [e : Put σ i (some v) σ'] [e2 : Put σ' j (some w) σ''] : Stp (par2 i j [v, w] σ H nx) (nx σ'' H) := ⟨fun h => ⟨v, w, rfl, by rw [e.eq, e2.eq]; exact h⟩⟩
end
/-! ### bits -/
def xShl : R2 := rI CPow fun i j => .int (i * 2 ^ j.toNat)
def xAnd : R2 := rI0 fun i j => .int (Builtin.bitAnd i j)
theorem k_shl {H : Hp} {Q : VK} {i j : Int} (hc : CPow i j) (h : Q (.int (i * 2 ^ j.toNat)) H) : xShl (.int i) (.int j) H Q := ⟨i, j, rfl, rfl, hc, h⟩
instance {H : Hp} {Q : VK} {i j : Int} : Stp (xAnd (.int i) (.int j) H Q) (Q (.int (Builtin.bitAnd i j)) H) := ⟨fun h => ⟨i, j, rfl, rfl, h⟩⟩
/-! ### list.count of flat values -/
def cntV (y : V) (ys : List V) : Nat := ys.countP fun z => eqV z y
def rCntV (K : PySem.W.Frag) : V → List V → Hp → VK → Prop := fun x xs H Q => ∃ (a : Addr) (ys : List V) (y : V), x = V.ref a ∧ xs = [y] ∧ SqL K H a ys ∧ flatV y = true ∧ ys.all flatV = true ∧ Q (.int (cntV y ys : Nat)) H
theorem cntV_eq {y : V} : ∀ {ys : List V} {its : List Value}, Vals ys its → ys.all flatV = true → its.countP (eqU y) = cntV y ys
  | _, _, .nil, _ => rfl
  | a :: as, _ :: _, .cons r rs, f => by
    have f1 : flatV a = true ∧ as.all flatV = true := by simpa using f
    unfold cntV
    rw [List.countP_cons, List.countP_cons, eqU_of r f1.1, cntV_eq rs f1.2]
    rfl
theorem mt_lcountV {X : Cx} : MtR X "list.count" (rCntV X.K) := by
  intro pins s σ H x xs v us Q I rx rxs h
  obtain ⟨a, ys, y, rfl, rfl, hs, fy, fys, q⟩ := h
  cases rx
  cases rxs with
  | cons ry rt =>
    rename_i uy ut
    cases rt
    obtain ⟨its, rv, ⟨⟨cls, dd, data, sl⟩, n, ho, hc, hdn, hd⟩, hlen⟩ := I.list hs
    simp only at hc hd
    subst hc hd
    refine call_meets PySem.F.slot_list_count ⟨_, ho, rfl⟩ PySem.F.entry_list_count (PySem.F.args_list_count_2 _ _)
      (SeqAt.list_countAt a its.toArray n dd sl uy (eqU y)) ⟨ho, fun u' hu' => mem_eqAt ry fy rv fys u' (by simpa using hu'), ?_⟩
    have ec : its.toArray.toList.countP (eqU y) = cntV y ys := cntV_eq rv fys
    refine ⟨.int (cntV y ys : Nat), H, I.tok _, ⟨s.toks, ?_⟩, q⟩
    show Value.int ((its.toArray.toList.countP (eqU y) : Nat) : Int) s.toks = Value.int ((cntV y ys : Nat) : Int) s.toks
    rw [ec]
section
variable {K : PySem.W.Frag} {H : Hp} {Q : VK}
theorem k_catN {p q : Addr} {xs ys : List V} (hp : H p = some (.lst xs)) (hq : H q = some (.lst ys)) (hz : xs.length + ys.length ≤ 100000) (h : ∀ l H', H l = none → Same H H' → H' l = some (.lst (xs ++ ys)) → Q (.ref l) H') : rCat (.ref p) (.ref q) H Q := k_cat hp hq hz fun l nl => h l _ nl (same_new nl) upd_same
theorem k_cntV {p : Addr} {ys : List V} {y : V} (hs : SqL K H p ys) (fy : flatV y = true) (fys : ys.all flatV = true) (h : Q (.int (cntV y ys : Nat)) H) : rCntV K (.ref p) [y] H Q := ⟨p, ys, y, rfl, rfl, hs, fy, fys, h⟩
theorem k_indexV {p : Addr} {ys : List V} {y z : V} {j : Nat} (hs : SqL K H p ys) (fy : flatV y = true) (fys : ys.all flatV = true) (hj : ys[j]? = some z) (hz : eqV z y = true) (hn : ∀ (m : Nat) (z' : V), m < j → ys[m]? = some z' → eqV z' y = false) (h : Q (.int (j : Nat)) H) : rIndex K (.ref p) [y] H Q := ⟨p, ys, y, j, z, rfl, rfl, hs, fy, fys, hj, hz, hn, h⟩
theorem k_sortedN {a : Addr} {ns : List Int} (hs : SqL K H a (ns.map V.int)) (h : ∀ (ns' : List Int) (p : Addr) H', ns'.Perm ns → ns'.Pairwise (· ≤ ·) → H p = none → Same H H' → H' p = some (.lst (ns'.map V.int)) → Q (.ref p) H') : rSortedI K [.ref a] H Q := k_sortedI hs fun ns' p h1 h2 h3 => h ns' p _ h1 h2 h3 (same_new h3) upd_same
end
/-! ### facts of older heaps -/
theorem hid_back {S : List Addr} {X Y : Hp} (h : Same X (hid S Y)) : Same X Y := h.trans (hid_same S Y)
theorem at_same {X Y : Hp} {p : Addr} {o : HO} (h : X p = some o) (s : Same X Y) : Y p = some o := s _ _ h
theorem sl_at {K : PySem.W.Frag} {X Y : Hp} {p : Addr} {xs : List V} (h : X p = some (.lst xs)) (s : Same X Y) : SqL K Y p xs := sl (s _ _ h)
theorem st_at {K : PySem.W.Frag} {X Y : Hp} {p : Addr} {xs : List V} (h : X p = some (.tup xs)) (s : Same X Y) : SqT K Y p xs := stp (s _ _ h)
theorem dpI_at {K : PySem.W.Frag} {X Y : Hp} {p : Addr} {ns : List Int} (h : X p = some (.lst (ns.map V.int))) (s : Same X Y) : Dp K Y (.ref p) (dInts ns) := dp_of_ints (sl (s _ _ h))
theorem dpP_at {K : PySem.W.Frag} {X Y : Hp} {p : Addr} {a b : Int} (h : X p = some (.tup [.int a, .int b])) (s : Same X Y) : Dp K Y (.ref p) (dPair (a, b)) := dp_of_pair (stp (s _ _ h))
theorem hid_free {S : List Addr} {H : Hp} (f : ∀ a ∈ S, H a = none) : Same H (hid S H) := fun b o hb => by
  rw [hid_ne fun z => by rw [f b z] at hb; cases hb]; exact hb
theorem hid_free1 {p : Addr} {H : Hp} (f : H p = none) : Same H (hid [p] H) := hid_free (free1 f)
theorem cut_to (xs : List V) (k : Nat) : cutV xs none (some (k : Int)) = xs.take k := by
  unfold cutV
  rw [HT.sIx_none, HT.sIx_nat, List.drop_zero, Nat.sub_zero]
  by_cases h : k ≤ xs.length
  · rw [Nat.min_eq_left h]
  · rw [Nat.min_eq_right (by omega), List.take_of_length_le (by simp), List.take_of_length_le (by omega)]
theorem cut_from (xs : List V) (k : Nat) : cutV xs (some (k : Int)) none = xs.drop k := by
  unfold cutV
  rw [HT.sIx_none, HT.sIx_nat]
  by_cases h : k ≤ xs.length
  · rw [Nat.min_eq_left h]
    exact List.take_of_length_le (by simp)
  · rw [Nat.min_eq_right (by omega), List.drop_of_length_le (Nat.le_refl _), List.drop_of_length_le (by omega), List.take_nil]
theorem dpa_take {K : PySem.W.Frag} {H : Hp} : ∀ {vs : List V} {ds : List PyData} (n : Nat), DpAll K H vs ds → DpAll K H (vs.take n) (ds.take n)
  | _, _, 0, _ => by simp only [List.take_zero]; exact .nil
  | _, _, n + 1, .nil => by simp only [List.take_nil]; exact .nil
  | _, _, n + 1, .cons h r => .cons h (dpa_take n r)
theorem dpa_drop {K : PySem.W.Frag} {H : Hp} : ∀ {vs : List V} {ds : List PyData} (n : Nat), DpAll K H vs ds → DpAll K H (vs.drop n) (ds.drop n)
  | _, _, 0, h => h
  | _, _, n + 1, .nil => by simp only [List.drop_nil]; exact .nil
  | _, _, n + 1, .cons _ r => dpa_drop n r
theorem Le.at {H H' : Hp} {pu p : Addr} {k : Int} {o : HO} (L : Le H pu k) (np : H p = none) (e : H' p = some o) : hid [pu] H' p = some o := by rw [hid_ne (L.fresh np)]; exact e
theorem hat {H : Hp} {pu p : Addr} {o : HO} (np : p ∉ [pu]) (e : H p = some o) : hid [pu] H p = some o := by rw [hid_ne np]; exact e
theorem kLp {xs : List V} {H : Hp} {Q : VK} {pu : Addr} {k : Int} (L : Le H pu k) (hn : xs.length ≤ 100000) (h : ∀ p H', H p = none → Same H H' → hid [pu] H' p = some (.lst xs) → Q (.ref p) H') : newL xs H Q := ⟨sz hn, fun p np => h p _ np (same_new np) (L.at np upd_same)⟩
theorem kTp {xs : List V} {H : Hp} {Q : VK} {pu : Addr} {k : Int} (L : Le H pu k) (hn : xs.length ≤ 100000) (h : ∀ p H', H p = none → Same H H' → hid [pu] H' p = some (.tup xs) → Q (.ref p) H') : newT xs H Q := ⟨sz hn, fun p np => h p _ np (same_new np) (L.at np upd_same)⟩
theorem sh_l2 {n : Nat} {c d : PyData} (h1 : Sh n c) (h2 : Sh n d) : Sh (n + 1) (.list [c, d]) := sh_list fun x hx => by
  rcases List.mem_cons.mp hx with rfl | hx
  · exact h1
  · rcases List.mem_cons.mp hx with rfl | hx
    · exact h2
    · cases hx
section
variable {K : PySem.W.Frag} {σ : L2.St} {H1 : Hp} {Q : VK} {g : TG} {tt : TT} {te : TE} {vs : List Nat}
/-- over a range, new objects may be made -/
theorem lc_growR {QD : Addr → Hp → Prop} {lo : Int} {n : Nat} (hz : n ≤ 50000) (f : Nat → Option V)
    (step : ∀ (i : Nat) H', i < n → Same H1 H' → ∀ (R : V → Hp → Prop) (R0 : Hp → Prop), (∀ y H'', f i = some y → Same H' H'' → R y H'') → (∀ H'', f i = none → Same H' H'' → R0 H'') →
      g (.int (lo + (i : Nat))) (wipe σ vs) H' fun σ2 H2 => wipe σ2 vs = wipe σ vs ∧ tt σ2 H2 fun b H3 => if b = true then te σ2 H3 R else R0 H3)
    (h : ∀ D H', H1 D = none → Same H1 H' → H' D = some (.lst ((List.range n).filterMap f)) → QD D H') :
    ∀ D, H1 D = none → ∃ W : Nat → Nat → Hp → Prop, (∃ m, W 0 m (upd H1 D (.lst []))) ∧ ∀ i m H, W i m H →
      ((Itr lo n).stop i H ∧ QD D H) ∨ ((Itr lo n).go i H ∧ ∃ Nx : Hp → Prop, (∀ H', Nx H' → ∃ m', m' < m ∧ W (i + 1) m' H') ∧ ∀ x H', (Itr lo n).yld i H x H' → g x (wipe σ vs) H' fun σ2 H2 => wipe σ2 vs = wipe σ vs ∧ tt σ2 H2 fun b H3 =>
        if b = true then te σ2 H3 fun y H4 => ∃ acc, H4 D = some (.lst acc) ∧ acc.length < sizeLine ∧ Nx (upd H4 D (.lst (acc ++ [y]))) else Nx H3) := by
  refine fun D nD => lc_range (fun i H => Same H1 H ∧ H D = some (.lst (((List.range n).take i).filterMap f))) ⟨same_new nD, by rw [upd_same]; simp⟩ ?_ ?_
  · rintro i H hi ⟨sm, hD⟩
    have tk := take_filterMap (f := f) (range_take hi)
    refine step i H hi sm _ _ (fun y H'' hy s2 => ⟨_, s2 _ _ hD, szl ?_, same_mut (sm.trans s2) nD, ?_⟩) (fun H'' hn s2 => ⟨sm.trans s2, ?_⟩)
    · have := List.length_filterMap_le f ((List.range n).take i)
      rw [List.length_take, List.length_range] at this
      omega
    · rw [upd_same, tk, hy]; rfl
    · rw [tk, hn, s2 _ _ hD]; simp
  · rintro H ⟨sm, hD⟩
    rw [List.take_of_length_le (by simp)] at hD
    exact h D H nD sm hD
end
/-- behind an if: what follows is shown once -/
theorem ifjoin {c : Bool} {σ : L2.St} {H : Hp} {s1 s2 : TS} {nx bk ct : L2.St → Hp → Prop} {rt : VK} (G : L2.St → Hp → Prop) (main : ∀ σ H, G σ H → nx σ H) (h : (∀ σ H, G σ H → nx σ H) → if c = true then s1 ⟨nx, rt, bk, ct⟩ σ H else s2 ⟨nx, rt, bk, ct⟩ σ H) : if c = true then s1 ⟨nx, rt, bk, ct⟩ σ H else s2 ⟨nx, rt, bk, ct⟩ σ H := h main
theorem k_repN {H : Hp} {Q : VK} {p : Addr} {xs : List V} {k : Int} (hp : H p = some (.lst xs)) (h0 : 0 ≤ k) (h1 : k < 100000) (h2 : xs.length * k.toNat ≤ 100000) (h : ∀ l H', H l = none → Same H H' → H' l = some (.lst (List.replicate k.toNat xs).flatten) → Q (.ref l) H') : rRep (.ref p) (.int k) H Q := k_rep hp h0 h1 h2 fun l nl => h l _ nl (same_new nl) upd_same
theorem ixN_last {n : Nat} (h : 0 < n) : ixN n (-1) = some (n - 1) := by
  unfold ixN
  rw [if_neg (by omega)]
  split
  · simp; omega
  · omega
theorem ifsjoin {t : TT} {σ : L2.St} {H : Hp} {s1 s2 : TS} {nx bk ct : L2.St → Hp → Prop} {rt : VK} (G : L2.St → Hp → Prop) (main : ∀ σ H, G σ H → nx σ H) (h : (∀ σ H, G σ H → nx σ H) → tIfS t s1 s2 ⟨nx, rt, bk, ct⟩ σ H) : tIfS t s1 s2 ⟨nx, rt, bk, ct⟩ σ H := h main
/-- over a list or a tuple -/
def iAny (w1 w2 : TI) : TI := fun σ H R => w1 σ H R ∨ w2 σ H R
theorem pi_any {X : Cx} {tg it : Expr} {w1 w2 : TI} (h1 : PI X tg it w1) (h2 : PI X tg it w2) : PI X tg it (iAny w1 w2) := ⟨fun pins s σ H R I h => by
  rcases h with h | h
  · exact h1.run pins s σ H R I h
  · exact h2.run pins s σ H R I h⟩
theorem k_inT2 {K : PySem.W.Frag} {H : Hp} {Q : VK} {p : Addr} {x a b : Int} (hs : SqT K H p [.int a, .int b]) (h : Q (.bl (decide (x = a ∨ x = b))) H) : rIn K false (.int x) (.ref p) H Q :=
  ⟨p, _, rfl, .inr hs, rfl, flat_ints [a, b], by
    rw [if_neg Bool.false_ne_true, show ([V.int a, .int b] : List V) = List.map V.int [a, b] from rfl, inV_ints]
    have e : decide (x ∈ [a, b]) = decide (x = a ∨ x = b) := by simp
    rw [e]; exact h⟩
theorem Pu.at {H H' : Hp} {pu ce p : Addr} {n : Nat} {t : Int} {o : HO} (L : Pu H pu ce n t) (np : H p = none) (e : H' p = some o) : hid [pu, ce] H' p = some o := by rw [hid_ne (L.fresh np)]; exact e
theorem kLq {xs : List V} {H : Hp} {Q : VK} {pu ce : Addr} {n : Nat} {t : Int} (L : Pu H pu ce n t) (hn : xs.length ≤ 100000) (h : ∀ p H', H p = none → Same H H' → hid [pu, ce] H' p = some (.lst xs) → Q (.ref p) H') : newL xs H Q := ⟨sz hn, fun p np => h p _ np (same_new np) (L.at np upd_same)⟩
theorem kTq {xs : List V} {H : Hp} {Q : VK} {pu ce : Addr} {n : Nat} {t : Int} (L : Pu H pu ce n t) (hn : xs.length ≤ 100000) (h : ∀ p H', H p = none → Same H H' → hid [pu, ce] H' p = some (.tup xs) → Q (.ref p) H') : newT xs H Q := ⟨sz hn, fun p np => h p _ np (same_new np) (L.at np upd_same)⟩
end Cm

namespace Cm
open PySem PySem.Spec PyProof.Rows L2

/-! ### how many unlike ints -/
def unl (ns : List Int) : Nat := (PyProof.Rows.firstMet (fun i => ns.getD i 0) ns.length).length
theorem unl_le (ns : List Int) : unl ns ≤ ns.length := PyProof.Rows.firstMet_length_le _ _
def tLenU (K : PySem.W.Frag) (ta : TE) : TE := fun σ H Q => ta σ H fun x H1 => ∃ (l : Addr) (ns : List Int), x = .ref l ∧ SqL K H1 l (ns.map V.int) ∧ ns.length ≤ 4000 ∧ Q (.int (unl ns : Nat)) H1
theorem pe_lenU {X : Cx} {a : Expr} {ta : TE} {p p2 q pos : Pos} (cm : X.calm = true) (gl : Gl X "len") (ml : X.mg "len" = none) (gs : Gl X "set") (ms : X.mg "set" = none) (pa : PE X a ta)
    (se : starEach [a] X.env = (false, eval a X.env) :: starEach [] X.env := by rfl) : PE X (.Call (.Name "len" p) [.Call (.Name "set" p2) [a] [] q] [] pos) (tLenU X.K ta) := by
  constructor
  intro pins s σ H Q I h
  refine Call_ (ld_blt I gl ml boot_len (PyProof.Rows.callWith_builtin1 (PyProof.Rows.args_cons ?_ rfl) rfl rfl))
  refine Call_ (ld_blt I gs ms boot_set (PyProof.Rows.callWith_type1 (PyProof.Rows.args_cons (thn (pa.run pins s σ H _ I h) fun v s1 ⟨x, H1, J, rx, qx⟩ => PyProof.Rows.args_nil ?_) se) se rfl))
  obtain ⟨l, ns, rfl, hq, hl, qx⟩ := qx
  cases rx
  obtain ⟨its, rv, pl, hz⟩ := J.list hq
  have sz1 : its.toArray.size = ns.length := by rw [List.size_toArray, ← rv.length, List.length_map]
  refine call_set_list (J.ok.hd cm) pl.isList (by simpa using RZ.intsAre_vals rv) (by rw [sz1]; unfold scanBound; omega) fun h' tk hS hk => PyProof.Rows.args_nil ?_
  rw [sz1] at hS
  obtain ⟨o, es, ep, t, ho, hex, hd, _, _, _, hf, hn⟩ := hS
  have J2 : Inv X pins σ H1 { s1 with heap := h', toks := tk } := J.kept fun b o e => hk b o (Heap.lt_size e) e
  have hu := unl_le ns
  exact call_len_set ho hex hd hf (by rw [hn]; unfold unl at hu; omega) ⟨.int (unl ns : Nat), H1, J2.tok _, ⟨_, by rw [hn]; rfl⟩, qx⟩

section
variable {K : PySem.W.Frag} {σ : L2.St} {H1 : Hp} {g : TG} {tt : TT} {te : TE} {vs : List Nat}
/-- over a tuple, new objects may be made -/
theorem lc_growT {QD : Addr → Hp → Prop} {α : Type} {a : Addr} {xs : List V} (hs : SqT K H1 a xs) (ps : List α) (hl : xs.length = ps.length) (hz : ps.length ≤ 50000) (f : α → Option V)
    (step : ∀ (i : Nat) x p H', xs[i]? = some x → ps[i]? = some p → Same H1 H' → ∀ (R : V → Hp → Prop) (R0 : Hp → Prop), (∀ y H'', f p = some y → Same H' H'' → R y H'') → (∀ H'', f p = none → Same H' H'' → R0 H'') →
      g x (wipe σ vs) H' fun σ2 H2 => wipe σ2 vs = wipe σ vs ∧ tt σ2 H2 fun b H3 => if b = true then te σ2 H3 R else R0 H3)
    (h : ∀ D H', H1 D = none → Same H1 H' → H' D = some (.lst (ps.filterMap f)) → QD D H') :
    ∃ a', V.ref a = .ref a' ∧ (∃ xs, SqT K H1 a' xs) ∧ ∀ D, H1 D = none → ∃ W : Nat → Nat → Hp → Prop, (∃ m, W 0 m (upd H1 D (.lst []))) ∧ ∀ i m H, W i m H →
      ((Itt K a').stop i H ∧ QD D H) ∨ ((Itt K a').go i H ∧ ∃ Nx : Hp → Prop, (∀ H', Nx H' → ∃ m', m' < m ∧ W (i + 1) m' H') ∧ ∀ x H', (Itt K a').yld i H x H' → g x (wipe σ vs) H' fun σ2 H2 => wipe σ2 vs = wipe σ vs ∧ tt σ2 H2 fun b H3 =>
        if b = true then te σ2 H3 fun y H4 => ∃ acc, H4 D = some (.lst acc) ∧ acc.length < sizeLine ∧ Nx (upd H4 D (.lst (acc ++ [y]))) else Nx H3) := by
  refine ⟨a, rfl, ⟨xs, hs⟩, fun D nD => lc_tup (xs := xs) (fun i H => Same H1 H ∧ H D = some (.lst ((ps.take i).filterMap f))) ⟨same_new nD, by rw [upd_same]; simp⟩ (fun i H _ e => same_seqT e.1 hs) ?_ ?_⟩
  · rintro i x H hx ⟨sm, hD⟩
    have hi : i < xs.length := (List.getElem?_eq_some_iff.mp hx).1
    obtain ⟨p, hp⟩ : ∃ p, ps[i]? = some p := ⟨ps[i]'(by omega), List.getElem?_eq_getElem (by omega)⟩
    have tk := take_filterMap (f := f) hp
    refine step i x p H hx hp sm _ _ (fun y H'' hy s2 => ⟨_, s2 _ _ hD, szl ?_, same_mut (sm.trans s2) nD, ?_⟩) (fun H'' hn s2 => ⟨sm.trans s2, ?_⟩)
    · have := List.length_filterMap_le f (ps.take i)
      rw [List.length_take] at this
      omega
    · rw [upd_same, tk, hy]; rfl
    · rw [tk, hn, s2 _ _ hD]; simp
  · rintro H ⟨sm, hD⟩
    rw [hl, List.take_length] at hD
    exact h D H nD sm hD
end
theorem k_ixN {K : PySem.W.Frag} {H : Hp} {Q : VK} {p : Addr} {ns : List Int} {i : Nat} {x : Int} (hs : SqL K H p (ns.map V.int)) (hx : ns[i]? = some x) (h : Q (.int x) H) : rIxL K (.ref p) (.int i) H Q := k_ixL hs (atI_nat (by rw [List.getElem?_map, hx]; rfl)) h
theorem fm_map {α : Type} (f : α → V) (l : List α) : l.filterMap (fun x => some (f x)) = l.map f := by
  rw [show (fun x => some (f x)) = some ∘ f from rfl, List.filterMap_eq_map]

/-- what follows a statement is shown once, and lies out of sight meanwhile -/
theorem seqO {s1 s2 : TS} {σ : L2.St} {H : Hp} {nx bk ct : L2.St → Hp → Prop} {rt : VK} (G : L2.St → Hp → Prop) (main : ∀ σ H, G σ H → s2 ⟨nx, rt, bk, ct⟩ σ H) (h : ∀ nx' : L2.St → Hp → Prop, (∀ σ H, G σ H → nx' σ H) → s1 ⟨nx', rt, bk, ct⟩ σ H) : tSeq s1 s2 ⟨nx, rt, bk, ct⟩ σ H := h _ main
/-- the last statement of a block -/
theorem lastO {s1 : TS} {σ : L2.St} {H : Hp} {nx bk ct : L2.St → Hp → Prop} {rt : VK} (G : L2.St → Hp → Prop) (main : ∀ σ H, G σ H → nx σ H) (h : ∀ nx' : L2.St → Hp → Prop, (∀ σ H, G σ H → nx' σ H) → s1 ⟨nx', rt, bk, ct⟩ σ H) : s1 ⟨nx, rt, bk, ct⟩ σ H := h _ main

/-! ### texts -/
def rStrInt : List V → Hp → VK → Prop := fun xs H Q => ∃ i : Int, xs = [.int i] ∧ i.natAbs.log2 < 1920 ∧ Q (.str (toString i)) H
theorem q_strI {X : Cx} : CallR X (.type "str") rStrInt := call_str_int
def xAddS : R2 := fun x y H Q => ∃ i j, x = .str i ∧ y = .str j ∧ i.length + j.length ≤ sizeLine ∧ Q (.str (i ++ j)) H
def rJoin (K : PySem.W.Frag) : V → List V → Hp → VK → Prop := fun x xs H Q => ∃ a p, ∃ ys : List Str, x = .str a ∧ xs = [.ref p] ∧ (SqL K H p (ys.map V.str) ∨ SqT K H p (ys.map V.str)) ∧ (ys.map (·.length)).sum + ys.length * a.length ≤ 16777216 ∧ Q (.str (Txt.join a ys)) H
/-- the signs of a text -/
abbrev sg (s : Str) : List Nat := TL.tl s
def mkS (l : List Nat) : Str := ⟨l.toArray⟩
theorem sg_mkS (l : List Nat) : sg (mkS l) = l := rfl
theorem mkS_sg (s : Str) : mkS (sg s) = s := TL.ext_tl rfl
theorem mkS_inj {l m : List Nat} : mkS l = mkS m ↔ l = m := ⟨fun h => by have := congrArg sg h; rwa [sg_mkS, sg_mkS] at this, fun h => by rw [h]⟩
/-- the signs of a whole number -/
def nu (i : Int) : List Nat := sg (Str.ofString (toString i))
section
variable {K : PySem.W.Frag} {σ : L2.St} {H : Hp} {Q : VK} {to te : TE}
instance {r : V → List V → Hp → VK → Prop} : Stp (tM1 r to te σ H Q) (to σ H fun x H1 => (∃ a, x = .str a) ∧ te σ H1 fun y H2 => r x [y] H2 Q) := ⟨fun h => h⟩
instance {r : V → List V → Hp → VK → Prop} : Stp (tM0 r to σ H Q) (to σ H fun x H1 => (∃ a, x = .str a) ∧ r x [] H1 Q) := ⟨fun h => h⟩
instance {s : Str} {R : Prop} : Stp ((∃ a, V.str s = .str a) ∧ R) R := ⟨fun h => ⟨⟨s, rfl⟩, h⟩⟩
instance : Stp (tLenU K te σ H Q) (te σ H fun x H1 => ∃ (l : Addr) (ns : List Int), x = .ref l ∧ SqL K H1 l (ns.map V.int) ∧ ns.length ≤ 4000 ∧ Q (.int (unl ns : Nat)) H1) := ⟨fun h => h⟩
theorem k_lenU {l : Addr} {ns : List Int} (hs : SqL K H l (ns.map V.int)) (hl : ns.length ≤ 4000) (h : Q (.int (unl ns : Nat)) H) : ∃ (l' : Addr) (ns : List Int), V.ref l = .ref l' ∧ SqL K H l' (ns.map V.int) ∧ ns.length ≤ 4000 ∧ Q (.int (unl ns : Nat)) H := ⟨l, ns, rfl, hs, hl, h⟩
/-- a number of at most thirty figures -/
def Num30 (i : Int) : Prop := 0 ≤ i ∧ i < 10 ^ 30
theorem log_lt {n : Nat} (h : n < 2 ^ 1900) : n.log2 < 1920 := by
  by_cases c : n = 0
  · subst c; decide
  · have := (Nat.log2_lt c (k := 1900)).mpr h
    omega
theorem k_strI {i : Int} (h0 : i.natAbs < 2 ^ 1900) (h : Q (.str (mkS (nu i))) H) : rStrInt [.int i] H Q := ⟨i, rfl, log_lt h0, by unfold nu at h; rw [mkS_sg] at h; exact h⟩
theorem len_sg (s : Str) : s.length = (sg s).length := TL.len_tl s
theorem k_addS {s t : Str} (hz : (sg s).length + (sg t).length ≤ 100000) (h : Q (.str (mkS (sg s ++ sg t))) H) : xAddS (.str s) (.str t) H Q := ⟨s, t, rfl, rfl, by rw [len_sg, len_sg]; exact sz hz, by
  have e : s ++ t = mkS (sg s ++ sg t) := TL.ext_tl (TL.tl_append s t)
  rw [e]; exact h⟩
theorem k_join {s : Str} {p : Addr} {ys : List Str} (hp : SqL K H p (ys.map V.str)) (hz : (ys.map (·.length)).sum + ys.length * s.length ≤ 16777216) (h : Q (.str (mkS (TL.joinL (sg s) (ys.map sg)))) H) : rJoin K (.str s) [.ref p] H Q :=
  ⟨s, p, ys, rfl, rfl, .inl hp, hz, by
    have e : Txt.join s ys = mkS (TL.joinL (sg s) (ys.map sg)) := TL.ext_tl (by rw [TL.join_eq]; exact TL.tl_join s ys)
    rw [e]; exact h⟩
theorem k_isiS {s : Str} (h : Q (.bl true) H) : rIsi K [.str s, .ty "str"] H Q := k_isi (.base (.str s)) (by decide +kernel) h
end
/-! ### more of texts -/
def g_tokS (mg : Str → Option Value) (x : Str) : Tok := match mg x with
  | some (.str _ t) => t
  | _ => default
theorem tok_mkS {mg : Str → Option Value} {x n : Str} {t : Tok} (h : mg x = some (.str n t)) : mg x = some (.str n (g_tokS mg x)) := by
  unfold g_tokS
  rw [h]
theorem q_isiT {X : Cx} : CallR X (.builtin "isinstance") (rIsiT X.K) := call_isiT
def rLenStr : List V → Hp → VK → Prop := fun xs H Q => ∃ z : Str, xs = [.str z] ∧ z.length ≤ sizeLine ∧ Q (.int z.length) H
theorem q_lenS {X : Cx} : CallR X (.builtin "len") rLenStr := call_len_str
def xInS : R2 := fun x y H Q => ∃ i j, x = .str i ∧ y = .str j ∧ Q (.bl (!(Builtin.Str.occurrences j i 0 j.length 1).isEmpty)) H
def xNotInS : R2 := fun x y H Q => ∃ i j, x = .str i ∧ y = .str j ∧ Q (.bl (!(!(Builtin.Str.occurrences j i 0 j.length 1).isEmpty))) H
def rFind : V → List V → Hp → VK → Prop := fun x xs H Q => ∃ a b, x = .str a ∧ xs = [.str b] ∧ Q (.int (Txt.find a b)) H
def rSplit : V → List V → Hp → VK → Prop := fun x xs H Q => ∃ a b, x = .str a ∧ xs = [.str b] ∧ (b.length == 0) = false ∧ a.length + 2 ≤ sizeLine ∧ rNewStrs (Txt.split a b) H Q
section
variable {K : PySem.W.Frag} {σ : L2.St} {H : Hp} {Q : VK} {te : TE}
instance {R : It → Hp → Prop} : Stp (iStr te σ H R) (te σ H fun v H1 => ∃ x, v = .str x ∧ R (Its x) H1) := ⟨fun h => h⟩
theorem k_lenS {l : List Nat} (hl : l.length ≤ 100000) (h : Q (.int (l.length : Nat)) H) : rLenStr [.str (mkS l)] H Q := ⟨_, rfl, by rw [len_sg, sg_mkS]; exact sz hl, by rw [len_sg, sg_mkS]; exact h⟩
theorem k_notInS {l : List Nat} {c : Nat} (h : Q (.bl (!decide (c ∈ l))) H) : xNotInS (.str ⟨#[c]⟩) (.str (mkS l)) H Q := ⟨_, _, rfl, rfl, by
  rw [StrLaws.found_one]; exact h⟩
theorem k_inS {l : List Nat} {c : Nat} (h : Q (.bl (decide (c ∈ l))) H) : xInS (.str ⟨#[c]⟩) (.str (mkS l)) H Q := ⟨_, _, rfl, rfl, by
  rw [StrLaws.found_one]; exact h⟩
theorem k_split {l : List Nat} {s : Str} {ps : List (List Nat)} (hl : l.length ≤ 99000) (hs : s.length ≠ 0) (hp : Txt.split (mkS l) s = ps.map mkS) (h : ∀ p H', H p = none → Same H H' → H' p = some (.lst (ps.map fun q => V.str (mkS q))) → Q (.ref p) H') : rSplit (.str (mkS l)) [.str s] H Q :=
  ⟨_, _, rfl, rfl, by simpa using hs, by rw [len_sg, sg_mkS]; exact sz (by omega), fun p np => h p _ np (same_new np) (by rw [upd_same, hp, List.map_map]; rfl)⟩
theorem k_ixS {l : List Nat} {i : Nat} {c : Nat} (hl : l.length ≤ 100000) (hc : l[i]? = some c) (h : Q (.str ⟨#[c]⟩) H) : rIxS (.str (mkS l)) (.int i) H Q := ⟨_, _, c, rfl, rfl, by rw [len_sg, sg_mkS]; exact sz hl, atI_nat hc, h⟩
end
theorem split_one {s : Nat} {ps : List (List Nat)} (hs : s < 256) (hne : ps ≠ []) (hp : ∀ p ∈ ps, s ∉ p) : Txt.split (mkS (TL.joinL [s] ps)) ⟨#[s]⟩ = ps.map mkS := by
  have e : mkS (TL.joinL [s] ps) = Txt.join ⟨#[s]⟩ (ps.map mkS) := TL.ext_tl (by
    rw [TL.join_eq, TL.tl_join, List.map_map]
    show TL.joinL [s] ps = TL.joinL [s] (ps.map (TL.tl ∘ mkS))
    rw [show (TL.tl ∘ mkS) = id from rfl, List.map_id])
  rw [e]
  refine TL.split_join (s := s) (S := []) rfl (by simp [hs]) (by simpa using hne) fun p h => ?_
  obtain ⟨q, hq, rfl⟩ := List.mem_map.mp h
  exact hp q hq
/-- rows, each with its end, and what stands behind the last end -/
theorem rows_join (rs : List (List Nat)) (e : Nat) (z : List Nat) : (rs.map fun r => r ++ [e]).flatten ++ z = TL.joinL [e] (rs ++ [z]) := by
  induction rs with
  | nil => rfl
  | cons r t ih =>
    have : TL.joinL [e] (r :: (t ++ [z])) = r ++ ([e] ++ TL.joinL [e] (t ++ [z])) := by
      cases t <;> rfl
    rw [List.cons_append, this, ← ih]
    simp
theorem sg_str (s : String) : sg (Str.ofString s) = s.toList.map Char.toNat := TL.tl_ofString s
theorem nu_nat (n : Nat) : nu (n : Int) = TL.numL n := TL.tl_num n
theorem nu_len {i : Int} (h : 0 ≤ i) {k : Nat} (k0 : 0 < k) (h1 : i < 10 ^ k) : (nu i).length ≤ k := by
  obtain ⟨n, rfl⟩ := Int.eq_ofNat_of_zero_le h
  rw [nu_nat]
  unfold TL.numL
  rw [List.length_map]
  refine (Nat.length_toDigits_le_iff (by decide) k0).mpr ?_
  have : ((n : Nat) : Int) < ((10 ^ k : Nat) : Int) := by rw [Int.natCast_pow]; exact h1
  exact Int.ofNat_lt.mp this
/-- signs behind one another -/
theorem joinL_nil (ps : List (List Nat)) : TL.joinL [] ps = ps.flatten := by
  induction ps with
  | nil => rfl
  | cons p r ih => cases r with
    | nil => simp [TL.joinL]
    | cons q r => show p ++ ([] ++ TL.joinL [] (q :: r)) = _; rw [ih]; simp
theorem joinL_cons (S p : List Nat) (r : List (List Nat)) : TL.joinL S (p :: r) = p ++ (r.map fun q => S ++ q).flatten := by
  induction r generalizing p with
  | nil => simp [TL.joinL]
  | cons q r ih => show p ++ (S ++ TL.joinL S (q :: r)) = _; rw [ih]; simp
theorem sum_le {l : List Nat} {b : Nat} (h : ∀ x ∈ l, x ≤ b) : l.sum ≤ l.length * b := by
  induction l with
  | nil => simp
  | cons x r ih =>
    have h1 := ih fun y hy => h y (List.mem_cons_of_mem _ hy)
    have h2 := h x List.mem_cons_self
    rw [List.sum_cons, List.length_cons, Nat.add_mul]
    omega
theorem flat_le {l : List (List Nat)} {b : Nat} (h : ∀ x ∈ l, x.length ≤ b) : l.flatten.length ≤ l.length * b := by
  rw [List.length_flatten]
  have := sum_le (l := l.map List.length) (b := b) fun x hx => by
    obtain ⟨y, hy, rfl⟩ := List.mem_map.mp hx
    exact h y hy
  rw [List.length_map] at this
  exact this
end Cm

namespace Cm
open PySem PySem.Spec PyProof.Rows L2

/-! ### max(d.values()) -/
def tMaxVals (td : TE) : TE := fun σ H Q => td σ H fun x H1 => ∃ (a : Addr) (kvs : List (Key × V)) (is : List Int), x = V.ref a ∧ H1 a = some (.dK kvs) ∧ kvs.map (·.2) = is.map V.int ∧ is ≠ [] ∧ ∀ m, m ∈ is → (∀ j ∈ is, j ≤ m) → Q (.int m) H1
theorem pe_maxVals {X : Cx} {o : Expr} {p pos apos mpos : Pos} {td : TE} (hc : X.calm = true) (hg : Gl X "max") (hm : X.mg "max" = none) (hd : PE X o td) (hbase : attributeBase o "values" X.env (eval o X.env) = eval o X.env := by rfl) (hline : (apos.endLine == mpos.line) = true := by rfl)
    (hse : starEach [Expr.Call (.Attribute o "values" apos) [] [] mpos] X.env = [(false, eval (Expr.Call (.Attribute o "values" apos) [] [] mpos) X.env)] := by rfl) :
    PE X (.Call (.Name "max" p) [.Call (.Attribute o "values" apos) [] [] mpos] [] pos) (tMaxVals td) := by
  constructor
  intro pins s σ H Q I h
  refine wpAny_Call_Name_kw (ld_blt I hg hm (u := .builtin "max") (by first | rfl | decide +kernel) ?_ (by first | decide +kernel | decide) (by first | decide +kernel | decide))
  rw [hse]
  refine PySem.callWith_builtin1 (wpAny_Call_method0_late hbase hline (thn (hd.run pins s σ H _ I h) ?_))
  rintro v s1 ⟨x, H1, I1, r1, a, kvs, is, rfl, ha, hv, hne, q⟩
  obtain rfl : v = Value.ref a := r1
  obtain ⟨_, hsys, vs, rel, dof⟩ := dk_of I1.hok ha
  obtain ⟨ep, dat⟩ := dof.dictAt
  obtain ⟨ob, es, ho, ex, hdat, hko, hpr, hnd⟩ := id dat
  have lv : vs.length = is.length := by
    have e1 : kvs.length = is.length := by simpa using congrArg List.length hv
    rw [← e1]; exact (KV.length rel).symm
  have l0 : 0 < is.length := List.length_pos_iff.mpr hne
  have vals : ∀ (i : Nat) (v : Value), (∃ k, vs[i]? = some (k, v)) → ∃ t, v = Value.int (is.getD i 0) t := by
    rintro i v ⟨k, hk⟩
    obtain ⟨x, h1, h2⟩ := KV.at' rel hk
    have e1 : (is.map V.int)[i]? = some x := by rw [← hv, List.getElem?_map, h1] <;> rfl
    rw [List.getElem?_map] at e1
    obtain ⟨j, hj, rfl⟩ := Option.map_eq_some_iff.mp e1
    obtain ⟨t, e3⟩ := h2
    exact ⟨t, by rw [e3, List.getD_eq_getElem?_getD, hj] <;> rfl⟩
  refine ⟨"dict", "dict.values", F.plainAttrs_dict, F.slot_dict_values, F.type_dict_values, ⟨ob, ho, ex.1⟩, fun b e => by cases e; exact ⟨ob, ho, ex.2.1⟩, Calls.callWith_builtin rfl (PySem.evalArgs_none ?_)⟩
  refine call_meetsIn F.slot_dict_values ⟨ob, ho, ex.1⟩ F.entry_dict_values (F.args_dict_values_1 _) (meets_dict_values (mixKind X.prog X.w) a hsys) ⟨⟨vs, dof⟩, ?_⟩
  have up : ∀ b u, s1.heap.get? b = some u → (s1.heap.push { cls := .type "dict_values", data := .fields #[.ref a] }).get? b = some u := fun b u e => Heap.get?_push_of_some _ e
  have dat1 := dat.keep up
  have alt : a < s1.heap.objs.size := Heap.lt_size ho
  have sz : (s1.heap.push { cls := .type "dict_values", data := .fields #[.ref a] }).objs.size = s1.heap.objs.size + 1 := Heap.size_push _ _
  refine call_max_walk (wpAny_pyIter_values (v := s1.heap.objs.size) (d := a) ⟨_, Heap.get?_push_size _ rfl, rfl, rfl⟩ dat1 ?_)
  refine ⟨_, _, _, _, _, _, _, rfl, Walks.dictValues (knd := mixKind X.prog X.w) (A := X.A.in1) (I.ok.hd hc) (s1.heap.push { cls := .type "dict_values", data := .fields #[.ref a] }).objs.size a (by rw [sz]; exact Nat.ne_of_lt (Nat.lt_succ_of_lt alt)) vs ep,
    ⟨⟨_, Heap.get?_push_size _ rfl, rfl, rfl⟩, dat1.keep fun b u e => Heap.get?_push_of_some _ e⟩, ?_, by omega, CmpOf.ints_gt (fun i => is.getD i 0) vals, ?_⟩
  · intro b hb
    show b < ((s1.heap.push _).push _).objs.size
    rw [Heap.size_push, Heap.size_push]
    rw [sz] at hb
    rcases List.mem_cons.mp hb with e | hb
    · rw [e]; exact Nat.lt_succ_self _
    · rw [show b = a from List.mem_singleton.mp hb]
      exact Nat.lt_succ_of_lt (Nat.lt_succ_of_lt alt)
  · intro v h' tk hP hk
    obtain ⟨t, rfl⟩ := vals _ v hP
    obtain ⟨b1, b2⟩ := argBest_gt (fun i => is.getD i 0) (vs.length - 1)
    refine ⟨.int _, H1, I1.kept (t' := tk) fun b u e => hk b u (fun hmem => ?_) (Heap.get?_push_of_some _ (up b u e)), ⟨t, rfl⟩, q _ ?_ ?_⟩
    · have e1 := List.mem_singleton.mp hmem
      have e2 := Heap.lt_size e
      rw [sz] at e1
      rw [e1] at e2
      exact Nat.lt_irrefl _ (Nat.lt_of_lt_of_le e2 (Nat.le_succ _))
    · have hb : argBest (fun i j => decide (is.getD i 0 > is.getD j 0)) (vs.length - 1) < is.length := by omega
      rw [List.getD_eq_getElem?_getD, List.getElem?_eq_getElem hb]
      exact List.getElem_mem hb
    · intro j hj
      obtain ⟨i, hi, rfl⟩ := List.mem_iff_getElem.mp hj
      have e2 : is.getD i 0 = is[i] := by rw [List.getD_eq_getElem?_getD, List.getElem?_eq_getElem hi] <;> rfl
      rw [← e2]
      exact b2 i (by omega)

/-! ### fields and methods of an instance -/
section
variable {K : PySem.W.Frag} {σ : L2.St} {H : Hp} {Q : VK} {ta tv : TE} {t : TA} {f m : Str} {a C dx : Addr} {fs : List (Str × V)}
/-- x.f is read -/
def gF (K : PySem.W.Frag) (f : Str) (x : V) (H : Hp) (Q : VK) : Prop := ∃ a C dx fs v, x = .ref a ∧ H a = some (.ins C dx fs) ∧ Cls K C ∧ NoAttr K C f ∧ fs.lookup f = some v ∧ Q v H
instance : Stp (tFld K ta f σ H Q) (ta σ H fun x H1 => gF K f x H1 Q) := ⟨id⟩
theorem k_gF {v : V} (e : H a = some (.ins C dx fs)) (c : Cls K C) (n : NoAttr K C f) (l : fs.lookup f = some v) (h : Q v H) : gF K f (.ref a) H Q := ⟨a, C, dx, fs, v, rfl, e, c, n, l, h⟩
/-- x.f = y is written -/
def pF (K : PySem.W.Frag) (f : Str) (x y : V) (H : Hp) (N : Hp → Prop) : Prop := ∃ a C dx fs, x = .ref a ∧ H a = some (.ins C dx fs) ∧ Cls K C ∧ NoAttr K C f ∧ fs.length < 1000 ∧ N (upd H a (.ins C dx (putF f y fs)))
instance {nx bk ct : L2.St → Hp → Prop} {rt : VK} : Stp (sFld K ta tv f ⟨nx, rt, bk, ct⟩ σ H) (tv σ H fun y H1 => ta σ H1 fun x H2 => pF K f x y H2 (nx σ)) := ⟨id⟩
theorem k_pF {y : V} {N : Hp → Prop} (e : H a = some (.ins C dx fs)) (c : Cls K C) (n : NoAttr K C f) (l : fs.length < 1000) (h : N (upd H a (.ins C dx (putF f y fs)))) : pF K f (.ref a) y H N := ⟨a, C, dx, fs, rfl, e, c, n, l, h⟩
/-- x.m is a method's call -/
def mF (C : Addr) (m : Str) (x : V) (H : Hp) (P : Prop) : Prop := ∃ a dx fs, x = .ref a ∧ H a = some (.ins C dx fs) ∧ fs.lookup m = none ∧ P
instance {sp : Sp} {E : XK} : Stp (tMeth C m sp [] E ta t σ H Q) (ta σ H fun x H1 => mF C m x H1 (t σ H1 fun vs H2 => sp (x :: vs) H2 Q E)) := ⟨fun h => by
  unfold tMeth
  simp only [List.append_nil]
  exact h⟩
theorem k_mF {P : Prop} (e : H a = some (.ins C dx fs)) (l : fs.lookup m = none) (h : P) : mF C m (.ref a) H P := ⟨a, dx, fs, rfl, e, l, h⟩
/-- a new instance -/
def newI (C : Addr) (sp : Sp) (E : XK) (vs : List V) (H : Hp) (Q : VK) : Prop := ∀ x dx, H x = none → H dx = none → dx ≠ x → sp (.ref x :: vs) (upd (upd H dx (.own x)) x (.ins C dx [])) (fun v H2 => v = .non ∧ Q (.ref x) H2) E
instance {sp : Sp} {E : XK} : Stp (tMake C sp [] E t σ H Q) (t σ H fun vs H1 => newI C sp E vs H1 Q) := ⟨fun h => by
  unfold tMake
  simp only [List.append_nil]
  exact h⟩
end

/-! ### methods and makings that may raise, in a try -/
section
variable {X : Cx} {CX : CXT} {k : Nat} {f C : Addr} {fd : FuncData} {ps : List Str} {sp : Sp} {E : L2.St → XK} {x m : Str} {p pos apos : Pos} {e o : Expr} {es : List Expr} {ta : TE} {t : TA}
def tMtS (C : Addr) (m : Str) (sp : Sp) (E : L2.St → XK) (ta : TE) (t : TA) : TE := fun σ H Q => ta σ H fun x H1 => ∃ a dx fs, x = .ref a ∧ H1 a = some (.ins C dx fs) ∧ fs.lookup m = none ∧ t σ H1 fun vs H2 => sp (x :: vs) H2 Q (E σ)
theorem pe_mtS {pl : Sem Bool} (he : PE X o ta) (c : Cls X.K C) (hm : Meth X.K C m f) (F : FnOk X.prog X.w X.K X.mg X.base CX k f fd ps sp) (hr : Room k X.A) (hb : Binds X.K fd ps []) (hx : ∀ σ, PassesAt CX X σ (E σ)) (ha : PA X (e :: es) t)
    (hst : starEach (e :: es) X.env = (false, eval e X.env) :: starEach es X.env := by rfl) (hpl : (backTo pos (starEach es X.env)).any (·.1) = false := by rfl)
    (ht : eval (.Call (.Attribute o m apos) (e :: es) [] pos) X.env = (do
      let ov ← eval o X.env
      standAt apos.atName
      let (f, first) ← holding [ov] (getMethod ov m pl)
      callWith pos f first (backTo pos (starEach (e :: es) X.env)) (backToKw pos (keywordEach [] X.env))) := by rfl) :
    PE X (.Call (.Attribute o m apos) (e :: es) [] pos) (tMtS C m sp E ta t) := by
  refine ⟨fun pins s σ H Q I h => ?_⟩
  refine PySem.W.methodCall_KW (pl := pl) (thn (he.run pins s σ H _ I h) fun u s1 ⟨x, H1, I1, rx, a, dx, fs, ex, ea, l, q⟩ => ?_) ht
  subst ex
  obtain rfl : u = Value.ref a := rx
  refine getmeth_ok I1 ea c hm l ?_
  refine PySem.W.callWith_K (first := [.ref a]) (h₀ := X.base) I.ok.mod.kin hm.kp (thn (ha.run pos pins s1 σ H1 _ I1 q) fun us s2 ⟨vs, H2, I2, r, q2⟩ => ⟨I2.kIn, ?_⟩) hst hpl
  exact run_fnS (us := .ref a :: us) (vs := .ref a :: vs) F hr hb (hx σ) I2 (.cons rfl r) q2
def tMakeS (C : Addr) (sp : Sp) (E : L2.St → XK) (t : TA) : TE := fun σ H Q => t σ H fun vs H1 => ∀ x dx, H1 x = none → H1 dx = none → dx ≠ x → sp (.ref x :: vs) (upd (upd H1 dx (.own x)) x (.ins C dx [])) (fun v H2 => v = .non ∧ Q (.ref x) H2) (E σ)
theorem pe_makeS (M : Mk X.K C f) (F : FnOk X.prog X.w X.K X.mg X.base CX k f fd ps sp) (hr : Room (k + 1) X.A) (hg : Gl X x) (hm : X.mg x = some (.ref C)) (hb : Binds X.K fd ps []) (hx : ∀ σ, PassesAt CX X σ (E σ))
    (ha : PA X (e :: es) t) (hdb : (x == ("__debug__" : Str)) = false := by decide) (he : starEach (e :: es) X.env = (false, eval e X.env) :: starEach es X.env := by rfl) (hpl : (backTo pos (starEach es X.env)).any (·.1) = false := by rfl) :
    PE X (.Call (.Name x p) (e :: es) [] pos) (tMakeS C sp E t) := by
  refine ⟨fun pins s σ H Q I h => ?_⟩
  refine wpAny_Call_Name_kw (ld_glob I hg hm ?_ hdb)
  refine PySem.W.callWith_K (h₀ := X.base) I.ok.mod.kin M.kp (thn (ha.run pos pins s σ H _ I h) fun us s1 ⟨vs, H1, I1, r, q⟩ => ⟨I1.kIn, ?_⟩) he hpl
  have hq := q (s1.heap.objs.size + 1) s1.heap.objs.size (I1.hok.fresh (Nat.le_succ _)) (I1.hok.fresh (Nat.le_refl _)) (Nat.ne_of_lt (Nat.lt_succ_self _))
  have I2 := Inv.made (C := C) I1
  have r2 : Vals (V.ref (s1.heap.objs.size + 1) :: vs) (Value.ref (s1.heap.objs.size + 1) :: us) := .cons rfl r
  have hl : (Value.ref (s1.heap.objs.size + 1) :: us ++ []).length = ps.length := by
    have e := r2.length
    rw [F.len _ _ _ _ hq] at e
    rw [List.append_nil]
    exact e.symm
  have b := hb _ (Value.ref (s1.heap.objs.size + 1) :: us) I2.kIn hl
  rw [List.append_nil] at b
  refine wpAny_call (make_map (f := f) I1.kIn M.makes M.init (beq_iff_eq.mp M.fn) (codeAny_mono (F.run _ X.stack _ _ ⟨Value.ref (s1.heap.objs.size + 1) :: us, []⟩ (Value.ref (s1.heap.objs.size + 1) :: us) _ _ (E σ) (hr.make C us [])
    (I2.env0.make C us []) b r2 hq) fun r s' hq' => ?_))
  cases r with
  | error e => exact hx σ pins _ _ e s' I2 hq'
  | ok fl =>
    cases fl with
    | ret u =>
      obtain ⟨v, H', I3, rv, ev, q3⟩ := I2.after hq'
      subst ev
      exact ⟨rv, ⟨V.ref (s1.heap.objs.size + 1), H', I3, rfl, q3⟩⟩
    | next => exact False.elim hq'
    | brk => exact False.elim hq'
    | cont => exact False.elim hq'
end
section
variable {σ : L2.St} {H : Hp} {Q : VK} {ta : TE} {t : TA} {m : Str} {C : Addr}
instance {sp : Sp} {E : L2.St → XK} : Stp (tMtS C m sp E ta t σ H Q) (ta σ H fun x H1 => mF C m x H1 (t σ H1 fun vs H2 => sp (x :: vs) H2 Q (E σ))) := ⟨id⟩
instance {sp : Sp} {E : L2.St → XK} : Stp (tMakeS C sp E t σ H Q) (t σ H fun vs H1 => newI C sp (E σ) vs H1 Q) := ⟨id⟩
end
/-! ### a comprehension over a range whose items are new things, each by itself -/
section
variable {K : PySem.W.Frag} {σ : L2.St} {H1 : Hp} {Q : VK} {g : TG} {tt : TT} {te : TE} {vs : List Nat}
theorem lc_rowsR {QD : Addr → Hp → Prop} {lo : Int} {n : Nat} (hz : n ≤ 50000) (F : Nat → HO)
    (step : ∀ (i : Nat) H', i < n → Same H1 H' → ∀ (R : V → Hp → Prop) (R0 : Hp → Prop), (∀ p H'', H' p = none → Same H' H'' → H'' p = some (F i) → R (.ref p) H'') →
      g (.int (lo + (i : Nat))) (wipe σ vs) H' fun σ2 H2 => wipe σ2 vs = wipe σ vs ∧ tt σ2 H2 fun b H3 => if b = true then te σ2 H3 R else R0 H3)
    (h : ∀ (D : Addr) (rs : List Addr) (H' : Hp), H1 D = none → Same H1 H' → H' D = some (.lst (rs.map V.ref)) → rs.length = n → rs.Nodup → D ∉ rs → (∀ r ∈ rs, H1 r = none) → (∀ (j : Nat) r, rs[j]? = some r → H' r = some (F j)) → QD D H') :
    ∀ D, H1 D = none → ∃ W : Nat → Nat → Hp → Prop, (∃ m, W 0 m (upd H1 D (.lst []))) ∧ ∀ i m H, W i m H →
      ((Itr lo n).stop i H ∧ QD D H) ∨ ((Itr lo n).go i H ∧ ∃ Nx : Hp → Prop, (∀ H', Nx H' → ∃ m', m' < m ∧ W (i + 1) m' H') ∧ ∀ x H', (Itr lo n).yld i H x H' → g x (wipe σ vs) H' fun σ2 H2 => wipe σ2 vs = wipe σ vs ∧ tt σ2 H2 fun b H3 =>
        if b = true then te σ2 H3 fun y H4 => ∃ acc, H4 D = some (.lst acc) ∧ acc.length < sizeLine ∧ Nx (upd H4 D (.lst (acc ++ [y]))) else Nx H3) := by
  refine fun D nD => lc_range (fun i H => Same H1 H ∧ ∃ rs : List Addr, H D = some (.lst (rs.map V.ref)) ∧ rs.length = i ∧ rs.Nodup ∧ D ∉ rs ∧ (∀ r ∈ rs, H1 r = none) ∧ ∀ (j : Nat) r, rs[j]? = some r → H r = some (F j))
    ⟨same_new nD, [], by rw [upd_same]; rfl, rfl, List.nodup_nil, by simp, (fun r z => by cases z), (fun j r z => by simp at z)⟩ ?_ ?_
  · rintro i H hi ⟨sm, rs, hD, lr, nd, dr, fr, at_⟩
    refine step i H hi sm _ _ (fun p H'' np s2 ep => ⟨_, s2 _ _ hD, szl (by simp; omega), same_mut (sm.trans s2) nD, rs ++ [p], ?_, by simp [lr], ?_, ?_, ?_, ?_⟩)
    · rw [upd_same, List.map_append]; rfl
    · rw [List.nodup_append]
      refine ⟨nd, by simp, fun r hr q hq e => ?_⟩
      rw [List.mem_singleton.mp hq] at e
      subst e
      obtain ⟨j, hj⟩ := List.mem_iff_getElem?.mp hr
      rw [at_ j _ hj] at np
      cases np
    · intro z
      rcases List.mem_append.mp z with z | z
      · exact dr z
      · rw [List.mem_singleton.mp z] at hD
        rw [hD] at np
        cases np
    · intro r hr
      rcases List.mem_append.mp hr with hr | hr
      · exact fr r hr
      · rw [List.mem_singleton.mp hr]; exact sm.free np
    · intro j r hr
      have rD : r ≠ D := fun e => by
        rcases List.mem_append.mp (List.mem_of_getElem? hr) with z | z
        · exact dr (e ▸ z)
        · rw [List.mem_singleton.mp z] at e
          rw [e, hD] at np
          cases np
      rw [upd_ne rD]
      by_cases c : j < rs.length
      · rw [List.getElem?_append_left c] at hr
        exact s2 _ _ (at_ j r hr)
      · have hj : j = i := by
          have := (List.getElem?_eq_some_iff.mp hr).1
          simp at this
          omega
        subst hj
        rw [List.getElem?_append_right (by omega), lr, Nat.sub_self] at hr
        cases hr
        exact ep
  · rintro H ⟨sm, rs, hD, lr, nd, dr, fr, at_⟩
    exact h D rs H nD sm hD lr nd dr fr at_
end
/-! ### dicts with whole numbers for keys -/
section
variable {σ : L2.St} {H : Hp} {Q : VK} {td ty tx tv : TE} {p : Addr} {kvs : List (Key × V)} {t : Int} {v z : V} {nx bk ct : L2.St → Hp → Prop} {rt : VK}
def newD (H : Hp) (Q : VK) : Prop := ∀ p, H p = none → Q (.ref p) (upd H p (.dK []))
instance : Stp (tDNewK σ H Q) (newD H Q) := ⟨id⟩
theorem kD (h : ∀ p H', H p = none → Same H H' → H' p = some (.dK []) → Q (.ref p) H') : newD H Q := fun p np => h p _ np (same_new np) upd_same
def aD (x : V) (H : Hp) (R : Addr → Prop) : Prop := ∃ a, x = .ref a ∧ IsD H a ∧ R a
def gD2 (a : Addr) (y z : V) (H : Hp) (Q : VK) : Prop := ∃ o, DGet H a y o ∧ Q (o.getD z) H
instance : Stp (tDGet2 td ty tx σ H Q) (td σ H fun x H1 => aD x H1 fun a => ty σ H1 fun y H2 => tx σ H2 fun z H3 => gD2 a y z H3 Q) := ⟨id⟩
theorem k_aD {R : Addr → Prop} (e : H p = some (.dK kvs)) (h : R p) : aD (.ref p) H R := ⟨p, rfl, .inl ⟨kvs, .inl e⟩, h⟩
theorem k_gD2 (e : H p = some (.dK kvs)) (h : Q ((valV kvs (.inl t)).getD z) H) : gD2 p (.int t) z H Q := ⟨_, DGet.k (k := .inl t) e, h⟩
def pD (x y v : V) (H : Hp) (N : Hp → Prop) : Prop := ∃ a H4, x = .ref a ∧ DPut H a y v H4 ∧ N H4
instance : Stp (sDPut td ty tv ⟨nx, rt, bk, ct⟩ σ H) (tv σ H fun v H1 => td σ H1 fun x H2 => ty σ H2 fun y H3 => pD x y v H3 (nx σ)) := ⟨id⟩
theorem k_pD {N : Hp → Prop} (e : H p = some (.dK kvs)) (l : kvs.length < 100000) (h : N (upd H p (.dK (putK kvs (.inl t) v)))) : pD (.ref p) (.int t) v H N := ⟨p, _, rfl, DPut.k (k := .inl t) e (szl l), h⟩
def gMx (x : V) (H : Hp) (Q : VK) : Prop := ∃ (a : Addr) (kvs : List (Key × V)) (is : List Int), x = V.ref a ∧ H a = some (.dK kvs) ∧ kvs.map (·.2) = is.map V.int ∧ is ≠ [] ∧ ∀ m, m ∈ is → (∀ j ∈ is, j ≤ m) → Q (.int m) H
instance : Stp (tMaxVals td σ H Q) (td σ H fun x H1 => gMx x H1 Q) := ⟨id⟩
theorem k_gMx {is : List Int} (e : H p = some (.dK kvs)) (hv : kvs.map (·.2) = is.map V.int) (ne : is ≠ []) (h : ∀ m, m ∈ is → (∀ j ∈ is, j ≤ m) → Q (.int m) H) : gMx (.ref p) H Q := ⟨p, kvs, is, rfl, e, hv, ne, h⟩
end
/-! ### list.insert -/
def rIns : V → List V → Hp → VK → Prop := fun x vs H Q => ∃ (l : Addr) (xs : List V) (i : Int) (y : V), x = .ref l ∧ vs = [.int i, y] ∧ H l = some (.lst xs) ∧ xs.length < sizeLine ∧ 0 ≤ i ∧ i < 2 ^ 63 ∧ Q .non (upd H l (.lst (xs.take i.toNat ++ [y] ++ xs.drop i.toNat)))
theorem k_ins {H : Hp} {Q : VK} {l : Addr} {xs : List V} {i : Int} {y : V} (e : H l = some (.lst xs)) (hl : xs.length < 100000) (h0 : 0 ≤ i) (h1 : i < 1000000) (h : Q .non (upd H l (.lst (xs.take i.toNat ++ [y] ++ xs.drop i.toNat)))) : rIns (.ref l) [.int i, y] H Q := ⟨l, xs, i, y, rfl, rfl, e, szl hl, h0, by omega, h⟩
/-! ### reads of a dict, loops over its keys -/
section
variable {σ : L2.St} {H : Hp} {Q : VK} {td ty : TE} {p : Addr} {kvs : List (Key × V)} {t : Int} {v : V} {nx bk ct : L2.St → Hp → Prop} {rt : VK}
def gD1 (x y : V) (H : Hp) (Q : VK) : Prop := ∃ a v, x = .ref a ∧ DGet H a y (some v) ∧ Q v H
instance : Stp (tDGet td ty σ H Q) (td σ H fun x H1 => ty σ H1 fun y H2 => gD1 x y H2 Q) := ⟨id⟩
theorem k_gD1 (e : Rd H p (.dK kvs)) (hv : valV kvs (.inl t) = some v) (h : Q v H) : gD1 (.ref p) (.int t) H Q := ⟨p, v, rfl, .inl ⟨kvs, .inl t, e, rfl, hv.symm⟩, h⟩
theorem upd_self {H : Hp} {d : Addr} {u : HO} (h : H d = some u) : upd H d u = H := by
  funext b
  unfold upd
  split
  · rename_i e; rw [e, h]
  · rfl
/-- a for over the keys of a dict of numbers; the heap stays -/
theorem forD {g : TG} {tb : TS} {D : Ends} (hd : H p = some (.dK kvs)) (Pv : Nat → L2.St → Prop) (h0 : Pv 0 σ)
    (htd : ∀ (R : V → Hp → Prop) od, R (.ref p) (upd H p (.frz od (.dK kvs))) → td σ (upd H p (.frz od (.dK kvs))) R)
    (hs : ∀ (od : Obj) (i : Nat) k v σ, kvs[i]? = some (k, v) → Pv i σ → ∀ (N B C : L2.St → Hp → Prop) (rt : VK), (∀ σ', Pv (i + 1) σ' → N σ' (upd H p (.frz od (.dK kvs)))) → (∀ v, D.rt v H → rt v (upd H p (.frz od (.dK kvs)))) →
      g (kV k) σ (upd H p (.frz od (.dK kvs))) fun σ2 H2 => tb ⟨N, rt, B, C⟩ σ2 H2)
    (fin : ∀ σ', Pv kvs.length σ' → D.nx σ' H) : tLock (tFor (iKeys td) g tb) D σ H := by
  refine ⟨p, .dK kvs, hd, trivial, fun od => ?_⟩
  refine htd _ od ⟨p, od, rfl, .inl ⟨kvs, upd_same, ?_⟩⟩
  have back : upd (upd H p (.frz od (.dK kvs))) p (.dK kvs) = H := by rw [upd_upd, upd_self hd]
  refine for_it walk_keys (fun i σ' H' => H' = upd H p (.frz od (.dK kvs)) ∧ Pv i σ') ⟨rfl, h0⟩ (fun i σ' H' _ e => by rw [e.1]; exact upd_same) ?_ ?_
  · rintro i x σ' H' H'' hi ⟨rfl, pv⟩ ⟨rfl, k, v, hkv, rfl⟩
    exact hs od i k v σ' hkv pv _ _ _ _ (fun σ' h => ⟨rfl, h⟩) (fun v h => ⟨upd_same, by rw [back]; exact h⟩)
  · rintro σ' H' ⟨rfl, pv⟩
    exact ⟨upd_same, by rw [back]; exact fin σ' pv⟩
end
/-- a dict of counts -/
structure Cnt (kvs : List (Key × V)) (c : Int → Nat) (m : Nat) : Prop where
  isI : ∃ is : List Int, kvs.map (·.2) = is.map V.int
  val : ∀ t, valV kvs (.inl t) = if c t = 0 then none else some (.int (c t : Nat))
  len : kvs.length ≤ m
theorem Cnt.nil : Cnt [] (fun _ => 0) 0 := ⟨⟨[], rfl⟩, fun t => by rw [valV_nil]; rfl, Nat.le_refl _⟩
theorem putK_lenN (c : List (Key × V)) (k : Key) (x : V) : (putK c k x).length ≤ c.length + 1 := by
  unfold putK
  split
  · rw [List.length_map]; omega
  · rw [List.length_append]; simp
theorem mapK_ints {k : Key} {x : Int} : ∀ (kvs : List (Key × V)) (is : List Int), kvs.map (·.2) = is.map V.int → ∃ is : List Int, (kvs.map fun kv => if kv.1 = k then (kv.1, V.int x) else kv).map (·.2) = is.map V.int
  | [], _, _ => ⟨[], rfl⟩
  | a :: r, [], h => by simp at h
  | a :: r, j :: js, h => by
    simp only [List.map_cons, List.cons.injEq] at h
    obtain ⟨is', h'⟩ := mapK_ints r js h.2
    by_cases c : a.1 = k
    · exact ⟨x :: is', by rw [List.map_cons, List.map_cons, if_pos c, h']; rfl⟩
    · exact ⟨j :: is', by rw [List.map_cons, List.map_cons, if_neg c, h', h.1]; rfl⟩
theorem putK_ints {kvs : List (Key × V)} {k : Key} {x : Int} (h : ∃ is : List Int, kvs.map (·.2) = is.map V.int) : ∃ is : List Int, (putK kvs k (.int x)).map (·.2) = is.map V.int := by
  obtain ⟨is, h⟩ := h
  unfold putK
  split
  · exact mapK_ints kvs is h
  · exact ⟨is ++ [x], by rw [List.map_append, List.map_append, h]; rfl⟩
theorem Cnt.put {kvs : List (Key × V)} {c : Int → Nat} {m : Nat} (h : Cnt kvs c m) (t : Int) {x : Int} (hx : x = ((c t + 1 : Nat) : Int)) : Cnt (putK kvs (.inl t) (.int x)) (fun s => if s = t then c s + 1 else c s) (m + 1) := by
  obtain ⟨h1, h2, h3⟩ := h
  refine ⟨putK_ints h1, fun s => ?_, Nat.le_trans (putK_lenN _ _ _) (by omega)⟩
  rw [valV_put]
  by_cases e : s = t
  · subst e
    rw [if_pos rfl, if_pos rfl, if_neg (by omega), hx]
  · rw [if_neg (fun z => e (by simpa using z)), if_neg e]
    exact h2 s
theorem Cnt.get {kvs : List (Key × V)} {c : Int → Nat} {m : Nat} (h : Cnt kvs c m) (t : Int) : (valV kvs (.inl t)).getD (.int 0) = .int (c t : Nat) := by
  rw [h.val t]
  split
  · rename_i e
    rw [e]; rfl
  · rfl
theorem Cnt.mem {kvs : List (Key × V)} {c : Int → Nat} {m : Nat} (h : Cnt kvs c m) {is : List Int} (hi : kvs.map (·.2) = is.map V.int) {t : Int} (ht : c t ≠ 0) : ((c t : Nat) : Int) ∈ is := by
  have hv := h.val t
  rw [if_neg ht] at hv
  unfold valV at hv
  obtain ⟨kv, hk, e⟩ := Option.map_eq_some_iff.mp hv
  have hm : V.int ((c t : Nat) : Int) ∈ is.map V.int := by
    rw [← hi, ← e]
    exact List.mem_map_of_mem (List.mem_of_find?_eq_some hk)
  obtain ⟨y, hy, e2⟩ := List.mem_map.mp hm
  cases e2
  exact hy
theorem Cnt.ext {kvs : List (Key × V)} {c c' : Int → Nat} {m m' : Nat} (h : Cnt kvs c m) (e : ∀ t, c t = c' t) (l : m ≤ m') : Cnt kvs c' m' := by
  obtain rfl : c = c' := funext e
  exact ⟨h.isI, h.val, Nat.le_trans h.len l⟩
/-! ### a list told by its places -/
theorem getR {n l : Nat} {f : Nat → Int} (h : l < n) : ((List.range n).map f)[l]? = some (f l) := by
  rw [List.getElem?_map, List.getElem?_range h]; rfl
theorem setR {n l : Nat} {f : Nat → Int} {v : Int} : ((List.range n).map f).set l v = (List.range n).map fun j => if j = l then v else f j := by
  refine List.ext_getElem? fun k => ?_
  rw [List.getElem?_set]
  by_cases c : l = k
  · subst c
    rw [if_pos rfl]
    by_cases d : l < n
    · rw [if_pos (by simpa using d), getR d, if_pos rfl]
    · rw [if_neg (by simpa using d), List.getElem?_eq_none (by simpa using d)]
  · rw [if_neg c]
    by_cases d : k < n
    · rw [getR d, getR d, if_neg (fun e => c e.symm)]
    · rw [List.getElem?_eq_none (by simpa using d), List.getElem?_eq_none (by simpa using d)]
/-! ### a range with a step; bits to the right -/
instance {σ : L2.St} {H : Hp} {ta : TA} {R : It → Hp → Prop} : Stp (iRng3 ta σ H R) (ta σ H fun vs H1 => ∃ (i j c : Int) (n : Nat), vs = [.int i, .int j, .int c] ∧ RgC i j c n ∧ R (Itc i c n) H1) := ⟨id⟩
theorem forC {σ : L2.St} {H : Hp} {nx : L2.St → Hp → Prop} {rt : VK} {lo c : Int} {n : Nat} {g : TG} {tb : TS} (Pv : Nat → L2.St → Hp → Prop) (h0 : Pv 0 σ H)
    (hs : ∀ (i : Nat) σ H, i < n → Pv i σ H → g (.int (lo + (i : Nat) * c)) σ H fun σ2 H2 => tb ⟨Pv (i + 1), rt, nx, Pv (i + 1)⟩ σ2 H2) (hd : ∀ σ H, Pv n σ H → nx σ H) :
    ∃ W : Nat → Nat → L2.St → Hp → Prop, (∃ m, W 0 m σ H) ∧ ∀ i m σ H, W i m σ H →
      ((Itc lo c n).stop i H ∧ nx σ H) ∨ ((Itc lo c n).go i H ∧ ∃ N : L2.St → Hp → Prop, (∀ σ' H', N σ' H' → ∃ m', m' < m ∧ W (i + 1) m' σ' H') ∧ ∀ x H', (Itc lo c n).yld i H x H' → g x σ H' fun σ2 H2 => tb ⟨N, rt, nx, N⟩ σ2 H2) :=
  for_rangeC (D := ⟨nx, rt, fun _ _ => False, fun _ _ => False⟩) Pv h0 hs hd
def xShr : R2 := rI (fun _ j => 0 ≤ j) fun i j => .int (i / 2 ^ j.toNat)
theorem k_shr {H : Hp} {Q : VK} {i j : Int} (hc : 0 ≤ j) (h : Q (.int (i / 2 ^ j.toNat)) H) : xShr (.int i) (.int j) H Q := ⟨i, j, rfl, rfl, hc, h⟩
/-! ### dict(d), len(d), k in d -/
def rDictD : List V → Hp → VK → Prop := fun xs H Q => ∃ (a : Addr) (kvs : List (Key × V)), xs = [.ref a] ∧ Rd H a (.dK kvs) ∧ ∀ p, H p = none → Q (.ref p) (upd H p (.dK kvs))
theorem q_dictD {X : Cx} : CallR X (.type "dict") rDictD := call_dictD
def rLenD : List V → Hp → VK → Prop := fun xs H Q => ∃ (a : Addr) (kvs : List (Key × V)), xs = [V.ref a] ∧ H a = some (.dK kvs) ∧ Q (.int kvs.length) H
theorem q_lenD {X : Cx} : CallR X (.builtin "len") rLenD := call_lenD
section
variable {σ : L2.St} {H : Hp} {Q : VK} {td ty : TE} {p : Addr} {kvs : List (Key × V)} {t : Int}
def iD (neg : Bool) (y x : V) (H : Hp) (Q : VK) : Prop := ∃ a o, x = .ref a ∧ DGet H a y o ∧ Q (.bl (if neg then !o.isSome else o.isSome)) H
instance : Stp (tDIn ty td σ H Q) (ty σ H fun y H1 => td σ H1 fun x H2 => iD false y x H2 Q) := ⟨id⟩
instance : Stp (tDNotIn ty td σ H Q) (ty σ H fun y H1 => td σ H1 fun x H2 => iD true y x H2 Q) := ⟨id⟩
theorem k_iD {neg : Bool} (e : H p = some (.dK kvs)) (h : Q (.bl (if neg then !(valV kvs (.inl t)).isSome else (valV kvs (.inl t)).isSome)) H) : iD neg (.int t) (.ref p) H Q := ⟨p, _, rfl, DGet.k (k := .inl t) e, h⟩
theorem k_dictD (e : H p = some (.dK kvs)) (h : ∀ q H', H q = none → Same H H' → H' q = some (.dK kvs) → Q (.ref q) H') : rDictD [.ref p] H Q := ⟨p, kvs, rfl, .inl e, fun q nq => h q _ nq (same_new nq) upd_same⟩
theorem k_lenD (e : H p = some (.dK kvs)) (h : Q (.int kvs.length) H) : rLenD [.ref p] H Q := ⟨p, kvs, rfl, e, h⟩
end
theorem u65 {k : Nat} {A : Around} (r : Room k A) : A.units + 65 < cLine := by have := r.un; omega
end Cm

namespace HT
open PySem PySem.Spec PyProof.Rows
section
variable {prog : Program} {w : World} {A : Around} {E : Value → Shared → Prop} {s : Shared}
/-! ### t[::-1] -/
theorem sliceApplied_rev {sl : Addr} {vs : Value} {n : Nat} {Q : Int × Int × Nat → Shared → Prop} (hs : s.heap.IsSliceOf sl .none .none vs) (ps : IsPart vs (some (-1)))
    (h : Q ((n : Int) - 1, -1, n) s) : wpAny (model prog w) A (Builtin.Slice.sliceApplied (.ref sl) (pure (n : Int))) Q E s := by
  obtain ⟨os, hos, hcs, hds⟩ := id hs
  unfold Builtin.Slice.sliceApplied Builtin.Slice.sliceFields
  refine wpAny_bind (wpAny_bind (wpAny_field hos hds (x := .none) rfl (wpAny_bind (wpAny_field hos hds (x := .none) rfl (wpAny_bind (wpAny_field hos hds (x := vs) rfl (wpAny_pure ?_)))))))
  refine wpAny_bind (slicePart_ ps ?_)
  show wpAny _ _ (if ((-1 : Int) == 0) = true then _ else _) _ _ s
  rw [if_neg (by decide)]
  refine wpAny_bind (slicePart_none (wpAny_bind (slicePart_none (wpAny_bind (wpAny_pure ?_)))))
  show wpAny _ _ (match Builtin.Slice.sliceAdjust none none (-1) (n : Int) with | (lo, hi) => pure (lo, (-1 : Int), Builtin.Slice.slicePlaces lo hi (-1))) _ _ s
  rw [show Builtin.Slice.sliceAdjust none none (-1) (n : Int) = ((n : Int) - 1, -1) by unfold Builtin.Slice.sliceAdjust; simp]
  show wpAny _ _ (pure ((n : Int) - 1, (-1 : Int), Builtin.Slice.slicePlaces ((n : Int) - 1) (-1) (-1))) _ _ s
  have e : Builtin.Slice.slicePlaces ((n : Int) - 1) (-1) (-1) = n := by
    unfold Builtin.Slice.slicePlaces
    rw [if_neg (by decide)]
    split
    · rw [show (- -1 : Int) = 1 by decide, Int.ediv_one]; omega
    · omega
  rw [e]
  exact wpAny_pure h
theorem fm_congr {α β : Type} {f g : α → Option β} : ∀ l : List α, (∀ x ∈ l, f x = g x) → l.filterMap f = l.filterMap g
  | [], _ => rfl
  | a :: r, h => by
    rw [List.filterMap_cons, List.filterMap_cons, h a List.mem_cons_self, fm_congr r fun x hx => h x (List.mem_cons_of_mem _ hx)]
theorem pick_rev (xs : Array Value) : ((List.range xs.size).filterMap fun (m : Nat) => xs[((xs.size : Int) - 1 + (m : Int) * -1).toNat]?).toArray = xs.toList.reverse.toArray := by
  congr 1
  refine List.ext_getElem? fun i => ?_
  have e : (List.range xs.size).filterMap (fun (m : Nat) => xs[((xs.size : Int) - 1 + (m : Int) * -1).toNat]?) = (List.range xs.size).map fun m => xs.toList.getD (xs.size - 1 - m) .none := by
    rw [← List.filterMap_eq_map]
    refine fm_congr _ fun m hm => ?_
    have hm' := List.mem_range.mp hm
    have : ((xs.size : Int) - 1 + (m : Int) * -1).toNat = xs.size - 1 - m := by omega
    rw [this]
    have hl : xs.size - 1 - m < xs.size := by omega
    simp [List.getD_eq_getElem?_getD, hl]
  rw [e, List.getElem?_map]
  by_cases c : i < xs.size
  · rw [List.getElem?_range c, List.getElem?_reverse (by simpa using c)]
    have hl : xs.size - 1 - i < xs.size := by omega
    simp [List.getD_eq_getElem?_getD, hl]
  · rw [List.getElem?_eq_none (by simpa using c), List.getElem?_eq_none (by simpa using c)]
    rfl
theorem getItem_tuple_rev {t sl : Addr} {items : Array Value} {vs : Value} {Q : Value → Shared → Prop} (ht : IsTup s.heap t items) (hs : s.heap.IsSliceOf sl .none .none vs) (ps : IsPart vs (some (-1)))
    (h : Q (.ref s.heap.objs.size) { s with heap := s.heap.push { cls := .type "tuple", data := .seq items.toList.reverse.toArray } })
    (hsz : items.size ≤ sizeLine) : wpAny (model prog w) A (getItem (.ref t) (.ref sl)) Q E s := by
  have htake : sizeOk (.seq items.toList.reverse.toArray) := by
    show items.toList.reverse.toArray.size ≤ sizeLine
    rw [List.size_toArray, List.length_reverse, Array.length_toList]
    exact hsz
  obtain ⟨os, hos, hcs, hds⟩ := id hs
  have hTs : s.TypeIs (.ref sl) "slice" := ⟨os, hos, hcs⟩
  unfold getItem
  try with_reducible refine wpAny_holding ?_
  first | refine wpAny_bind (wpAny_pure ?_) | skip
  refine wpAny_bind (wpAny_sequenceKey ht.typeIs (by decide) ?_)
  refine wpAny_bind (wpAny_callSpecial?_slot (name := Str.ofString "__getitem__") ht.typeIs PyProof.Rows.slot_tuple_getitem
    (wpAny_call_entry PyProof.Rows.slot_tuple_getitem ht.typeIs entry_tuple_getitem ?_ (args_tuple_getitem _ _)))
  show wpAny _ _ (Builtin.Tuple.tupleItemsOf (.ref t) >>= _) _ _ s
  refine wpAny_bind (tupleItemsOf_ ht ?_)
  refine wpAny_bind (wpAny_typeOf hTs ?_)
  rw [if_pos (by decide)]
  refine wpAny_bind (sliceApplied_rev hs ps ?_)
  have hno : ¬ ((((items.size : Int) - 1) == 0 && (-1 : Int) == 1 && items.size == items.size) = true) := by
    intro q
    rw [Bool.and_eq_true, Bool.and_eq_true] at q
    exact absurd q.1.2 (by decide)
  show wpAny _ _ (if (((items.size : Int) - 1) == 0 && (-1 : Int) == 1 && items.size == items.size) = true then _ else _) _ _ s
  rw [if_neg hno, pick_rev]
  first
    | exact wpAny_bind (m := Builtin.Tuple.tupleExact _) (wpAny_newObj_type (wpAny_pure ⟨_, rfl, wpAny_pure h⟩) htake)
    | exact wpAny_bind (m := Builtin.Tuple.tupleExact _) (wpAny_newObj_type (wpAny_bind (wpAny_pure (wpAny_pure ⟨_, rfl, wpAny_pure h⟩))) htake)
/-! ### list(reversed(list)) -/
end
end HT
namespace HT
open PySem PySem.Spec PyProof.Rows L2 RT
section
variable {prog : Program} {w : World} {A : Around} {E : Value → Shared → Prop} {s : Shared}
theorem extend_rev {R : Result → Shared → Prop} {it l S : Addr} {items : Array Value} {c0 : Nat} (hh : A.handled = none) (res : Value) (hit : s.heap.IsRevIter it l ((items.size : Int) - 1)) (hl : s.heap.IsList l items) (hne : l ≠ it) (hn : items.size ≤ sizeLine) (hSi : S ≠ it) (hSl : S ≠ l)
    (hS : s.heap.get? S = some { cls := .type "list", data := .seq #[] c0 })
    (hR : ∀ (h' : Heap) (tk : Nat) (acc : Array Value) (c' : Nat), (∀ b o, b ≠ it → b ≠ S → s.heap.get? b = some o → h'.get? b = some o) → h'.get? S = some { cls := .type "list", dict := none, data := .seq acc c', slots := #[] } → ItemsOf (fun i v => items[items.size - 1 - i]? = some v) acc items.size → R (.ok (.ret res)) { s with heap := h', toks := tk }) :
    wpAny (model prog w) A.in1 (Builtin.List.listExtendWith (.ref S) (.ref it) res)
      (fun fin s' => match fin with | .done f => R (.ok f) s' | .again c' => c'.quiet = true ∧ codeAny (model prog w) A c' R s') (fun e s' => R (.error e) s') s := by
  have W := (Walks.listRev (prog := prog) (w := w) (A := A.in1) hh it l hne items).toS
  have hSf : S ∉ [it, l] := by simp only [List.mem_cons, List.not_mem_nil, or_false, not_or]; exact ⟨hSi, hSl⟩
  have hT : s.TypeIs (.ref it) "list_reverseiterator" := hit.typeIs
  have h1 : Builtin.List.listSameRef (.ref S) (.ref it) = false := by simp [Builtin.List.listSameRef, hSi]
  unfold Builtin.List.listExtendWith
  refine wpAny_bind (wpAny_typeOf hT ?_)
  rw [if_neg (by rw [h1]; decide)]
  refine wpAny_bind (wpAny_pyIter_revIter hit ?_)
  refine wpAny_bind (wpAny_holding ?_)
  unfold Builtin.List.listLengthHint
  refine wpAny_bind (wpAny_specialOf hT nolen_lri ?_)
  show wpAny _ A.in1 (specialOf (Value.ref it) (Str.ofString "__length_hint__") >>= _) _ _ _
  refine wpAny_bind (wpAny_specialOf hT hint_lri ?_)
  generalize hid : ("list_reverseiterator.__length_hint__" : String) = id0
  wp_delta
  rw [show splitId id0 = some ("list_reverseiterator", "__length_hint__") from by subst hid; decide +kernel]
  subst hid
  refine wpAny_bind (wpAny_isInstance (b := true) hT (by rw [isSubtype_type]; kernel_rfl) ?_)
  refine wpAny_pure ?_
  rw [if_neg (by decide)]
  have e0 : ((items.size : Nat) : Int) - 1 - ((0 : Nat) : Int) = (items.size : Int) - 1 := by omega
  refine wpAny_pure ⟨plainId_quiet F.plain_extend_loop _, codeAny_extend_loopS W hn _ hSf res items.size 0 _ _ _ rfl (Nat.zero_le _) ⟨Nat.zero_le _, by rw [e0]; exact hit, hl⟩ hS (ItemsOf.nil _) fun s' acc' c' hm hS' hacc => ?_⟩
  rw [Moved.eq_with hm]
  refine hR s'.heap s'.toks acc' c' (fun b o hb hb2 e => hm.heap b o (fun hmem => ?_) e) hS' hacc
  rcases List.mem_cons.mp hmem with e' | hmem
  · exact hb2 e'
  · exact hb (List.mem_singleton.mp hmem)
theorem list_init_rev {R : Result → Shared → Prop} {it l S : Addr} {items : Array Value} (hh : A.handled = none) (hit : s.heap.IsRevIter it l ((items.size : Int) - 1)) (hl : s.heap.IsList l items) (hne : l ≠ it) (hn : items.size ≤ sizeLine) (hSi : S ≠ it) (hSl : S ≠ l)
    (hS : s.heap.get? S = some { cls := .type "list", data := .seq #[] })
    (hR : ∀ (h' : Heap) (tk : Nat) (acc : Array Value) (c' : Nat), (∀ b o, b ≠ it → b ≠ S → s.heap.get? b = some o → h'.get? b = some o) → h'.get? S = some { cls := .type "list", dict := none, data := .seq acc c', slots := #[] } → ItemsOf (fun i v => items[items.size - 1 - i]? = some v) acc items.size → R (.ok (.ret .none)) { s with heap := h', toks := tk }) :
    wpAny (model prog w) A.in1 (Builtin.«list.__init__» ⟨[.ref S, .ref it], []⟩)
      (fun fin s' => match fin with | .done f => R (.ok f) s' | .again c' => c'.quiet = true ∧ codeAny (model prog w) A c' R s') (fun e s' => R (.error e) s') s := by
  show wpAny _ A.in1 (do let old ← Builtin.List.listItems (.ref S); Builtin.List.listUpdate (.ref S) (fun _ => #[]); letGo old.toList.reverse; Builtin.List.listExtendWith (.ref S) (.ref it) .none) _ _ s
  refine wpAny_bind ?_
  unfold Builtin.List.listItems
  refine wpAny_bind (wpAny_seqItems hS rfl (wpAny_pure ?_))
  show wpAny _ A.in1 (updateSeq S (fun _ => #[]) >>= fun _ => letGo (#[] : Array Value).toList.reverse >>= fun _ => Builtin.List.listExtendWith (.ref S) (.ref it) .none) _ _ s
  refine wpAny_bind (wpAny_updateSeq hS rfl ?_)
  have hS2 := Heap.get?_update_self (Obj.mapSeq (fun _ => (#[] : Array Value))) hS rfl
  have oth : ∀ b o, b ≠ S → s.heap.get? b = some o → (s.heap.update S (Obj.mapSeq (fun _ => (#[] : Array Value)))).get? b = some o :=
    fun b o hb e => (Heap.get?_update_other _ _ (Ne.symm hb)).trans e
  refine wpAny_bind (wpAny_letGo ?_)
  have hl2 : (s.heap.update S (Obj.mapSeq (fun _ => (#[] : Array Value)))).IsList l items := by
    obtain ⟨o, e, r⟩ := hl
    exact ⟨o, oth _ _ (Ne.symm hSl) e, r⟩
  refine extend_rev hh .none (hit.at fun o e => oth _ _ (Ne.symm hSi) e) hl2 hne hn hSi hSl hS2 fun h' tk acc' c' hk hS' hacc => ?_
  exact hR h' tk acc' c' (fun b o hb hb2 e => hk b o hb hb2 (oth b o hb2 e)) hS' hacc
theorem call_list_rev {it l : Addr} {items : Array Value} {Q : Value → Shared → Prop} (hh : A.handled = none) (hit : s.heap.IsRevIter it l ((items.size : Int) - 1)) (hl : s.heap.IsList l items) (hne : l ≠ it) (hn : items.size ≤ sizeLine)
    (hQ : ∀ (h' : Heap) (tk : Nat) (acc : Array Value) (c' : Nat), (∀ b o, b ≠ it → s.heap.get? b = some o → h'.get? b = some o) → h'.get? s.heap.objs.size = some { cls := .type "list", dict := none, data := .seq acc c', slots := #[] } → ItemsOf (fun i v => items[items.size - 1 - i]? = some v) acc items.size →
      Q (.ref s.heap.objs.size) { s with heap := h', toks := tk }) :
    wpAny (model prog w) A (call (.type "list") [.ref it]) Q E s := by
  obtain ⟨oi, hoi, _⟩ := id hit
  obtain ⟨ol, hol, _⟩ := id hl
  have hSi : s.heap.objs.size ≠ it := Nat.ne_of_gt (Heap.lt_size hoi)
  have hSl : s.heap.objs.size ≠ l := Nat.ne_of_gt (Heap.lt_size hol)
  refine callType_codes (Q₁ := fun obj s₁ => obj = .ref s.heap.objs.size ∧ s₁ = { s with heap := s.heap.push { cls := .type "list", data := .seq #[] } }) F.called_list (F.typeCall_list_1 _) F.entry_list_init
    (code_list_new _ ⟨rfl, rfl⟩) fun obj s₁ h₁ => ?_
  obtain ⟨rfl, rfl⟩ := h₁
  have hS : (s.heap.push { cls := .type "list", data := .seq #[] }).get? s.heap.objs.size = some { cls := .type "list", data := .seq #[] } := Heap.get?_push_size _ rfl
  refine ⟨⟨_, hS, rfl⟩, F.args_list_init_2 _ _, list_init_rev (A := A.in1) hh (hit.at fun o e => Heap.get?_push_of_some _ e) (hl.push _) hne hn hSi hSl hS fun h' tk acc' c' hk hS' hacc => ?_⟩
  exact ⟨rfl, hQ h' tk acc' c' (fun b o hb e => hk b o hb (Nat.ne_of_lt (Heap.lt_size e)) (Heap.get?_push_of_some _ e)) hS' hacc⟩
end
end HT
namespace Cm
open PySem PySem.Spec PyProof.Rows L2 RT
section
variable {X : Cx}
def rRevT (K : PySem.W.Frag) (x : V) (H : Hp) (Q : VK) : Prop := ∃ a xs, x = .ref a ∧ SqT K H a xs ∧ ∀ p, H p = none → Q (.ref p) (upd H p (.tup xs.reverse))
def tRevT (K : PySem.W.Frag) (te : TE) : TE := fun σ H Q => te σ H fun x H1 => rRevT K x H1 Q
theorem pe_revT {e : Expr} {te : TE} {k : Nat} {p1 p2 p3 pos : Pos} (he : PE X e te) : PE X (.Subscript e (.Slice none none (some (.UnaryOp .USub (.Constant (.int 1) k p1) p2)) p3) pos) (tRevT X.K te) := by
  refine ⟨fun pins s σ H Q I h => ?_⟩
  refine Subscript_ (thn (he.run pins s σ H _ I h) fun v s1 ⟨x, H1, I1, r1, q1⟩ => ?_)
  obtain ⟨a, xs, ex, hx, q⟩ := q1
  subst ex
  cases r1
  have hst : PO X (some (.UnaryOp .USub (.Constant (.int 1) k p1) p2)) (tPart (tUn (rU fun i => .int (-i)) (tC (.int 1)))) := po_some (pe_un un_neg pe_int)
  refine wpAny_Slice (thn (po_none.run pins s1 σ H1 (fun o H2 => o = none ∧ H2 = H1) I1 ⟨rfl, rfl⟩) fun vl s2 ⟨l, H2, I2, pl, el, e2⟩ => ?_)
  subst el e2
  refine thn (po_none.run pins s2 σ H2 (fun o H3 => o = none ∧ H3 = H2) I2 ⟨rfl, rfl⟩) fun vu s3 ⟨u, H3, I3, pu, eu, e3⟩ => ?_
  subst eu e3
  refine thn (hst.run pins s3 σ H3 (fun o H4 => o = some (-1) ∧ H4 = H3) I3 ⟨1, rfl, -1, rfl, rfl, rfl⟩) fun vs s4 ⟨o, H4, I4, ps, eo, e4⟩ => ?_
  subst eo e4
  have I5 : Inv X pins σ H4 { s4 with heap := s4.heap.push { cls := .type "slice", data := .fields #[vl, vu, vs] } } := I4.kept (t' := s4.toks) fun b ob q => Heap.get?_push_of_some _ q
  obtain ⟨its, r, ht, hz⟩ := I5.tuple hx
  have hlen := r.length
  cases pl
  cases pu
  show wpAny (model X.prog X.w) X.A (subscriptTail e (.Slice none none (some (.UnaryOp .USub (.Constant (.int 1) k p1) p2)) p3) (.ref a) (.ref s4.heap.objs.size)) (EP X pins σ Q) X.xe { s4 with heap := s4.heap.push { cls := .type "slice", data := .fields #[.none, .none, vs] } }
  refine tail_any (ops := [.ref a, .ref s4.heap.objs.size]) ht.typeIs (PyProof.Rows.slot_tuple_getitem.lookup) ?_ (by with_unfolding_all rfl)
  refine HT.getItem_tuple_rev ht (Heap.IsSliceOf.new _ .none .none vs) ps ?_ (by rw [List.size_toArray]; omega)
  refine ⟨.ref _, _, I5.laid (t' := s4.toks) (o := .tup xs.reverse) (fun b ob q => Heap.get?_push_of_some _ q) (Nat.le_refl _) ?_, rfl, q _ (I5.hok.fresh (Nat.le_refl _))⟩
  exact ⟨by rw [List.length_reverse]; exact hz, _, r.reverse, IsTup.new _ _⟩
end
instance {K : PySem.W.Frag} {σ : L2.St} {H : Hp} {Q : VK} {te : TE} : Stp (tRevT K te σ H Q) (te σ H fun x H1 => rRevT K x H1 Q) := ⟨id⟩
theorem k_revT {K : PySem.W.Frag} {H : Hp} {Q : VK} {a : Addr} {xs : List V} (hs : SqT K H a xs) (h : ∀ p H', H p = none → Same H H' → H' p = some (.tup xs.reverse) → Q (.ref p) H') : rRevT K (.ref a) H Q := ⟨a, xs, rfl, hs, fun p np => h p _ np (same_new np) upd_same⟩
/-! ### is, is not of truths -/
def xIsB : R2 := rIsB
def xNotB : R2 := rNotB
instance {a b : Bool} {H : Hp} {Q : VK} : Stp (xIsB (.bl a) (.bl b) H Q) (Q (.bl (decide (a = b))) H) := ⟨fun h => ⟨a, b, rfl, rfl, h⟩⟩
instance {a b : Bool} {H : Hp} {Q : VK} : Stp (xNotB (.bl a) (.bl b) H Q) (Q (.bl (!decide (a = b))) H) := ⟨fun h => ⟨a, b, rfl, rfl, h⟩⟩
/-! ### tuple(xs) of a list -/
def rTupOf (K : PySem.W.Frag) : List V → Hp → VK → Prop := fun xs H Q => ∃ p ys, xs = [.ref p] ∧ ((SqL K H p ys ∧ ∀ l, H l = none → Q (.ref l) (upd H l (.tup ys))) ∨ (SqT K H p ys ∧ Q (.ref p) H))
theorem q_tupOf {X : Cx} : CallR X (.type "tuple") (rTupOf X.K) := call_tuple_of
theorem k_tupOf {K : PySem.W.Frag} {H : Hp} {Q : VK} {p : Addr} {ys : List V} (hs : SqL K H p ys) (h : ∀ l H', H l = none → Same H H' → H' l = some (.tup ys) → Q (.ref l) H') : rTupOf K [.ref p] H Q := ⟨p, ys, rfl, .inl ⟨hs, fun l nl => h l _ nl (same_new nl) upd_same⟩⟩
/-! ### [d[k] for k in d] -/
theorem lc_vals {σ : L2.St} {H : Hp} {Q : VK} {p : Addr} {kvs : List (Key × V)} {i l : Nat} (hd : H p = some (.dK kvs)) (hv0 : (wipe σ [l])[i]? = some (some (.ref p)) ∧ σ[i]? = some (some (.ref p))) (hv : ∀ x : V, ((wipe σ [l]).set l (some x))[i]? = some (some (.ref p))) (hl : ∀ x : V, ((wipe σ [l]).set l (some x))[l]? = some (some x)) (hwp : ∀ x : V, wipe ((wipe σ [l]).set l (some x)) [l] = wipe σ [l])
    (hn : kvs.length ≤ 50000) (nd : ∀ kv ∈ kvs, valV kvs kv.1 = some kv.2) (h : ∀ D H', H D = none → Same H H' → H' D = some (.lst (kvs.map (·.2))) → Q (.ref D) H') :
    tLockE (tLc (iKeys (tVar i)) (gName l) tYes (tDGet (tVar i) (tVar l)) [l]) σ H Q := by
  refine ⟨p, .dK kvs, hd, trivial, fun od => ?_⟩
  refine ⟨_, hv0.2, p, od, rfl, .inl ⟨kvs, upd_same, fun D nD => ?_⟩⟩
  have Dp : D ≠ p := fun z => by rw [z, upd_same] at nD; cases nD
  have nD' : H D = none := by rw [upd_ne Dp] at nD; exact nD
  refine lc_it walk_keys (fun j H' => H' = upd (upd H p (.frz od (.dK kvs))) D (.lst ((kvs.take j).map (·.2)))) (by simp) (fun j H' _ e => by rw [e, upd_ne (fun z => Dp z.symm), upd_same]) ?_ ?_
  · rintro j x H1 H2 hj rfl ⟨rfl, k, v, hk, rfl⟩
    refine ⟨hwp _, ?_⟩
    refine k_yes (iteT ?_)
    refine ⟨_, hv _, _, hl _, p, v, rfl, .inl ⟨kvs, k, .inr ⟨od, by rw [upd_ne (fun z => Dp z.symm), upd_same]⟩, rfl, (nd _ (List.mem_of_getElem? hk)).symm⟩, _, upd_same, szl (by rw [List.length_map, List.length_take]; omega), ?_⟩
    rw [upd_upd, List.take_add_one, hk, List.map_append]
    rfl
  · rintro H1 rfl
    refine ⟨by rw [upd_ne (fun z => Dp z.symm), upd_same], ?_⟩
    refine h D _ nD' (fun b o hb => ?_) ?_
    · by_cases c : b = p
      · rw [c, upd_same, ← hd, ← c, hb]
      · have bD : b ≠ D := fun z => by rw [z, nD'] at hb; cases hb
        rw [upd_ne c, upd_ne bD, upd_ne c]; exact hb
    · rw [upd_ne Dp, upd_same, List.take_length]
/-! ### d.get(k) -/
def gD1N (a : Addr) (y : V) (H : Hp) (Q : VK) : Prop := ∃ o, DGet H a y o ∧ Q (o.getD .non) H
instance {σ : L2.St} {H : Hp} {Q : VK} {td ty : TE} : Stp (tDGet1 td ty σ H Q) (td σ H fun x H1 => aD x H1 fun a => ty σ H1 fun y H2 => gD1N a y H2 Q) := ⟨id⟩
theorem k_gD1N {H : Hp} {Q : VK} {p : Addr} {kvs : List (Key × V)} {t : Int} (e : H p = some (.dK kvs)) (h : Q ((valV kvs (.inl t)).getD .non) H) : gD1N p (.int t) H Q := ⟨_, DGet.k (k := .inl t) e, h⟩
/-! ### list(reversed(xs)) of a list -/
section
variable {X : Cx}
def rLRv (K : PySem.W.Frag) (x : V) (H : Hp) (Q : VK) : Prop := ∃ a xs, x = .ref a ∧ SqL K H a xs ∧ ∀ p, H p = none → Q (.ref p) (upd H p (.lst xs.reverse))
def tLRv (K : PySem.W.Frag) (te : TE) : TE := fun σ H Q => te σ H fun x H1 => rLRv K x H1 Q
theorem pe_lRv {e : Expr} {te : TE} {p p2 pos pos2 : Pos} (hc : X.calm = true) (hg : Gl X "list") (hm : X.mg "list" = none) (hg2 : Gl X "reversed") (hm2 : X.mg "reversed" = none) (he : PE X e te)
    (hs : starEach [e] X.env = (false, eval e X.env) :: starEach [] X.env := by rfl)
    (hs2 : starEach [.Call (.Name "reversed" p2) [e] [] pos2] X.env = (false, eval (.Call (.Name "reversed" p2) [e] [] pos2) X.env) :: starEach [] X.env := by rfl) :
    PE X (.Call (.Name "list" p) [.Call (.Name "reversed" p2) [e] [] pos2] [] pos) (tLRv X.K te) := by
  refine ⟨fun pins s σ H Q I h => ?_⟩
  refine Call_ (ld_blt I hg hm boot_list (PyProof.Rows.callWith_type1 (args_cons (Call_ (ld_blt I hg2 hm2 PyProof.Rows.boot_reversed (PyProof.Rows.callWith_type1 (args_cons (thn (he.run pins s σ H _ I h) fun u s1 ⟨v, H1, I1, r1, q1⟩ => args_nil ?_) hs) hs rfl))) hs2) hs2 rfl))
  obtain ⟨a, xs, ev, hq, q⟩ := q1
  subst ev
  obtain rfl : u = Value.ref a := r1
  obtain ⟨its, rv, p', hz⟩ := I1.list hq
  refine call_reversed_list p'.isList (args_nil ?_)
  have k0 : ∀ b o, s1.heap.get? b = some o → (s1.heap.push (revObj a ((its.toArray.size : Int) - 1))).get? b = some o := fun b o e => Heap.get?_push_of_some _ e
  have I2 : Inv X pins σ H1 { s1 with heap := s1.heap.push (revObj a ((its.toArray.size : Int) - 1)) } := I1.kept (t' := s1.toks) k0
  obtain ⟨f0, f1, f2, f3, f4, f5⟩ := I1.fpOk (H' := H1) (b := s1.heap.objs.size) (Nat.le_refl _) (I1.hok.fresh (Nat.le_refl _))
  have hl := p'.isList
  obtain ⟨ol, hol, _⟩ := id hl
  have hne : a ≠ s1.heap.objs.size := Nat.ne_of_lt (Heap.lt_size hol)
  have hn : its.toArray.size ≤ sizeLine := by rw [List.size_toArray, ← rv.length]; exact hz
  refine HT.call_list_rev (s := { s1 with heap := s1.heap.push (revObj a ((its.toArray.size : Int) - 1)) }) (I1.ok.hd hc) ⟨_, Heap.get?_push_size _ rfl, rfl, rfl⟩ (hl.push _) hne hn fun h' tk acc c' hk hS' hi => ?_
  refine ⟨.ref _, upd H1 _ (.lst xs.reverse), I2.turnedNew (t' := tk) (ch := [s1.heap.objs.size]) (fun b o hb e => hk b o (fun z => hb (by rw [z]; exact List.mem_singleton.mpr rfl)) e) (fun b hb => by rw [List.mem_singleton.mp hb]; exact ⟨f0, f1, f2, f3, f4, f5⟩) (Nat.le_refl _) (show ObjOk X.prog X.w _ _ _ (.lst xs.reverse) from ⟨by rw [List.length_reverse]; exact hz, acc.toList, c', vals_rev rv hi, by rw [Array.toArray_toList]; exact hS'⟩), rfl, q _ (I2.hok.fresh (Nat.le_refl _))⟩
instance {K : PySem.W.Frag} {σ : L2.St} {H : Hp} {Q : VK} {te : TE} : Stp (tLRv K te σ H Q) (te σ H fun x H1 => rLRv K x H1 Q) := ⟨id⟩
theorem k_lRv {K : PySem.W.Frag} {H : Hp} {Q : VK} {a : Addr} {xs : List V} (hs : SqL K H a xs) (h : ∀ p H', H p = none → Same H H' → H' p = some (.lst xs.reverse) → Q (.ref p) H') : rLRv K (.ref a) H Q := ⟨a, xs, rfl, hs, fun p np => h p _ np (same_new np) upd_same⟩
end
/-! ### xs + ys of any two lists -/
section
variable {X : Cx}
def rCatS (K : PySem.W.Frag) : R2 := fun x y H Q => ∃ l b xs zs, x = .ref l ∧ y = .ref b ∧ SqL K H l xs ∧ SqL K H b zs ∧ xs.length + zs.length ≤ sizeLine ∧ ∀ p, H p = none → Q (.ref p) (upd H p (.lst (xs ++ zs)))
theorem op_catS : OpR X (binaryOp .Add) (rCatS X.K) := by
  intro pins s σ H x y v u Q I rx ry h
  obtain ⟨l, b, xs, zs, rfl, rfl, hH, hB, hz, q⟩ := h
  cases rx
  cases ry
  obtain ⟨its, r, p1, _⟩ := I.list hH
  obtain ⟨its2, r2, p2, _⟩ := I.list hB
  have l1 := r.length
  have l2 := r2.length
  obtain ⟨⟨cls, dd, data, sl⟩, ho, hc, n, hd⟩ := p1.isList
  obtain ⟨⟨cls2, dd2, data2, sl2⟩, ho2, hc2, n2, hd2⟩ := p2.isList
  simp only at hc hd hc2 hd2
  subst hc hd hc2 hd2
  have e : its.toArray ++ its2.toArray = (its ++ its2).toArray := by simp
  refine concat_meets ⟨_, ho, rfl⟩ ⟨_, ho2, rfl⟩ noFill_list_add seq_list_add PySem.F.slot_list_add PySem.F.entry_list_add (PySem.F.args_list_add_2 _ _) (list_addW l b its.toArray its2.toArray n n2 dd dd2 sl sl2 (by simp only [List.size_toArray]; omega)) ⟨ho, ho2, ?_⟩
  rw [e]
  exact ⟨.ref _, _, I.lnew (t' := s.toks) (r.append r2) (by rw [List.length_append]; exact hz), rfl, q _ I.fresh⟩
theorem k_catS {K : PySem.W.Frag} {H : Hp} {Q : VK} {l b : Addr} {xs zs : List V} (hl : SqL K H l xs) (hb : SqL K H b zs) (hz : xs.length + zs.length ≤ 100000) (h : ∀ p H', H p = none → Same H H' → H' p = some (.lst (xs ++ zs)) → Q (.ref p) H') : rCatS K (.ref l) (.ref b) H Q := ⟨l, b, xs, zs, rfl, rfl, hl, hb, sz hz, fun p np => h p _ np (same_new np) upd_same⟩
end
/-! ### xs.count(k) of a list of tuples and whole numbers -/
def isK (k : Int) : V → Bool
  | .int i => decide (i = k)
  | _ => false
def isKU (k : Int) : Value → Bool
  | .int i _ => decide (i = k)
  | _ => false
theorem isK_rel {k : Int} {v : V} {u : Value} (r : RelV v u) (h : (∃ p, v = .ref p) ∨ ∃ i, v = .int i) : isKU k u = isK k v := by
  rcases h with ⟨p, rfl⟩ | ⟨i, rfl⟩
  · cases r; rfl
  · obtain ⟨t, rfl⟩ := r; rfl
theorem isK_cnt {k : Int} : ∀ {vs : List V} {us : List Value}, Vals vs us → (∀ v ∈ vs, (∃ p, v = .ref p) ∨ ∃ i, v = .int i) → us.countP (isKU k) = vs.countP (isK k)
  | _, _, .nil, _ => rfl
  | v :: vs, u :: us, .cons r rs, h => by
    rw [List.countP_cons, List.countP_cons, isK_rel r (h v List.mem_cons_self), isK_cnt rs fun x hx => h x (List.mem_cons_of_mem _ hx)]
def rCntD (K : PySem.W.Frag) : V → List V → Hp → VK → Prop := fun x xs H Q => ∃ (a : Addr) (ys : List V) (ds : List PyData) (k : Int), x = V.ref a ∧ xs = [.int k] ∧ SqL K H a ys ∧ DpAll K H ys ds ∧ PyData.canLayAll0 ds = true ∧ (∀ d ∈ ds, (∃ es, d = .tuple es) ∨ ∃ i, d = .int i) ∧ Q (.int (ys.countP (isK k) : Nat)) H
theorem lay_mem : ∀ {ds : List PyData}, PyData.canLayAll0 ds = true → ∀ d ∈ ds, d.canLay0 = true
  | [], _, d, h => by cases h
  | a :: r, h, d, hd => by
    have h' : (a.canLay0 && PyData.canLayAll0 r) = true := h
    rw [Bool.and_eq_true] at h'
    rcases List.mem_cons.mp hd with rfl | hd
    · exact h'.1
    · exact lay_mem h'.2 d hd
theorem vals_data {K : PySem.W.Frag} {H : Hp} : ∀ {vs : List V} {us : List Value} {ds : List PyData}, Vals vs us → DpAll K H vs ds → ∀ u ∈ us, ∃ v d, RelV v u ∧ Dp K H v d ∧ d ∈ ds
  | _, _, _, .nil, _, u, hu => by cases hu
  | _, _, _, .cons r rs, .cons h hs, u, hu => by
    rcases List.mem_cons.mp hu with rfl | hu
    · exact ⟨_, _, r, h, List.mem_cons_self⟩
    · obtain ⟨v, d, h1, h2, h3⟩ := vals_data rs hs u hu
      exact ⟨v, d, h1, h2, List.mem_cons_of_mem _ h3⟩
theorem data_kind {K : PySem.W.Frag} {H : Hp} {v : V} {d : PyData} (h : Dp K H v d) (k : (∃ es, d = .tuple es) ∨ ∃ i, d = .int i) : (∃ p, v = .ref p) ∨ ∃ i, v = .int i := by
  rcases k with ⟨es, rfl⟩ | ⟨i, rfl⟩
  · obtain ⟨a, _, e, _⟩ := dp_tup h; exact .inl ⟨a, e⟩
  · exact .inr ⟨i, dp_int h⟩
theorem mt_lcountD {X : Cx} (hu : X.A.units + 64 < cLine) : MtR X "list.count" (rCntD X.K) := by
  intro pins s σ H x xs v us Q I rx rxs h
  obtain ⟨a, ys, ds, k, rfl, rfl, hs, dys, lay, kd, q⟩ := h
  cases rx
  cases rxs with
  | cons ry rt =>
    rename_i uy ut
    cases rt
    obtain ⟨t, rfl⟩ := ry
    obtain ⟨its, rv, ⟨⟨cls, dd, data, sl⟩, n, ho, hc, hdn, hd⟩, hlen⟩ := I.list hs
    simp only at hc hd
    subst hc hd
    refine call_meets PySem.F.slot_list_count ⟨_, ho, rfl⟩ PySem.F.entry_list_count (PySem.F.args_list_count_2 _ _)
      (SeqAt.list_countAt a its.toArray n dd sl (.int k t) (isKU k)) ⟨ho, fun u' hu' => ?_, ?_⟩
    · obtain ⟨w, d, r1, r2, r3⟩ := vals_data rv dys u' (by simpa using hu')
      obtain ⟨as, rd⟩ := Dp.reads I d w u' r2 r1
      have eq := SeqAt.eqAt_reads d (.int k) X.A.in1 s u' (.int k t) as _ rd (Reads.int k t) (lay_mem lay d r3) rfl (by
        have : min d.depth (PyData.int k).depth ≤ 0 := Nat.min_le_right _ _
        have e : X.A.in1.units = X.A.units + 1 := rfl
        rw [e]; omega)
      have e : PyData.eqv d (.int k) = isKU k u' := by
        rw [isK_rel r1 (data_kind r2 (kd d r3))]
        rcases kd d r3 with ⟨es, rfl⟩ | ⟨i, rfl⟩
        · obtain ⟨p, _, rfl, _⟩ := dp_tup r2; rfl
        · cases dp_int r2
          show (i == k) = decide (i = k)
          by_cases c : i = k
          · rw [c, decide_eq_true rfl]; simp
          · rw [decide_eq_false c]; simpa using c
      rw [e] at eq
      exact eq
    · have ec : its.toArray.toList.countP (isKU k) = ys.countP (isK k) := isK_cnt rv fun v hv => by
        obtain ⟨i, hi, e⟩ := List.mem_iff_getElem.mp hv
        obtain ⟨d, hd, dd⟩ := dpa_get dys (show ys[i]? = some v by rw [List.getElem?_eq_getElem hi, e])
        exact data_kind dd (kd d (List.mem_of_getElem? hd))
      refine ⟨.int (ys.countP (isK k) : Nat), H, I.tok _, ⟨s.toks, ?_⟩, q⟩
      show Value.int ((its.toArray.toList.countP (isKU k) : Nat) : Int) s.toks = Value.int ((ys.countP (isK k) : Nat) : Int) s.toks
      rw [ec]
end Cm

namespace Pf
open PySem PySem.Spec PyProof.Rows L2 Cm
local macro_rules | `(tactic| wtm_at "smh") => `(tactic| with_reducible first
  | assumption
  | (refine Same.trans ?_ (by assumption); wtm_at "smx")
  | (refine Same.trans ?_ (hid_mono (by assumption)); wtm_at "smx"))
local macro_rules | `(tactic| wtm_at "smx") => `(tactic| with_reducible first
  | exact Same.refl _
  | assumption
  | exact hid_same _ _
  | (refine Same.trans ?_ (by assumption); wtm_at "smx")
  | (refine Same.trans ?_ (hid_mono (by assumption)); wtm_at "smx")
  | (apply hid_back; wtm_at "smh"))
local macro_rules | `(tactic| wtm_at "sm") => `(tactic| wtm_at "smx")
local macro_rules | `(tactic| wtm_at "at") => `(tactic| with_reducible first
  | assumption
  | exact upd_same
  | (refine at_same (by assumption) ?_; wtm_at "smx"))
local macro_rules | `(tactic| wtm_at "le") => `(tactic| with_reducible first
  | assumption
  | (refine Le.same (by assumption) ?_; wtm_at "smx"))
local macro_rules | `(tactic| wtm_at "dp") => `(tactic| with_reducible first
  | assumption
  | exact .int _
  | exact .str _
  | exact .bl _
  | (refine dp_same ?_ (by assumption); wtm_at "smx")
  | (refine dpa_same ?_ (by assumption); wtm_at "smx")
  | (refine dpI_at (by assumption) ?_; wtm_at "smx")
  | (refine dpP_at (by assumption) ?_; wtm_at "smx"))
local macro_rules | `(tactic| wtm_at "sq") => `(tactic| with_reducible first
  | assumption
  | exact sl (by assumption)
  | exact stp (by assumption)
  | (refine sl_at (by assumption) ?_; wtm_at "smx")
  | (refine st_at (by assumption) ?_; wtm_at "smx")
  | (refine Same.seq ?_ (by assumption); wtm_at "smx")
  | (refine same_seqT ?_ (by assumption); wtm_at "smx")
  | ((show SqL _ (upd _ _ _) _ _); exact sl upd_same)
  | ((show SqT _ (upd _ _ _) _ _); exact stp upd_same))
local macro_rules | `(tactic| wtm_at "cI") => `(tactic| first
  | (refine Or.inl ⟨?_, ?_⟩ <;> omega)
  | (refine Or.inr ⟨?_, ?_⟩ <;> omega)
  | (refine ⟨?_, ?_⟩ <;> omega)
  | decide)
local macro_rules | `(tactic| wtm_at "pf") => `(tactic| first | omega | decide)
local macro_rules | `(tactic| wtm_at "s2") => `(tactic| with_reducible first
  | ((show ite _ _ _); first
    | refine k_itDT (by with_unfolding_all wtm_at "pf") ?_
    | refine k_itDF (by with_unfolding_all wtm_at "pf") ?_
    | refine k_itNT (by with_unfolding_all wtm_at "pf") ?_
    | refine k_itNF (by with_unfolding_all wtm_at "pf") ?_)
  | ((show rLenX _ _ _ _); first
    | refine k_len0 (by assumption) ?_
    | refine k_lenI (by wtm_at "sq") ?_
    | refine k_len (by wtm_at "sq") ?_)
  | ((show gTup _ _ _ _ _ _ _); refine k_gtup (by wtm_at "sq") (by with_unfolding_all rfl) ?_)
  | ((show rIxT _ (V.ref _) (V.int _) _ _); refine k_ixT (by wtm_at "sq") (by with_unfolding_all rfl) ?_)
  | ((show wipe _ _ = wipe _ _ ∧ _); refine k_wipe (by with_unfolding_all rfl) ?_)
  | ((show rIn _ _ _ _ _ _); first
    | refine k_inI (by wtm_at "sq") ?_
    | refine k_notInI (by wtm_at "sq") ?_)
  | ((show rIsi _ _ _ _); refine k_isiL (by wtm_at "sq") ?_)
  | ((show xMod _ _ _ _); refine k_mod (by with_unfolding_all first | decide | omega) ?_)
  | ((show xMul _ _ _ _); refine k_mul (by with_unfolding_all wtm_at "cI") ?_)
  | ((show xDiv _ _ _ _); refine k_div (by with_unfolding_all wtm_at "cI") ?_)
  | ((show xPow _ _ _ _); refine k_pow (by with_unfolding_all exact ⟨by decide, by decide, by decide⟩) ?_)
  | ((show rMinT _ _ _ _); refine k_minT (by wtm_at "sq") ?_)
  | ((show rMaxT _ _ _ _); refine k_maxT (by wtm_at "sq") ?_)
  | ((show ∃ j' : Int, [V.int _] = [.int j'] ∧ _); refine k_rj1 (by with_unfolding_all omega) (by with_unfolding_all omega) ?_)
  | ((show ∃ i' j' : Int, [V.int _, V.int _] = [.int i', .int j'] ∧ _); refine k_rj2 (by with_unfolding_all omega) ?_))
local macro_rules | `(tactic| wtm_at "s1") => `(tactic| first
  | refine go ?_
  | wtm_at "s2")
local macro_rules | `(tactic| wtm_at "s") => `(tactic| repeat wtm_at "s1")
def topS (i : Nat) : Stmt := PySem.Challenge.pw_tiehues_k52_whole_cases_found.main.body.getD i (.Pass ⟨0, 0, 0, 0⟩)
abbrev s_is_tree : Stmt := topS 8
theorem sc_is_tree : FnScope ["parents", "k"] ["parents"] (defScope s_is_tree) := ⟨rfl, rfl, rfl, by decide +kernel, rfl, by decide +kernel, by decide +kernel⟩
abbrev s_look_net : Stmt := topS 9
theorem sc_look_net : FnScope ["net", "kind", "size", "right"] ["net"] (defScope s_look_net) := ⟨rfl, rfl, rfl, by decide +kernel, rfl, by decide +kernel, by decide +kernel⟩
abbrev s_places_of : Stmt := topS 10
theorem sc_places_of : FnScope ["net"] ["net"] (defScope s_places_of) := ⟨rfl, rfl, rfl, by decide +kernel, rfl, by decide +kernel, by decide +kernel⟩
abbrev s_is_way : Stmt := topS 11
theorem sc_is_way : FnScope ["net", "way", "a", "b"] ["net", "way"] (defScope s_is_way) := ⟨rfl, rfl, rfl, by decide +kernel, rfl, by decide +kernel, by decide +kernel⟩
abbrev s_ties_on : Stmt := topS 12
theorem sc_ties_on : FnScope ["net", "way", "a", "b", "found"] ["net", "way"] (defScope s_ties_on) := ⟨rfl, rfl, rfl, by decide +kernel, rfl, by decide +kernel, by decide +kernel⟩
abbrev s_must_be_ways : Stmt := topS 13
theorem sc_must_be_ways : FnScope ["net", "ways", "k"] ["net", "ways"] (defScope s_must_be_ways) := ⟨rfl, rfl, rfl, by decide +kernel, rfl, by decide +kernel, by decide +kernel⟩
abbrev s_look_ways : Stmt := topS 14
theorem sc_look_ways : FnScope ["net", "ways"] ["net", "ways"] (defScope s_look_ways) := ⟨rfl, rfl, rfl, by decide +kernel, rfl, by decide +kernel, by decide +kernel⟩
abbrev s_is_whole : Stmt := topS 17
theorem sc_is_whole : FnScope ["thing"] ["thing"] (defScope s_is_whole) := ⟨rfl, rfl, rfl, by decide +kernel, rfl, by decide +kernel, by decide +kernel⟩
abbrev s_have_common : Stmt := topS 18
theorem sc_have_common : FnScope ["one", "other", "thing"] ["one", "other"] (defScope s_have_common) := ⟨rfl, rfl, rfl, by decide +kernel, rfl, by decide +kernel, by decide +kernel⟩
abbrev s_meetings : Stmt := topS 19
theorem sc_meetings : FnScope ["net", "ways", "ties", "found", "one", "way", "k"] ["net", "ways"] (defScope s_meetings) := ⟨rfl, rfl, rfl, by decide +kernel, rfl, by decide +kernel, by decide +kernel⟩
abbrev s_look_few : Stmt := topS 20
theorem sc_look_few : FnScope ["net", "ways", "most"] ["net", "ways", "most"] (defScope s_look_few) := ⟨rfl, rfl, rfl, by decide +kernel, rfl, by decide +kernel, by decide +kernel⟩
abbrev s_look_number : Stmt := topS 21
theorem sc_look_number : FnScope ["number"] ["number"] (defScope s_look_number) := ⟨rfl, rfl, rfl, by decide +kernel, rfl, by decide +kernel, by decide +kernel⟩
abbrev s_options : Stmt := topS 22
theorem sc_options : FnScope ["h", "given", "k"] ["h", "given"] (defScope s_options) := ⟨rfl, rfl, rfl, by decide +kernel, rfl, by decide +kernel, by decide +kernel⟩
abbrev s_is_stuck : Stmt := topS 23
theorem sc_is_stuck : FnScope ["meets", "given", "k", "hue", "other"] ["meets", "given", "k", "hue"] (defScope s_is_stuck) := ⟨rfl, rfl, rfl, by decide +kernel, rfl, by decide +kernel, by decide +kernel⟩
abbrev s_with_hue : Stmt := topS 24
theorem sc_with_hue : FnScope ["given", "k", "hue", "more"] ["given", "k", "hue"] (defScope s_with_hue) := ⟨rfl, rfl, rfl, by decide +kernel, rfl, by decide +kernel, by decide +kernel⟩
abbrev s_is_right : Stmt := topS 25
theorem sc_is_right : FnScope ["meets", "h", "given", "case", "k", "children", "hue", "child"] ["meets", "h", "given", "case"] (defScope s_is_right) := ⟨rfl, rfl, rfl, by decide +kernel, rfl, by decide +kernel, by decide +kernel⟩
abbrev s_case_judged : Stmt := topS 26
theorem sc_case_judged : FnScope ["net", "ways", "h", "case"] ["net", "ways", "h", "case"] (defScope s_case_judged) := ⟨rfl, rfl, rfl, by decide +kernel, rfl, by decide +kernel, by decide +kernel⟩
abbrev s_hardest_way : Stmt := topS 27
theorem sc_hardest_way : FnScope ["meets", "given", "best", "most", "k", "near", "other"] ["meets", "given"] (defScope s_hardest_way) := ⟨rfl, rfl, rfl, by decide +kernel, rfl, by decide +kernel, by decide +kernel⟩
abbrev s_gone_into : Stmt := topS 28
theorem sc_gone_into : FnScope ["meets", "h", "given", "k", "children", "hue", "more"] ["meets", "h", "given"] (defScope s_gone_into) := ⟨rfl, rfl, rfl, by decide +kernel, rfl, by decide +kernel, by decide +kernel⟩
abbrev s_case_of : Stmt := topS 29
theorem sc_case_of : FnScope ["net", "ways", "h", "told"] ["net", "ways", "h"] (defScope s_case_of) := ⟨rfl, rfl, rfl, by decide +kernel, rfl, by decide +kernel, by decide +kernel⟩
abbrev s_law_whole : Stmt := topS 31
theorem sc_law_whole : FnScope ["_law_found"] ["_law_found"] (defScope s_law_whole) := ⟨rfl, rfl, rfl, by decide +kernel, rfl, by decide +kernel, by decide +kernel⟩
abbrev s_law_draws : Stmt := topS 32
theorem sc_law_draws : FnScope ["_law_script", "_law_many_here", "_law_found", "_law_k", "_law_cell", "_law_j", "_law_number"] ["_law_script", "_law_many_here"] (defScope s_law_draws) := ⟨rfl, rfl, rfl, by decide +kernel, rfl, by decide +kernel, by decide +kernel⟩
abbrev s_law_net : Stmt := topS 33
theorem sc_law_net : FnScope ["_law_number", "_law_most", "_law_kind", "_law_many_here", "_law_k"] ["_law_number", "_law_most"] (defScope s_law_net) := ⟨rfl, rfl, rfl, by decide +kernel, rfl, by decide +kernel, by decide +kernel⟩
abbrev s_law_places : Stmt := topS 34
theorem sc_law_places : FnScope ["_law_net_here"] ["_law_net_here"] (defScope s_law_places) := ⟨rfl, rfl, rfl, by decide +kernel, rfl, by decide +kernel, by decide +kernel⟩
abbrev s_law_way : Stmt := topS 35
theorem sc_law_way : FnScope ["_law_net_here", "_law_number", "_law_many_here", "_law_first"] ["_law_net_here", "_law_number"] (defScope s_law_way) := ⟨rfl, rfl, rfl, by decide +kernel, rfl, by decide +kernel, by decide +kernel⟩
abbrev s_law_up : Stmt := topS 36
theorem sc_law_up : FnScope ["_law_net_here", "_law_place", "_law_found"] ["_law_net_here", "_law_place"] (defScope s_law_up) := ⟨rfl, rfl, rfl, by decide +kernel, rfl, by decide +kernel, by decide +kernel⟩
abbrev s_law_ties : Stmt := topS 37
theorem sc_law_ties : FnScope ["_law_net_here", "_law_way_here", "_law_a", "_law_b", "_law_one", "_law_other", "_law_found", "_law_tie"] ["_law_net_here", "_law_way_here"] (defScope s_law_ties) := ⟨rfl, rfl, rfl, by decide +kernel, rfl, by decide +kernel, by decide +kernel⟩
abbrev s_law_meet : Stmt := topS 38
theorem sc_law_meet : FnScope ["_law_one", "_law_other", "_law_tie"] ["_law_one", "_law_other"] (defScope s_law_meet) := ⟨rfl, rfl, rfl, by decide +kernel, rfl, by decide +kernel, by decide +kernel⟩
abbrev s_law_meets : Stmt := topS 39
theorem sc_law_meets : FnScope ["_law_net_here", "_law_ways", "_law_ties_here", "_law_found", "_law_one", "_law_way_here", "_law_k"] ["_law_net_here", "_law_ways"] (defScope s_law_meets) := ⟨rfl, rfl, rfl, by decide +kernel, rfl, by decide +kernel, by decide +kernel⟩
abbrev s_law_given : Stmt := topS 40
theorem sc_law_given : FnScope ["_law_draws_here", "_law_kinds", "_law_most", "_law_net_here", "_law_ways", "_law_k"] ["_law_draws_here", "_law_kinds", "_law_most"] (defScope s_law_given) := ⟨rfl, rfl, rfl, by decide +kernel, rfl, by decide +kernel, by decide +kernel⟩
abbrev s_law_enough : Stmt := topS 41
theorem sc_law_enough : FnScope ["_law_meets_here", "_law_h", "_law_given_here", "_law_k", "_law_hue", "_law_other"] ["_law_meets_here", "_law_h", "_law_given_here"] (defScope s_law_enough) := ⟨rfl, rfl, rfl, by decide +kernel, rfl, by decide +kernel, by decide +kernel⟩
abbrev s_law_fewest : Stmt := topS 42
theorem sc_law_fewest : FnScope ["_law_meets_here", "_law_h"] ["_law_meets_here"] (defScope s_law_fewest) := ⟨rfl, rfl, rfl, by decide +kernel, rfl, by decide +kernel, by decide +kernel⟩
abbrev s_law_many : Stmt := topS 43
theorem sc_law_many : FnScope ["_law_given_here", "_law_k"] ["_law_given_here"] (defScope s_law_many) := ⟨rfl, rfl, rfl, by decide +kernel, rfl, by decide +kernel, by decide +kernel⟩
abbrev s_law_stuck : Stmt := topS 44
theorem sc_law_stuck : FnScope ["_law_meets_here", "_law_given_here", "_law_k", "_law_hue", "_law_other"] ["_law_meets_here", "_law_given_here", "_law_k", "_law_hue"] (defScope s_law_stuck) := ⟨rfl, rfl, rfl, by decide +kernel, rfl, by decide +kernel, by decide +kernel⟩
abbrev s_law_right : Stmt := topS 45
theorem sc_law_right : FnScope ["_law_meets_here", "_law_h", "_law_given_here", "_law_case_here", "_law_k", "_law_children", "_law_hue", "_law_more"] ["_law_meets_here", "_law_h", "_law_given_here", "_law_case_here"] (defScope s_law_right) := ⟨rfl, rfl, rfl, by decide +kernel, rfl, by decide +kernel, by decide +kernel⟩
abbrev s_law_copied : Stmt := topS 47
theorem sc_law_copied : FnScope ["_law_thing", "_law_part"] ["_law_thing"] (defScope s_law_copied) := ⟨rfl, rfl, rfl, by decide +kernel, rfl, by decide +kernel, by decide +kernel⟩
abbrev s_law_marked : Stmt := topS 48
theorem sc_law_marked : FnScope ["_law_case_here", "_law_children", "_law_child"] ["_law_case_here"] (defScope s_law_marked) := ⟨rfl, rfl, rfl, by decide +kernel, rfl, by decide +kernel, by decide +kernel⟩
abbrev s_law_once : Stmt := topS 49
theorem sc_law_once : FnScope ["_law_case_here", "_law_child"] ["_law_case_here"] (defScope s_law_once) := ⟨rfl, rfl, rfl, by decide +kernel, rfl, by decide +kernel, by decide +kernel⟩
abbrev s_law : Stmt := topS 50
theorem sc_law : FnScope ["_law_script", "_law_draws_here", "_law_net_here", "_law_ways", "_law_meets_here", "_law_least", "_law_handed", "_law_h", "_law_case_here", "_law_kept"] ["_law_script"] (defScope s_law) := ⟨rfl, rfl, rfl, by decide +kernel, rfl, by decide +kernel, by decide +kernel⟩
structure Ad where
  a_is_tree : Addr
  d_is_tree : FuncData
  a_look_net : Addr
  d_look_net : FuncData
  a_places_of : Addr
  d_places_of : FuncData
  a_is_way : Addr
  d_is_way : FuncData
  a_ties_on : Addr
  d_ties_on : FuncData
  a_must_be_ways : Addr
  d_must_be_ways : FuncData
  a_look_ways : Addr
  d_look_ways : FuncData
  a_is_whole : Addr
  d_is_whole : FuncData
  a_have_common : Addr
  d_have_common : FuncData
  a_meetings : Addr
  d_meetings : FuncData
  a_look_few : Addr
  d_look_few : FuncData
  a_look_number : Addr
  d_look_number : FuncData
  a_options : Addr
  d_options : FuncData
  a_is_stuck : Addr
  d_is_stuck : FuncData
  a_with_hue : Addr
  d_with_hue : FuncData
  a_is_right : Addr
  d_is_right : FuncData
  a_case_judged : Addr
  d_case_judged : FuncData
  a_hardest_way : Addr
  d_hardest_way : FuncData
  a_gone_into : Addr
  d_gone_into : FuncData
  a_case_of : Addr
  d_case_of : FuncData
  a_law_whole : Addr
  d_law_whole : FuncData
  a_law_draws : Addr
  d_law_draws : FuncData
  a_law_net : Addr
  d_law_net : FuncData
  a_law_places : Addr
  d_law_places : FuncData
  a_law_way : Addr
  d_law_way : FuncData
  a_law_up : Addr
  d_law_up : FuncData
  a_law_ties : Addr
  d_law_ties : FuncData
  a_law_meet : Addr
  d_law_meet : FuncData
  a_law_meets : Addr
  d_law_meets : FuncData
  a_law_given : Addr
  d_law_given : FuncData
  a_law_enough : Addr
  d_law_enough : FuncData
  a_law_fewest : Addr
  d_law_fewest : FuncData
  a_law_many : Addr
  d_law_many : FuncData
  a_law_stuck : Addr
  d_law_stuck : FuncData
  a_law_right : Addr
  d_law_right : FuncData
  a_law_copied : Addr
  d_law_copied : FuncData
  a_law_marked : Addr
  d_law_marked : FuncData
  a_law_once : Addr
  d_law_once : FuncData
  a_law : Addr
  d_law : FuncData
structure Txt (K : PySem.W.Frag) (mg : Str → Option Value) (A : Ad) : Prop where
  g_is_tree : mg "is_tree" = some (.ref A.a_is_tree)
  F_is_tree : Fun K "is_tree" "is_tree" s_is_tree A.a_is_tree A.d_is_tree
  b_is_tree : Binds K A.d_is_tree ["parents"] []
  g_look_net : mg "look_net" = some (.ref A.a_look_net)
  F_look_net : Fun K "look_net" "look_net" s_look_net A.a_look_net A.d_look_net
  b_look_net : Binds K A.d_look_net ["net"] []
  g_places_of : mg "places_of" = some (.ref A.a_places_of)
  F_places_of : Fun K "places_of" "places_of" s_places_of A.a_places_of A.d_places_of
  b_places_of : Binds K A.d_places_of ["net"] []
  g_is_way : mg "is_way" = some (.ref A.a_is_way)
  F_is_way : Fun K "is_way" "is_way" s_is_way A.a_is_way A.d_is_way
  b_is_way : Binds K A.d_is_way ["net", "way"] []
  g_ties_on : mg "ties_on" = some (.ref A.a_ties_on)
  F_ties_on : Fun K "ties_on" "ties_on" s_ties_on A.a_ties_on A.d_ties_on
  b_ties_on : Binds K A.d_ties_on ["net", "way"] []
  g_must_be_ways : mg "must_be_ways" = some (.ref A.a_must_be_ways)
  F_must_be_ways : Fun K "must_be_ways" "must_be_ways" s_must_be_ways A.a_must_be_ways A.d_must_be_ways
  b_must_be_ways : Binds K A.d_must_be_ways ["net", "ways"] []
  g_look_ways : mg "look_ways" = some (.ref A.a_look_ways)
  F_look_ways : Fun K "look_ways" "look_ways" s_look_ways A.a_look_ways A.d_look_ways
  b_look_ways : Binds K A.d_look_ways ["net", "ways"] []
  g_is_whole : mg "is_whole" = some (.ref A.a_is_whole)
  F_is_whole : Fun K "is_whole" "is_whole" s_is_whole A.a_is_whole A.d_is_whole
  b_is_whole : Binds K A.d_is_whole ["thing"] []
  g_have_common : mg "have_common" = some (.ref A.a_have_common)
  F_have_common : Fun K "have_common" "have_common" s_have_common A.a_have_common A.d_have_common
  b_have_common : Binds K A.d_have_common ["one", "other"] []
  g_meetings : mg "meetings" = some (.ref A.a_meetings)
  F_meetings : Fun K "meetings" "meetings" s_meetings A.a_meetings A.d_meetings
  b_meetings : Binds K A.d_meetings ["net", "ways"] []
  g_look_few : mg "look_few" = some (.ref A.a_look_few)
  F_look_few : Fun K "look_few" "look_few" s_look_few A.a_look_few A.d_look_few
  b_look_few : Binds K A.d_look_few ["net", "ways", "most"] []
  g_look_number : mg "look_number" = some (.ref A.a_look_number)
  F_look_number : Fun K "look_number" "look_number" s_look_number A.a_look_number A.d_look_number
  b_look_number : Binds K A.d_look_number ["number"] []
  g_options : mg "options" = some (.ref A.a_options)
  F_options : Fun K "options" "options" s_options A.a_options A.d_options
  b_options : Binds K A.d_options ["h", "given"] []
  g_is_stuck : mg "is_stuck" = some (.ref A.a_is_stuck)
  F_is_stuck : Fun K "is_stuck" "is_stuck" s_is_stuck A.a_is_stuck A.d_is_stuck
  b_is_stuck : Binds K A.d_is_stuck ["meets", "given", "k", "hue"] []
  g_with_hue : mg "with_hue" = some (.ref A.a_with_hue)
  F_with_hue : Fun K "with_hue" "with_hue" s_with_hue A.a_with_hue A.d_with_hue
  b_with_hue : Binds K A.d_with_hue ["given", "k", "hue"] []
  g_is_right : mg "is_right" = some (.ref A.a_is_right)
  F_is_right : Fun K "is_right" "is_right" s_is_right A.a_is_right A.d_is_right
  b_is_right : Binds K A.d_is_right ["meets", "h", "given", "case"] []
  g_case_judged : mg "case_judged" = some (.ref A.a_case_judged)
  F_case_judged : Fun K "case_judged" "case_judged" s_case_judged A.a_case_judged A.d_case_judged
  b_case_judged : Binds K A.d_case_judged ["net", "ways", "h", "case"] []
  g_hardest_way : mg "hardest_way" = some (.ref A.a_hardest_way)
  F_hardest_way : Fun K "hardest_way" "hardest_way" s_hardest_way A.a_hardest_way A.d_hardest_way
  b_hardest_way : Binds K A.d_hardest_way ["meets", "given"] []
  g_gone_into : mg "gone_into" = some (.ref A.a_gone_into)
  F_gone_into : Fun K "gone_into" "gone_into" s_gone_into A.a_gone_into A.d_gone_into
  b_gone_into : Binds K A.d_gone_into ["meets", "h", "given"] []
  g_case_of : mg "case_of" = some (.ref A.a_case_of)
  F_case_of : Fun K "case_of" "case_of" s_case_of A.a_case_of A.d_case_of
  b_case_of : Binds K A.d_case_of ["net", "ways", "h"] []
  g_law_whole : mg "_law_whole" = some (.ref A.a_law_whole)
  F_law_whole : Fun K "_law_whole" "_law_whole" s_law_whole A.a_law_whole A.d_law_whole
  b_law_whole : Binds K A.d_law_whole ["_law_found"] []
  g_law_draws : mg "_law_draws" = some (.ref A.a_law_draws)
  F_law_draws : Fun K "_law_draws" "_law_draws" s_law_draws A.a_law_draws A.d_law_draws
  b_law_draws : Binds K A.d_law_draws ["_law_script", "_law_many_here"] []
  g_law_net : mg "_law_net" = some (.ref A.a_law_net)
  F_law_net : Fun K "_law_net" "_law_net" s_law_net A.a_law_net A.d_law_net
  b_law_net : Binds K A.d_law_net ["_law_number", "_law_most"] []
  g_law_places : mg "_law_places" = some (.ref A.a_law_places)
  F_law_places : Fun K "_law_places" "_law_places" s_law_places A.a_law_places A.d_law_places
  b_law_places : Binds K A.d_law_places ["_law_net_here"] []
  g_law_way : mg "_law_way" = some (.ref A.a_law_way)
  F_law_way : Fun K "_law_way" "_law_way" s_law_way A.a_law_way A.d_law_way
  b_law_way : Binds K A.d_law_way ["_law_net_here", "_law_number"] []
  g_law_up : mg "_law_up" = some (.ref A.a_law_up)
  F_law_up : Fun K "_law_up" "_law_up" s_law_up A.a_law_up A.d_law_up
  b_law_up : Binds K A.d_law_up ["_law_net_here", "_law_place"] []
  g_law_ties : mg "_law_ties" = some (.ref A.a_law_ties)
  F_law_ties : Fun K "_law_ties" "_law_ties" s_law_ties A.a_law_ties A.d_law_ties
  b_law_ties : Binds K A.d_law_ties ["_law_net_here", "_law_way_here"] []
  g_law_meet : mg "_law_meet" = some (.ref A.a_law_meet)
  F_law_meet : Fun K "_law_meet" "_law_meet" s_law_meet A.a_law_meet A.d_law_meet
  b_law_meet : Binds K A.d_law_meet ["_law_one", "_law_other"] []
  g_law_meets : mg "_law_meets" = some (.ref A.a_law_meets)
  F_law_meets : Fun K "_law_meets" "_law_meets" s_law_meets A.a_law_meets A.d_law_meets
  b_law_meets : Binds K A.d_law_meets ["_law_net_here", "_law_ways"] []
  g_law_given : mg "_law_given" = some (.ref A.a_law_given)
  F_law_given : Fun K "_law_given" "_law_given" s_law_given A.a_law_given A.d_law_given
  b_law_given : Binds K A.d_law_given ["_law_draws_here", "_law_kinds", "_law_most"] []
  g_law_enough : mg "_law_enough" = some (.ref A.a_law_enough)
  F_law_enough : Fun K "_law_enough" "_law_enough" s_law_enough A.a_law_enough A.d_law_enough
  b_law_enough : Binds K A.d_law_enough ["_law_meets_here", "_law_h", "_law_given_here"] []
  g_law_fewest : mg "_law_fewest" = some (.ref A.a_law_fewest)
  F_law_fewest : Fun K "_law_fewest" "_law_fewest" s_law_fewest A.a_law_fewest A.d_law_fewest
  b_law_fewest : Binds K A.d_law_fewest ["_law_meets_here"] []
  g_law_many : mg "_law_many" = some (.ref A.a_law_many)
  F_law_many : Fun K "_law_many" "_law_many" s_law_many A.a_law_many A.d_law_many
  b_law_many : Binds K A.d_law_many ["_law_given_here"] []
  g_law_stuck : mg "_law_stuck" = some (.ref A.a_law_stuck)
  F_law_stuck : Fun K "_law_stuck" "_law_stuck" s_law_stuck A.a_law_stuck A.d_law_stuck
  b_law_stuck : Binds K A.d_law_stuck ["_law_meets_here", "_law_given_here", "_law_k", "_law_hue"] []
  g_law_right : mg "_law_right" = some (.ref A.a_law_right)
  F_law_right : Fun K "_law_right" "_law_right" s_law_right A.a_law_right A.d_law_right
  b_law_right : Binds K A.d_law_right ["_law_meets_here", "_law_h", "_law_given_here", "_law_case_here"] []
  g_law_copied : mg "_law_copied" = some (.ref A.a_law_copied)
  F_law_copied : Fun K "_law_copied" "_law_copied" s_law_copied A.a_law_copied A.d_law_copied
  b_law_copied : Binds K A.d_law_copied ["_law_thing"] []
  g_law_marked : mg "_law_marked" = some (.ref A.a_law_marked)
  F_law_marked : Fun K "_law_marked" "_law_marked" s_law_marked A.a_law_marked A.d_law_marked
  b_law_marked : Binds K A.d_law_marked ["_law_case_here"] []
  g_law_once : mg "_law_once" = some (.ref A.a_law_once)
  F_law_once : Fun K "_law_once" "_law_once" s_law_once A.a_law_once A.d_law_once
  b_law_once : Binds K A.d_law_once ["_law_case_here"] []
  g_law : mg "law" = some (.ref A.a_law)
  F_law : Fun K "law" "law" s_law A.a_law A.d_law
  b_law : Binds K A.d_law ["_law_script"] []
  c_MOST_PLACES : mg "MOST_PLACES" = some (.int 60 (g_tok mg "MOST_PLACES"))
  c_MOST : mg "MOST" = some (.int 12 (g_tok mg "MOST"))
  z_bool : mg "bool" = none
  z_dict : mg "dict" = none
  z_enumerate : mg "enumerate" = none
  z_int : mg "int" = none
  z_isinstance : mg "isinstance" = none
  z_len : mg "len" = none
  z_list : mg "list" = none
  z_max : mg "max" = none
  z_min : mg "min" = none
  z_range : mg "range" = none
  z_set : mg "set" = none
  z_sorted : mg "sorted" = none
  z_tuple : mg "tuple" = none
/-! ### nets -/
inductive Net where
  | line (n : Int)
  | ring (n : Int)
  | tree (ps : List Int)
def Net.kind : Net → Str
  | .line _ => Str.ofString "line"
  | .ring _ => Str.ofString "ring"
  | .tree _ => Str.ofString "tree"
def Net.size : Net → PyData
  | .line n => .int n
  | .ring n => .int n
  | .tree ps => dInts ps
abbrev Net.d (N : Net) : PyData := .tuple [.str N.kind, N.size]
def TreeOk (ps : List Int) : Prop := 1 ≤ ps.length ∧ ps.length < 60 ∧ ∀ k : Nat, k < ps.length → 0 ≤ ps.getD k 0 ∧ ps.getD k 0 ≤ k
def Net.ok : Net → Prop
  | .line n => 2 ≤ n ∧ n ≤ 60
  | .ring n => 3 ≤ n ∧ n ≤ 60
  | .tree ps => TreeOk ps
def Net.places : Net → Int
  | .line n => n
  | .ring n => n
  | .tree ps => ps.length + 1
theorem net_str {s t : Str} (h : decide (V.str s = V.str t) = true) : s = t := V.str.inj (of_decide_eq_true h)
/-- a net's tuple -/
theorem dp_net {K : PySem.W.Frag} {H : Hp} {v : V} {N : Net} (h : Dp K H v N.d) : ∃ a y, v = .ref a ∧ SqT K H a [.str N.kind, y] ∧ Dp K H y N.size := by
  obtain ⟨a, x, y, rfl, hs, hx, hy⟩ := dp_tup2 h
  obtain rfl := dp_str hx
  exact ⟨a, y, rfl, hs, hy⟩
theorem k_eqS {s t : Str} {H : Hp} {Q : VK} (h : Q (.bl (decide (s = t))) H) : rEq (.str s) (.str t) H Q := ⟨rfl, by
  have e : decide (V.str s = V.str t) = decide (s = t) := by
    by_cases c : s = t
    · rw [decide_eq_true c, decide_eq_true (by rw [c])]
    · rw [decide_eq_false c, decide_eq_false (fun z => c (V.str.inj z))]
  rw [e]; exact h⟩
theorem k_neS {s t : Str} {H : Hp} {Q : VK} (h : Q (.bl (!decide (s = t))) H) : rNe (.str s) (.str t) H Q := ⟨rfl, by
  have e : decide (V.str s = V.str t) = decide (s = t) := by
    by_cases c : s = t
    · rw [decide_eq_true c, decide_eq_true (by rw [c])]
    · rw [decide_eq_false c, decide_eq_false (fun z => c (V.str.inj z))]
  rw [e]; exact h⟩
theorem s_lt : decide (Str.ofString "line" = Str.ofString "tree") = false := by decide +kernel
theorem s_rt : decide (Str.ofString "ring" = Str.ofString "tree") = false := by decide +kernel
theorem s_lr : decide (Str.ofString "line" = Str.ofString "ring") = false := by decide +kernel
theorem s_rl : decide (Str.ofString "ring" = Str.ofString "line") = false := by decide +kernel
theorem s_tl : decide (Str.ofString "tree" = Str.ofString "line") = false := by decide +kernel
theorem s_tr : decide (Str.ofString "tree" = Str.ofString "ring") = false := by decide +kernel
theorem s_same (s : Str) : decide (s = s) = true := decide_eq_true rfl
/-- how far t lies up from a on a ring of n -/
def up (n a t : Int) : Int := if a ≤ t then t - a else t - a + n
/-- x lies in the part of the tree that hangs by k -/
def below (ps : List Int) (k : Nat) : Nat → Bool
  | 0 => decide (k = 0)
  | x + 1 => decide (k = x + 1) || (decide (k < x + 1) && if h : (ps.getD x 0).toNat < x + 1 then below ps k (ps.getD x 0).toNat else false)
termination_by x => x
decreasing_by exact h
def OnTie : Net → Int → Int → Int → Prop
  | .line _, a, b, t => min a b ≤ t ∧ t < max a b
  | .ring n, a, b, t => 0 ≤ t ∧ t < n ∧ up n a t < up n a b
  | .tree ps, a, b, t => 0 ≤ t ∧ t < ps.length ∧ below ps (t.toNat + 1) a.toNat ≠ below ps (t.toNat + 1) b.toNat
def Net.far : Net → Int → Int → List Int → Prop
  | .line _, a, b, ns => (ns.length : Int) = max a b - min a b
  | .ring n, a, b, ns => (ns.length : Int) = up n a b
  | .tree _, _, _, ns => ns.length < 120
def isWay (N : Net) (a b : Int) : Prop := a ≠ b ∧ 0 ≤ a ∧ 0 ≤ b ∧ a < N.places ∧ b < N.places
instance (N : Net) (a b : Int) : Decidable (isWay N a b) := by unfold isWay; infer_instance
structure TiesOf (N : Net) (a b : Int) (ns : List Int) : Prop where
  srt : ns.Pairwise (· < ·)
  mem : ∀ t, t ∈ ns ↔ OnTie N a b t
  far : N.far a b ns

variable {P : Program} {w : World} {K : PySem.W.Frag} {mg : Str → Option Value} {base : Heap} {A : Ad}
def pr_is_tree (K : PySem.W.Frag) (v0 : V) (H : Hp) (Q : VK) (_ : XK) : Prop := ∃ ps, Dp K H v0 (dInts ps) ∧ ps.length ≤ 10000 ∧ ∀ b, (b = true ↔ TreeOk ps) → Q (.bl b) H
def t_is_tree (K : PySem.W.Frag) : TS :=
  (tSeq (tIfS (tOr (tTest (tOp xLt (tCB (rLenX K) (tCons (tVar 0) tNil)) (tC (.int 1)))) (tTest (tOp xGe (tCB (rLenX K) (tCons (tVar 0) tNil)) (tC (.int 60))))) (tRet (tC (.bl false))) tNext)
    (tSeq (tFor (iRng1 (tCons (tCB (rLenX K) (tCons (tVar 0) tNil)) tNil)) (gName 1)
      (tIfS (tOr (tTest (tOp xLt (tOp (rIxL K) (tVar 0) (tVar 1)) (tC (.int 0)))) (tTest (tOp xGt (tOp (rIxL K) (tVar 0) (tVar 1)) (tVar 1)))) (tRet (tC (.bl false))) tNext))
    (tRet (tC (.bl true)))))
theorem pure_is_tree {v0 : V} {H : Hp} {Q : VK} {E : XK} (h : pr_is_tree K v0 H Q E) : t_is_tree K ⟨fun _ H' => Q .non H', Q, fun _ _ => False, fun _ _ => False⟩ [some v0, none] H := by
  obtain ⟨ps, hp, hz, q⟩ := h
  obtain ⟨a, rfl, ha⟩ := dp_ints hp
  unfold t_is_tree
  wtm_at "s"
  refine k_it (fun c1 => ?_) (fun c1 => ?_)
  · wtm_at "s"
    exact q _ (ff_iff fun z => absurd z.1 (by omega))
  wtm_at "s"
  refine k_it (fun c2 => ?_) (fun c2 => ?_)
  · wtm_at "s"
    exact q _ (ff_iff fun z => absurd z.2.1 (by omega))
  wtm_at "s"
  refine forR (fun i σ' H' => H' = H ∧ (∃ k, σ' = [some (.ref a), k]) ∧ ∀ k : Nat, k < i → 0 ≤ ps.getD k 0 ∧ ps.getD k 0 ≤ k) ⟨rfl, ⟨none, rfl⟩, fun k hk => absurd hk (by omega)⟩ ?_ ?_
  · rintro i σ' H' hi ⟨rfl, ⟨k, rfl⟩, hk⟩
    wtm_at "s"
    refine k_ixI ha (by omega) (by omega) ?_
    wtm_at "s"
    rw [show (0 + (i : Int)).toNat = i by omega]
    refine k_it (fun c3 => ?_) (fun c3 => ?_)
    · wtm_at "s"
      exact q _ (ff_iff fun z => absurd (z.2.2 i (by omega)).1 (by omega))
    wtm_at "s"
    refine k_ixI ha (by omega) (by omega) ?_
    wtm_at "s"
    rw [show (0 + (i : Int)).toNat = i by omega]
    refine k_it (fun c4 => ?_) (fun c4 => ?_)
    · wtm_at "s"
      exact q _ (ff_iff fun z => absurd (z.2.2 i (by omega)).2 (by omega))
    wtm_at "s"
    refine ⟨rfl, ⟨_, rfl⟩, fun k hk' => ?_⟩
    by_cases e : k = i
    · subst e; omega
    · exact hk k (by omega)
  · rintro σ' H' ⟨rfl, ⟨k, rfl⟩, hk⟩
    wtm_at "s"
    exact q _ (tt_iff ⟨by omega, by omega, fun k h => hk k (by omega)⟩)
abbrev sp_is_tree (K : PySem.W.Frag) : Sp := fun vs H Q E => ∃ v0, vs = [v0] ∧ pr_is_tree K v0 H Q E
theorem ok_is_tree (T : Txt K mg A) : FnOk P w K mg base CX0 1 A.a_is_tree A.d_is_tree ["parents"] (sp_is_tree K) := by
  refine T.F_is_tree.ok sc_is_tree (fun vs H Q E h => by obtain ⟨v0, rfl, _⟩ := h; rfl) (fun cdv A0 outer s H vs Q E hr h => ?_)
  obtain ⟨v0, rfl, h⟩ := h
  exact ⟨t_is_tree K, (pss_cons (ps_if (PW.pt (pw_or (pt_cmpR op_lt (pe_callB q_len (by rfl) T.z_len (by decide +kernel) (pa_cons (pv 0) pa_nil)) pe_int (nomark _)) (pw_or1 (pt_cmpR op_ge (pe_callB q_len (by rfl) T.z_len (by decide +kernel) (pa_cons (pv 0) pa_nil)) (pe_glob (v := .int 60) (by rfl) T.c_MOST_PLACES ⟨_, rfl⟩) (nomark _))))) (pss_one (ps_ret pe_bl)) pss_nil)
      (pss_cons (ps_for PassesOwn.never rfl (pi_range1 (by rfl) T.z_range (pa_cons (pe_callB q_len (by rfl) T.z_len (by decide +kernel) (pa_cons (pv 0) pa_nil)) pa_nil)) (pg_name (i := 1) sc_is_tree.nd rfl (Or.inl rfl))
      (pss_one (ps_if (PW.pt (pw_or (pt_cmpR op_lt (pe_ix ix_list (pv 0) (pv 1) (fun _ _ => rfl)) pe_int (nomark _)) (pw_or1 (pt_cmpR op_gt (pe_ix ix_list (pv 0) (pv 1) (fun _ _ => rfl)) (pv 1) (nomark _))))) (pss_one (ps_ret pe_bl)) pss_nil)))
      (pss_one (ps_ret pe_bl)))), pure_is_tree h⟩
def pr_look_net (K : PySem.W.Frag) (v0 : V) (H : Hp) (Q : VK) (_ : XK) : Prop := ∃ N : Net, Dp K H v0 N.d ∧ N.ok ∧ Q .non H
def t_look_net (K : PySem.W.Frag) : TS :=
  (tSeq (tAsg (tVar 0) (gTup K 2 (gCons (gName 1) (gCons (gName 2) gNil))))
    (tSeq (tIfS (tTest (tOp rEq (tVar 1) (tC (.str (Str.ofString "tree"))))) (tAsg (tAndV (tCB (rIsi K) (tCons (tVar 2) (tCons (tC (.ty "list")) tNil))) (tCall (sp_is_tree K) [] E0 (tCons (tVar 2) tNil))) (gName 3)) (tIfS (tOr (tTest (tOp rEq (tVar 1) (tC (.str (Str.ofString "line"))))) (tTest (tOp rEq (tVar 1) (tC (.str (Str.ofString "ring")))))) (tAsg (tAndV (tNotV (tCB (rIsi K) (tCons (tVar 2) (tCons (tC (.ty "list")) tNil)))) (tAndV (tOp xGe (tVar 2) (tOp xAdd (tC (.int 2)) (tCB rIntOf (tCons (tOp rEq (tVar 1) (tC (.str (Str.ofString "ring")))) tNil)))) (tOp xLe (tVar 2) (tC (.int 60))))) (gName 3)) (tAsg (tC (.bl false)) (gName 3))))
    (tIfS (tNot (tB (tVar 3))) tNever tNext)))
theorem pure_look_net {v0 : V} {H : Hp} {Q : VK} {E : XK} (h : pr_look_net K v0 H Q E) : t_look_net K ⟨fun _ H' => Q .non H', Q, fun _ _ => False, fun _ _ => False⟩ [some v0, none, none, none] H := by
  obtain ⟨N, hd, ok, q⟩ := h
  obtain ⟨a, y, rfl, hs, hy⟩ := dp_net hd
  unfold t_look_net
  cases N with
  | line n =>
    obtain rfl := dp_int hy
    obtain ⟨o1, o2⟩ := ok
    wtm_at "s"
    refine k_eqS ?_
    rw [show Net.kind (.line n) = Str.ofString "line" from rfl, s_lt]
    wtm_at "s"
    refine k_eqS ?_
    rw [s_same]
    wtm_at "s"
    refine k_eqS ?_
    rw [s_lr]
    wtm_at "s"
    have e1 : decide (2 + (if false = true then 1 else 0) ≤ n) = true := by simp; omega
    rw [e1]
    wtm_at "s"
    exact q
  | ring n =>
    obtain rfl := dp_int hy
    obtain ⟨o1, o2⟩ := ok
    wtm_at "s"
    refine k_eqS ?_
    rw [show Net.kind (.ring n) = Str.ofString "ring" from rfl, s_rt]
    wtm_at "s"
    refine k_eqS ?_
    rw [s_rl]
    wtm_at "s"
    refine k_eqS ?_
    rw [s_same]
    wtm_at "s"
    refine k_eqS ?_
    rw [s_same]
    wtm_at "s"
    exact q
  | tree ps =>
    obtain ⟨b, rfl, hb⟩ := dp_ints hy
    wtm_at "s"
    refine k_eqS ?_
    rw [show Net.kind (.tree ps) = Str.ofString "tree" from rfl, s_same]
    wtm_at "s"
    refine ⟨_, rfl, ps, hy, by have := ok.2.1; omega, fun r hr => ?_⟩
    obtain rfl := hr.mpr ok
    wtm_at "s"
    exact q
abbrev sp_look_net (K : PySem.W.Frag) : Sp := fun vs H Q E => ∃ v0, vs = [v0] ∧ pr_look_net K v0 H Q E
theorem ok_look_net (T : Txt K mg A) : FnOk P w K mg base CX0 2 A.a_look_net A.d_look_net ["net"] (sp_look_net K) := by
  refine T.F_look_net.ok sc_look_net (fun vs H Q E h => by obtain ⟨v0, rfl, _⟩ := h; rfl) (fun cdv A0 outer s H vs Q E hr h => ?_)
  obtain ⟨v0, rfl, h⟩ := h
  exact ⟨t_look_net K, (pss_cons (ps_asg (pv 0) (pg_tup (by rfl) (pgs_cons (pg_name (i := 1) sc_look_net.nd rfl (Or.inl rfl)) (pgs_cons (pg_name (i := 2) sc_look_net.nd rfl (Or.inl rfl)) pgs_nil))))
      (pss_cons (ps_if (pt_cmpR op_eq (pv 1) pe_str (nomark _)) (pss_one (ps_set (i := 3) sc_look_net.nd rfl (Or.inl rfl) (pe_and (pe_callB q_isi (by rfl) T.z_isinstance (by decide +kernel) (pa_cons (pv 2) (pa_cons (pe_bltn (v := .ty "list") (by rfl) T.z_list (by decide +kernel) rfl) pa_nil))) (pe_one (pe_call (ok_is_tree T) (hr.mono (by decide)) (by rfl) T.g_is_tree T.F_is_tree.kp T.b_is_tree .nil pass0 (pa_cons (pv 2) pa_nil)))))) (pss_one (ps_if (PW.pt (pw_or (pt_cmpR op_eq (pv 1) pe_str (nomark _)) (pw_or1 (pt_cmpR op_eq (pv 1) pe_str (nomark _))))) (pss_one (ps_set (i := 3) sc_look_net.nd rfl (Or.inl rfl) (pe_and (pe_not (pe_callB q_isi (by rfl) T.z_isinstance (by decide +kernel) (pa_cons (pv 2) (pa_cons (pe_bltn (v := .ty "list") (by rfl) T.z_list (by decide +kernel) rfl) pa_nil)))) (pe_and (pe_cmpR op_ge (pv 2) (pe_op op_add pe_int (pe_callTy q_intB (by rfl) T.z_int (by decide +kernel) (pa_cons (pe_cmpR op_eq (pv 1) pe_str (nomark _)) pa_nil))) (nomark _)) (pe_one (pe_cmpR op_le (pv 2) (pe_glob (v := .int 60) (by rfl) T.c_MOST_PLACES ⟨_, rfl⟩) (nomark _))))))) (pss_one (ps_set (i := 3) sc_look_net.nd rfl (Or.inl rfl) pe_bl)))))
      (pss_one (ps_if (pt_not (pt_val (pv 3))) (pss_one ps_never) pss_nil)))), pure_look_net h⟩


def pr_places_of (K : PySem.W.Frag) (v0 : V) (H : Hp) (Q : VK) (_ : XK) : Prop := ∃ N : Net, Dp K H v0 N.d ∧ Q (.int N.places) H
def t_places_of (K : PySem.W.Frag) : TS :=
  (tSeq (tIfS (tTest (tOp rEq (tOp (rIxT K) (tVar 0) (tC (.int 0))) (tC (.str (Str.ofString "tree"))))) (tRet (tOp xAdd (tCB (rLenX K) (tCons (tOp (rIxT K) (tVar 0) (tC (.int 1))) tNil)) (tC (.int 1)))) tNext)
    (tRet (tOp (rIxT K) (tVar 0) (tC (.int 1)))))
theorem pure_places_of {v0 : V} {H : Hp} {Q : VK} {E : XK} (h : pr_places_of K v0 H Q E) : t_places_of K ⟨fun _ H' => Q .non H', Q, fun _ _ => False, fun _ _ => False⟩ [some v0] H := by
  obtain ⟨N, hd, q⟩ := h
  obtain ⟨a, y, rfl, hs, hy⟩ := dp_net hd
  unfold t_places_of
  wtm_at "s"
  refine k_eqS ?_
  cases N with
  | line n =>
    obtain rfl := dp_int hy
    rw [show Net.kind (.line n) = Str.ofString "line" from rfl, s_lt]
    wtm_at "s"
    exact q
  | ring n =>
    obtain rfl := dp_int hy
    rw [show Net.kind (.ring n) = Str.ofString "ring" from rfl, s_rt]
    wtm_at "s"
    exact q
  | tree ps =>
    obtain ⟨b, rfl, hb⟩ := dp_ints hy
    rw [show Net.kind (.tree ps) = Str.ofString "tree" from rfl, s_same]
    wtm_at "s"
    exact q
abbrev sp_places_of (K : PySem.W.Frag) : Sp := fun vs H Q E => ∃ v0, vs = [v0] ∧ pr_places_of K v0 H Q E
theorem ok_places_of (T : Txt K mg A) : FnOk P w K mg base CX0 1 A.a_places_of A.d_places_of ["net"] (sp_places_of K) := by
  refine T.F_places_of.ok sc_places_of (fun vs H Q E h => by obtain ⟨v0, rfl, _⟩ := h; rfl) (fun cdv A0 outer s H vs Q E hr h => ?_)
  obtain ⟨v0, rfl, h⟩ := h
  exact ⟨t_places_of K, (pss_cons (ps_if (pt_cmpR op_eq (pe_ix ix_tup (pv 0) pe_int (fun _ _ => rfl)) pe_str (nomark _)) (pss_one (ps_ret (pe_op op_add (pe_callB q_len (by rfl) T.z_len (by decide +kernel) (pa_cons (pe_ix ix_tup (pv 0) pe_int (fun _ _ => rfl)) pa_nil)) pe_int))) pss_nil)
      (pss_one (ps_ret (pe_ix ix_tup (pv 0) pe_int (fun _ _ => rfl))))), pure_places_of h⟩
def pr_is_way (K : PySem.W.Frag) (v0 v1 : V) (H : Hp) (Q : VK) (_ : XK) : Prop := ∃ (N : Net) (a b : Int), Dp K H v0 N.d ∧ Dp K H v1 (dPair (a, b)) ∧ Q (.bl (decide (isWay N a b))) H
def t_is_way (K : PySem.W.Frag) : TS :=
  (tSeq (tAsg (tVar 1) (gTup K 2 (gCons (gName 2) (gCons (gName 3) gNil))))
    (tRet (tAndV (tOp rNe (tVar 2) (tVar 3)) (tAndV (tOp xGe (tCB rMin2 (tCons (tVar 2) (tCons (tVar 3) tNil))) (tC (.int 0))) (tOp xLt (tCB rMax2 (tCons (tVar 2) (tCons (tVar 3) tNil))) (tCall (sp_places_of K) [] E0 (tCons (tVar 0) tNil)))))))
theorem pure_is_way {v0 v1 : V} {H : Hp} {Q : VK} {E : XK} (h : pr_is_way K v0 v1 H Q E) : t_is_way K ⟨fun _ H' => Q .non H', Q, fun _ _ => False, fun _ _ => False⟩ [some v0, some v1, none, none] H := by
  obtain ⟨N, a, b, hd, hw, q⟩ := h
  obtain ⟨p, rfl, hp⟩ := dp_pair hw
  have kk : ∀ r : Bool, (r = true ↔ isWay N a b) → Q (.bl r) H := fun r hr => by
    have : r = decide (isWay N a b) := by
      by_cases c : isWay N a b
      · rw [decide_eq_true c]; exact hr.mpr c
      · rw [decide_eq_false c]
        cases r with
        | false => rfl
        | true => exact absurd (hr.mp rfl) c
    rw [this]; exact q
  unfold t_is_way
  wtm_at "s"
  refine k_itn (fun c1 => ?_) (fun c1 => ?_)
  · wtm_at "s"
    refine k_it (fun c2 => ?_) (fun c2 => ?_)
    · wtm_at "s"
      refine ⟨_, rfl, N, hd, ?_⟩
      wtm_at "s"
      refine kk _ ?_
      simp only [decide_eq_true_eq, isWay]
      constructor
      · intro z
        split at z <;> split at c2 <;> omega
      · intro z
        split <;> omega
    · wtm_at "s"
      refine kk _ (ff_iff fun z => c2 ?_)
      obtain ⟨z1, z2, z3, z4, z5⟩ := z
      split <;> omega
  · wtm_at "s"
    exact kk _ (ff_iff fun z => z.1 c1)
abbrev sp_is_way (K : PySem.W.Frag) : Sp := fun vs H Q E => ∃ v0 v1, vs = [v0, v1] ∧ pr_is_way K v0 v1 H Q E
theorem ok_is_way (T : Txt K mg A) : FnOk P w K mg base CX0 2 A.a_is_way A.d_is_way ["net", "way"] (sp_is_way K) := by
  refine T.F_is_way.ok sc_is_way (fun vs H Q E h => by obtain ⟨v0, v1, rfl, _⟩ := h; rfl) (fun cdv A0 outer s H vs Q E hr h => ?_)
  obtain ⟨v0, v1, rfl, h⟩ := h
  exact ⟨t_is_way K, (pss_cons (ps_asg (pv 1) (pg_tup (by rfl) (pgs_cons (pg_name (i := 2) sc_is_way.nd rfl (Or.inl rfl)) (pgs_cons (pg_name (i := 3) sc_is_way.nd rfl (Or.inl rfl)) pgs_nil))))
      (pss_one (ps_ret (pe_and (pe_cmpR op_ne (pv 2) (pv 3) (nomark _)) (pe_and (pe_cmpR op_ge (pe_callB (q_min2 (by rfl)) (by rfl) T.z_min (by decide +kernel) (pa_cons (pv 2) (pa_cons (pv 3) pa_nil))) pe_int (nomark _)) (pe_one (pe_cmpR op_lt (pe_callB (q_max2 (by rfl)) (by rfl) T.z_max (by decide +kernel) (pa_cons (pv 2) (pa_cons (pv 3) pa_nil))) (pe_call (ok_places_of T) (hr.mono (by decide)) (by rfl) T.g_places_of T.F_places_of.kp T.b_places_of .nil pass0 (pa_cons (pv 0) pa_nil)) (nomark _)))))))), pure_is_way h⟩


theorem below_lt {ps : List Int} {k : Nat} : ∀ x, x < k → below ps k x = false
  | 0, h => by unfold below; exact decide_eq_false (by omega)
  | x + 1, h => by
    unfold below
    rw [decide_eq_false (show ¬ k = x + 1 by omega), decide_eq_false (show ¬ k < x + 1 by omega)]; rfl
theorem below_self {ps : List Int} (k : Nat) : below ps k k = true := by
  cases k with
  | zero => unfold below; rfl
  | succ x => unfold below; rw [decide_eq_true rfl]; rfl
theorem below_step {ps : List Int} (h : TreeOk ps) {k x : Nat} (hx : x < ps.length) (hk : k ≠ x + 1) : below ps k (x + 1) = below ps k (ps.getD x 0).toNat := by
  have hp := h.2.2 x hx
  have hlt : (ps.getD x 0).toNat < x + 1 := by omega
  rw [below, decide_eq_false hk, Bool.false_or, dif_pos hlt]
  by_cases c : k < x + 1
  · rw [decide_eq_true c, Bool.true_and]
  · rw [decide_eq_false c, Bool.false_and, below_lt _ (by omega)]
theorem ring_step {n a b t : Int} (a0 : 0 ≤ a) (a1 : a < n) (b0 : 0 ≤ b) (b1 : b < n) (ne : a ≠ b) (t0 : 0 ≤ t) (t1 : t < n) :
    (up n a t < up n a b ↔ t = a ∨ up n ((a + 1) % n) t < up n ((a + 1) % n) b) ∧ (t = a → ¬ up n ((a + 1) % n) t < up n ((a + 1) % n) b) := by
  have e : (a + 1) % n = if a + 1 = n then 0 else a + 1 := by
    split
    · rename_i h; rw [h]; exact Int.emod_self
    · exact Int.emod_eq_of_lt (by omega) (by omega)
  rw [e]
  unfold up
  constructor
  · constructor
    · intro h; repeat' split at h
      all_goals repeat' split
      all_goals omega
    · intro h; repeat' split at h
      all_goals repeat' split
      all_goals omega
  · intro h; subst h
    repeat' split
    all_goals omega
theorem ring_far {n a b : Int} (a0 : 0 ≤ a) (a1 : a < n) (b0 : 0 ≤ b) (b1 : b < n) (ne : a ≠ b) : up n ((a + 1) % n) b = up n a b - 1 ∧ 0 ≤ (a + 1) % n ∧ (a + 1) % n < n ∧ 0 < up n a b ∧ up n a b < n := by
  have e : (a + 1) % n = if a + 1 = n then 0 else a + 1 := by
    split
    · rename_i h; rw [h]; exact Int.emod_self
    · exact Int.emod_eq_of_lt (by omega) (by omega)
  rw [e]
  unfold up
  refine ⟨?_, ?_, ?_, ?_, ?_⟩ <;> repeat' split
  all_goals omega
theorem up_self (n a : Int) : up n a a = 0 := by unfold up; split <;> omega
theorem up_nonneg {n a b : Int} (a0 : 0 ≤ a) (a1 : a < n) (b0 : 0 ≤ b) (b1 : b < n) : 0 ≤ up n a b := by unfold up; split <;> omega
/-- the greater end climbs -/
theorem tree_step {ps : List Int} (h : TreeOk ps) {x y t : Int} (x0 : 0 ≤ x) (x1 : x < ps.length + 1) (y0 : 0 ≤ y) (yx : y < x) (t0 : 0 ≤ t) :
    (below ps (t.toNat + 1) x.toNat ≠ below ps (t.toNat + 1) y.toNat ↔ t = x - 1 ∨ below ps (t.toNat + 1) (ps.getD (x - 1).toNat 0).toNat ≠ below ps (t.toNat + 1) y.toNat) ∧
    (t = x - 1 → ¬ below ps (t.toNat + 1) (ps.getD (x - 1).toNat 0).toNat ≠ below ps (t.toNat + 1) y.toNat) := by
  have hp := h.2.2 (x - 1).toNat (by omega)
  by_cases c : t = x - 1
  · subst c
    have e1 : (x - 1).toNat + 1 = x.toNat := by omega
    rw [e1, below_self, below_lt y.toNat (by omega), below_lt (ps.getD (x - 1).toNat 0).toNat (by omega)]
    simp
  · have e1 : x.toNat = (x - 1).toNat + 1 := by omega
    have := below_step h (k := t.toNat + 1) (x := (x - 1).toNat) (by omega) (by omega)
    rw [e1, this]
    simp [c]
theorem srt_of {fs ns : List Int} (nd : fs.Nodup) (pm : ns.Perm fs) (srt : ns.Pairwise (· ≤ ·)) : ns.Pairwise (· < ·) := by
  have := srt.and (pm.nodup_iff.mpr nd)
  exact this.imp fun ⟨a, b⟩ => by omega
def pr_ties_on (K : PySem.W.Frag) (v0 v1 : V) (H : Hp) (Q : VK) (_ : XK) : Prop := ∃ (N : Net) (a b : Int), Dp K H v0 N.d ∧ Dp K H v1 (dPair (a, b)) ∧ N.ok ∧ isWay N a b ∧ ∀ p ns H', H p = none → Same H H' → H' p = some (.lst (List.map V.int ns)) → TiesOf N a b ns → Q (.ref p) H'
def t_ties_on (K : PySem.W.Frag) : TS :=
  (tSeq (tAsg (tVar 1) (gTup K 2 (gCons (gName 2) (gCons (gName 3) gNil))))
    (tSeq (tAsg (tLst tNil) (gName 4))
    (tSeq (tIfS (tTest (tOp rEq (tOp (rIxT K) (tVar 0) (tC (.int 0))) (tC (.str (Str.ofString "line"))))) (tRet (tLstRg (tRg2 (tCB rMin2 (tCons (tVar 2) (tCons (tVar 3) tNil))) (tCB rMax2 (tCons (tVar 2) (tCons (tVar 3) tNil)))))) tNext)
    (tSeq (tWhile (tTest (tOp rNe (tVar 2) (tVar 3)))
      (tIfS (tTest (tOp rEq (tOp (rIxT K) (tVar 0) (tC (.int 0))) (tC (.str (Str.ofString "ring"))))) (tSeq (tDrop (tBM K "list" rAppend (tVar 4) (tCons (tVar 2) tNil)))
    (tAsg (tOp xMod (tOp xAdd (tVar 2) (tC (.int 1))) (tOp (rIxT K) (tVar 0) (tC (.int 1)))) (gName 2))) (tIfS (tTest (tOp xGt (tVar 2) (tVar 3))) (tSeq (tDrop (tBM K "list" rAppend (tVar 4) (tCons (tOp xSub (tVar 2) (tC (.int 1))) tNil)))
    (tAsg (tOp (rIxL K) (tOp (rIxT K) (tVar 0) (tC (.int 1))) (tOp xSub (tVar 2) (tC (.int 1)))) (gName 2))) (tSeq (tDrop (tBM K "list" rAppend (tVar 4) (tCons (tOp xSub (tVar 3) (tC (.int 1))) tNil)))
    (tAsg (tOp (rIxL K) (tOp (rIxT K) (tVar 0) (tC (.int 1))) (tOp xSub (tVar 3) (tC (.int 1)))) (gName 3))))))
    (tRet (tCB (rSortedI K) (tCons (tVar 4) tNil)))))))
def Net.far2 (N : Net) (a b a' b' : Int) (fs : List Int) (m : Nat) : Prop := match N with
  | .line _ => True
  | .ring n => (m : Int) = up n a' b' ∧ (fs.length : Int) + m = up n a b
  | .tree _ => (m : Int) = a' + b' ∧ (fs.length : Int) + m ≤ a + b
theorem pure_ties_on {v0 v1 : V} {H : Hp} {Q : VK} {E : XK} (h : pr_ties_on K v0 v1 H Q E) : t_ties_on K ⟨fun _ H' => Q .non H', Q, fun _ _ => False, fun _ _ => False⟩ [some v0, some v1, none, none, none] H := by
  obtain ⟨N, a, b, hd, hw, ok, ⟨w1, w2, w3, w4, w5⟩, q⟩ := h
  obtain ⟨c, y, rfl, hs, hy⟩ := dp_net hd
  obtain ⟨p, rfl, hp⟩ := dp_pair hw
  unfold t_ties_on
  wtm_at "s"
  refine ⟨sz (by simp), fun fo nfo => ?_⟩
  have s1 := same_new (o := .lst []) nfo
  have e1 : upd H fo (.lst []) fo = some (.lst (List.map V.int [])) := upd_same
  generalize upd H fo (.lst []) = H1 at s1 e1 ⊢
  wtm_at "s"
  refine k_eqS ?_
  have loop : ∀ (nx : L2.St → Hp → Prop) (bk ct : L2.St → Hp → Prop), (match N with | .line _ => False | _ => True) → ∀ (W : Nat → L2.St → Hp → Prop), True := fun _ _ _ _ _ => trivial
  cases N with
  | line n =>
    obtain rfl := dp_int hy
    rw [show Net.kind (.line n) = Str.ofString "line" from rfl, s_same]
    obtain ⟨o1, o2⟩ := ok
    have w4' : a < n := w4
    have w5' : b < n := w5
    wtm_at "s"
    have hmn : (if b < a then b else a) = min a b := by split <;> omega
    have hmx : (if b > a then b else a) = max a b := by split <;> omega
    rw [hmn, hmx]
    refine ⟨.of_le (by omega) (by omega) (by omega) (by omega), fun l nl => ?_⟩
    refine q l ((List.range (max a b - min a b).toNat).map fun i => min a b + (i : Nat)) _ (s1.free nl) (s1.trans (same_new nl)) (by rw [upd_same, rg_ints]) ⟨?_, fun t => ?_, ?_⟩
    · exact List.pairwise_map.mpr (List.pairwise_lt_range.imp fun h => by omega)
    · show _ ↔ min a b ≤ t ∧ t < max a b
      rw [List.mem_map]
      constructor
      · rintro ⟨i, hi, rfl⟩
        have := List.mem_range.mp hi
        omega
      · intro h
        exact ⟨(t - min a b).toNat, List.mem_range.mpr (by omega), by omega⟩
    · show ((List.map _ _).length : Int) = max a b - min a b
      rw [List.length_map, List.length_range]
      omega
  | ring n =>
    obtain rfl := dp_int hy
    rw [show Net.kind (.ring n) = Str.ofString "ring" from rfl] at hs ⊢
    rw [s_rl]
    obtain ⟨o1, o2⟩ := ok
    have w4' : a < n := w4
    have w5' : b < n := w5
    have u0 := up_nonneg w2 w4' w3 w5'
    wtm_at "s"
    refine ⟨fun m σ' H' => ∃ a' fs, σ' = [some (.ref c), some (.ref p), some (.int a'), some (.int b), some (.ref fo)] ∧ Same H H' ∧ H' fo = some (.lst (List.map V.int fs)) ∧ 0 ≤ a' ∧ a' < n ∧ fs.Nodup ∧ (m : Int) = up n a' b ∧ (fs.length : Int) + m = up n a b ∧
      (∀ t, OnTie (.ring n) a b t ↔ t ∈ fs ∨ OnTie (.ring n) a' b t) ∧ (∀ t, t ∈ fs → ¬ OnTie (.ring n) a' b t),
      ⟨(up n a b).toNat, a, [], rfl, s1, e1, w2, w4', List.nodup_nil, by omega, by simp; omega, fun t => by simp, fun t z => by cases z⟩, ?_⟩
    rintro m σ' H' ⟨a', fs, rfl, sm, hf, a0, a1, nd, hm, hfl, ht, hn⟩
    wtm_at "s"
    refine k_itn (fun c1 => ?_) (fun c1 => ?_)
    · obtain ⟨f1, f2, f3, f4, f5⟩ := ring_far a0 a1 w3 w5' c1
      have uab : up n a b < n := by unfold up; split <;> omega
      refine ⟨fun σ' H' => ∃ fs', σ' = [some (.ref c), some (.ref p), some (.int ((a' + 1) % n)), some (.int b), some (.ref fo)] ∧ Same H H' ∧ H' fo = some (.lst (List.map V.int fs')) ∧ fs'.Nodup ∧ (fs'.length : Int) + (m - 1 : Nat) = up n a b ∧
        (∀ t, OnTie (.ring n) a b t ↔ t ∈ fs' ∨ OnTie (.ring n) ((a' + 1) % n) b t) ∧ (∀ t, t ∈ fs' → ¬ OnTie (.ring n) ((a' + 1) % n) b t), fun σ' H' ⟨fs', e, g1, g2, g3, g4, g5, g6⟩ => ⟨m - 1, by omega, _, fs', e, g1, g2, f2, f3, g3, by omega, g4, g5, g6⟩, ?_⟩
      have hs' : SqT K H' c [.str (Str.ofString "ring"), .int n] := same_seqT sm hs
      wtm_at "s"
      refine k_eqS ?_
      rw [s_same]
      wtm_at "s"
      refine k_tyL (sl hf) ?_
      wtm_at "s"
      refine k_append hf (by rw [List.length_map]; omega) ?_
      have hs2 : SqT K (upd H' fo (.lst (List.map V.int fs ++ [.int a']))) c [.str (Str.ofString "ring"), .int n] := same_seqT (same_mut sm nfo) hs
      wtm_at "s"
      refine ⟨fs ++ [a'], rfl, same_mut sm nfo, by rw [upd_same, List.map_append]; rfl, ?_, ?_, fun t => ?_, fun t z => ?_⟩
      · refine List.nodup_append.mpr ⟨nd, by simp, fun x hx y hy e => ?_⟩
        have : y = a' := by simpa using hy
        subst this; subst e
        exact hn x hx ⟨a0, a1, by rw [up_self]; exact f4⟩
      · rw [List.length_append]; show ((fs.length + 1 : Nat) : Int) + _ = _; omega
      · rw [ht t, List.mem_append]
        show t ∈ fs ∨ (0 ≤ t ∧ t < n ∧ up n a' t < up n a' b) ↔ (t ∈ fs ∨ t ∈ [a']) ∨ (0 ≤ t ∧ t < n ∧ _)
        by_cases r : 0 ≤ t ∧ t < n
        · have st := (ring_step a0 a1 w3 w5' c1 r.1 r.2).1
          simp only [r.1, r.2, true_and, List.mem_singleton, st, or_assoc]
        · have : t ≠ a' := fun e => r (by omega)
          constructor
          · rintro (h | h)
            · exact .inl (.inl h)
            · exact absurd ⟨h.1, h.2.1⟩ r
          · rintro ((h | h) | h)
            · exact .inl h
            · exact absurd (by simpa using h) this
            · exact absurd ⟨h.1, h.2.1⟩ r
      · rcases List.mem_append.mp z with z | z
        · intro o
          obtain ⟨o1, o2, o3⟩ := o
          exact hn t z ⟨o1, o2, (ring_step a0 a1 w3 w5' c1 o1 o2).1.mpr (.inr o3)⟩
        · have e : t = a' := by simpa using z
          intro o
          obtain ⟨o1, o2, o3⟩ := o
          exact (ring_step a0 a1 w3 w5' c1 o1 o2).2 e o3
    · subst c1
      rw [up_self] at hm
      wtm_at "s"
      refine k_sortedI (sl hf) (fun ns l pm srt nl => ?_)
      refine q l ns _ (sm.free nl) (sm.trans (same_new nl)) upd_same ⟨srt_of nd pm srt, fun t => ?_, ?_⟩
      · rw [pm.mem_iff, ht t]
        constructor
        · exact .inl
        · rintro (h | h)
          · exact h
          · obtain ⟨_, _, h⟩ := h
            rw [up_self] at h
            have := up_nonneg a0 a1 (b := t) (by assumption) (by assumption)
            omega
      · show (ns.length : Int) = up n a a'
        rw [pm.length_eq]; omega
  | tree ps =>
    obtain ⟨d, rfl, hdl⟩ := dp_ints hy
    rw [show Net.kind (.tree ps) = Str.ofString "tree" from rfl] at hs ⊢
    rw [s_tl]
    have w4' : a < ps.length + 1 := w4
    have w5' : b < ps.length + 1 := w5
    have l60 := ok.2.1
    wtm_at "s"
    refine ⟨fun m σ' H' => ∃ a' b' fs, σ' = [some (.ref c), some (.ref p), some (.int a'), some (.int b'), some (.ref fo)] ∧ Same H H' ∧ H' fo = some (.lst (List.map V.int fs)) ∧ 0 ≤ a' ∧ a' < ps.length + 1 ∧ 0 ≤ b' ∧ b' < ps.length + 1 ∧ fs.Nodup ∧ (m : Int) = a' + b' ∧ (fs.length : Int) + m ≤ a + b ∧
      (∀ t, OnTie (.tree ps) a b t ↔ t ∈ fs ∨ OnTie (.tree ps) a' b' t) ∧ (∀ t, t ∈ fs → ¬ OnTie (.tree ps) a' b' t),
      ⟨(a + b).toNat, a, b, [], rfl, s1, e1, w2, w4', w3, w5', List.nodup_nil, by omega, by simp; omega, fun t => by simp, fun t z => by cases z⟩, ?_⟩
    rintro m σ' H' ⟨a', b', fs, rfl, sm, hf, a0, a1, b0, b1, nd, hm, hfl, ht, hn⟩
    wtm_at "s"
    refine k_itn (fun c1 => ?_) (fun c1 => ?_)
    · refine ⟨fun σ' H' => ∃ m' a2 b2 fs', m' < m ∧ σ' = [some (.ref c), some (.ref p), some (.int a2), some (.int b2), some (.ref fo)] ∧ Same H H' ∧ H' fo = some (.lst (List.map V.int fs')) ∧ 0 ≤ a2 ∧ a2 < ps.length + 1 ∧ 0 ≤ b2 ∧ b2 < ps.length + 1 ∧ fs'.Nodup ∧ (m' : Int) = a2 + b2 ∧ (fs'.length : Int) + m' ≤ a + b ∧
        (∀ t, OnTie (.tree ps) a b t ↔ t ∈ fs' ∨ OnTie (.tree ps) a2 b2 t) ∧ (∀ t, t ∈ fs' → ¬ OnTie (.tree ps) a2 b2 t), fun σ' H' ⟨m', a2, b2, fs', l, r⟩ => ⟨m', l, a2, b2, fs', r⟩, ?_⟩
      have hs' : SqT K H' c [.str (Str.ofString "tree"), .ref d] := same_seqT sm hs
      wtm_at "s"
      refine k_eqS ?_
      rw [s_tr]
      wtm_at "s"
      refine k_it (fun c2 => ?_) (fun c2 => ?_)
      · have hpa := ok.2.2 (a' - 1).toNat (by omega)
        wtm_at "s"
        refine k_tyL (sl hf) ?_
        wtm_at "s"
        refine k_append hf (by rw [List.length_map]; omega) ?_
        have sm2 : Same H (upd H' fo (.lst (List.map V.int fs ++ [.int (a' - 1)]))) := same_mut sm nfo
        have hs2 : SqT K (upd H' fo (.lst (List.map V.int fs ++ [.int (a' - 1)]))) c [.str (Str.ofString "tree"), .ref d] := same_seqT sm2 hs
        wtm_at "s"
        refine k_ixI (sm2.seq hdl) (by omega) (by omega) ?_
        wtm_at "s"
        refine ⟨(ps.getD (a' - 1).toNat 0 + b').toNat, _, _, fs ++ [a' - 1], by omega, rfl, sm2, by rw [upd_same, List.map_append]; rfl, by omega, by omega, b0, b1, ?_, by omega, ?_, fun t => ?_, fun t z => ?_⟩
        · refine List.nodup_append.mpr ⟨nd, by simp, fun x hx y hy e => ?_⟩
          have : y = a' - 1 := by simpa using hy
          subst this; subst e
          exact hn _ hx ⟨by omega, by omega, (tree_step ok a0 a1 b0 c2 (by omega)).1.mpr (.inl rfl)⟩
        · rw [List.length_append]; show ((fs.length + 1 : Nat) : Int) + _ ≤ _; omega
        · rw [ht t, List.mem_append]
          show t ∈ fs ∨ (0 ≤ t ∧ t < ps.length ∧ _) ↔ (t ∈ fs ∨ t ∈ [a' - 1]) ∨ (0 ≤ t ∧ t < ps.length ∧ _)
          by_cases r : 0 ≤ t ∧ t < ps.length
          · have st := (tree_step ok a0 a1 b0 c2 r.1).1
            simp only [r.1, r.2, true_and, List.mem_singleton, st, or_assoc]
          · have : t ≠ a' - 1 := fun e => r (by omega)
            constructor
            · rintro (h | h)
              · exact .inl (.inl h)
              · exact absurd ⟨h.1, h.2.1⟩ r
            · rintro ((h | h) | h)
              · exact .inl h
              · exact absurd (by simpa using h) this
              · exact absurd ⟨h.1, h.2.1⟩ r
        · rcases List.mem_append.mp z with z | z
          · rintro ⟨o1, o2, o3⟩
            exact hn t z ⟨o1, o2, (tree_step ok a0 a1 b0 c2 o1).1.mpr (.inr o3)⟩
          · have e : t = a' - 1 := by simpa using z
            rintro ⟨o1, o2, o3⟩
            exact (tree_step ok a0 a1 b0 c2 o1).2 e o3
      · have c3 : a' < b' := by omega
        have hpb := ok.2.2 (b' - 1).toNat (by omega)
        have sym : ∀ u v t, OnTie (.tree ps) u v t ↔ OnTie (.tree ps) v u t := fun u v t => by
          show (_ ∧ _ ∧ _ ≠ _) ↔ (_ ∧ _ ∧ _ ≠ _)
          constructor
          · rintro ⟨x1, x2, x3⟩; exact ⟨x1, x2, x3.symm⟩
          · rintro ⟨x1, x2, x3⟩; exact ⟨x1, x2, x3.symm⟩
        wtm_at "s"
        refine k_tyL (sl hf) ?_
        wtm_at "s"
        refine k_append hf (by rw [List.length_map]; omega) ?_
        have sm2 : Same H (upd H' fo (.lst (List.map V.int fs ++ [.int (b' - 1)]))) := same_mut sm nfo
        have hs2 : SqT K (upd H' fo (.lst (List.map V.int fs ++ [.int (b' - 1)]))) c [.str (Str.ofString "tree"), .ref d] := same_seqT sm2 hs
        wtm_at "s"
        refine k_ixI (sm2.seq hdl) (by omega) (by omega) ?_
        wtm_at "s"
        refine ⟨(a' + ps.getD (b' - 1).toNat 0).toNat, _, _, fs ++ [b' - 1], by omega, rfl, sm2, by rw [upd_same, List.map_append]; rfl, a0, a1, by omega, by omega, ?_, by omega, ?_, fun t => ?_, fun t z => ?_⟩
        · refine List.nodup_append.mpr ⟨nd, by simp, fun x hx y hy e => ?_⟩
          have : y = b' - 1 := by simpa using hy
          subst this; subst e
          exact hn _ hx ((sym _ _ _).mpr ⟨by omega, by omega, (tree_step ok b0 b1 a0 c3 (by omega)).1.mpr (.inl rfl)⟩)
        · rw [List.length_append]; show ((fs.length + 1 : Nat) : Int) + _ ≤ _; omega
        · rw [ht t, List.mem_append, sym a' b', sym a' (ps.getD (b' - 1).toNat 0)]
          show t ∈ fs ∨ (0 ≤ t ∧ t < ps.length ∧ _) ↔ (t ∈ fs ∨ t ∈ [b' - 1]) ∨ (0 ≤ t ∧ t < ps.length ∧ _)
          by_cases r : 0 ≤ t ∧ t < ps.length
          · have st := (tree_step ok b0 b1 a0 c3 r.1).1
            simp only [r.1, r.2, true_and, List.mem_singleton, st, or_assoc]
          · have : t ≠ b' - 1 := fun e => r (by omega)
            constructor
            · rintro (h | h)
              · exact .inl (.inl h)
              · exact absurd ⟨h.1, h.2.1⟩ r
            · rintro ((h | h) | h)
              · exact .inl h
              · exact absurd (by simpa using h) this
              · exact absurd ⟨h.1, h.2.1⟩ r
        · rw [sym]
          rcases List.mem_append.mp z with z | z
          · rintro ⟨o1, o2, o3⟩
            exact hn t z ((sym _ _ _).mpr ⟨o1, o2, (tree_step ok b0 b1 a0 c3 o1).1.mpr (.inr o3)⟩)
          · have e : t = b' - 1 := by simpa using z
            rintro ⟨o1, o2, o3⟩
            exact (tree_step ok b0 b1 a0 c3 o1).2 e o3
    · subst c1
      wtm_at "s"
      refine k_sortedI (sl hf) (fun ns l pm srt nl => ?_)
      refine q l ns _ (sm.free nl) (sm.trans (same_new nl)) upd_same ⟨srt_of nd pm srt, fun t => ?_, ?_⟩
      · rw [pm.mem_iff, ht t]
        constructor
        · exact .inl
        · rintro (h | h)
          · exact h
          · exact absurd rfl h.2.2
      · show ns.length < 120
        rw [pm.length_eq]; omega
abbrev sp_ties_on (K : PySem.W.Frag) : Sp := fun vs H Q E => ∃ v0 v1, vs = [v0, v1] ∧ pr_ties_on K v0 v1 H Q E
theorem ok_ties_on (T : Txt K mg A) : FnOk P w K mg base CX0 1 A.a_ties_on A.d_ties_on ["net", "way"] (sp_ties_on K) := by
  refine T.F_ties_on.ok sc_ties_on (fun vs H Q E h => by obtain ⟨v0, v1, rfl, _⟩ := h; rfl) (fun cdv A0 outer s H vs Q E hr h => ?_)
  obtain ⟨v0, v1, rfl, h⟩ := h
  exact ⟨t_ties_on K, (pss_cons (ps_asg (pv 1) (pg_tup (by rfl) (pgs_cons (pg_name (i := 2) sc_ties_on.nd rfl (Or.inl rfl)) (pgs_cons (pg_name (i := 3) sc_ties_on.nd rfl (Or.inl rfl)) pgs_nil))))
      (pss_cons (ps_set (i := 4) sc_ties_on.nd rfl (Or.inl rfl) (pe_lst pa_nil))
      (pss_cons (ps_if (pt_cmpR op_eq (pe_ix ix_tup (pv 0) pe_int (fun _ _ => rfl)) pe_str (nomark _)) (pss_one (ps_ret (pe_listRg (by rfl) (by rfl) T.z_list (prg_2 (by rfl) T.z_range (pe_callB (q_min2 (by rfl)) (by rfl) T.z_min (by decide +kernel) (pa_cons (pv 2) (pa_cons (pv 3) pa_nil))) (pe_callB (q_max2 (by rfl)) (by rfl) T.z_max (by decide +kernel) (pa_cons (pv 2) (pa_cons (pv 3) pa_nil))))))) pss_nil)
      (pss_cons (ps_while PassesOwn.never (pt_cmpR op_ne (pv 2) (pv 3) (nomark _))
      (pss_one (ps_if (pt_cmpR op_eq (pe_ix ix_tup (pv 0) pe_int (fun _ _ => rfl)) pe_str (nomark _)) (pss_cons (ps_expr (pe_bm PySem.F.plainAttrs_list PySem.F.slot_list_append PySem.F.type_list_append mt_append (pv 4) (pa_cons (pv 2) pa_nil)))
      (pss_one (ps_set (i := 2) sc_ties_on.nd rfl (Or.inl rfl) (pe_op op_mod (pe_op op_add (pv 2) pe_int) (pe_ix ix_tup (pv 0) pe_int (fun _ _ => rfl)))))) (pss_one (ps_if (pt_cmpR op_gt (pv 2) (pv 3) (nomark _)) (pss_cons (ps_expr (pe_bm PySem.F.plainAttrs_list PySem.F.slot_list_append PySem.F.type_list_append mt_append (pv 4) (pa_cons (pe_op op_sub (pv 2) pe_int) pa_nil)))
      (pss_one (ps_set (i := 2) sc_ties_on.nd rfl (Or.inl rfl) (pe_ix ix_list (pe_ix ix_tup (pv 0) pe_int (fun _ _ => rfl)) (pe_op op_sub (pv 2) pe_int) (fun _ _ => rfl))))) (pss_cons (ps_expr (pe_bm PySem.F.plainAttrs_list PySem.F.slot_list_append PySem.F.type_list_append mt_append (pv 4) (pa_cons (pe_op op_sub (pv 3) pe_int) pa_nil)))
      (pss_one (ps_set (i := 3) sc_ties_on.nd rfl (Or.inl rfl) (pe_ix ix_list (pe_ix ix_tup (pv 0) pe_int (fun _ _ => rfl)) (pe_op op_sub (pv 3) pe_int) (fun _ _ => rfl))))))))))
      (pss_one (ps_ret (pe_callB cr_sortedI (by rfl) T.z_sorted (by decide +kernel) (pa_cons (pv 4) pa_nil)))))))), pure_ties_on h⟩


def pr_must_be_ways (K : PySem.W.Frag) (v0 v1 : V) (H : Hp) (Q : VK) (_ : XK) : Prop := ∃ (N : Net) (ws : List (Int × Int)), Dp K H v0 N.d ∧ Dp K H v1 (dPairs ws) ∧ ws.length ≤ 10000 ∧ (∀ w ∈ ws, isWay N w.1 w.2) ∧ Q .non H
def t_must_be_ways (K : PySem.W.Frag) : TS :=
  (tFor (iRng1 (tCons (tCB (rLenX K) (tCons (tVar 1) tNil)) tNil)) (gName 2)
      (tIfS (tNot (tB (tCall (sp_is_way K) [] E0 (tCons (tVar 0) (tCons (tOp (rIxL K) (tVar 1) (tVar 2)) tNil))))) tNever tNext))
theorem pure_must_be_ways {v0 v1 : V} {H : Hp} {Q : VK} {E : XK} (h : pr_must_be_ways K v0 v1 H Q E) : t_must_be_ways K ⟨fun _ H' => Q .non H', Q, fun _ _ => False, fun _ _ => False⟩ [some v0, some v1, none] H := by
  obtain ⟨N, ws, hd, hw, hz, hok, q⟩ := h
  obtain ⟨b, xs, rfl, hb, hxs⟩ := dp_list hw
  have hl := dpa_len hxs
  rw [List.length_map] at hl
  unfold t_must_be_ways
  wtm_at "s"
  rw [hl]
  refine forR (fun i σ' H' => H' = H ∧ ∃ k, σ' = [some v0, some (.ref b), k]) ⟨rfl, none, rfl⟩ ?_ (fun σ' H' ⟨e, _⟩ => e ▸ q)
  rintro i σ' H' hi ⟨rfl, k, rfl⟩
  have hi' : i < xs.length := by omega
  obtain ⟨x, hx⟩ : ∃ x, xs[i]? = some x := ⟨xs[i], List.getElem?_eq_getElem hi'⟩
  obtain ⟨d, hd1, hd2⟩ := dpa_get hxs hx
  rw [List.getElem?_map] at hd1
  obtain ⟨w, hw1, rfl⟩ := Option.map_eq_some_iff.mp hd1
  have wok := hok w (List.mem_of_getElem? hw1)
  wtm_at "s"
  refine k_ixL hb (by rw [Int.zero_add]; exact atI_nat hx) ?_
  wtm_at "s"
  refine ⟨_, _, rfl, N, w.1, w.2, hd, hd2, ?_⟩
  rw [decide_eq_true wok]
  wtm_at "s"
  exact ⟨rfl, _, rfl⟩
abbrev sp_must_be_ways (K : PySem.W.Frag) : Sp := fun vs H Q E => ∃ v0 v1, vs = [v0, v1] ∧ pr_must_be_ways K v0 v1 H Q E
theorem ok_must_be_ways (T : Txt K mg A) : FnOk P w K mg base CX0 3 A.a_must_be_ways A.d_must_be_ways ["net", "ways"] (sp_must_be_ways K) := by
  refine T.F_must_be_ways.ok sc_must_be_ways (fun vs H Q E h => by obtain ⟨v0, v1, rfl, _⟩ := h; rfl) (fun cdv A0 outer s H vs Q E hr h => ?_)
  obtain ⟨v0, v1, rfl, h⟩ := h
  exact ⟨t_must_be_ways K, (pss_one (ps_for PassesOwn.never rfl (pi_range1 (by rfl) T.z_range (pa_cons (pe_callB q_len (by rfl) T.z_len (by decide +kernel) (pa_cons (pv 1) pa_nil)) pa_nil)) (pg_name (i := 2) sc_must_be_ways.nd rfl (Or.inl rfl))
      (pss_one (ps_if (pt_not (pt_val (pe_call (ok_is_way T) (hr.mono (by decide)) (by rfl) T.g_is_way T.F_is_way.kp T.b_is_way .nil pass0 (pa_cons (pv 0) (pa_cons (pe_ix ix_list (pv 1) (pv 2) (fun _ _ => rfl)) pa_nil))))) (pss_one ps_never) pss_nil)))), pure_must_be_ways h⟩
def pr_look_ways (K : PySem.W.Frag) (v0 v1 : V) (H : Hp) (Q : VK) (_ : XK) : Prop := ∃ (N : Net) (ws : List (Int × Int)), Dp K H v0 N.d ∧ N.ok ∧ Dp K H v1 (dPairs ws) ∧ ws.length ≤ 10000 ∧ (∀ w ∈ ws, isWay N w.1 w.2) ∧ Q .non H
def t_look_ways (K : PySem.W.Frag) : TS :=
  (tSeq (tDrop (tCall (sp_look_net K) [] E0 (tCons (tVar 0) tNil)))
    (tDrop (tCall (sp_must_be_ways K) [] E0 (tCons (tVar 0) (tCons (tVar 1) tNil)))))
theorem pure_look_ways {v0 v1 : V} {H : Hp} {Q : VK} {E : XK} (h : pr_look_ways K v0 v1 H Q E) : t_look_ways K ⟨fun _ H' => Q .non H', Q, fun _ _ => False, fun _ _ => False⟩ [some v0, some v1] H := by
  obtain ⟨N, ws, hd, ok, hw, hz, hok, q⟩ := h
  unfold t_look_ways
  wtm_at "s"
  refine ⟨_, rfl, N, hd, ok, ?_⟩
  wtm_at "s"
  exact ⟨_, _, rfl, N, ws, hd, hw, hz, hok, q⟩
abbrev sp_look_ways (K : PySem.W.Frag) : Sp := fun vs H Q E => ∃ v0 v1, vs = [v0, v1] ∧ pr_look_ways K v0 v1 H Q E
theorem ok_look_ways (T : Txt K mg A) : FnOk P w K mg base CX0 4 A.a_look_ways A.d_look_ways ["net", "ways"] (sp_look_ways K) := by
  refine T.F_look_ways.ok sc_look_ways (fun vs H Q E h => by obtain ⟨v0, v1, rfl, _⟩ := h; rfl) (fun cdv A0 outer s H vs Q E hr h => ?_)
  obtain ⟨v0, v1, rfl, h⟩ := h
  exact ⟨t_look_ways K, (pss_cons (ps_expr (pe_call (ok_look_net T) (hr.mono (by decide)) (by rfl) T.g_look_net T.F_look_net.kp T.b_look_net .nil pass0 (pa_cons (pv 0) pa_nil)))
      (pss_one (ps_expr (pe_call (ok_must_be_ways T) (hr.mono (by decide)) (by rfl) T.g_must_be_ways T.F_must_be_ways.kp T.b_must_be_ways .nil pass0 (pa_cons (pv 0) (pa_cons (pv 1) pa_nil)))))), pure_look_ways h⟩
instance (N : Net) (a b t : Int) : Decidable (OnTie N a b t) := by
  cases N <;> unfold OnTie <;> infer_instance
def Net.ties : Net → Nat
  | .line n => (n - 1).toNat
  | .ring n => n.toNat
  | .tree ps => ps.length
/-- how many of the ways lie on a tie -/
def cnt (N : Net) (ws : List (Int × Int)) (t : Int) : Nat := (ws.filter fun w => decide (OnTie N w.1 w.2 t)).length
def loadsOf (N : Net) (ws : List (Int × Int)) : List Int := (List.range N.ties).map fun t => (cnt N ws (t : Nat) : Int)
theorem on_range {N : Net} (ok : N.ok) {a b t : Int} (hw : isWay N a b) (h : OnTie N a b t) : 0 ≤ t ∧ t < N.ties := by
  cases N with
  | line n =>
    obtain ⟨h1, h2⟩ := h
    obtain ⟨w1, w2, w3, w4, w5⟩ := hw
    have w4' : a < n := w4
    have w5' : b < n := w5
    show 0 ≤ t ∧ t < ((n - 1).toNat : Int)
    omega
  | ring n =>
    obtain ⟨h1, h2, _⟩ := h
    have : 3 ≤ n := ok.1
    show 0 ≤ t ∧ t < (n.toNat : Int)
    omega
  | tree ps =>
    obtain ⟨h1, h2, _⟩ := h
    exact ⟨h1, h2⟩
theorem ties_le {N : Net} (ok : N.ok) : N.ties ≤ 60 ∧ 1 ≤ N.ties := by
  cases N with
  | line n => obtain ⟨h1, h2⟩ := ok; show (n - 1).toNat ≤ 60 ∧ 1 ≤ (n - 1).toNat; omega
  | ring n => obtain ⟨h1, h2⟩ := ok; show n.toNat ≤ 60 ∧ 1 ≤ n.toNat; omega
  | tree ps => obtain ⟨h1, h2, _⟩ := ok; show ps.length ≤ 60 ∧ 1 ≤ ps.length; omega
theorem cnt_take {N : Net} {ws : List (Int × Int)} {i : Nat} {w : Int × Int} (h : ws[i]? = some w) (t : Int) : cnt N (ws.take (i + 1)) t = cnt N (ws.take i) t + if OnTie N w.1 w.2 t then 1 else 0 := by
  unfold cnt
  rw [List.take_add_one, h, List.filter_append, List.length_append]
  by_cases c : OnTie N w.1 w.2 t <;> simp [c]


/-! ### types of data -/
def tyD : PyData → String
  | .none => "NoneType"
  | .bool _ => "bool"
  | .int _ => "int"
  | .str _ => "str"
  | .list _ => "list"
  | .tuple _ => "tuple"
  | .dict _ => "dict"
def wholeD : PyData → Bool
  | .int _ => true
  | _ => false
def isD (t : String) (d : PyData) : Bool := decide (tyD d = t)
theorem ty_tup {K : PySem.W.Frag} {H : Hp} {p : Addr} {xs : List V} (h : SqT K H p xs) : ∃ t, t = "tuple" ∧ TyX K H (.ref p) (.type t) := by
  rcases h with (h | ⟨o, h⟩) | ⟨o, its, n, h1, h2, h3⟩
  · exact ⟨_, rfl, .base (.tup h)⟩
  · exact ⟨_, rfl, .fTuple h⟩
  · exact ⟨_, rfl, .kTuple h1 h2⟩
section
variable {K : PySem.W.Frag} {H : Hp} {Q : VK} {v : V} {d : PyData}
theorem dp_ty (h : Dp K H v d) : TyX K H v (.type (tyD d)) := by
  cases h with
  | non => exact .base .non
  | bl b => exact .base (.bl b)
  | int i => exact .base (.int i)
  | str s => exact .base (.str s)
  | lst h _ => exact ty_list h
  | tup h _ => obtain ⟨t, rfl, ty⟩ := ty_tup h; exact ty
theorem dp_tyIn (h : Dp K H v d) : tyD d ∈ ["NoneType", "bool", "int", "str", "list", "tuple"] := by cases h <;> simp [tyD]
theorem kb_tuple : ∀ s ∈ ["NoneType", "bool", "int", "str", "list", "tuple"], kitB s "tuple" = some (decide (s = "tuple")) := by decide +kernel
theorem kb_str : ∀ s ∈ ["NoneType", "bool", "int", "str", "list", "tuple"], kitB s "str" = some (decide (s = "str")) := by decide +kernel
theorem kb_list : ∀ s ∈ ["NoneType", "bool", "int", "str", "list", "tuple"], kitB s "list" = some (decide (s = "list")) := by decide +kernel
theorem kb_bool : ∀ s ∈ ["NoneType", "bool", "int", "str", "list", "tuple"], kitB s "bool" = some (decide (s = "bool")) := by decide +kernel
theorem kb_dict : ∀ s ∈ ["NoneType", "bool", "int", "str", "list", "tuple"], kitB s "dict" = some false := by decide +kernel
theorem kb_int : ∀ s ∈ ["NoneType", "bool", "int", "str", "list", "tuple"], kitB s "int" = some (decide (s = "int") || decide (s = "bool")) := by decide +kernel
theorem k_isiTupD (h : Dp K H v d) (q : Q (.bl (isD "tuple" d)) H) : rIsi K [v, .ty "tuple"] H Q := k_isi (dp_ty h) (kb_tuple _ (dp_tyIn h)) q
theorem k_isiStrD (h : Dp K H v d) (q : Q (.bl (isD "str" d)) H) : rIsi K [v, .ty "str"] H Q := k_isi (dp_ty h) (kb_str _ (dp_tyIn h)) q
theorem k_isiListD (h : Dp K H v d) (q : Q (.bl (isD "list" d)) H) : rIsi K [v, .ty "list"] H Q := k_isi (dp_ty h) (kb_list _ (dp_tyIn h)) q
theorem k_isiDictD (h : Dp K H v d) (q : Q (.bl false) H) : rIsi K [v, .ty "dict"] H Q := k_isi (dp_ty h) (kb_dict _ (dp_tyIn h)) q
theorem k_isiBoolD (h : Dp K H v d) (q : Q (.bl (isD "bool" d)) H) : rIsi K [v, .ty "bool"] H Q := k_isi (dp_ty h) (kb_bool _ (dp_tyIn h)) q
theorem k_isiIntD (h : Dp K H v d) (q : Q (.bl (isD "int" d || isD "bool" d)) H) : rIsi K [v, .ty "int"] H Q := k_isi (dp_ty h) (kb_int _ (dp_tyIn h)) q
end
def pr_is_whole (K : PySem.W.Frag) (v0 : V) (H : Hp) (Q : VK) (_ : XK) : Prop := ∃ d : PyData, Dp K H v0 d ∧ Q (.bl (wholeD d)) H
def t_is_whole (K : PySem.W.Frag) : TS :=
  (tRet (tAndV (tCB (rIsi K) (tCons (tVar 0) (tCons (tC (.ty "int")) tNil))) (tNotV (tCB (rIsi K) (tCons (tVar 0) (tCons (tC (.ty "bool")) tNil))))))
theorem pure_is_whole {v0 : V} {H : Hp} {Q : VK} {E : XK} (h : pr_is_whole K v0 H Q E) : t_is_whole K ⟨fun _ H' => Q .non H', Q, fun _ _ => False, fun _ _ => False⟩ [some v0] H := by
  obtain ⟨d, hd, q⟩ := h
  unfold t_is_whole
  refine k_ret (k_andV ?_)
  refine k_cb (k_cons (k_var rfl (k_cons (k_c (k_nil ?_)))))
  refine k_isiIntD hd ?_
  refine ⟨_, rfl, ?_⟩
  have c : (isD "int" d || isD "bool" d) = true ∨ (isD "int" d || isD "bool" d) = false := by cases (isD "int" d || isD "bool" d) <;> simp
  rcases c with c | c
  · rw [c, if_pos rfl]
    refine k_notV ?_
    refine k_cb (k_cons (k_var rfl (k_cons (k_c (k_nil ?_)))))
    refine k_isiBoolD hd ⟨_, rfl, ?_⟩
    have e : (!isD "bool" d) = wholeD d := by cases d <;> first | rfl | (exact absurd c (by simp [isD, tyD]))
    rw [e]; exact q
  · rw [c, if_neg (by decide)]
    have e : wholeD d = false := by cases d <;> first | rfl | (exact absurd c (by simp [isD, tyD]))
    rw [e] at q; exact q
abbrev sp_is_whole (K : PySem.W.Frag) : Sp := fun vs H Q E => ∃ v0, vs = [v0] ∧ pr_is_whole K v0 H Q E
theorem ok_is_whole (T : Txt K mg A) : FnOk P w K mg base CX0 1 A.a_is_whole A.d_is_whole ["thing"] (sp_is_whole K) := by
  refine T.F_is_whole.ok sc_is_whole (fun vs H Q E h => by obtain ⟨v0, rfl, _⟩ := h; rfl) (fun cdv A0 outer s H vs Q E hr h => ?_)
  obtain ⟨v0, rfl, h⟩ := h
  exact ⟨t_is_whole K, (pss_one (ps_ret (pe_and (pe_callB q_isi (by rfl) T.z_isinstance (by decide +kernel) (pa_cons (pv 0) (pa_cons (pe_bltn (v := .ty "int") (by rfl) T.z_int (by decide +kernel) rfl) pa_nil))) (pe_one (pe_not (pe_callB q_isi (by rfl) T.z_isinstance (by decide +kernel) (pa_cons (pv 0) (pa_cons (pe_bltn (v := .ty "bool") (by rfl) T.z_bool (by decide +kernel) rfl) pa_nil)))))))), pure_is_whole h⟩


/-- the numbers below n that P takes -/
def keepI (n : Nat) (P : Nat → Bool) : List Int := ((List.range n).filter P).map fun (i : Nat) => (i : Int)
theorem keepI_fm (n : Nat) (P : Nat → Bool) : (List.range n).filterMap (fun i => if P i = true then some (V.int (0 + (i : Nat))) else none) = List.map V.int (keepI n P) := by
  unfold keepI
  rw [List.map_map]
  induction (List.range n) with
  | nil => rfl
  | cons x r ih =>
    by_cases c : P x = true
    · rw [List.filterMap_cons, if_pos c, List.filter_cons, if_pos c]
      simp only [List.map_cons]
      rw [ih]
      simp
    · rw [List.filterMap_cons, if_neg c, List.filter_cons, if_neg c]
      exact ih
theorem keepI_srt (n : Nat) (P : Nat → Bool) : (keepI n P).Pairwise (· < ·) := by
  unfold keepI
  exact List.pairwise_map.mpr ((List.pairwise_lt_range.filter P).imp fun h => by omega)
theorem keepI_mem {n : Nat} {P : Nat → Bool} {t : Int} : t ∈ keepI n P ↔ 0 ≤ t ∧ t < n ∧ P t.toNat = true := by
  unfold keepI
  rw [List.mem_map]
  constructor
  · rintro ⟨i, hi, rfl⟩
    obtain ⟨h1, h2⟩ := List.mem_filter.mp hi
    have := List.mem_range.mp h1
    exact ⟨by omega, by omega, by rw [Int.toNat_natCast]; exact h2⟩
  · rintro ⟨h0, h1, h2⟩
    exact ⟨t.toNat, List.mem_filter.mpr ⟨List.mem_range.mpr (by omega), h2⟩, by omega⟩
theorem nodup_below : ∀ (n : Nat) (l : List Int), l.Nodup → (∀ x ∈ l, 0 ≤ x ∧ x < n) → l.length ≤ n
  | 0, l, _, h => by
    cases l with
    | nil => simp
    | cons x r => have := h x List.mem_cons_self; omega
  | n + 1, l, nd, h => by
    have e : l.length = l.countP (fun x => decide (x = (n : Int))) + l.countP (fun x => !decide (x = (n : Int))) := by
      have := List.length_eq_countP_add_countP (fun x : Int => decide (x = (n : Int))) (l := l)
      rw [this]
      congr 1
      exact List.countP_congr fun x _ => by simp
    have c1 : l.countP (fun x => decide (x = (n : Int))) ≤ 1 := by
      have := List.nodup_iff_count.mp nd (n : Int)
      rw [List.count_eq_countP] at this
      have e2 : l.countP (fun x => decide (x = (n : Int))) = l.countP (· == (n : Int)) := List.countP_congr fun x _ => by simp
      rw [e2]; exact this
    have c2 := nodup_below n (l.filter fun x => !decide (x = (n : Int))) (nd.filter _) (fun x hx => by
      obtain ⟨h1, h2⟩ := List.mem_filter.mp hx
      have := h x h1
      simp at h2
      omega)
    rw [← List.countP_eq_length_filter] at c2
    omega
theorem firstMet_nd (val : Nat → Int) : ∀ i, (PyProof.Rows.firstMet val i).Nodup ∧ ∀ x ∈ PyProof.Rows.firstMet val i, ∃ j, j < i ∧ x = val j
  | 0 => ⟨List.nodup_nil, fun x z => by cases z⟩
  | i + 1 => by
    obtain ⟨h1, h2⟩ := firstMet_nd val i
    rw [PyProof.Rows.firstMet_succ]
    unfold PyProof.Rows.step_dedup
    split
    · exact ⟨h1, fun x hx => by obtain ⟨j, hj, e⟩ := h2 x hx; exact ⟨j, by omega, e⟩⟩
    · rename_i c
      refine ⟨?_, fun x hx => ?_⟩
      · rw [List.nodup_append]
        refine ⟨h1, by simp, fun x hx y hy e => ?_⟩
        rw [List.mem_singleton.mp hy] at e
        refine c (List.any_eq_true.mpr ⟨x, hx, by simp [e]⟩)
      · rcases List.mem_append.mp hx with hx | hx
        · obtain ⟨j, hj, e⟩ := h2 x hx; exact ⟨j, by omega, e⟩
        · exact ⟨i, by omega, List.mem_singleton.mp hx⟩
theorem unl_below {hs : List Int} {n : Nat} (h : ∀ x ∈ hs, 0 ≤ x ∧ x < n) : unl hs ≤ n := by
  obtain ⟨h1, h2⟩ := firstMet_nd (fun i => hs.getD i 0) hs.length
  refine nodup_below n _ h1 fun x hx => ?_
  obtain ⟨j, hj, rfl⟩ := h2 x hx
  refine h _ ?_
  show hs.getD j 0 ∈ hs
  rw [List.getD_eq_getElem?_getD, List.getElem?_eq_getElem hj]
  exact List.getElem_mem hj
theorem ss_ext : ∀ {xs ys : List Int}, xs.Pairwise (· < ·) → ys.Pairwise (· < ·) → (∀ t, t ∈ xs ↔ t ∈ ys) → xs = ys
  | [], [], _, _, _ => rfl
  | [], y :: ys, _, _, h => by have := (h y).mpr List.mem_cons_self; cases this
  | x :: xs, [], _, _, h => by have := (h x).mp List.mem_cons_self; cases this
  | x :: xs, y :: ys, h1, h2, h => by
    obtain ⟨a1, a2⟩ := List.pairwise_cons.mp h1
    obtain ⟨b1, b2⟩ := List.pairwise_cons.mp h2
    have e : x = y := by
      rcases List.mem_cons.mp ((h x).mp List.mem_cons_self) with e | e
      · exact e
      · rcases List.mem_cons.mp ((h y).mpr List.mem_cons_self) with e' | e'
        · exact e'.symm
        · have := b1 _ e; have := a1 _ e'; omega
    subst e
    congr 1
    refine ss_ext a2 b2 fun t => ?_
    constructor
    · intro ht
      rcases List.mem_cons.mp ((h t).mp (List.mem_cons_of_mem _ ht)) with e | e
      · have := a1 _ ht; omega
      · exact e
    · intro ht
      rcases List.mem_cons.mp ((h t).mpr (List.mem_cons_of_mem _ ht)) with e | e
      · have := b1 _ ht; omega
      · exact e
/-! ### ways that meet -/
def tiesF (N : Net) (w : Int × Int) : List Int := keepI N.ties fun t => decide (OnTie N w.1 w.2 (t : Nat))
theorem tiesF_mem {N : Net} (ok : N.ok) {w : Int × Int} (hw : isWay N w.1 w.2) (t : Int) : t ∈ tiesF N w ↔ OnTie N w.1 w.2 t := by
  unfold tiesF
  rw [keepI_mem]
  constructor
  · rintro ⟨h1, h2, h3⟩
    have := of_decide_eq_true h3
    rwa [Int.toNat_of_nonneg h1] at this
  · intro h
    obtain ⟨h1, h2⟩ := on_range ok hw h
    exact ⟨h1, h2, decide_eq_true (by rw [Int.toNat_of_nonneg h1]; exact h)⟩
theorem tiesF_len (N : Net) (w : Int × Int) : (tiesF N w).length ≤ N.ties := by
  unfold tiesF keepI
  rw [List.length_map]
  have := List.length_filter_le (fun t : Nat => decide (OnTie N w.1 w.2 (t : Nat))) (List.range N.ties)
  rwa [List.length_range] at this
theorem tiesF_of {N : Net} (ok : N.ok) {w : Int × Int} (hw : isWay N w.1 w.2) {ns : List Int} (hs : ns.Pairwise (· < ·)) (hm : ∀ t, t ∈ ns ↔ OnTie N w.1 w.2 t) : ns = tiesF N w :=
  ss_ext hs (keepI_srt _ _) fun t => by rw [hm t, tiesF_mem ok hw t]
def commonB (xs ys : List Int) : Bool := xs.any fun t => decide (t ∈ ys)
theorem common_iff {xs ys : List Int} : commonB xs ys = true ↔ ∃ t, t ∈ xs ∧ t ∈ ys := by
  unfold commonB
  rw [List.any_eq_true]
  constructor
  · rintro ⟨t, h1, h2⟩; exact ⟨t, h1, of_decide_eq_true h2⟩
  · rintro ⟨t, h1, h2⟩; exact ⟨t, h1, decide_eq_true h2⟩
theorem common_comm (xs ys : List Int) : commonB xs ys = commonB ys xs := by
  rw [Bool.eq_iff_iff, common_iff, common_iff]
  constructor <;> rintro ⟨t, h1, h2⟩ <;> exact ⟨t, h2, h1⟩
def meetB (N : Net) (w v : Int × Int) : Bool := commonB (tiesF N w) (tiesF N v)
def meetRow (N : Net) (ws : List (Int × Int)) (i : Nat) : List Int := keepI ws.length fun k => decide (k ≠ i) && meetB N (ws.getD i (0, 0)) (ws.getD k (0, 0))
def meetF (N : Net) (ws : List (Int × Int)) : List (List Int) := (List.range ws.length).map (meetRow N ws)
/-- who meets whom -/
structure Adj (M : List (List Int)) : Prop where
  rng : ∀ (i : Nat), ∀ o ∈ M.getD i [], 0 ≤ o ∧ o < M.length ∧ o ≠ (i : Int)
  sym : ∀ (i j : Nat), i < M.length → j < M.length → ((j : Int) ∈ M.getD i [] ↔ (i : Int) ∈ M.getD j [])
  len : ∀ r ∈ M, r.length ≤ M.length
theorem meetF_len (N : Net) (ws : List (Int × Int)) : (meetF N ws).length = ws.length := by unfold meetF; rw [List.length_map, List.length_range]
theorem meetF_get {N : Net} {ws : List (Int × Int)} {i : Nat} (h : i < ws.length) : (meetF N ws).getD i [] = meetRow N ws i := by
  unfold meetF
  rw [List.getD_eq_getElem?_getD, List.getElem?_map, List.getElem?_range h]; rfl
theorem meetRow_mem {N : Net} {ws : List (Int × Int)} {i j : Nat} : (j : Int) ∈ meetRow N ws i ↔ j < ws.length ∧ j ≠ i ∧ meetB N (ws.getD i (0, 0)) (ws.getD j (0, 0)) = true := by
  unfold meetRow
  rw [keepI_mem]
  simp only [Int.toNat_natCast, Bool.and_eq_true, decide_eq_true_eq]
  constructor
  · rintro ⟨_, h1, h2, h3⟩; exact ⟨by omega, h2, h3⟩
  · rintro ⟨h1, h2, h3⟩; exact ⟨by omega, by omega, h2, h3⟩
theorem meetF_adj (N : Net) (ws : List (Int × Int)) : Adj (meetF N ws) := by
  refine ⟨fun i o ho => ?_, fun i j hi hj => ?_, fun r hr => ?_⟩
  · rw [meetF_len]
    by_cases c : i < ws.length
    · rw [meetF_get c] at ho
      have h0 : 0 ≤ o := (keepI_mem.mp ho).1
      obtain ⟨j, rfl⟩ : ∃ j : Nat, o = j := ⟨o.toNat, by omega⟩
      obtain ⟨h1, h2, _⟩ := meetRow_mem.mp ho
      exact ⟨h0, by omega, by omega⟩
    · rw [List.getD_eq_getElem?_getD, List.getElem?_eq_none (by rw [meetF_len]; omega)] at ho
      cases ho
  · rw [meetF_len] at hi hj
    rw [meetF_get hi, meetF_get hj, meetRow_mem, meetRow_mem]
    unfold meetB
    rw [common_comm]
    constructor
    · rintro ⟨_, h2, h3⟩; exact ⟨hi, fun z => h2 z.symm, h3⟩
    · rintro ⟨_, h2, h3⟩; exact ⟨hj, fun z => h2 z.symm, h3⟩
  · rw [meetF_len]
    obtain ⟨i, _, rfl⟩ := List.mem_map.mp hr
    unfold meetRow keepI
    rw [List.length_map]
    have := List.length_filter_le (fun k => decide (k ≠ i) && meetB N (ws.getD i (0, 0)) (ws.getD k (0, 0))) (List.range ws.length)
    rwa [List.length_range] at this
/-! ### dicts of whole numbers, as lists -/
def lookS (ss : List (Int × Int)) (k : Int) : Option Int := (ss.find? fun p => decide (p.1 = k)).map (·.2)
theorem look_add {ss : List (Int × Int)} {k u j : Int} (h : lookS ss k = none) : lookS (ss ++ [(k, u)]) j = if j = k then some u else lookS ss j := by
  unfold lookS at *
  rw [List.find?_append]
  by_cases c : j = k
  · subst c
    rw [if_pos rfl]
    have : ss.find? (fun p => decide (p.1 = j)) = none := by
      cases z : ss.find? (fun p => decide (p.1 = j)) with
      | none => rfl
      | some x => rw [z] at h; cases h
    rw [this]
    simp
  · rw [if_neg c]
    have : [(k, u)].find? (fun p => decide (p.1 = j)) = none := by
      simp; exact fun z => c z.symm
    rw [this]
    simp
theorem look_nil (k : Int) : lookS [] k = none := rfl
def dS (ss : List (Int × Int)) : List (Key × V) := ss.map fun p => (.inl p.1, .int p.2)
theorem dS_val {ss : List (Int × Int)} {k : Int} : valV (dS ss) (.inl k) = (lookS ss k).map V.int := by
  unfold valV dS lookS
  induction ss with
  | nil => rfl
  | cons p r ih =>
    rw [List.map_cons, List.find?_cons, List.find?_cons]
    by_cases c : p.1 = k
    · simp [c]
    · have c' : (decide (p.1 = k)) = false := decide_eq_false c
      simp only [c']
      have : decide ((Sum.inl p.1 : Key) = Sum.inl k) = false := decide_eq_false fun z => c (by cases z; rfl)
      simp only [this]
      exact ih
theorem dS_put {ss : List (Int × Int)} {k u : Int} (h : lookS ss k = none) : putK (dS ss) (.inl k) (.int u) = dS (ss ++ [(k, u)]) := by
  unfold putK
  have hn : (dS ss).any (fun kv => decide (kv.1 = Sum.inl k)) = false := by
    rw [List.any_eq_false]
    intro x hx z
    unfold dS at hx
    obtain ⟨p, hp, rfl⟩ := List.mem_map.mp hx
    have z' : (Sum.inl p.1 : Key) = Sum.inl k := of_decide_eq_true z
    have e : p.1 = k := by cases z'; rfl
    unfold lookS at h
    cases y : ss.find? (fun p => decide (p.1 = k)) with
    | some a => rw [y] at h; cases h
    | none => exact absurd (decide_eq_true e) (by simpa using List.find?_eq_none.mp y p hp)
  rw [hn]
  unfold dS
  rw [List.map_append]
  rfl
theorem dS_len (ss : List (Int × Int)) : (dS ss).length = ss.length := by unfold dS; simp
theorem countP_lt {α : Type} {p q : α → Bool} : ∀ {l : List α}, (∀ x ∈ l, p x = true → q x = true) → (∃ x ∈ l, q x = true ∧ p x = false) → l.countP p < l.countP q
  | [], _, ⟨x, hx, _⟩ => by cases hx
  | a :: r, h, ⟨x, hx, h1, h2⟩ => by
    rw [List.countP_cons, List.countP_cons]
    have mono : r.countP p ≤ r.countP q := List.countP_mono_left fun y hy => h y (List.mem_cons_of_mem _ hy)
    rcases List.mem_cons.mp hx with rfl | hx
    · rw [h1, h2]; simp; omega
    · have ih := countP_lt (l := r) (fun y hy => h y (List.mem_cons_of_mem _ hy)) ⟨x, hx, h1, h2⟩
      have ha := h a List.mem_cons_self
      cases hp : p a with
      | false => simp; split <;> omega
      | true => rw [ha hp]; simp; omega
/-- numbers below n that are no keys -/
def frN (n : Nat) (ss : List (Int × Int)) : Nat := (List.range n).countP fun i : Nat => (lookS ss (i : Int)).isNone
theorem frN_lt {n : Nat} {ss : List (Int × Int)} {k u : Int} (k0 : 0 ≤ k) (k1 : k < n) (h : lookS ss k = none) : frN n (ss ++ [(k, u)]) < frN n ss := by
  refine countP_lt (fun i _ hi => ?_) ⟨k.toNat, List.mem_range.mpr (by omega), ?_, ?_⟩
  · rw [look_add h] at hi
    split at hi
    · cases hi
    · exact hi
  · rw [Int.toNat_of_nonneg k0, h]; rfl
  · rw [look_add h, Int.toNat_of_nonneg k0, if_pos rfl]; rfl
theorem frN_nil (n : Nat) : frN n [] = n := by
  show (List.range n).countP (fun _ => true) = n
  rw [List.countP_true, List.length_range]
def intD : PyData → Int
  | .int i => i
  | _ => 0
theorem whole_int {d : PyData} (h : wholeD d = true) : d = .int (intD d) := by
  cases d <;> first | rfl | cases h
/-! ### hues of ways that meet; cases -/
def Proper (M : List (List Int)) (h : Int) (f : Nat → Int) : Prop := ∀ i : Nat, i < M.length → (0 ≤ f i ∧ f i < h) ∧ ∀ o ∈ M.getD i [], f o.toNat ≠ f i
def swp (a b x : Int) : Int := if x = a then b else if x = b then a else x
theorem swp_inj {a b x y : Int} (h : swp a b x = swp a b y) : x = y := by
  unfold swp at h
  repeat' split at h
  all_goals omega
theorem Proper.swap {M : List (List Int)} {h a b : Int} {f : Nat → Int} (p : Proper M h f) (ha : 0 ≤ a ∧ a < h) (hb : 0 ≤ b ∧ b < h) : Proper M h fun i => swp a b (f i) := fun i hi => by
  obtain ⟨h1, h2⟩ := p i hi
  refine ⟨?_, fun o ho z => h2 o ho (swp_inj z)⟩
  show 0 ≤ swp a b (f i) ∧ swp a b (f i) < h
  unfold swp
  repeat' split
  all_goals omega
theorem nodup_lenI : ∀ {l m : List Int}, l.Nodup → (∀ x ∈ l, x ∈ m) → l.length ≤ m.length
  | [], m, _, _ => by simp
  | a :: l, m, nd, h => by
    have nd' := List.nodup_cons.mp nd
    have := nodup_lenI (l := l) (m := m.erase a) nd'.2 (fun x hx => (List.mem_erase_of_ne (fun e => nd'.1 (by rw [← e]; exact hx))).mpr (h x (List.mem_cons_of_mem _ hx)))
    rw [List.length_erase_of_mem (h a List.mem_cons_self)] at this
    have := List.length_pos_of_mem (h a List.mem_cons_self)
    simp only [List.length_cons]
    omega
theorem met_allI (val : Nat → Int) : ∀ i j, j < i → val j ∈ PyProof.Rows.firstMet val i
  | 0, j, h => by omega
  | i + 1, j, h => by
    rw [PyProof.Rows.firstMet_succ]
    unfold PyProof.Rows.step_dedup
    by_cases c : j = i
    · subst c
      split
      · rename_i a
        obtain ⟨x, hx, e⟩ := List.any_eq_true.mp a
        have : x = val j := by simpa using e
        rw [← this]; exact hx
      · simp
    · have := met_allI val i j (by omega)
      split
      · exact this
      · exact List.mem_append_left _ this
/-- just the hues below m are used -/
def Can (m : Nat) (hs : List Int) : Prop := (∀ x ∈ hs, 0 ≤ x ∧ x < m) ∧ ∀ c : Nat, c < m → (c : Int) ∈ hs
theorem Can.unl {m : Nat} {hs : List Int} (h : Can m hs) : unl hs = m := by
  have h1 := unl_below h.1
  have h2 : ((List.range m).map fun c : Nat => (c : Int)).length ≤ Cm.unl hs := by
    unfold Cm.unl
    refine nodup_lenI (List.pairwise_map.mpr (List.pairwise_lt_range.imp fun {a b} hab => by omega)) fun x hx => ?_
    obtain ⟨c, hc, rfl⟩ := List.mem_map.mp hx
    obtain ⟨j, hj, e⟩ := List.mem_iff_getElem.mp (h.2 c (List.mem_range.mp hc))
    have := met_allI (fun i => hs.getD i 0) hs.length j hj
    simp only [List.getD_eq_getElem?_getD, List.getElem?_eq_getElem hj, Option.getD_some, e] at this
    exact this
  rw [List.length_map, List.length_range] at h2
  omega
theorem Can.nil : Can 0 [] := ⟨(fun x z => by cases z), fun c z => by omega⟩
theorem Can.app {m : Nat} {hs : List Int} {c : Nat} (h : Can m hs) (hc : c ≤ m) : Can (max m (c + 1)) (hs ++ [(c : Int)]) := by
  refine ⟨fun x hx => ?_, fun e he => ?_⟩
  · rcases List.mem_append.mp hx with hx | hx
    · have := h.1 x hx; omega
    · rw [List.mem_singleton.mp hx]; omega
  · by_cases z : e = c
    · rw [z]; exact List.mem_append_right _ (List.mem_singleton.mpr rfl)
    · exact List.mem_append_left _ (h.2 e (by omega))
/-- a proper giving may be taken to give the next way one of the options -/
theorem pick_opt {M : List (List Int)} {h : Int} {f : Nat → Int} {m k : Nat} (p : Proper M h f) (hk : k < M.length) : ∃ g, Proper M h g ∧ (∀ i, 0 ≤ f i → f i < m → g i = f i) ∧ 0 ≤ g k ∧ g k ≤ m ∧ g k < h := by
  obtain ⟨⟨h1, h2⟩, _⟩ := p k hk
  by_cases c : f k ≤ m
  · exact ⟨f, p, fun _ _ _ => rfl, h1, c, h2⟩
  · have e : swp (f k) (m : Int) (f k) = m := by unfold swp; rw [if_pos rfl]
    refine ⟨fun i => swp (f k) m (f i), p.swap ⟨h1, h2⟩ ⟨by omega, by omega⟩, fun i i0 i1 => ?_, ?_, ?_, ?_⟩
    · show swp (f k) m (f i) = f i
      unfold swp
      rw [if_neg (by omega), if_neg (by omega)]
    · show 0 ≤ swp (f k) m (f k)
      rw [e]; omega
    · show swp (f k) m (f k) ≤ _
      rw [e]; exact Int.le_refl _
    · show swp (f k) m (f k) < h
      rw [e]; omega
def isEmp : PyData → Bool
  | .tuple [] => true
  | _ => false
/-- how many options -/
def optN (h : Int) (gs : List (Int × Int)) : Nat := (min (h - 1) (Cm.unl (gs.map (·.2)) : Nat) + 1).toNat
def stuckB (M : List (List Int)) (gs : List (Int × Int)) (k c : Int) : Bool := (M.getD k.toNat []).any fun o => decide (lookS gs o = some c)
def caseJ (M : List (List Int)) (h : Int) : Nat → List (Int × Int) → PyData → Bool
  | d + 1, gs, .tuple [a, .list cs] =>
    (wholeD a && decide (0 ≤ intD a) && decide (intD a < M.length) && (lookS gs (intD a)).isNone && decide (cs.length = optN h gs)) &&
      (List.range cs.length).all fun i => if stuckB M gs (intD a) (i : Int) then isEmp (cs.getD i .none) else caseJ M h d (gs ++ [(intD a, (i : Int))]) (cs.getD i .none)
  | _, _, _ => false
theorem caseJ_not {M : List (List Int)} {h : Int} {d : Nat} {gs : List (Int × Int)} {D : PyData} (hd : isD "tuple" D = false) : caseJ M h d gs D = false := by
  cases d with
  | zero => rfl
  | succ d => cases D <;> first | rfl | (simp [isD, tyD] at hd)
theorem caseJ_len {M : List (List Int)} {h : Int} {d : Nat} {gs : List (Int × Int)} {ds : List PyData} (hl : ds.length ≠ 2) : caseJ M h d gs (.tuple ds) = false := by
  cases d with
  | zero => rfl
  | succ d =>
    match ds, hl with
    | [], _ => rfl
    | [_], _ => rfl
    | [_, _], h => exact absurd rfl h
    | _ :: b :: _ :: _, _ => cases b <;> rfl
theorem caseJ_list {M : List (List Int)} {h : Int} {d : Nat} {gs : List (Int × Int)} {a b : PyData} (hl : isD "list" b = false) : caseJ M h d gs (.tuple [a, b]) = false := by
  cases d with
  | zero => rfl
  | succ d => cases b <;> first | rfl | (simp [isD, tyD] at hl)
/-- a right case: no proper giving -/
theorem case_bars {M : List (List Int)} {h : Int} (A : Adj M) : ∀ {d : Nat} {gs : List (Int × Int)} {D : PyData} {m : Nat} {f : Nat → Int}, caseJ M h d gs D = true → Can m (gs.map (·.2)) → Proper M h f → (∀ k u, 0 ≤ k → lookS gs k = some u → f k.toNat = u) → False
  | 0, gs, D, m, f, hc, _, _, _ => by cases hc
  | d + 1, gs, D, m, f, hc, can, p, ag => by
    match D, hc with
    | .tuple [a, .list cs], hc =>
      unfold caseJ at hc
      simp only [Bool.and_eq_true, decide_eq_true_eq] at hc
      obtain ⟨⟨⟨⟨⟨_, k0⟩, k1⟩, kn⟩, hl⟩, all⟩ := hc
      have kn' : lookS gs (intD a) = none := Option.isNone_iff_eq_none.mp kn
      obtain ⟨k, hk⟩ : ∃ k : Nat, intD a = (k : Int) := ⟨(intD a).toNat, by omega⟩
      rw [hk] at k0 k1 kn' all
      obtain ⟨g, pg, fix, g0, g1, g2⟩ := pick_opt (m := m) p (show k < M.length by omega)
      have agg : ∀ j u, 0 ≤ j → lookS gs j = some u → g j.toNat = u := fun j u j0 hj => by
        have e := ag j u j0 hj
        have hu : u ∈ gs.map (·.2) := by
          unfold lookS at hj
          obtain ⟨q, hq, e2⟩ := Option.map_eq_some_iff.mp hj
          exact List.mem_map.mpr ⟨q, List.mem_of_find?_eq_some hq, e2⟩
        have := can.1 u hu
        rw [fix _ (by omega) (by omega), e]
      have cl : (g k).toNat < cs.length := by
        rw [hl]
        unfold optN
        rw [can.unl]
        omega
      have := List.all_eq_true.mp all _ (List.mem_range.mpr cl)
      obtain ⟨c, hcg⟩ : ∃ c : Nat, g k = (c : Int) := ⟨(g k).toNat, by omega⟩
      rw [hcg, Int.toNat_natCast] at this
      cases st : stuckB M gs (k : Int) (c : Int) with
      | true =>
        unfold stuckB at st
        obtain ⟨o, ho, e⟩ := List.any_eq_true.mp st
        rw [Int.toNat_natCast] at ho
        have e := of_decide_eq_true e
        have r := A.rng k o ho
        have := agg o _ r.1 e
        exact (pg k (by omega)).2 o ho (by rw [this, hcg])
      | false =>
        rw [st] at this
        simp only [Bool.false_eq_true, if_false] at this
        refine case_bars A this (m := max m (c + 1)) (f := g) (by rw [List.map_append]; exact can.app (by omega)) pg (fun j u j0 hj => ?_)
        rw [look_add kn'] at hj
        split at hj
        · rename_i e
          cases hj
          rw [e, Int.toNat_natCast, hcg]
        · exact agg j u j0 hj
/-! ### hues by trying, way by way -/
def blockedB (M : List (List Int)) (hs : List Int) (c : Int) : Bool := (M.getD hs.length []).any fun o => decide (o < hs.length) && decide (hs.getD o.toNat 0 = c)
def enoughF (M : List (List Int)) (h : Int) : Nat → List Int → Bool
  | 0, _ => true
  | d + 1, hs => (List.range (min h ((Cm.unl hs : Nat) + 1)).toNat).any fun c => !blockedB M hs (c : Int) && enoughF M h d (hs ++ [(c : Int)])
theorem getD_app {hs : List Int} {c : Int} {i : Nat} (h : i < hs.length) : (hs ++ [c]).getD i 0 = hs.getD i 0 := by
  rw [List.getD_eq_getElem?_getD, List.getD_eq_getElem?_getD, List.getElem?_append_left h]
theorem getD_new {hs : List Int} {c : Int} : (hs ++ [c]).getD hs.length 0 = c := by
  rw [List.getD_eq_getElem?_getD, List.getElem?_append_right (Nat.le_refl _), Nat.sub_self]; rfl
theorem enough_col {M : List (List Int)} {h : Int} (A : Adj M) : ∀ {d : Nat} {hs : List Int}, enoughF M h d hs = true → hs.length + d = M.length → (∀ x ∈ hs, 0 ≤ x ∧ x < h) → (∀ i : Nat, i < hs.length → ∀ o ∈ M.getD i [], o < (i : Int) → hs.getD o.toNat 0 ≠ hs.getD i 0) → ∃ f, Proper M h f
  | 0, hs, _, hl, hr, hp => by
    refine ⟨fun i => hs.getD i 0, fun i hi => ⟨hr _ ?_, fun o ho => ?_⟩⟩
    · show hs.getD i 0 ∈ hs
      rw [List.getD_eq_getElem?_getD, List.getElem?_eq_getElem (by omega)]
      exact List.getElem_mem _
    · have r := A.rng i o ho
      by_cases c : o < (i : Int)
      · exact hp i (by omega) o ho c
      · obtain ⟨j, rfl⟩ : ∃ j : Nat, o = (j : Int) := ⟨o.toNat, by omega⟩
        have s := (A.sym i j hi (by omega)).mp ho
        have := hp j (by omega) i s (by omega)
        rw [Int.toNat_natCast] at this ⊢
        exact fun z => this z.symm
  | d + 1, hs, he, hl, hr, hp => by
    unfold enoughF at he
    obtain ⟨c, hc, he⟩ := List.any_eq_true.mp he
    have hc := List.mem_range.mp hc
    simp only [Bool.and_eq_true, Bool.not_eq_true'] at he
    refine enough_col A he.2 (by simp; omega) (fun x hx => ?_) (fun i hi o ho hoi => ?_)
    · rcases List.mem_append.mp hx with hx | hx
      · exact hr x hx
      · rw [List.mem_singleton.mp hx]; omega
    · have r := A.rng i o ho
      rw [List.length_append, List.length_singleton] at hi
      by_cases z : i < hs.length
      · rw [getD_app (by omega), getD_app z]
        exact hp i z o ho hoi
      · obtain rfl : i = hs.length := by omega
        rw [getD_app (by omega), getD_new]
        intro e
        have bl : blockedB M hs (c : Int) = true := by
          unfold blockedB
          exact List.any_eq_true.mpr ⟨o, ho, by rw [decide_eq_true hoi, decide_eq_true e]; rfl⟩
        rw [he.1] at bl
        cases bl
theorem col_enough {M : List (List Int)} {h : Int} (A : Adj M) : ∀ {d : Nat} {hs : List Int} {m : Nat} {f : Nat → Int}, Proper M h f → hs.length + d = M.length → Can m hs → (∀ i : Nat, i < hs.length → f i = hs.getD i 0) → enoughF M h d hs = true
  | 0, _, _, _, _, _, _, _ => rfl
  | d + 1, hs, m, f, p, hl, can, ag => by
    obtain ⟨g, pg, fix, g0, g1, g2⟩ := pick_opt (m := m) p (show hs.length < M.length by omega)
    obtain ⟨c, hcg⟩ : ∃ c : Nat, g hs.length = (c : Int) := ⟨(g hs.length).toNat, by omega⟩
    have mem : ∀ i : Nat, i < hs.length → hs.getD i 0 ∈ hs := fun i hi => by
      rw [List.getD_eq_getElem?_getD, List.getElem?_eq_getElem hi]
      exact List.getElem_mem _
    have agg : ∀ i : Nat, i < hs.length → g i = hs.getD i 0 := fun i hi => by
      have := can.1 _ (mem i hi)
      rw [fix i (by rw [ag i hi]; omega) (by rw [ag i hi]; omega), ag i hi]
    unfold enoughF
    refine List.any_eq_true.mpr ⟨c, List.mem_range.mpr (by rw [can.unl]; omega), ?_⟩
    have nb : blockedB M hs (c : Int) = false := by
      cases z : blockedB M hs (c : Int) with
      | false => rfl
      | true =>
        exfalso
        unfold blockedB at z
        obtain ⟨o, ho, e⟩ := List.any_eq_true.mp z
        simp only [Bool.and_eq_true, decide_eq_true_eq] at e
        have r := A.rng _ o ho
        exact (pg hs.length (by omega)).2 o ho (by rw [agg _ (by omega), e.2, hcg])
    rw [nb, col_enough A (hs := hs ++ [(c : Int)]) (m := max m (c + 1)) pg (by simp; omega) (can.app (by omega)) (fun i hi => ?_)]
    · rfl
    · rw [List.length_append, List.length_singleton] at hi
      by_cases z : i < hs.length
      · rw [getD_app z, agg i z]
      · obtain rfl : i = hs.length := by omega
        rw [getD_new, hcg]
/-- as many hues as ways are enough -/
theorem col_all {M : List (List Int)} (A : Adj M) {h : Int} (hh : (M.length : Int) ≤ h) : Proper M h fun i => (i : Int) := fun i hi => ⟨⟨by show (0 : Int) ≤ (i : Int); omega, by show (i : Int) < h; omega⟩, fun o ho => by
  have := A.rng i o ho
  show ((o.toNat : Nat) : Int) ≠ (i : Int)
  omega⟩
theorem Proper.more {M : List (List Int)} {h h' : Int} {f : Nat → Int} (p : Proper M h f) (hh : h ≤ h') : Proper M h' f := fun i hi => by
  obtain ⟨⟨a, b⟩, c⟩ := p i hi
  exact ⟨⟨a, by omega⟩, c⟩
theorem atI_nat' {α : Type} {xs : List α} {i : Nat} {x : α} (h : xs[i]? = some x) : atI xs (0 + (i : Nat)) = some x := by rw [Int.zero_add]; exact atI_nat h
theorem forE {K : PySem.W.Frag} {σ : L2.St} {H : Hp} {nx : L2.St → Hp → Prop} {rt : VK} {b : Addr} {xs : List V} {g : TG} {tb : TS} (hs0 : SqL K H b xs) (Pv : Nat → L2.St → Hp → Prop) (h0 : Pv 0 σ H) (hl : ∀ i σ H, Pv i σ H → SqL K H b xs)
    (hs : ∀ (i : Nat) x σ H T H', xs[i]? = some x → Pv i σ H → H T = none → Same H H' → H' T = some (.tup [.int (i : Nat), x]) → g (.ref T) σ H' fun σ2 H2 => tb ⟨Pv (i + 1), rt, nx, Pv (i + 1)⟩ σ2 H2) (hd : ∀ σ H, Pv xs.length σ H → nx σ H) :
    ∃ a xs, [V.ref b] = [.ref a] ∧ SqL K H a xs ∧ ∃ W : Nat → Nat → L2.St → Hp → Prop, (∃ m, W 0 m σ H) ∧ ∀ i m σ H, W i m σ H →
      ((Ite K a).stop i H ∧ nx σ H) ∨ ((Ite K a).go i H ∧ ∃ N : L2.St → Hp → Prop, (∀ σ' H', N σ' H' → ∃ m', m' < m ∧ W (i + 1) m' σ' H') ∧ ∀ x H', (Ite K a).yld i H x H' → g x σ H' fun σ2 H2 => tb ⟨N, rt, nx, N⟩ σ2 H2) := by
  refine ⟨b, xs, rfl, hs0, for_it (D := ⟨nx, rt, fun _ _ => False, fun _ _ => False⟩) walk_enum Pv h0 (fun i σ H _ p => hl i σ H p) ?_ hd⟩
  rintro i y σ H1 H2 hi p ⟨T, x1, x2, rfl, nT, rfl, hx1, hx2⟩
  cases hx1
  exact hs i x2 σ H1 T _ hx2 p nT (same_new nT) upd_same
theorem k_slT {K : PySem.W.Frag} {H : Hp} {Q : VK} {a : Addr} {xs : List V} {lo hi : Option Int} (hs : SqT K H a xs) (hw : ¬ (HT.sIx xs.length 0 lo = 0 ∧ HT.sIx xs.length xs.length hi = xs.length)) (h : ∀ p H', H p = none → Same H H' → H' p = some (.tup (cutV xs lo hi)) → Q (.ref p) H') : rSlT K (.ref a) lo hi H Q := ⟨a, xs, rfl, hs, hw, fun p np => h p _ np (same_new np) upd_same⟩
theorem forT {K : PySem.W.Frag} {σ : L2.St} {H : Hp} {nx : L2.St → Hp → Prop} {rt : VK} {b : Addr} {xs : List V} {g : TG} {tb : TS} (hs0 : SqT K H b xs) (Pv : Nat → L2.St → Hp → Prop) (h0 : Pv 0 σ H) (hl : ∀ i σ H, i ≤ xs.length → Pv i σ H → SqT K H b xs)
    (hs : ∀ (i : Nat) x σ H, xs[i]? = some x → Pv i σ H → g x σ H fun σ2 H2 => tb ⟨Pv (i + 1), rt, nx, Pv (i + 1)⟩ σ2 H2) (hd : ∀ σ H, Pv xs.length σ H → nx σ H) :
    ∃ a, V.ref b = .ref a ∧ (∃ xs, SqT K H a xs) ∧ ∃ W : Nat → Nat → L2.St → Hp → Prop, (∃ m, W 0 m σ H) ∧ ∀ i m σ H, W i m σ H →
      ((Itt K a).stop i H ∧ nx σ H) ∨ ((Itt K a).go i H ∧ ∃ N : L2.St → Hp → Prop, (∀ σ' H', N σ' H' → ∃ m', m' < m ∧ W (i + 1) m' σ' H') ∧ ∀ x H', (Itt K a).yld i H x H' → g x σ H' fun σ2 H2 => tb ⟨N, rt, nx, N⟩ σ2 H2) :=
  ⟨b, rfl, ⟨xs, hs0⟩, for_tup (D := ⟨nx, rt, fun _ _ => False, fun _ _ => False⟩) Pv h0 hl hs hd⟩
theorem dpa3 {K : PySem.W.Frag} {H : Hp} {xs : List V} {ds : List PyData} (h : DpAll K H xs ds) (hl : ds.length = 3) : ∃ x y z a b c, xs = [x, y, z] ∧ ds = [a, b, c] ∧ Dp K H x a ∧ Dp K H y b ∧ Dp K H z c := by
  match ds, hl with
  | [a, b, c], _ =>
    cases h with | cons h1 h => cases h with | cons h2 h => cases h with | cons h3 h =>
      cases h
      exact ⟨_, _, _, _, _, _, rfl, rfl, h1, h2, h3⟩
theorem isD_str {d : PyData} (h : isD "str" d = true) : ∃ s, d = .str s := by
  cases d <;> first | exact ⟨_, rfl⟩ | (simp [isD, tyD] at h)
theorem isD_tup {d : PyData} (h : isD "tuple" d = true) : ∃ s, d = .tuple s := by
  cases d <;> first | exact ⟨_, rfl⟩ | (simp [isD, tyD] at h)
theorem isD_list {d : PyData} (h : isD "list" d = true) : ∃ s, d = .list s := by
  cases d <;> first | exact ⟨_, rfl⟩ | (simp [isD, tyD] at h)
theorem dp_whole {K : PySem.W.Frag} {H : Hp} {v : V} {d : PyData} (h : Dp K H v d) (w : wholeD d = true) : v = .int (intD d) := by
  rw [whole_int w] at h
  exact dp_int h
theorem bcases (b : Bool) : b = true ∨ b = false := by cases b <;> simp


/-- a comprehension over a list, each turn gives a new thing of which F tells the data -/
theorem lc_dp {σ : L2.St} {vs : List Nat} {g : TG} {te : TE} {H1 : Hp} {QD : Addr → Hp → Prop} {α : Type} {a : Addr} {xs : List V} (S0 : List Addr) (hS : ∀ b ∈ S0, H1 b ≠ none) (hs : SqL K H1 a xs) (ps : List α) (hl : xs.length = ps.length) (hz : ps.length ≤ 50000) (F : α → PyData)
    (step : ∀ (i : Nat) x p H', xs[i]? = some x → ps[i]? = some p → Same H1 H' → ∀ (R : V → Hp → Prop), (∀ y H'', Same H' H'' → (∀ S : List Addr, (∀ b ∈ S, H' b ≠ none) → Dp K (hid S H'') y (F p)) → R y H'') →
      g x (wipe σ vs) H' fun σ2 H2 => wipe σ2 vs = wipe σ vs ∧ te σ2 H2 R)
    (h : ∀ D ys H', H1 D = none → Same H1 H' → H' D = some (.lst ys) → DpAll K (hid (D :: S0) H') ys (ps.map F) → QD D H') (hg : ∀ x σ' H (q q' : L2.St → Hp → Prop), (∀ s H, q s H → q' s H) → g x σ' H q → g x σ' H q') :
    ∃ a', V.ref a = .ref a' ∧ (∃ xs, SqL K H1 a' xs) ∧ ∀ D, H1 D = none → ∃ W : Nat → Nat → Hp → Prop, (∃ m, W 0 m (upd H1 D (.lst []))) ∧ ∀ i m H, W i m H →
      ((Itl K a').stop i H ∧ QD D H) ∨ ((Itl K a').go i H ∧ ∃ Nx : Hp → Prop, (∀ H', Nx H' → ∃ m', m' < m ∧ W (i + 1) m' H') ∧ ∀ x H', (Itl K a').yld i H x H' → g x (wipe σ vs) H' fun σ2 H2 => wipe σ2 vs = wipe σ vs ∧ tYes σ2 H2 fun b H3 =>
        if b = true then te σ2 H3 fun y H4 => ∃ acc, H4 D = some (.lst acc) ∧ acc.length < sizeLine ∧ Nx (upd H4 D (.lst (acc ++ [y]))) else Nx H3) := by
  refine ⟨a, rfl, ⟨xs, hs⟩, fun D nD => lc_list (xs := xs) (fun i H => Same H1 H ∧ ∃ ys, H D = some (.lst ys) ∧ ys.length = i ∧ DpAll K (hid (D :: S0) H) ys ((ps.take i).map F)) ⟨same_new nD, [], upd_same, rfl, .nil⟩ (fun i H _ e => e.1.seq hs) ?_ ?_⟩
  · rintro i x H hx ⟨sm, ys, hD, hly, hys⟩
    have hi : i < xs.length := (List.getElem?_eq_some_iff.mp hx).1
    obtain ⟨p, hp⟩ : ∃ p, ps[i]? = some p := ⟨ps[i]'(by omega), List.getElem?_eq_getElem (by omega)⟩
    refine hg _ _ _ _ _ (fun s2 H2 hh => ⟨hh.1, k_yes (iteT hh.2)⟩) (step i x p H hx hp sm _ (fun y H'' s2 dy => ⟨ys, s2 _ _ hD, szl (by omega), same_mut (sm.trans s2) nD, ys ++ [y], upd_same, by simp [hly], ?_⟩))
    rw [hid_upd (by simp), List.take_add_one, hp, List.map_append]
    refine dpa_app (dpa_same (hid_mono s2) hys) (.cons (dy _ fun b hb => ?_) .nil)
    rcases List.mem_cons.mp hb with e | hb
    · rw [e, hD]; exact fun z => nomatch z
    · intro z
      exact hS b hb (sm.free z)
  · rintro H ⟨sm, ys, hD, hly, hys⟩
    rw [hl, List.take_length] at hys
    exact h D ys H nD sm hD hys
theorem meet_fm (xs ys : List Int) : 0 < (xs.filterMap fun t => if t ∈ ys then some (V.int t) else none).length ↔ ∃ t, t ∈ xs ∧ t ∈ ys := by
  rw [List.length_pos_iff_exists_mem]
  constructor
  · rintro ⟨v, hv⟩
    obtain ⟨t, h1, h2⟩ := List.mem_filterMap.mp hv
    by_cases c : t ∈ ys
    · exact ⟨t, h1, c⟩
    · rw [if_neg c] at h2; cases h2
  · rintro ⟨t, h1, h2⟩
    exact ⟨.int t, List.mem_filterMap.mpr ⟨t, h1, by rw [if_pos h2]⟩⟩
def pr_have_common (K : PySem.W.Frag) (v0 v1 : V) (H : Hp) (Q : VK) (_ : XK) : Prop := ∃ (a b : Addr) (xs ys : List Int), v0 = .ref a ∧ v1 = .ref b ∧ SqL K H a (xs.map V.int) ∧ SqL K H b (ys.map V.int) ∧ xs.length ≤ 1000 ∧ ∀ H', Same H H' → Q (.bl (commonB xs ys)) H'
def t_have_common (K : PySem.W.Frag) : TS :=
  (tRet (tOp xGt (tCB (rLenX K) (tCons (tLc (iList K (tVar 0)) (gName 2) (tTest (tOp (rIn K false) (tVar 2) (tVar 1))) (tVar 2) [2]) tNil)) (tC (.int 0))))
theorem pure_have_common {v0 v1 : V} {H : Hp} {Q : VK} {E : XK} (h : pr_have_common K v0 v1 H Q E) : t_have_common K ⟨fun _ H' => Q .non H', Q, fun _ _ => False, fun _ _ => False⟩ [some v0, some v1, none] H := by
  obtain ⟨a, b, xs, ys, rfl, rfl, ha, hb, hz, q⟩ := h
  unfold t_have_common
  wtm_at "s"
  refine lc_pure ha xs (by simp) (by omega) (fun t => if t ∈ ys then some (V.int t) else none) ?_ (fun D H1 nD s1 eD => ?_)
  · intro k z p H' hz hp sm R R0 h1 h2
    rw [List.getElem?_map, hp] at hz
    cases hz
    have hb' := sm.seq hb
    wtm_at "s"
    refine k_it (fun w => ?_) (fun w => ?_)
    · wtm_at "s"
      exact h1 _ (by rw [if_pos w])
    · exact h2 (by rw [if_neg w])
  · wtm_at "s"
    have e : decide ((0 : Int) < ((xs.filterMap fun t => if t ∈ ys then some (V.int t) else none).length : Nat)) = commonB xs ys := by
      cases hc : commonB xs ys with
      | true => exact decide_eq_true (by have := (meet_fm xs ys).mpr (common_iff.mp hc); omega)
      | false => exact decide_eq_false fun z => by
                   have := common_iff.mpr ((meet_fm xs ys).mp (by omega))
                   rw [hc] at this; cases this
    rw [e]
    exact q H1 s1
abbrev sp_have_common (K : PySem.W.Frag) : Sp := fun vs H Q E => ∃ v0 v1, vs = [v0, v1] ∧ pr_have_common K v0 v1 H Q E
theorem ok_have_common (T : Txt K mg A) : FnOk P w K mg base CX0 1 A.a_have_common A.d_have_common ["one", "other"] (sp_have_common K) := by
  refine T.F_have_common.ok sc_have_common (fun vs H Q E h => by obtain ⟨v0, v1, rfl, _⟩ := h; rfl) (fun cdv A0 outer s H vs Q E hr h => ?_)
  obtain ⟨v0, v1, rfl, h⟩ := h
  exact ⟨t_have_common K, (pss_one (ps_ret (pe_cmpR op_gt (pe_callB q_len (by rfl) T.z_len (by decide +kernel) (pa_cons (pe_lc (own := [("thing", 2)]) (by rfl) sc_have_common.nd (pi_list (pv 0)) (blkOk_by (own := [("thing", 2)]) (N := ["one", "other", "thing"]) (sc := defScope s_have_common) (by decide +kernel)) (fun _ _ _ _ _ => (pg_name (i := 2) sc_have_common.nd rfl (Or.inl rfl))) (fun _ _ _ _ _ => (pts_one (pt_cmpR op_in_seq (pv 2) (pv 1) (by rfl)))) (fun _ _ _ _ _ => (pv 2))) pa_nil)) pe_int (nomark _)))), pure_have_common h⟩


def pr_meetings (K : PySem.W.Frag) (v0 v1 : V) (H : Hp) (Q : VK) (_ : XK) : Prop := ∃ (N : Net) (ws : List (Int × Int)) (S : List Addr), Dp K H v0 N.d ∧ N.ok ∧ Dp K H v1 (dPairs ws) ∧ ws.length ≤ 100 ∧ (∀ w ∈ ws, isWay N w.1 w.2) ∧ (∀ x ∈ S, H x ≠ none) ∧
  ∀ p H', H p = none → Same H H' → Dp K (hid S H') (.ref p) (.list ((meetF N ws).map dInts)) → Q (.ref p) H'
def t_meetings (K : PySem.W.Frag) : TS :=
  (tSeq (tAsg (tLc (iList K (tVar 1)) (gName 5) tYes (tCall (sp_ties_on K) [] E0 (tCons (tVar 0) (tCons (tVar 5) tNil))) [5]) (gName 2))
    (tSeq (tAsg (tLst tNil) (gName 3))
    (tSeq (tFor (iRng1 (tCons (tCB (rLenX K) (tCons (tVar 1) tNil)) tNil)) (gName 4)
      (tDrop (tBM K "list" rAppend (tVar 3) (tCons (tLc (iRng1 (tCons (tCB (rLenX K) (tCons (tVar 1) tNil)) tNil)) (gName 6) (tAnd (tTest (tOp rNe (tVar 6) (tVar 4))) (tB (tCall (sp_have_common K) [] E0 (tCons (tOp (rIxL K) (tVar 2) (tVar 4)) (tCons (tOp (rIxL K) (tVar 2) (tVar 6)) tNil))))) (tVar 6) [6]) tNil))))
    (tRet (tVar 3)))))
theorem pure_meetings {v0 v1 : V} {H : Hp} {Q : VK} {E : XK} (hh : pr_meetings K v0 v1 H Q E) : t_meetings K ⟨fun _ H' => Q .non H', Q, fun _ _ => False, fun _ _ => False⟩ [some v0, some v1, none, none, none, none, none] H := by
  obtain ⟨N, ws, S, d0, ok, d1, hz, hok, hS, q⟩ := hh
  obtain ⟨b, ys, rfl, hb, dys⟩ := dp_list d1
  have ly : ys.length = ws.length := by rw [dpa_len dys, List.length_map]
  have tl60 := (ties_le ok).1
  have fS : ∀ {H1 : Hp} {p : Addr}, Same H H1 → H1 p = none → p ∉ S := fun s np z => hS _ z (s.free np)
  unfold t_meetings
  wtm_at "s"
  refine lc_dp [] (fun x hx => by cases hx) hb ws ly (by omega) (fun w => dInts (tiesF N w)) ?_ (fun tl zs H1 ntl s1 e1 dz => ?_) (fun x σ' H q q' h hh => h _ _ hh)
  · intro i x w H' hx hw sm R g
    obtain ⟨w', c, hw', rfl, hc⟩ := dpairs_get dys hx
    rw [hw] at hw'
    cases hw'
    have wok := hok w (List.mem_of_getElem? hw)
    wtm_at "s"
    refine ⟨_, _, rfl, N, w.1, w.2, dp_same sm d0, dp_of_pair (same_seqT sm hc), ok, wok, fun p ns H2 np s2 e2 tt => ?_⟩
    refine g _ H2 s2 (fun S' hS' => ?_)
    rw [tiesF_of ok wok tt.srt tt.mem] at e2
    exact dp_of_ints (sl (by rw [hid_ne (fun z => hS' p z np)]; exact e2))
  replace dz := dpa_same (hid_same _ _) dz
  have lz : zs.length = ws.length := by rw [dpa_len dz, List.length_map]
  have row : ∀ (k : Nat), k < ws.length → ∃ c, zs[k]? = some (.ref c) ∧ SqL K H1 c ((tiesF N (ws.getD k (0, 0))).map V.int) := fun k hk => by
    obtain ⟨v, hv, dv⟩ := dpa_get2 dz (i := k) (d := dInts (tiesF N (ws.getD k (0, 0)))) (by rw [List.getElem?_map, List.getElem?_eq_getElem hk, List.getD_eq_getElem?_getD, List.getElem?_eq_getElem hk]; rfl)
    obtain ⟨c, rfl, hc⟩ := dp_ints dv
    exact ⟨c, hv, hc⟩
  wtm_at "s"
  refine kL (by simp) (fun fo H2 nfo s2 e2 => ?_)
  have nf0 : H fo = none := s1.free nfo
  wtm_at "s"
  rw [ly, Int.toNat_natCast]
  refine forR (fun i σ' H' => Same H1 H' ∧ ∃ rs k4 k5 k6, σ' = [some v0, some (.ref b), some (.ref tl), some (.ref fo), k4, k5, k6] ∧ H' fo = some (.lst rs) ∧ rs.length = i ∧ DpAll K (hid (fo :: S) H') rs (((List.range i).map (meetRow N ws)).map dInts)) ⟨s2, [], _, _, _, rfl, e2, rfl, .nil⟩ ?_ ?_
  · rintro i σ' H3 hi ⟨s3, rs, k4, k5, k6, rfl, e3, lr, dr⟩
    have s03 := s1.trans s3
    have hb3 := s03.seq hb
    wtm_at "s"
    refine k_tyL (sl e3) ?_
    wtm_at "s"
    rw [ly, Int.toNat_natCast]
    refine lc_growR (by omega) (fun k => if (decide (k ≠ i) && meetB N (ws.getD i (0, 0)) (ws.getD k (0, 0))) = true then some (.int (0 + (k : Nat))) else none) ?_ (fun D H4 nD s4 eD => ?_)
    · intro k H' hk sm R R0 g1 g2
      obtain ⟨c1, hc1, hs1⟩ := row i hi
      obtain ⟨c2, hc2, hs2⟩ := row k hk
      have s1' := s3.trans sm
      have etl := s1' _ _ e1
      wtm_at "s"
      refine k_itn (fun c => ?_) (fun c => ?_)
      · have ck : k ≠ i := fun z => c (by rw [z])
        wtm_at "s"
        refine k_ixL (sl etl) (atI_nat' hc1) ?_
        wtm_at "s"
        refine k_ixL (sl etl) (atI_nat' hc2) ?_
        wtm_at "s"
        refine ⟨_, _, rfl, c1, c2, _, _, rfl, rfl, s1'.seq hs1, s1'.seq hs2, by have := tiesF_len N (ws.getD i (0, 0)); omega, fun H5 s5 => ?_⟩
        have em : commonB (tiesF N (ws.getD i (0, 0))) (tiesF N (ws.getD k (0, 0))) = meetB N (ws.getD i (0, 0)) (ws.getD k (0, 0)) := rfl
        rw [em]
        cases hm : meetB N (ws.getD i (0, 0)) (ws.getD k (0, 0)) with
        | true =>
          wtm_at "s"
          exact g1 _ H5 (by rw [hm, decide_eq_true ck]; rfl) s5
        | false =>
          wtm_at "s"
          exact g2 H5 (by rw [hm, decide_eq_true ck]; rfl) s5
      · have ck : k = i := by omega
        wtm_at "s"
        exact g2 H' (by rw [decide_eq_false (fun z => z ck)]; rfl) (Same.refl _)
    · rw [keepI_fm] at eD
      have eD' : H4 D = some (.lst ((meetRow N ws i).map V.int)) := eD
      have Dfo : D ≠ fo := fun z => by rw [z, e3] at nD; cases nD
      have DS : D ∉ fo :: S := fun z => by
        rcases List.mem_cons.mp z with z | z
        · exact Dfo z
        · exact fS s03 nD z
      wtm_at "s"
      refine k_append (s4 _ _ e3) (by omega) ?_
      refine ⟨same_mut (s3.trans s4) nfo, rs ++ [.ref D], _, _, _, rfl, upd_same, by simp [lr], ?_⟩
      rw [hid_upd (by simp), List.range_succ, List.map_append, List.map_append]
      exact dpa_app (dpa_same (hid_mono s4) dr) (.cons (dp_of_ints (sl (by rw [hid_ne DS]; exact eD'))) .nil)
  · rintro σ' H3 ⟨s3, rs, k4, k5, k6, rfl, e3, lr, dr⟩
    wtm_at "s"
    refine q fo H3 nf0 (s1.trans s3) (.lst (sl ?_) (dpa_same (hid_sub fun x hx => List.mem_cons_of_mem _ hx) dr))
    rw [hid_ne (fS (Same.refl _) nf0)]; exact e3
abbrev sp_meetings (K : PySem.W.Frag) : Sp := fun vs H Q E => ∃ v0 v1, vs = [v0, v1] ∧ pr_meetings K v0 v1 H Q E
theorem ok_meetings (T : Txt K mg A) : FnOk P w K mg base CX0 2 A.a_meetings A.d_meetings ["net", "ways"] (sp_meetings K) := by
  refine T.F_meetings.ok sc_meetings (fun vs H Q E h => by obtain ⟨v0, v1, rfl, _⟩ := h; rfl) (fun cdv A0 outer s H vs Q E hr h => ?_)
  obtain ⟨v0, v1, rfl, h⟩ := h
  exact ⟨t_meetings K, (pss_cons (ps_set (i := 2) sc_meetings.nd rfl (Or.inr rfl) (pe_lc (own := [("way", 5)]) (by rfl) sc_meetings.nd (pi_list (pv 1)) (blkOk_by (own := [("way", 5)]) (N := ["net", "ways", "ties", "found", "one", "way", "k"]) (sc := defScope s_meetings) (by decide +kernel)) (fun _ _ _ _ _ => (pg_name (i := 5) sc_meetings.nd rfl (Or.inl rfl))) (fun _ _ _ _ _ => pts_nil) (fun _ _ _ _ _ => (pe_call (ok_ties_on T) (hr.mono (by decide)) (by rfl) T.g_ties_on T.F_ties_on.kp T.b_ties_on .nil pass0 (pa_cons (pv 0) (pa_cons (pv 5) pa_nil))))))
      (pss_cons (ps_set (i := 3) sc_meetings.nd rfl (Or.inl rfl) (pe_lst pa_nil))
      (pss_cons (ps_for PassesOwn.never rfl (pi_range1 (by rfl) T.z_range (pa_cons (pe_callB q_len (by rfl) T.z_len (by decide +kernel) (pa_cons (pv 1) pa_nil)) pa_nil)) (pg_name (i := 4) sc_meetings.nd rfl (Or.inr rfl))
      (pss_one (ps_expr (pe_bm PySem.F.plainAttrs_list PySem.F.slot_list_append PySem.F.type_list_append mt_append (pv 3) (pa_cons (pe_lc (own := [("k", 6)]) (by rfl) sc_meetings.nd (pi_range1 (by rfl) T.z_range (pa_cons (pe_callB q_len (by rfl) T.z_len (by decide +kernel) (pa_cons (pv 1) pa_nil)) pa_nil)) (blkOk_by (own := [("k", 6)]) (N := ["net", "ways", "ties", "found", "one", "way", "k"]) (sc := defScope s_meetings) (by decide +kernel)) (fun _ _ _ _ _ => (pg_name (i := 6) sc_meetings.nd rfl (Or.inl rfl))) (fun _ _ _ _ _ => (pts_one (PW.pt (pw_and (pt_cmpR op_ne (pv 6) (pv 4) (nomark _)) (pw_and1 (pt_val (pe_call (ok_have_common T) (hr.mono (by decide)) (by rfl) T.g_have_common T.F_have_common.kp T.b_have_common .nil pass0 (pa_cons (pe_ix ix_list (pv 2) (pv 4) (fun _ _ => rfl)) (pa_cons (pe_ix ix_list (pv 2) (pv 6) (fun _ _ => rfl)) pa_nil))))))))) (fun _ _ _ _ _ => (pv 6))) pa_nil)))))
      (pss_one (ps_ret (pv 3)))))), pure_meetings h⟩


/-- no key twice -/
def Uni (gs : List (Int × Int)) : Prop := (gs.map (·.1)).Nodup
theorem look_key {gs : List (Int × Int)} {k : Int} (h : lookS gs k = none) : k ∉ gs.map (·.1) := by
  intro z
  obtain ⟨p, hp, rfl⟩ := List.mem_map.mp z
  unfold lookS at h
  cases c : gs.find? (fun q => decide (q.1 = p.1)) with
  | some q => rw [c] at h; cases h
  | none => exact absurd (decide_eq_true (show p.1 = p.1 from rfl)) (List.find?_eq_none.mp c p hp)
theorem Uni.add {gs : List (Int × Int)} {k u : Int} (h : Uni gs) (hk : lookS gs k = none) : Uni (gs ++ [(k, u)]) := by
  unfold Uni
  rw [List.map_append, List.nodup_append]
  refine ⟨h, by simp, fun a ha b hb e => ?_⟩
  have : b = k := by simpa using hb
  rw [e, this] at ha
  exact look_key hk ha
theorem Uni.nil : Uni [] := List.nodup_nil
theorem Uni.look : ∀ {gs : List (Int × Int)}, Uni gs → ∀ p ∈ gs, lookS gs p.1 = some p.2
  | [], _, p, h => by cases h
  | a :: r, h, p, hp => by
    have h' : a.1 ∉ r.map (·.1) ∧ (r.map (·.1)).Nodup := List.nodup_cons.mp h
    unfold lookS
    rw [List.find?_cons]
    rcases List.mem_cons.mp hp with rfl | hp
    · simp
    · have ne : a.1 ≠ p.1 := fun z => h'.1 (by rw [z]; exact List.mem_map_of_mem hp)
      rw [decide_eq_false ne]
      exact Uni.look h'.2 p hp
theorem Uni.vals {gs : List (Int × Int)} (h : Uni gs) : ∀ kv ∈ dS gs, valV (dS gs) kv.1 = some kv.2 := fun kv hkv => by
  unfold dS at hkv
  obtain ⟨p, hp, rfl⟩ := List.mem_map.mp hkv
  rw [dS_val, h.look p hp]; rfl
theorem dS_snd (gs : List (Int × Int)) : (dS gs).map (·.2) = (gs.map (·.2)).map V.int := by
  unfold dS
  rw [List.map_map, List.map_map]; rfl
def pr_options (K : PySem.W.Frag) (v0 v1 : V) (H : Hp) (Q : VK) (_ : XK) : Prop := ∃ (h : Int) (a : Addr) (gs : List (Int × Int)), v0 = .int h ∧ -1000 ≤ h ∧ h ≤ 100000 ∧ v1 = .ref a ∧ H a = some (.dK (dS gs)) ∧ Uni gs ∧ gs.length ≤ 1000 ∧ ∀ p H', H p = none → Same H H' → H' p = some (.lst ((List.range (optN h gs)).map fun i : Nat => V.int (i : Int))) → Q (.ref p) H'
def t_options (K : PySem.W.Frag) : TS :=
  (tRet (tLstRg (tRg1 (tOp xAdd (tCB rMin2 (tCons (tOp xSub (tVar 0) (tC (.int 1))) (tCons (tLenU K (tLockE (tLc (iKeys (tVar 1)) (gName 2) tYes (tDGet (tVar 1) (tVar 2)) [2]))) tNil))) (tC (.int 1))))))
theorem pure_options {v0 v1 : V} {H : Hp} {Q : VK} {E : XK} (hh : pr_options K v0 v1 H Q E) : t_options K ⟨fun _ H' => Q .non H', Q, fun _ _ => False, fun _ _ => False⟩ [some v0, some v1, none] H := by
  obtain ⟨h, a, gs, rfl, h0, h1, rfl, ha, un, hl, q⟩ := hh
  unfold t_options
  wtm_at "s"
  refine lc_vals ha ⟨rfl, rfl⟩ (fun _ => rfl) (fun _ => rfl) (fun _ => rfl) (by unfold dS; simp; omega) un.vals (fun D H1 nD s1 eD => ?_)
  rw [dS_snd] at eD
  refine ⟨D, _, rfl, sl eD, by simp; omega, ?_⟩
  wtm_at "s"
  have hu := unl_le (gs.map (·.2))
  rw [List.length_map] at hu
  have e : (if ((unl (gs.map (·.2)) : Nat) : Int) < h - 1 then ((unl (gs.map (·.2)) : Nat) : Int) else h - 1) = min (h - 1) ((unl (gs.map (·.2)) : Nat) : Int) := by split <;> omega
  rw [e]
  refine kR (by unfold RgOk; omega) (fun p H2 np s2 e2 => ?_)
  refine q p H2 (s1.free np) (s1.trans s2) ?_
  rw [e2]
  unfold rgV optN
  rw [Int.sub_zero]
  simp only [Int.zero_add]
abbrev sp_options (K : PySem.W.Frag) : Sp := fun vs H Q E => ∃ v0 v1, vs = [v0, v1] ∧ pr_options K v0 v1 H Q E
theorem ok_options (T : Txt K mg A) : FnOk P w K mg base CX0 1 A.a_options A.d_options ["h", "given"] (sp_options K) := by
  refine T.F_options.ok sc_options (fun vs H Q E h => by obtain ⟨v0, v1, rfl, _⟩ := h; rfl) (fun cdv A0 outer s H vs Q E hr h => ?_)
  obtain ⟨v0, v1, rfl, h⟩ := h
  exact ⟨t_options K, (pss_one (ps_ret (pe_listRg (by rfl) (by rfl) T.z_list (prg_1 (by rfl) T.z_range (pe_op op_add (pe_callB (q_min2 (by rfl)) (by rfl) T.z_min (by decide +kernel) (pa_cons (pe_op op_sub (pv 0) pe_int) (pa_cons (pe_lenU (by rfl) (by rfl) T.z_len (by rfl) T.z_set (pe_lock (pe_lc (own := [("k", 2)]) (by rfl) sc_options.nd (pi_keys (pv 1)) (blkOk_by (own := [("k", 2)]) (N := ["h", "given", "k"]) (sc := defScope s_options) (by decide +kernel)) (fun _ _ _ _ _ => (pg_name (i := 2) sc_options.nd rfl (Or.inl rfl))) (fun _ _ _ _ _ => pts_nil) (fun _ _ _ _ _ => (pe_dget (Nat.lt_of_le_of_lt (Nat.add_le_add_left (by decide) _) hr.units) (pv 1) (pv 2) (fun _ _ => rfl)))))) pa_nil))) pe_int))))), pure_options h⟩
theorem inV_bools : ∀ bs : List Bool, inV (.bl true) (bs.map V.bl) = bs.any id
  | [] => rfl
  | b :: r => by
    show (eqV (.bl b) (.bl true) || inV (.bl true) (r.map V.bl)) = (id b || r.any id)
    rw [inV_bools r]
    cases b <;> rfl
theorem flat_bools : ∀ bs : List Bool, (bs.map V.bl).all flatV = true
  | [] => rfl
  | _ :: r => by show (true && (r.map V.bl).all flatV) = true; rw [flat_bools r]; rfl
theorem dp_row {K : PySem.W.Frag} {H : Hp} {a : Addr} {xs : List V} {M : List (List Int)} (hs : SqL K H a xs) (dx : DpAll K H xs (M.map dInts)) {k : Nat} (hk : k < M.length) : ∃ c, xs[k]? = some (.ref c) ∧ SqL K H c ((M.getD k []).map V.int) := by
  obtain ⟨v, hv, dv⟩ := dpa_get2 dx (i := k) (d := dInts M[k]) (by rw [List.getElem?_map, List.getElem?_eq_getElem hk]; rfl)
  obtain ⟨c, rfl, hc⟩ := dp_ints dv
  exact ⟨c, hv, by rw [List.getD_eq_getElem?_getD, List.getElem?_eq_getElem hk]; exact hc⟩
def pr_is_stuck (K : PySem.W.Frag) (v0 v1 v2 v3 : V) (H : Hp) (Q : VK) (_ : XK) : Prop := ∃ (M : List (List Int)) (a : Addr) (gs : List (Int × Int)) (k c : Int), Dp K H v0 (.list (M.map dInts)) ∧ (∀ r ∈ M, r.length ≤ 1000) ∧ v1 = .ref a ∧ H a = some (.dK (dS gs)) ∧ v2 = .int k ∧ 0 ≤ k ∧ k < M.length ∧ v3 = .int c ∧ ∀ H', Same H H' → Q (.bl (stuckB M gs k c)) H'
def t_is_stuck (K : PySem.W.Frag) : TS :=
  (tRet (tOp (rIn K false) (tC (.bl true)) (tLc (iList K (tOp (rIxL K) (tVar 0) (tVar 2))) (gName 4) tYes (tOp rEq (tDGet1 (tVar 1) (tVar 4)) (tVar 3)) [4])))
theorem pure_is_stuck {v0 v1 v2 v3 : V} {H : Hp} {Q : VK} {E : XK} (hh : pr_is_stuck K v0 v1 v2 v3 H Q E) : t_is_stuck K ⟨fun _ H' => Q .non H', Q, fun _ _ => False, fun _ _ => False⟩ [some v0, some v1, some v2, some v3, none] H := by
  obtain ⟨M, a, gs, k, c, d0, hr, rfl, ha, rfl, k0, k1, rfl, q⟩ := hh
  obtain ⟨b, xs, rfl, hb, dx⟩ := dp_list d0
  obtain ⟨rw', hrw, hrs⟩ := dp_row hb dx (show k.toNat < M.length by omega)
  have hlr : (M.getD k.toNat []).length ≤ 1000 := by
    rw [List.getD_eq_getElem?_getD, List.getElem?_eq_getElem (by omega)]
    exact hr _ (List.getElem_mem _)
  unfold t_is_stuck
  wtm_at "s"
  refine k_ixL hb (show atI xs k = some (.ref rw') by rw [show k = ((k.toNat : Nat) : Int) by omega]; exact atI_nat hrw) ?_
  wtm_at "s"
  refine lc_pure hrs (M.getD k.toNat []) (by simp) (by omega) (fun o => some (.bl (decide (lookS gs o = some c)))) ?_ (fun D H1 nD s1 eD => ?_)
  · intro i x o H' hx ho sm R R0 g1 g2
    rw [List.getElem?_map, ho] at hx
    cases hx
    wtm_at "s"
    refine k_aD (sm _ _ ha) ?_
    wtm_at "s"
    refine k_gD1N (sm _ _ ha) ?_
    rw [dS_val]
    cases hk : lookS gs o with
    | none =>
      simp only [Option.map_none, Option.getD_none]
      refine k_var rfl ⟨rfl, ?_⟩
      exact g1 _ (by rw [hk]; rfl)
    | some u =>
      simp only [Option.map_some, Option.getD_some]
      refine k_var rfl (k_eqI ?_)
      refine g1 _ ?_
      rw [hk]
      by_cases e : u = c
      · rw [decide_eq_true e, decide_eq_true (by rw [e])]
      · rw [decide_eq_false e, decide_eq_false (fun z => e (Option.some.inj z))]
  · have ee : (M.getD k.toNat []).filterMap (fun o => some (V.bl (decide (lookS gs o = some c)))) = ((M.getD k.toNat []).map fun o => decide (lookS gs o = some c)).map V.bl := by
      rw [fm_map, List.map_map]; rfl
    rw [ee] at eD
    refine ⟨D, _, rfl, .inl (sl eD), rfl, flat_bools _, ?_⟩
    rw [if_neg (by decide), inV_bools]
    have es : (((M.getD k.toNat []).map fun o => decide (lookS gs o = some c)).any id) = stuckB M gs k c := by
      unfold stuckB
      rw [List.any_map]; rfl
    rw [es]
    exact q H1 s1
abbrev sp_is_stuck (K : PySem.W.Frag) : Sp := fun vs H Q E => ∃ v0 v1 v2 v3, vs = [v0, v1, v2, v3] ∧ pr_is_stuck K v0 v1 v2 v3 H Q E
theorem ok_is_stuck (T : Txt K mg A) : FnOk P w K mg base CX0 1 A.a_is_stuck A.d_is_stuck ["meets", "given", "k", "hue"] (sp_is_stuck K) := by
  refine T.F_is_stuck.ok sc_is_stuck (fun vs H Q E h => by obtain ⟨v0, v1, v2, v3, rfl, _⟩ := h; rfl) (fun cdv A0 outer s H vs Q E hr h => ?_)
  obtain ⟨v0, v1, v2, v3, rfl, h⟩ := h
  exact ⟨t_is_stuck K, (pss_one (ps_ret (pe_cmpR op_in_seq pe_bl (pe_lc (own := [("other", 4)]) (by rfl) sc_is_stuck.nd (pi_list (pe_ix ix_list (pv 0) (pv 2) (fun _ _ => rfl))) (blkOk_by (own := [("other", 4)]) (N := ["meets", "given", "k", "hue", "other"]) (sc := defScope s_is_stuck) (by decide +kernel)) (fun _ _ _ _ _ => (pg_name (i := 4) sc_is_stuck.nd rfl (Or.inl rfl))) (fun _ _ _ _ _ => pts_nil) (fun _ _ _ _ _ => (pe_cmpR op_eq (pe_dget1 (Nat.lt_of_le_of_lt (Nat.add_le_add_left (by decide) _) hr.units) (pv 1) (pv 4) ⟨rfl, rfl, rfl, rfl⟩) (pv 3) (nomark _)))) (by rfl)))), pure_is_stuck h⟩
def pr_with_hue (K : PySem.W.Frag) (v0 v1 v2 : V) (H : Hp) (Q : VK) (_ : XK) : Prop := ∃ (a : Addr) (ss : List (Int × Int)) (k u : Int), v0 = .ref a ∧ v1 = .int k ∧ v2 = .int u ∧ H a = some (.dK (dS ss)) ∧ lookS ss k = none ∧ ss.length ≤ 1000 ∧
  ∀ p H', H p = none → Same H H' → H' p = some (.dK (dS (ss ++ [(k, u)]))) → Q (.ref p) H'
def t_with_hue (K : PySem.W.Frag) : TS :=
  (tSeq (tAsg (tCB rDictD (tCons (tVar 0) tNil)) (gName 3))
    (tSeq (sDPut (tVar 3) (tVar 1) (tVar 2))
    (tRet (tVar 3))))
theorem pure_with_hue {v0 v1 v2 : V} {H : Hp} {Q : VK} {E : XK} (hh : pr_with_hue K v0 v1 v2 H Q E) : t_with_hue K ⟨fun _ H' => Q .non H', Q, fun _ _ => False, fun _ _ => False⟩ [some v0, some v1, some v2, none] H := by
  obtain ⟨a, ss, k, u, rfl, rfl, rfl, ha, hk, hl, q⟩ := hh
  unfold t_with_hue
  wtm_at "s"
  refine k_dictD ha (fun p H1 np s1 e1 => ?_)
  wtm_at "s"
  refine k_pD e1 (by unfold dS; simp; omega) ?_
  wtm_at "s"
  rw [dS_put hk]
  exact q p _ np (same_mut s1 np) upd_same
abbrev sp_with_hue (K : PySem.W.Frag) : Sp := fun vs H Q E => ∃ v0 v1 v2, vs = [v0, v1, v2] ∧ pr_with_hue K v0 v1 v2 H Q E
theorem ok_with_hue (T : Txt K mg A) : FnOk P w K mg base CX0 1 A.a_with_hue A.d_with_hue ["given", "k", "hue"] (sp_with_hue K) := by
  refine T.F_with_hue.ok sc_with_hue (fun vs H Q E h => by obtain ⟨v0, v1, v2, rfl, _⟩ := h; rfl) (fun cdv A0 outer s H vs Q E hr h => ?_)
  obtain ⟨v0, v1, v2, rfl, h⟩ := h
  exact ⟨t_with_hue K, (pss_cons (ps_set (i := 3) sc_with_hue.nd rfl (Or.inl rfl) (pe_callTy q_dictD (by rfl) T.z_dict (by decide +kernel) (pa_cons (pv 0) pa_nil)))
      (pss_cons (ps_dput (Nat.lt_of_le_of_lt (Nat.add_le_add_left (by decide) _) hr.units) (pv 3) (pv 1) (pv 2) (by rfl))
      (pss_one (ps_ret (pv 3))))), pure_with_hue h⟩
def pr_look_few (K : PySem.W.Frag) (v0 v1 v2 : V) (H : Hp) (Q : VK) (_ : XK) : Prop := ∃ (N : Net) (ws : List (Int × Int)) (m : Int), Dp K H v0 N.d ∧ N.ok ∧ Dp K H v1 (dPairs ws) ∧ ws.length ≤ 10000 ∧ (∀ w ∈ ws, isWay N w.1 w.2) ∧ v2 = .int m ∧ (ws.length : Int) ≤ m ∧ Q .non H
def t_look_few (K : PySem.W.Frag) : TS :=
  (tSeq (tDrop (tCall (sp_look_ways K) [] E0 (tCons (tVar 0) (tCons (tVar 1) tNil))))
    (tIfS (tTest (tOp xGt (tCB (rLenX K) (tCons (tVar 1) tNil)) (tVar 2))) tNever tNext))
theorem pure_look_few {v0 v1 v2 : V} {H : Hp} {Q : VK} {E : XK} (h : pr_look_few K v0 v1 v2 H Q E) : t_look_few K ⟨fun _ H' => Q .non H', Q, fun _ _ => False, fun _ _ => False⟩ [some v0, some v1, some v2] H := by
  obtain ⟨N, ws, m, hd, ok, hw, hz, hok, rfl, hm, q⟩ := h
  obtain ⟨b, ys, rfl, hb, dys⟩ := dp_list hw
  have ly : ys.length = ws.length := by rw [dpa_len dys, List.length_map]
  unfold t_look_few
  wtm_at "s"
  refine ⟨_, _, rfl, N, ws, hd, ok, hw, hz, hok, ?_⟩
  wtm_at "s"
  exact q
abbrev sp_look_few (K : PySem.W.Frag) : Sp := fun vs H Q E => ∃ v0 v1 v2, vs = [v0, v1, v2] ∧ pr_look_few K v0 v1 v2 H Q E
theorem ok_look_few (T : Txt K mg A) : FnOk P w K mg base CX0 5 A.a_look_few A.d_look_few ["net", "ways", "most"] (sp_look_few K) := by
  refine T.F_look_few.ok sc_look_few (fun vs H Q E h => by obtain ⟨v0, v1, v2, rfl, _⟩ := h; rfl) (fun cdv A0 outer s H vs Q E hr h => ?_)
  obtain ⟨v0, v1, v2, rfl, h⟩ := h
  exact ⟨t_look_few K, (pss_cons (ps_expr (pe_call (ok_look_ways T) (hr.mono (by decide)) (by rfl) T.g_look_ways T.F_look_ways.kp T.b_look_ways .nil pass0 (pa_cons (pv 0) (pa_cons (pv 1) pa_nil))))
      (pss_one (ps_if (pt_cmpR op_gt (pe_callB q_len (by rfl) T.z_len (by decide +kernel) (pa_cons (pv 1) pa_nil)) (pv 2) (nomark _)) (pss_one ps_never) pss_nil))), pure_look_few h⟩
def pr_look_number (K : PySem.W.Frag) (v0 : V) (H : Hp) (Q : VK) (_ : XK) : Prop := ∃ m : Int, v0 = .int m ∧ 0 ≤ m ∧ Q .non H
def t_look_number (K : PySem.W.Frag) : TS :=
  (tIfS (tTest (tOp xLt (tVar 0) (tC (.int 0)))) tNever tNext)
theorem pure_look_number {v0 : V} {H : Hp} {Q : VK} {E : XK} (h : pr_look_number K v0 H Q E) : t_look_number K ⟨fun _ H' => Q .non H', Q, fun _ _ => False, fun _ _ => False⟩ [some v0] H := by
  obtain ⟨m, rfl, m0, q⟩ := h
  unfold t_look_number
  wtm_at "s"
  exact q
abbrev sp_look_number (K : PySem.W.Frag) : Sp := fun vs H Q E => ∃ v0, vs = [v0] ∧ pr_look_number K v0 H Q E
theorem ok_look_number (T : Txt K mg A) : FnOk P w K mg base CX0 1 A.a_look_number A.d_look_number ["number"] (sp_look_number K) := by
  refine T.F_look_number.ok sc_look_number (fun vs H Q E h => by obtain ⟨v0, rfl, _⟩ := h; rfl) (fun cdv A0 outer s H vs Q E hr h => ?_)
  obtain ⟨v0, rfl, h⟩ := h
  exact ⟨t_look_number K, (pss_one (ps_if (pt_cmpR op_lt (pv 0) pe_int (nomark _)) (pss_one ps_never) pss_nil)), pure_look_number h⟩


theorem can_mem : ∀ {ds : List PyData}, PyData.canLayAll0 ds = true → ∀ d ∈ ds, d.canLay0 = true
  | [], _, d, h => by cases h
  | a :: r, h, d, hd => by
    have h' : (a.canLay0 && PyData.canLayAll0 r) = true := h
    rw [Bool.and_eq_true] at h'
    rcases List.mem_cons.mp hd with rfl | hd
    · exact h'.1
    · exact can_mem h'.2 d hd
theorem depth_mem : ∀ {ds : List PyData}, ∀ d ∈ ds, d.depth ≤ PyData.depthAll ds
  | [], d, h => by cases h
  | a :: r, d, hd => by
    show d.depth ≤ max a.depth (PyData.depthAll r)
    rcases List.mem_cons.mp hd with rfl | hd
    · omega
    · have := depth_mem (ds := r) d hd; omega
theorem sh_list_mem {n : Nat} {ds : List PyData} (h : Sh n (.list ds)) : ∀ d ∈ ds, Sh n d := fun d hd => ⟨can_mem h.1 d hd, by
  have h2 : PyData.depthAll ds + 1 ≤ n := h.2
  have := depth_mem (ds := ds) d hd; omega⟩
theorem sh_tup_mem {n : Nat} {ds : List PyData} (h : Sh n (.tuple ds)) : ∀ d ∈ ds, Sh n d := fun d hd => ⟨can_mem h.1 d hd, by
  have h2 : PyData.depthAll ds + 1 ≤ n := h.2
  have := depth_mem (ds := ds) d hd; omega⟩
theorem dpa2 {K : PySem.W.Frag} {H : Hp} {xs : List V} {ds : List PyData} (h : DpAll K H xs ds) (hl : ds.length = 2) : ∃ x y a b, xs = [x, y] ∧ ds = [a, b] ∧ Dp K H x a ∧ Dp K H y b := by
  match ds, hl with
  | [a, b], _ =>
    cases h with | cons h1 h => cases h with | cons h2 h =>
      cases h
      exact ⟨_, _, _, _, rfl, rfl, h1, h2⟩
theorem eqv_emp (ds : List PyData) : PyData.eqv (.tuple ds) (.tuple []) = isEmp (.tuple ds) := by
  cases ds with
  | nil => rfl
  | cons a r => rfl
theorem all_take {p : Nat → Bool} {n : Nat} (h : ∀ i, i < n → p i = true) : (List.range n).all p = true := List.all_eq_true.mpr fun i hi => h i (List.mem_range.mp hi)
theorem all_not {p : Nat → Bool} {n i : Nat} (hi : i < n) (h : p i = false) : (List.range n).all p = false := by
  cases c : (List.range n).all p with
  | false => rfl
  | true => rw [List.all_eq_true.mp c i (List.mem_range.mpr hi)] at h; cases h
def pr_is_right (K : PySem.W.Frag) (d : Nat) (v0 v1 v2 v3 : V) (H : Hp) (Q : VK) (_ : XK) : Prop := ∃ (M : List (List Int)) (h : Int) (a : Addr) (gs : List (Int × Int)) (D : PyData), Dp K H v0 (.list (M.map dInts)) ∧ M.length ≤ 1000 ∧ (∀ r ∈ M, r.length ≤ 1000) ∧ v1 = .int h ∧ -1000 ≤ h ∧ h ≤ 100000 ∧ v2 = .ref a ∧ H a = some (.dK (dS gs)) ∧ Uni gs ∧ gs.length + d ≤ 900 ∧ frN M.length gs < d ∧ Dp K H v3 D ∧ Sh 60 D ∧
  ∀ H', Same H H' → Q (.bl (caseJ M h d gs D)) H'
def spd_is_right (K : PySem.W.Frag) : Nat → Sp
  | 0 => fun _ _ _ _ => False
  | d + 1 => fun vs H Q E => ∃ v0 v1 v2 v3, vs = [v0, v1, v2, v3] ∧ pr_is_right K d v0 v1 v2 v3 H Q E
def t_is_right (K : PySem.W.Frag) (sp : Sp) : TS :=
  (tSeq (tIfS (tOr (tNot (tB (tCB (rIsi K) (tCons (tVar 3) (tCons (tC (.ty "tuple")) tNil))))) (tOr (tTest (tOp rNe (tCB (rLenX K) (tCons (tVar 3) tNil)) (tC (.int 2)))) (tOr (tNot (tB (tCall (sp_is_whole K) [] E0 (tCons (tOp (rIxT K) (tVar 3) (tC (.int 0))) tNil)))) (tNot (tB (tCB (rIsi K) (tCons (tOp (rIxT K) (tVar 3) (tC (.int 1))) (tCons (tC (.ty "list")) tNil)))))))) (tRet (tC (.bl false))) tNext)
    (tSeq (tAsg (tVar 3) (gTup K 2 (gCons (gName 4) (gCons (gName 5) gNil))))
    (tSeq (tIfS (tOr (tTest (tOp xLt (tVar 4) (tC (.int 0)))) (tOr (tTest (tOp xGe (tVar 4) (tCB (rLenX K) (tCons (tVar 0) tNil)))) (tOr (tB (tDIn (tVar 4) (tVar 2))) (tTest (tOp rNe (tCB (rLenX K) (tCons (tVar 5) tNil)) (tCB (rLenX K) (tCons (tCall (sp_options K) [] E0 (tCons (tVar 1) (tCons (tVar 2) tNil))) tNil))))))) (tRet (tC (.bl false))) tNext)
    (tSeq (tFor (iEnum K (tCons (tVar 5) tNil)) (gTup K 2 (gCons (gName 6) (gCons (gName 7) gNil)))
      (tIfS (tB (tCall (sp_is_stuck K) [] E0 (tCons (tVar 0) (tCons (tVar 2) (tCons (tVar 4) (tCons (tVar 6) tNil)))))) (tIfS (tOr (tNot (tB (tCB (rIsi K) (tCons (tVar 7) (tCons (tC (.ty "tuple")) tNil))))) (tTest (tOp (rNeD K) (tVar 7) (tTup tNil)))) (tRet (tC (.bl false))) tNext) (tIfS (tNot (tB (tCall sp [] E0 (tCons (tVar 0) (tCons (tVar 1) (tCons (tCall (sp_with_hue K) [] E0 (tCons (tVar 2) (tCons (tVar 4) (tCons (tVar 6) tNil)))) (tCons (tVar 7) tNil))))))) (tRet (tC (.bl false))) tNext)))
    (tRet (tC (.bl true)))))))
theorem pure_is_right {d : Nat} {v0 v1 v2 v3 : V} {H : Hp} {Q : VK} {E : XK} (hh : pr_is_right K d v0 v1 v2 v3 H Q E) : t_is_right K (spd_is_right K d) ⟨fun _ H' => Q .non H', Q, fun _ _ => False, fun _ _ => False⟩ [some v0, some v1, some v2, some v3, none, none, none, none] H := by
  obtain ⟨M, h, a, gs, D, d0, hm, hr, rfl, h0, h1, rfl, ha, un, sd, hd, dD, shD, q⟩ := hh
  obtain ⟨b, ms, rfl, hb, dms⟩ := dp_list d0
  have lms : ms.length = M.length := by rw [dpa_len dms, List.length_map]
  obtain ⟨d, rfl⟩ : ∃ d', d = d' + 1 := ⟨d - 1, by omega⟩
  have q0 := q H (Same.refl _)
  unfold t_is_right
  wtm_at "s"
  refine k_isiTupD dD ?_
  rcases (bcases (isD "tuple" D)).symm with c1 | c1
  · rw [c1]
    rw [caseJ_not c1] at q0
    wtm_at "s"
    exact q0
  obtain ⟨ds, rfl⟩ := isD_tup c1
  rw [c1]
  obtain ⟨p, xs, rfl, hp, dx⟩ := dp_tup dD
  wtm_at "s"
  refine k_lenT hp ?_
  wtm_at "s"
  refine k_itn (fun c2 => ?_) (fun c2 => ?_)
  · rw [caseJ_len (by have := dpa_len dx; omega)] at q0
    wtm_at "s"
    exact q0
  obtain ⟨x, y, da, db, rfl, rfl, hx, hy⟩ := dpa2 dx (by have := dpa_len dx; omega)
  have shb : Sh 60 db := sh_tup_mem shD db (by simp)
  clear dx c1 c2
  wtm_at "s"
  refine ⟨_, rfl, da, hx, ?_⟩
  have nof : ∀ cs : List PyData, db = .list cs → (wholeD da && decide (0 ≤ intD da) && decide (intD da < M.length) && (lookS gs (intD da)).isNone && decide (cs.length = optN h gs)) = false → ∀ H', Same H H' → Q (.bl false) H' := fun cs e hf H' s => by
    have := q H' s
    rw [e] at this
    unfold caseJ at this
    rwa [hf, Bool.false_and] at this
  rcases (bcases (isD "list" db)).symm with cl | cl
  · -- no list of children
    have q1 := q0
    rw [caseJ_list cl] at q1
    rcases (bcases (wholeD da)).symm with c2 | c2
    · rw [c2]
      wtm_at "s"
      exact q1
    · rw [c2]
      wtm_at "s"
      refine k_isiListD hy ?_
      rw [cl]
      wtm_at "s"
      exact q1
  obtain ⟨cs, rfl⟩ := isD_list cl
  obtain ⟨cl', zs, rfl, hcl, dzs⟩ := dp_list hy
  have lzs : zs.length = cs.length := dpa_len dzs
  rcases (bcases (wholeD da)).symm with c2 | c2
  · rw [c2]
    wtm_at "s"
    exact nof cs rfl (by rw [c2]; rfl) H (Same.refl _)
  obtain rfl := dp_whole hx c2
  rw [c2]
  wtm_at "s"
  refine k_it (fun c3 => ?_) (fun c3 => ?_)
  · wtm_at "s"
    exact nof cs rfl (by rw [decide_eq_false (by omega : ¬ 0 ≤ intD da)]; simp) H (Same.refl _)
  wtm_at "s"
  refine k_it (fun c4 => ?_) (fun c4 => ?_)
  · wtm_at "s"
    exact nof cs rfl (by rw [decide_eq_false (by omega : ¬ intD da < M.length)]; simp) H (Same.refl _)
  wtm_at "s"
  refine k_iD ha ?_
  rw [dS_val]
  cases hk : lookS gs (intD da) with
  | some u =>
    simp only [Option.map_some, Option.isSome_some, Bool.false_eq_true, if_false]
    wtm_at "s"
    exact nof cs rfl (by rw [hk]; simp) H (Same.refl _)
  | none =>
    simp only [Option.map_none, Option.isSome_none, Bool.false_eq_true, if_false]
    have k0 : 0 ≤ intD da := by omega
    have k1 : intD da < M.length := by omega
    wtm_at "s"
    refine ⟨_, _, rfl, h, a, gs, rfl, h0, h1, rfl, ha, un, by omega, fun ol H1 nol s1 e1 => ?_⟩
    wtm_at "s"
    rw [List.length_map, List.length_range, lzs]
    refine k_itn (fun c5 => ?_) (fun c5 => ?_)
    · wtm_at "s"
      exact nof cs rfl (by rw [decide_eq_false (by omega : ¬ cs.length = optN h gs)]; simp) H1 s1
    have frl := fun u => frN_lt (u := u) k0 k1 hk
    let P : Nat → Bool := fun i => if stuckB M gs (intD da) (i : Int) then isEmp (cs.getD i .none) else caseJ M h d (gs ++ [(intD da, (i : Int))]) (cs.getD i .none)
    have q2 : ∀ H', Same H H' → Q (.bl ((List.range cs.length).all P)) H' := fun H' s => by
      have := q H' s
      unfold caseJ at this
      rw [c2, decide_eq_true k0, decide_eq_true k1, hk, decide_eq_true (by omega : cs.length = optN h gs)] at this
      exact this
    clear q q0 nof
    wtm_at "s"
    refine forE (s1.seq hcl) (fun i σ' H' => Same H H' ∧ (∃ k6 k7, σ' = [some (.ref b), some (.int h), some (.ref a), some (.ref p), some (.int (intD da)), some (.ref cl'), k6, k7]) ∧ ∀ j, j < i → P j = true) ⟨s1, ⟨_, _, rfl⟩, fun j hj => by omega⟩ (fun i σ' H' z => z.1.seq hcl) ?_ ?_
    · rintro i z σ' H2 T H3 hz ⟨s2, ⟨k6, k7, rfl⟩, ih⟩ nT s3 e3
      have hi : i < cs.length := by have := (List.getElem?_eq_some_iff.mp hz).1; omega
      have s03 := s2.trans s3
      obtain ⟨dc, hdc, dz⟩ := dpa_get dzs hz
      have gc : cs.getD i .none = dc := by rw [List.getD_eq_getElem?_getD, hdc]; rfl
      have shc' : Sh 60 dc := sh_list_mem shb dc (List.mem_of_getElem? hdc)
      have no : P i = false → ∀ H', Same H H' → Q (.bl false) H' := fun hp' H' s => by
        have := q2 H' s
        rwa [all_not hi hp'] at this
      have goon : P i = true → ∀ j, j < i + 1 → P j = true := fun hp' j hj => by
        by_cases z : j = i
        · rw [z]; exact hp'
        · exact ih j (by omega)
      wtm_at "s"
      refine ⟨_, _, _, _, rfl, M, a, gs, intD da, (i : Int), dp_same s03 d0, hr, rfl, s03 _ _ ha, rfl, k0, k1, rfl, fun H4 s4 => ?_⟩
      have s04 := s03.trans s4
      cases st : stuckB M gs (intD da) (i : Int) with
      | true =>
        have pi : P i = isEmp dc := by show (if stuckB M gs (intD da) (i : Int) then isEmp (cs.getD i .none) else _) = _; rw [st, gc]; rfl
        wtm_at "s"
        refine k_isiTupD (dp_same s04 dz) ?_
        rcases (bcases (isD "tuple" dc)).symm with c6 | c6
        · rw [c6]
          wtm_at "s"
          refine no ?_ H4 s04
          rw [pi]
          cases dc <;> first | rfl | (simp [isD, tyD] at c6)
        · obtain ⟨es, rfl⟩ := isD_tup c6
          rw [c6]
          wtm_at "s"
          refine kT (by simp) (fun t5 H5 nt5 s5 e5 => ?_)
          refine k_neD (n := 60) (dp_same (s04.trans s5) dz) (.tup (stp e5) .nil) shc' ((sh_tup (n := 0) fun d hd => by cases hd).mono (by decide)) (by decide) ?_
          rw [eqv_emp]
          rcases (bcases (isEmp (.tuple es))).symm with c7 | c7
          · rw [c7]
            wtm_at "s"
            exact no (by rw [pi, c7]) H5 (s04.trans s5)
          · rw [c7]
            wtm_at "s"
            exact ⟨s04.trans s5, ⟨_, _, rfl⟩, goon (by rw [pi, c7])⟩
      | false =>
        have pi : P i = caseJ M h d (gs ++ [(intD da, (i : Int))]) dc := by show (if stuckB M gs (intD da) (i : Int) then _ else caseJ M h d (gs ++ [(intD da, (i : Int))]) (cs.getD i .none)) = _; rw [st, gc]; rfl
        wtm_at "s"
        refine ⟨_, _, _, rfl, a, gs, intD da, (i : Int), rfl, rfl, rfl, s04 _ _ ha, hk, by omega, fun p5 H5 np5 s5 e5 => ?_⟩
        have s05 := s04.trans s5
        wtm_at "s"
        refine ⟨_, _, _, _, rfl, M, h, p5, gs ++ [(intD da, (i : Int))], dc, dp_same s05 d0, hm, hr, rfl, h0, h1, rfl, e5, un.add hk, by simp; omega, by have := frl (i : Int); omega, dp_same s05 dz, shc', fun H6 s6 => ?_⟩
        have s06 := s05.trans s6
        rcases (bcases (caseJ M h d (gs ++ [(intD da, (i : Int))]) dc)).symm with c7 | c7
        · rw [c7]
          wtm_at "s"
          exact no (by rw [pi, c7]) H6 s06
        · rw [c7]
          wtm_at "s"
          exact ⟨s06, ⟨_, _, rfl⟩, goon (by rw [pi, c7])⟩
    · rintro σ' H2 ⟨s2, ⟨k6, k7, rfl⟩, ih⟩
      have := q2 H2 s2
      rw [all_take (fun i hi => ih i (by omega))] at this
      wtm_at "s"
      exact this
theorem okd_is_right (T : Txt K mg A) : ∀ d : Nat, FnOk P w K mg base CX0 (2 + d) A.a_is_right A.d_is_right ["meets", "h", "given", "case"] (spd_is_right K d)
  | 0 => T.F_is_right.ok sc_is_right (fun vs H Q E h => False.elim h) (fun cdv A0 outer s H vs Q E hr h => False.elim h)
  | d + 1 => by
    refine T.F_is_right.ok sc_is_right (fun vs H Q E h => by obtain ⟨v0, v1, v2, v3, rfl, _⟩ := h; rfl) (fun cdv A0 outer s H vs Q E hr h => ?_)
    obtain ⟨v0, v1, v2, v3, rfl, h⟩ := h
    exact ⟨t_is_right K (spd_is_right K d), (pss_cons (ps_if (PW.pt (pw_or (pt_not (pt_val (pe_callB q_isi (by rfl) T.z_isinstance (by decide +kernel) (pa_cons (pv 3) (pa_cons (pe_bltn (v := .ty "tuple") (by rfl) T.z_tuple (by decide +kernel) rfl) pa_nil))))) (pw_or (pt_cmpR op_ne (pe_callB q_len (by rfl) T.z_len (by decide +kernel) (pa_cons (pv 3) pa_nil)) pe_int (nomark _)) (pw_or (pt_not (pt_val (pe_call (ok_is_whole T) (hr.mono (by first | decide | omega | (simp only [Nat.add_eq]; omega))) (by rfl) T.g_is_whole T.F_is_whole.kp T.b_is_whole .nil pass0 (pa_cons (pe_ix ix_tup (pv 3) pe_int (fun _ _ => rfl)) pa_nil)))) (pw_or1 (pt_not (pt_val (pe_callB q_isi (by rfl) T.z_isinstance (by decide +kernel) (pa_cons (pe_ix ix_tup (pv 3) pe_int (fun _ _ => rfl)) (pa_cons (pe_bltn (v := .ty "list") (by rfl) T.z_list (by decide +kernel) rfl) pa_nil)))))))))) (pss_one (ps_ret pe_bl)) pss_nil)
      (pss_cons (ps_asg (pv 3) (pg_tup (by rfl) (pgs_cons (pg_name (i := 4) sc_is_right.nd rfl (Or.inl rfl)) (pgs_cons (pg_name (i := 5) sc_is_right.nd rfl (Or.inl rfl)) pgs_nil))))
      (pss_cons (ps_if (PW.pt (pw_or (pt_cmpR op_lt (pv 4) pe_int (nomark _)) (pw_or (pt_cmpR op_ge (pv 4) (pe_callB q_len (by rfl) T.z_len (by decide +kernel) (pa_cons (pv 0) pa_nil)) (nomark _)) (pw_or (pt_cmp (pc_din (Nat.lt_of_le_of_lt (Nat.add_le_add_left (by decide) _) hr.units) (pv 4) (pv 2)) (by rfl)) (pw_or1 (pt_cmpR op_ne (pe_callB q_len (by rfl) T.z_len (by decide +kernel) (pa_cons (pv 5) pa_nil)) (pe_callB q_len (by rfl) T.z_len (by decide +kernel) (pa_cons (pe_call (ok_options T) (hr.mono (by first | decide | omega | (simp only [Nat.add_eq]; omega))) (by rfl) T.g_options T.F_options.kp T.b_options .nil pass0 (pa_cons (pv 1) (pa_cons (pv 2) pa_nil))) pa_nil)) (nomark _))))))) (pss_one (ps_ret pe_bl)) pss_nil)
      (pss_cons (ps_for PassesOwn.never rfl (pi_enum (by rfl) T.z_enumerate (pa_cons (pv 5) pa_nil)) (pg_tup (by rfl) (pgs_cons (pg_name (i := 6) sc_is_right.nd rfl (Or.inl rfl)) (pgs_cons (pg_name (i := 7) sc_is_right.nd rfl (Or.inl rfl)) pgs_nil)))
      (pss_one (ps_if (pt_val (pe_call (ok_is_stuck T) (hr.mono (by first | decide | omega | (simp only [Nat.add_eq]; omega))) (by rfl) T.g_is_stuck T.F_is_stuck.kp T.b_is_stuck .nil pass0 (pa_cons (pv 0) (pa_cons (pv 2) (pa_cons (pv 4) (pa_cons (pv 6) pa_nil)))))) (pss_one (ps_if (PW.pt (pw_or (pt_not (pt_val (pe_callB q_isi (by rfl) T.z_isinstance (by decide +kernel) (pa_cons (pv 7) (pa_cons (pe_bltn (v := .ty "tuple") (by rfl) T.z_tuple (by decide +kernel) rfl) pa_nil))))) (pw_or1 (pt_cmpR (op_neD hr.units) (pv 7) (pe_tup pa_nil) (nomark _))))) (pss_one (ps_ret pe_bl)) pss_nil)) (pss_one (ps_if (pt_not (pt_val (pe_call (okd_is_right T d) (hr.mono (by first | decide | omega | (simp only [Nat.add_eq]; omega))) (by rfl) T.g_is_right T.F_is_right.kp T.b_is_right .nil pass0 (pa_cons (pv 0) (pa_cons (pv 1) (pa_cons (pe_call (ok_with_hue T) (hr.mono (by first | decide | omega | (simp only [Nat.add_eq]; omega))) (by rfl) T.g_with_hue T.F_with_hue.kp T.b_with_hue .nil pass0 (pa_cons (pv 2) (pa_cons (pv 4) (pa_cons (pv 6) pa_nil)))) (pa_cons (pv 7) pa_nil))))))) (pss_one (ps_ret pe_bl)) pss_nil)))))
      (pss_one (ps_ret pe_bl)))))), pure_is_right h⟩
abbrev sp_is_right (K : PySem.W.Frag) : Sp := fun vs H Q E => ∃ v0 v1 v2 v3, vs = [v0, v1, v2, v3] ∧ ∃ d : Nat, d < 12 ∧ pr_is_right K d v0 v1 v2 v3 H Q E
theorem ok_is_right (T : Txt K mg A) : FnOk P w K mg base CX0 14 A.a_is_right A.d_is_right ["meets", "h", "given", "case"] (sp_is_right K) := by
  refine T.F_is_right.ok sc_is_right (fun vs H Q E h => by obtain ⟨v0, v1, v2, v3, rfl, _⟩ := h; rfl) (fun cdv A0 outer s H vs Q E hr h => ?_)
  obtain ⟨v0, v1, v2, v3, rfl, d, hd, h⟩ := h
  exact ⟨t_is_right K (spd_is_right K d), (pss_cons (ps_if (PW.pt (pw_or (pt_not (pt_val (pe_callB q_isi (by rfl) T.z_isinstance (by decide +kernel) (pa_cons (pv 3) (pa_cons (pe_bltn (v := .ty "tuple") (by rfl) T.z_tuple (by decide +kernel) rfl) pa_nil))))) (pw_or (pt_cmpR op_ne (pe_callB q_len (by rfl) T.z_len (by decide +kernel) (pa_cons (pv 3) pa_nil)) pe_int (nomark _)) (pw_or (pt_not (pt_val (pe_call (ok_is_whole T) (hr.mono (by first | decide | omega | (simp only [Nat.add_eq]; omega))) (by rfl) T.g_is_whole T.F_is_whole.kp T.b_is_whole .nil pass0 (pa_cons (pe_ix ix_tup (pv 3) pe_int (fun _ _ => rfl)) pa_nil)))) (pw_or1 (pt_not (pt_val (pe_callB q_isi (by rfl) T.z_isinstance (by decide +kernel) (pa_cons (pe_ix ix_tup (pv 3) pe_int (fun _ _ => rfl)) (pa_cons (pe_bltn (v := .ty "list") (by rfl) T.z_list (by decide +kernel) rfl) pa_nil)))))))))) (pss_one (ps_ret pe_bl)) pss_nil)
      (pss_cons (ps_asg (pv 3) (pg_tup (by rfl) (pgs_cons (pg_name (i := 4) sc_is_right.nd rfl (Or.inl rfl)) (pgs_cons (pg_name (i := 5) sc_is_right.nd rfl (Or.inl rfl)) pgs_nil))))
      (pss_cons (ps_if (PW.pt (pw_or (pt_cmpR op_lt (pv 4) pe_int (nomark _)) (pw_or (pt_cmpR op_ge (pv 4) (pe_callB q_len (by rfl) T.z_len (by decide +kernel) (pa_cons (pv 0) pa_nil)) (nomark _)) (pw_or (pt_cmp (pc_din (Nat.lt_of_le_of_lt (Nat.add_le_add_left (by decide) _) hr.units) (pv 4) (pv 2)) (by rfl)) (pw_or1 (pt_cmpR op_ne (pe_callB q_len (by rfl) T.z_len (by decide +kernel) (pa_cons (pv 5) pa_nil)) (pe_callB q_len (by rfl) T.z_len (by decide +kernel) (pa_cons (pe_call (ok_options T) (hr.mono (by first | decide | omega | (simp only [Nat.add_eq]; omega))) (by rfl) T.g_options T.F_options.kp T.b_options .nil pass0 (pa_cons (pv 1) (pa_cons (pv 2) pa_nil))) pa_nil)) (nomark _))))))) (pss_one (ps_ret pe_bl)) pss_nil)
      (pss_cons (ps_for PassesOwn.never rfl (pi_enum (by rfl) T.z_enumerate (pa_cons (pv 5) pa_nil)) (pg_tup (by rfl) (pgs_cons (pg_name (i := 6) sc_is_right.nd rfl (Or.inl rfl)) (pgs_cons (pg_name (i := 7) sc_is_right.nd rfl (Or.inl rfl)) pgs_nil)))
      (pss_one (ps_if (pt_val (pe_call (ok_is_stuck T) (hr.mono (by first | decide | omega | (simp only [Nat.add_eq]; omega))) (by rfl) T.g_is_stuck T.F_is_stuck.kp T.b_is_stuck .nil pass0 (pa_cons (pv 0) (pa_cons (pv 2) (pa_cons (pv 4) (pa_cons (pv 6) pa_nil)))))) (pss_one (ps_if (PW.pt (pw_or (pt_not (pt_val (pe_callB q_isi (by rfl) T.z_isinstance (by decide +kernel) (pa_cons (pv 7) (pa_cons (pe_bltn (v := .ty "tuple") (by rfl) T.z_tuple (by decide +kernel) rfl) pa_nil))))) (pw_or1 (pt_cmpR (op_neD hr.units) (pv 7) (pe_tup pa_nil) (nomark _))))) (pss_one (ps_ret pe_bl)) pss_nil)) (pss_one (ps_if (pt_not (pt_val (pe_call (okd_is_right T d) (hr.mono (by first | decide | omega | (simp only [Nat.add_eq]; omega))) (by rfl) T.g_is_right T.F_is_right.kp T.b_is_right .nil pass0 (pa_cons (pv 0) (pa_cons (pv 1) (pa_cons (pe_call (ok_with_hue T) (hr.mono (by first | decide | omega | (simp only [Nat.add_eq]; omega))) (by rfl) T.g_with_hue T.F_with_hue.kp T.b_with_hue .nil pass0 (pa_cons (pv 2) (pa_cons (pv 4) (pa_cons (pv 6) pa_nil)))) (pa_cons (pv 7) pa_nil))))))) (pss_one (ps_ret pe_bl)) pss_nil)))))
      (pss_one (ps_ret pe_bl)))))), pure_is_right h⟩


def pr_case_judged (K : PySem.W.Frag) (v0 v1 v2 v3 : V) (H : Hp) (Q : VK) (_ : XK) : Prop := ∃ (N : Net) (ws : List (Int × Int)) (h : Int) (D : PyData), Dp K H v0 N.d ∧ N.ok ∧ Dp K H v1 (dPairs ws) ∧ ws.length < 11 ∧ (∀ w ∈ ws, isWay N w.1 w.2) ∧ v2 = .int h ∧ 0 ≤ h ∧ h ≤ 100000 ∧ Dp K H v3 D ∧ Sh 60 D ∧
  ∀ H', Same H H' → Q (.bl (caseJ (meetF N ws) h 11 [] D)) H'
def t_case_judged (K : PySem.W.Frag) : TS :=
  (tSeq (tDrop (tCall (sp_look_few K) [] E0 (tCons (tVar 0) (tCons (tVar 1) (tCons (tC (.int 12)) tNil)))))
    (tSeq (tDrop (tCall (sp_look_number K) [] E0 (tCons (tVar 2) tNil)))
    (tRet (tCall (sp_is_right K) [] E0 (tCons (tCall (sp_meetings K) [] E0 (tCons (tVar 0) (tCons (tVar 1) tNil))) (tCons (tVar 2) (tCons tDNewK (tCons (tVar 3) tNil))))))))
theorem pure_case_judged {v0 v1 v2 v3 : V} {H : Hp} {Q : VK} {E : XK} (hh : pr_case_judged K v0 v1 v2 v3 H Q E) : t_case_judged K ⟨fun _ H' => Q .non H', Q, fun _ _ => False, fun _ _ => False⟩ [some v0, some v1, some v2, some v3] H := by
  obtain ⟨N, ws, h, D, d0, ok, d1, hz, hok, rfl, h0, h1, dD, shD, q⟩ := hh
  unfold t_case_judged
  wtm_at "s"
  refine ⟨_, _, _, rfl, N, ws, 12, d0, ok, d1, by omega, hok, rfl, by omega, ?_⟩
  wtm_at "s"
  refine ⟨_, rfl, h, rfl, h0, ?_⟩
  wtm_at "s"
  refine ⟨_, _, rfl, N, ws, [], d0, ok, d1, by omega, hok, (fun x hx => by cases hx), fun p H1 np s1 dM => ?_⟩
  replace dM := dp_same (hid_same _ _) dM
  wtm_at "s"
  refine kD (fun a H2 na s2 e2 => ?_)
  have s02 := s1.trans s2
  have ml := meetF_len N ws
  wtm_at "s"
  refine ⟨_, _, _, _, rfl, 11, by decide, meetF N ws, h, a, [], D, dp_same s2 dM, by omega, (fun r hr => by have := (meetF_adj N ws).len r hr; omega), rfl, by omega, h1, rfl, e2, Uni.nil, by decide, by rw [frN_nil]; omega, dp_same s02 dD, shD, fun H3 s3 => q H3 (s02.trans s3)⟩
abbrev sp_case_judged (K : PySem.W.Frag) : Sp := fun vs H Q E => ∃ v0 v1 v2 v3, vs = [v0, v1, v2, v3] ∧ pr_case_judged K v0 v1 v2 v3 H Q E
theorem ok_case_judged (T : Txt K mg A) : FnOk P w K mg base CX0 15 A.a_case_judged A.d_case_judged ["net", "ways", "h", "case"] (sp_case_judged K) := by
  refine T.F_case_judged.ok sc_case_judged (fun vs H Q E h => by obtain ⟨v0, v1, v2, v3, rfl, _⟩ := h; rfl) (fun cdv A0 outer s H vs Q E hr h => ?_)
  obtain ⟨v0, v1, v2, v3, rfl, h⟩ := h
  exact ⟨t_case_judged K, (pss_cons (ps_expr (pe_call (ok_look_few T) (hr.mono (by decide)) (by rfl) T.g_look_few T.F_look_few.kp T.b_look_few .nil pass0 (pa_cons (pv 0) (pa_cons (pv 1) (pa_cons (pe_glob (v := .int 12) (by rfl) T.c_MOST ⟨_, rfl⟩) pa_nil)))))
      (pss_cons (ps_expr (pe_call (ok_look_number T) (hr.mono (by decide)) (by rfl) T.g_look_number T.F_look_number.kp T.b_look_number .nil pass0 (pa_cons (pv 2) pa_nil)))
      (pss_one (ps_ret (pe_call (ok_is_right T) (hr.mono (by decide)) (by rfl) T.g_is_right T.F_is_right.kp T.b_is_right .nil pass0 (pa_cons (pe_call (ok_meetings T) (hr.mono (by decide)) (by rfl) T.g_meetings T.F_meetings.kp T.b_meetings .nil pass0 (pa_cons (pv 0) (pa_cons (pv 1) pa_nil))) (pa_cons (pv 2) (pa_cons pe_dnewK (pa_cons (pv 3) pa_nil))))))))), pure_case_judged h⟩


/-! ### going into a case: the hues of all, or a case -/
def nearF (M : List (List Int)) (gs : List (Int × Int)) (k : Nat) : Nat := Cm.unl ((M.getD k []).filterMap (lookS gs))
def hardF (M : List (List Int)) (gs : List (Int × Int)) : Nat → Option Nat × Int
  | 0 => (none, -1)
  | n + 1 => if (lookS gs (n : Int)).isNone && decide ((hardF M gs n).2 < (nearF M gs n : Int)) then (some n, (nearF M gs n : Int)) else hardF M gs n
theorem hardF_ok {M : List (List Int)} {gs : List (Int × Int)} : ∀ {n k : Nat}, (hardF M gs n).1 = some k → k < n ∧ lookS gs (k : Int) = none
  | 0, k, h => by cases h
  | n + 1, k, h => by
    unfold hardF at h
    split at h
    · rename_i c
      rw [Bool.and_eq_true] at c
      cases h
      exact ⟨by omega, Option.isNone_iff_eq_none.mp c.1⟩
    · have := hardF_ok h
      exact ⟨by omega, this.2⟩
theorem hardF_low {M : List (List Int)} {gs : List (Int × Int)} : ∀ {n : Nat}, (hardF M gs n).1 = none → (hardF M gs n).2 = -1
  | 0, _ => rfl
  | n + 1, h => by
    unfold hardF at h ⊢
    split at h
    · cases h
    · rename_i c
      rw [if_neg c]
      exact hardF_low h
theorem hardF_some {M : List (List Int)} {gs : List (Int × Int)} : ∀ {n j : Nat}, j < n → lookS gs (j : Int) = none → (hardF M gs n).1 ≠ none
  | 0, _, h, _ => by omega
  | n + 1, j, hj, hn => fun z => by
    unfold hardF at z
    split at z
    · cases z
    · rename_i c
      by_cases e : j = n
      · subst e
        have := hardF_low z
        exact c (by rw [hn, this, decide_eq_true (by omega)]; rfl)
      · exact hardF_some (by omega) hn z
def hardK (M : List (List Int)) (gs : List (Int × Int)) : Nat := (hardF M gs M.length).1.getD 0
theorem hardK_ok {M : List (List Int)} {gs : List (Int × Int)} (h : ∃ j : Nat, j < M.length ∧ lookS gs (j : Int) = none) : (hardF M gs M.length).1 = some (hardK M gs) ∧ hardK M gs < M.length ∧ lookS gs (hardK M gs : Int) = none := by
  obtain ⟨j, hj, hn⟩ := h
  have := hardF_some (M := M) hj hn
  unfold hardK
  cases e : (hardF M gs M.length).1 with
  | none => exact absurd e this
  | some k => exact ⟨rfl, hardF_ok e⟩
/-- keys in their range -/
def Kin (n : Nat) (gs : List (Int × Int)) : Prop := ∀ p ∈ gs, 0 ≤ p.1 ∧ p.1 < n
theorem Kin.nil {n : Nat} : Kin n [] := fun p hp => nomatch hp
theorem Kin.add {n : Nat} {gs : List (Int × Int)} {k : Nat} {u : Int} (h : Kin n gs) (hk : k < n) : Kin n (gs ++ [((k : Int), u)]) := fun p hp => by
  rcases List.mem_append.mp hp with hp | hp
  · exact h p hp
  · rw [List.mem_singleton.mp hp]; exact ⟨by show (0 : Int) ≤ (k : Int); omega, by show (k : Int) < n; omega⟩
theorem look_some_key {gs : List (Int × Int)} {k u : Int} (h : lookS gs k = some u) : (k, u) ∈ gs := by
  unfold lookS at h
  obtain ⟨p, hp, rfl⟩ := Option.map_eq_some_iff.mp h
  have e := List.find?_some hp
  have m := List.mem_of_find?_eq_some hp
  have : p.1 = k := of_decide_eq_true e
  rw [← this]; exact m
theorem Kin.len {n : Nat} {gs : List (Int × Int)} (h : Kin n gs) (u : (gs.map (·.1)).Nodup) : gs.length ≤ n := by
  have := nodup_lenI (l := gs.map (·.1)) (m := (List.range n).map fun i : Nat => (i : Int)) u (fun x hx => by
    obtain ⟨p, hp, rfl⟩ := List.mem_map.mp hx
    have := h p hp
    exact List.mem_map.mpr ⟨p.1.toNat, List.mem_range.mpr (by omega), by omega⟩)
  rwa [List.length_map, List.length_map, List.length_range] at this
theorem Kin.free {n : Nat} {gs : List (Int × Int)} (hl : gs.length < n) : ∃ j : Nat, j < n ∧ lookS gs (j : Int) = none := by
  refine Classical.byContradiction fun z => ?_
  have all : ∀ j : Nat, j < n → lookS gs (j : Int) ≠ none := fun j hj e => z ⟨j, hj, e⟩
  have := nodup_lenI (l := (List.range n).map fun i : Nat => (i : Int)) (m := gs.map (·.1)) (List.pairwise_map.mpr (List.pairwise_lt_range.imp fun {a b} hab => by omega)) (fun x hx => by
    obtain ⟨j, hj, rfl⟩ := List.mem_map.mp hx
    cases e : lookS gs (j : Int) with
    | none => exact absurd e (all j (List.mem_range.mp hj))
    | some u => exact List.mem_map.mpr ⟨_, look_some_key e, rfl⟩)
  rw [List.length_map, List.length_map, List.length_range] at this
  omega
def appK (cs : List PyData) : List (Int × Int) ⊕ List PyData → List (Int × Int) ⊕ List PyData
  | .inl g => .inl g
  | .inr ds => .inr (cs ++ ds)
theorem appK_app (a b : List PyData) (x : List (Int × Int) ⊕ List PyData) : appK a (appK b x) = appK (a ++ b) x := by
  cases x with
  | inl g => rfl
  | inr ds => show Sum.inr (a ++ (b ++ ds)) = Sum.inr (a ++ b ++ ds); rw [List.append_assoc]
theorem appK_nil (x : List (Int × Int) ⊕ List PyData) : appK [] x = x := by cases x <;> rfl
def kidsF (st : Nat → Bool) (f : Nat → List (Int × Int) ⊕ PyData) : List Nat → List (Int × Int) ⊕ List PyData
  | [] => .inr []
  | i :: r => if st i then appK [.tuple []] (kidsF st f r) else match f i with
    | .inl g => .inl g
    | .inr c => appK [c] (kidsF st f r)
def goF (M : List (List Int)) (h : Int) : Nat → List (Int × Int) → List (Int × Int) ⊕ PyData
  | 0, gs => .inl gs
  | d + 1, gs => if gs.length = M.length then .inl gs else
    match kidsF (fun i => stuckB M gs (hardK M gs : Int) (i : Int)) (fun i => goF M h d (gs ++ [((hardK M gs : Int), (i : Int))])) (List.range (optN h gs)) with
    | .inl g => .inl g
    | .inr cs => .inr (.tuple [.int (hardK M gs : Int), .list cs])
theorem kids_case {st : Nat → Bool} {f : Nat → List (Int × Int) ⊕ PyData} : ∀ {l : List Nat} {cs : List PyData}, kidsF st f l = .inr cs → cs.length = l.length ∧ ∀ j i, l[j]? = some i → if st i then cs.getD j .none = .tuple [] else f i = .inr (cs.getD j .none)
  | [], cs, h => by cases h; exact ⟨rfl, fun j i z => by simp at z⟩
  | a :: r, cs, h => by
    unfold kidsF at h
    have tail : ∀ c, appK [c] (kidsF st f r) = .inr cs → ∃ ds, cs = c :: ds ∧ kidsF st f r = .inr ds := fun c e => by
      cases k : kidsF st f r with
      | inl g => rw [k] at e; cases e
      | inr ds => rw [k] at e; cases e; exact ⟨ds, rfl, rfl⟩
    by_cases c : st a = true
    · rw [if_pos c] at h
      obtain ⟨ds, rfl, hr⟩ := tail _ h
      obtain ⟨h1, h2⟩ := kids_case hr
      refine ⟨by simp [h1], fun j i hj => ?_⟩
      cases j with
      | zero => cases hj; rw [if_pos c]; rfl
      | succ j => exact h2 j i hj
    · rw [if_neg c] at h
      cases e : f a with
      | inl g => rw [e] at h; cases h
      | inr x =>
        rw [e] at h
        obtain ⟨ds, rfl, hr⟩ := tail _ h
        obtain ⟨h1, h2⟩ := kids_case hr
        refine ⟨by simp [h1], fun j i hj => ?_⟩
        cases j with
        | zero => cases hj; rw [if_neg c]; exact e
        | succ j => exact h2 j i hj
theorem kids_dict {st : Nat → Bool} {f : Nat → List (Int × Int) ⊕ PyData} : ∀ {l : List Nat} {g : List (Int × Int)}, kidsF st f l = .inl g → ∃ i ∈ l, st i = false ∧ f i = .inl g
  | [], g, h => by cases h
  | a :: r, g, h => by
    unfold kidsF at h
    have tail : ∀ c, appK [c] (kidsF st f r) = .inl g → kidsF st f r = .inl g := fun c e => by
      cases k : kidsF st f r with
      | inl g' => rw [k] at e; exact e
      | inr ds => rw [k] at e; cases e
    by_cases c : st a = true
    · rw [if_pos c] at h
      obtain ⟨i, h1, h2⟩ := kids_dict (tail _ h)
      exact ⟨i, List.mem_cons_of_mem _ h1, h2⟩
    · rw [if_neg c] at h
      cases e : f a with
      | inl g' => rw [e] at h; exact ⟨a, List.mem_cons_self, by simpa using c, by rw [e]; cases h; rfl⟩
      | inr x =>
        rw [e] at h
        obtain ⟨i, h1, h2⟩ := kids_dict (tail _ h)
        exact ⟨i, List.mem_cons_of_mem _ h1, h2⟩
/-- what is told is right -/
theorem go_case {M : List (List Int)} {h : Int} : ∀ {d : Nat} {gs : List (Int × Int)} {D : PyData}, goF M h d gs = .inr D → (gs.map (·.1)).Nodup → Kin M.length gs → (∀ {g : List (Int × Int)} {k : Nat} {u : Int}, (g.map (·.1)).Nodup → lookS g (k : Int) = none → ((g ++ [((k : Int), u)]).map (·.1)).Nodup) → caseJ M h d gs D = true
  | 0, gs, D, e, _, _, _ => by cases e
  | d + 1, gs, D, e, un, kin, add => by
    unfold goF at e
    split at e
    · cases e
    · rename_i c
      have hl := kin.len un
      obtain ⟨_, k1, kn⟩ := hardK_ok (M := M) (Kin.free (gs := gs) (n := M.length) (by omega))
      cases k : kidsF (fun i => stuckB M gs (hardK M gs : Int) (i : Int)) (fun i => goF M h d (gs ++ [((hardK M gs : Int), (i : Int))])) (List.range (optN h gs)) with
      | inl g => rw [k] at e; cases e
      | inr cs =>
        rw [k] at e
        cases e
        obtain ⟨h1, h2⟩ := kids_case k
        rw [List.length_range] at h1
        unfold caseJ
        rw [show wholeD (.int (hardK M gs : Int)) = true from rfl, show intD (.int (hardK M gs : Int)) = (hardK M gs : Int) from rfl, decide_eq_true (show (0 : Int) ≤ (hardK M gs : Int) by omega), decide_eq_true (show (hardK M gs : Int) < M.length by omega), kn, decide_eq_true h1]
        show (List.range cs.length).all _ = true
        refine List.all_eq_true.mpr fun i hi => ?_
        have hi := List.mem_range.mp hi
        have := h2 i i (List.getElem?_range (by omega))
        cases st : stuckB M gs (hardK M gs : Int) (i : Int) with
        | true => rw [st, if_pos rfl] at this; rw [if_pos rfl, this]; rfl
        | false =>
          rw [st, if_neg (by decide)] at this
          rw [if_neg (by decide)]
          exact go_case this (add un kn) (kin.add k1) add
/-- no two that meet have one hue -/
def PrpS (M : List (List Int)) (h : Int) (gs : List (Int × Int)) : Prop := ∀ (k : Nat) (u : Int), lookS gs (k : Int) = some u → 0 ≤ u ∧ u < h ∧ ∀ o ∈ M.getD k [], lookS gs o ≠ some u
theorem PrpS.nil {M : List (List Int)} {h : Int} : PrpS M h [] := fun k u z => by cases z
theorem PrpS.add {M : List (List Int)} {h : Int} {gs : List (Int × Int)} {k : Nat} {c : Int} (A : Adj M) (p : PrpS M h gs) (hk : k < M.length) (kn : lookS gs (k : Int) = none) (c0 : 0 ≤ c) (c1 : c < h) (st : stuckB M gs (k : Int) c = false) (kin : Kin M.length gs) : PrpS M h (gs ++ [((k : Int), c)]) := by
  have nst : ∀ o ∈ M.getD k [], lookS gs o ≠ some c := fun o ho e => by
    unfold stuckB at st
    rw [Int.toNat_natCast] at st
    have : ((M.getD k []).any fun o => decide (lookS gs o = some c)) = true := List.any_eq_true.mpr ⟨o, ho, decide_eq_true e⟩
    rw [st] at this
    cases this
  intro j u hj
  rw [look_add kn] at hj
  split at hj
  · rename_i e
    cases hj
    have e : j = k := by omega
    subst e
    refine ⟨c0, c1, fun o ho => ?_⟩
    rw [look_add kn, if_neg (by have := A.rng j o ho; omega)]
    exact nst o ho
  · rename_i ne
    obtain ⟨u0, u1, hu⟩ := p j u hj
    refine ⟨u0, u1, fun o ho => ?_⟩
    rw [look_add kn]
    split
    · rename_i e
      intro z
      cases z
      have hjl : j < M.length := by have := (kin _ (look_some_key hj)).2; have : (j : Int) < M.length := this; omega
      rw [e] at ho
      exact nst _ ((A.sym j k hjl hk).mp ho) hj
    · exact hu o ho
/-- hues given to all: they do -/
theorem go_dict {M : List (List Int)} {h : Int} (A : Adj M) (add : ∀ {g : List (Int × Int)} {k : Nat} {u : Int}, (g.map (·.1)).Nodup → lookS g (k : Int) = none → ((g ++ [((k : Int), u)]).map (·.1)).Nodup) : ∀ {d : Nat} {gs g : List (Int × Int)}, goF M h d gs = .inl g → (gs.map (·.1)).Nodup → Kin M.length gs → frN M.length gs < d → PrpS M h gs → g.length = M.length ∧ (g.map (·.1)).Nodup ∧ Kin M.length g ∧ PrpS M h g
  | 0, gs, g, _, _, _, hd, _ => by omega
  | d + 1, gs, g, e, un, kin, hd, p => by
    unfold goF at e
    split at e
    · rename_i c
      cases e
      exact ⟨c, un, kin, p⟩
    · rename_i c
      have hl := kin.len un
      obtain ⟨_, k1, kn⟩ := hardK_ok (M := M) (Kin.free (gs := gs) (n := M.length) (by omega))
      cases k : kidsF (fun i => stuckB M gs (hardK M gs : Int) (i : Int)) (fun i => goF M h d (gs ++ [((hardK M gs : Int), (i : Int))])) (List.range (optN h gs)) with
      | inr cs => rw [k] at e; cases e
      | inl g' =>
        rw [k] at e
        cases e
        obtain ⟨i, hi, st, e⟩ := kids_dict k
        have hi := List.mem_range.mp hi
        have hh : (i : Int) < h := by unfold optN at hi; omega
        exact go_dict A add e (add un kn) (kin.add k1) (by have := frN_lt (u := (i : Int)) (show (0 : Int) ≤ (hardK M gs : Int) by omega) (show (hardK M gs : Int) < (M.length : Nat) by omega) kn; omega) (p.add A k1 kn (by omega) hh st kin)
theorem full_proper {M : List (List Int)} {h : Int} (A : Adj M) {g : List (Int × Int)} (hl : g.length = M.length) (un : (g.map (·.1)).Nodup) (kin : Kin M.length g) (p : PrpS M h g) : Proper M h fun i => (lookS g (i : Int)).getD 0 := by
  have all : ∀ j : Nat, j < M.length → ∃ u, lookS g (j : Int) = some u := fun j hj => by
    cases e : lookS g (j : Int) with
    | some u => exact ⟨u, rfl⟩
    | none =>
      exfalso
      have nk : ((g ++ [((j : Int), (0 : Int))]).map (·.1)).Nodup := by
        rw [List.map_append, List.nodup_append]
        refine ⟨un, by simp, fun a ha b hb z => ?_⟩
        have hb : b = (j : Int) := by simpa using hb
        obtain ⟨q, hq, e2⟩ := List.mem_map.mp ha
        unfold lookS at e
        have := List.find?_eq_none.mp (Option.map_eq_none_iff.mp e) q hq
        exact this (decide_eq_true (by rw [e2, z, hb]))
      have := (kin.add hj).len nk
      rw [List.length_append, List.length_singleton] at this
      omega
  intro i hi
  obtain ⟨u, hu⟩ := all i hi
  obtain ⟨u0, u1, ho⟩ := p i u hu
  refine ⟨?_, fun o hoi => ?_⟩
  · show 0 ≤ (lookS g (i : Int)).getD 0 ∧ (lookS g (i : Int)).getD 0 < h
    rw [hu]; exact ⟨u0, u1⟩
  · show (lookS g ((o.toNat : Nat) : Int)).getD 0 ≠ (lookS g (i : Int)).getD 0
    have r := A.rng i o hoi
    rw [show ((o.toNat : Nat) : Int) = o by omega, hu]
    obtain ⟨v, hv⟩ := all o.toNat (by omega)
    rw [show ((o.toNat : Nat) : Int) = o by omega] at hv
    rw [hv]
    exact fun z => ho o hoi (by rw [hv]; exact congrArg some z)
/-! ### the form of a case -/
inductive Cas : Nat → Nat → PyData → Prop where
  | emp {n m : Nat} : Cas n m (.tuple [])
  | mk {n m : Nat} {k : Int} {cs : List PyData} : 0 ≤ k → k < 16 → cs.length ≤ m + 1 → (∀ c ∈ cs, Cas n (m + 1) c) → Cas (n + 1) m (.tuple [.int k, .list cs])
theorem Cas.mono {n n' m : Nat} {D : PyData} (h : Cas n m D) (hn : n ≤ n') : Cas n' m D := by
  induction h generalizing n' with
  | emp => exact .emp
  | mk k0 k1 hl _ ih =>
    obtain ⟨n', rfl⟩ : ∃ k, n' = k + 1 := ⟨n' - 1, by omega⟩
    exact .mk k0 k1 hl fun c hc => ih c hc (by omega)
theorem cas_of {M : List (List Int)} {h : Int} (hM : M.length ≤ 15) : ∀ {d : Nat} {gs : List (Int × Int)} {D : PyData}, caseJ M h d gs D = true → Cas (frN M.length gs) gs.length D
  | 0, gs, D, hc => by cases hc
  | d + 1, gs, D, hc => by
    match D, hc with
    | .tuple [a, .list cs], hc =>
      unfold caseJ at hc
      simp only [Bool.and_eq_true, decide_eq_true_eq] at hc
      obtain ⟨⟨⟨⟨⟨w, k0⟩, k1⟩, kn⟩, hl⟩, all⟩ := hc
      have kn' : lookS gs (intD a) = none := Option.isNone_iff_eq_none.mp kn
      have frl := fun u => frN_lt (u := u) k0 k1 kn'
      have ul := unl_le (gs.map (·.2))
      rw [List.length_map] at ul
      obtain ⟨n, hn⟩ : ∃ n, frN M.length gs = n + 1 := ⟨frN M.length gs - 1, by have := frl 0; omega⟩
      rw [whole_int w, hn]
      refine .mk k0 (by omega) (by rw [hl]; unfold optN; omega) fun c hc => ?_
      obtain ⟨i, hi, e⟩ := List.mem_iff_getElem.mp hc
      have := List.all_eq_true.mp all i (List.mem_range.mpr hi)
      rw [List.getD_eq_getElem?_getD, List.getElem?_eq_getElem hi, e] at this
      cases st : stuckB M gs (intD a) (i : Int) with
      | true =>
        rw [st] at this
        simp only [if_true, Option.getD_some] at this
        match c, this with
        | .tuple [], _ => exact .emp
      | false =>
        rw [st] at this
        simp only [Bool.false_eq_true, if_false, Option.getD_some] at this
        have ih := cas_of hM this
        rw [List.length_append] at ih
        exact ih.mono (by have := frl (i : Int); omega)


def optV : Option Nat → V
  | none => .non
  | some k => .int (k : Int)
def pr_hardest_way (K : PySem.W.Frag) (v0 v1 : V) (H : Hp) (Q : VK) (_ : XK) : Prop := ∃ (M : List (List Int)) (a : Addr) (gs : List (Int × Int)), Dp K H v0 (.list (M.map dInts)) ∧ M.length ≤ 1000 ∧ (∀ r ∈ M, r.length ≤ 1000) ∧ v1 = .ref a ∧ H a = some (.dK (dS gs)) ∧ (∃ j : Nat, j < M.length ∧ lookS gs (j : Int) = none) ∧ ∀ H', Same H H' → Q (.int (hardK M gs : Nat)) H'
def t_hardest_way (K : PySem.W.Frag) : TS :=
  (tSeq (tAsg (tC .non) (gName 2))
    (tSeq (tAsg (tUn xNeg (tC (.int 1))) (gName 3))
    (tSeq (tFor (iRng1 (tCons (tCB (rLenX K) (tCons (tVar 0) tNil)) tNil)) (gName 4)
      (tSeq (tAsg (tLenU K (tLc (iList K (tOp (rIxL K) (tVar 0) (tVar 4))) (gName 6) (tB (tDIn (tVar 6) (tVar 1))) (tDGet (tVar 1) (tVar 6)) [6])) (gName 5))
    (tIfS (tAnd (tB (tDNotIn (tVar 4) (tVar 1))) (tTest (tOp xGt (tVar 5) (tVar 3)))) (tSeq (tAsg (tVar 4) (gName 2))
    (tAsg (tVar 5) (gName 3))) tNext)))
    (tRet (tVar 2)))))
theorem pure_hardest_way {v0 v1 : V} {H : Hp} {Q : VK} {E : XK} (hh : pr_hardest_way K v0 v1 H Q E) : t_hardest_way K ⟨fun _ H' => Q .non H', Q, fun _ _ => False, fun _ _ => False⟩ [some v0, some v1, none, none, none, none, none] H := by
  obtain ⟨M, a, gs, d0, hm, hr, rfl, ha, hf, q⟩ := hh
  obtain ⟨b, xs, rfl, hb, dx⟩ := dp_list d0
  have lxs : xs.length = M.length := by rw [dpa_len dx, List.length_map]
  unfold t_hardest_way
  wtm_at "s"
  rw [lxs, Int.toNat_natCast]
  refine forR (fun i σ' H' => Same H H' ∧ ∃ k4 k5, σ' = [some (.ref b), some (.ref a), some (optV (hardF M gs i).1), some (.int (hardF M gs i).2), k4, k5, none]) ⟨Same.refl _, _, _, rfl⟩ ?_ ?_
  · rintro i σ' H1 hi ⟨s1, k4, k5, rfl⟩
    simp only [Int.zero_add]
    obtain ⟨rw', hrw, hrs⟩ := dp_row (s1.seq hb) (dpa_same s1 dx) hi
    have hlr : (M.getD i []).length ≤ 1000 := by
      rw [List.getD_eq_getElem?_getD, List.getElem?_eq_getElem (by omega)]
      exact hr _ (List.getElem_mem _)
    wtm_at "s"
    refine k_ixL (s1.seq hb) (atI_nat hrw) ?_
    wtm_at "s"
    refine lc_pure hrs (M.getD i []) (by simp) (by omega) (fun o => (lookS gs o).map V.int) ?_ (fun D H2 nD s2 eD => ?_)
    · intro j x o H' hx ho sm R R0 g1 g2
      rw [List.getElem?_map, ho] at hx
      cases hx
      wtm_at "s"
      refine k_iD (sm _ _ (s1 _ _ ha)) ?_
      rw [dS_val]
      cases hk : lookS gs o with
      | none =>
        simp only [Option.map_none, Option.isSome_none, Bool.false_eq_true, if_false]
        wtm_at "s"
        exact g2 (by rw [hk]; rfl)
      | some u =>
        simp only [Option.map_some, Option.isSome_some, Bool.false_eq_true, if_false]
        wtm_at "s"
        refine k_gD1 (.inl (sm _ _ (s1 _ _ ha))) (by rw [dS_val, hk]; rfl) ?_
        exact g1 _ (by rw [hk]; rfl)
    · have ex : (M.getD i []).filterMap (fun o => (lookS gs o).map V.int) = ((M.getD i []).filterMap (lookS gs)).map V.int := by
        rw [List.map_filterMap]
      rw [ex] at eD
      have s02 := s1.trans s2
      have hln : ((M.getD i []).filterMap (lookS gs)).length ≤ 4000 := Nat.le_trans (List.length_filterMap_le _ _) (by omega)
      refine ⟨D, _, rfl, sl eD, hln, ?_⟩
      wtm_at "s"
      refine k_iD (s02 _ _ ha) ?_
      rw [dS_val]
      cases hk : lookS gs (i : Int) with
      | some u =>
        have e : hardF M gs (i + 1) = hardF M gs i := by
          show (if (lookS gs (i : Int)).isNone && _ then _ else _) = _
          rw [hk]; rfl
        refine ⟨false, rfl, ?_⟩
        rw [if_neg (by decide), if_neg (by decide)]
        wtm_at "s"
        exact ⟨s02, _, _, by rw [e]⟩
      | none =>
        refine ⟨true, rfl, ?_⟩
        rw [if_pos rfl]
        wtm_at "s"
        refine k_it (fun c => ?_) (fun c => ?_)
        · have e : hardF M gs (i + 1) = (some i, (nearF M gs i : Int)) := by
            show (if (lookS gs (i : Int)).isNone && decide ((hardF M gs i).2 < (nearF M gs i : Int)) then _ else _) = _
            rw [hk, decide_eq_true (by unfold nearF; omega)]; rfl
          wtm_at "s"
          exact ⟨s02, _, _, by rw [e]; rfl⟩
        · have e : hardF M gs (i + 1) = hardF M gs i := by
            show (if (lookS gs (i : Int)).isNone && decide ((hardF M gs i).2 < (nearF M gs i : Int)) then _ else _) = _
            rw [hk, decide_eq_false (by unfold nearF; omega)]; rfl
          wtm_at "s"
          exact ⟨s02, _, _, by rw [e]⟩
  · rintro σ' H1 ⟨s1, k4, k5, rfl⟩
    rw [(hardK_ok hf).1]
    wtm_at "s"
    exact q H1 s1
abbrev sp_hardest_way (K : PySem.W.Frag) : Sp := fun vs H Q E => ∃ v0 v1, vs = [v0, v1] ∧ pr_hardest_way K v0 v1 H Q E
theorem ok_hardest_way (T : Txt K mg A) : FnOk P w K mg base CX0 1 A.a_hardest_way A.d_hardest_way ["meets", "given"] (sp_hardest_way K) := by
  refine T.F_hardest_way.ok sc_hardest_way (fun vs H Q E h => by obtain ⟨v0, v1, rfl, _⟩ := h; rfl) (fun cdv A0 outer s H vs Q E hr h => ?_)
  obtain ⟨v0, v1, rfl, h⟩ := h
  exact ⟨t_hardest_way K, (pss_cons (ps_set (i := 2) sc_hardest_way.nd rfl (Or.inl rfl) pe_non)
      (pss_cons (ps_set (i := 3) sc_hardest_way.nd rfl (Or.inl rfl) (pe_un un_neg pe_int))
      (pss_cons (ps_for PassesOwn.never rfl (pi_range1 (by rfl) T.z_range (pa_cons (pe_callB q_len (by rfl) T.z_len (by decide +kernel) (pa_cons (pv 0) pa_nil)) pa_nil)) (pg_name (i := 4) sc_hardest_way.nd rfl (Or.inl rfl))
      (pss_cons (ps_set (i := 5) sc_hardest_way.nd rfl (Or.inl rfl) (pe_lenU (by rfl) (by rfl) T.z_len (by rfl) T.z_set (pe_lc (own := [("other", 6)]) (by rfl) sc_hardest_way.nd (pi_list (pe_ix ix_list (pv 0) (pv 4) (fun _ _ => rfl))) (blkOk_by (own := [("other", 6)]) (N := ["meets", "given", "best", "most", "k", "near", "other"]) (sc := defScope s_hardest_way) (by decide +kernel)) (fun _ _ _ _ _ => (pg_name (i := 6) sc_hardest_way.nd rfl (Or.inl rfl))) (fun _ _ _ _ _ => (pts_one (pt_cmp (pc_din (Nat.lt_of_le_of_lt (Nat.add_le_add_left (by decide) _) hr.units) (pv 6) (pv 1)) (by rfl)))) (fun _ _ _ _ _ => (pe_dget (Nat.lt_of_le_of_lt (Nat.add_le_add_left (by decide) _) hr.units) (pv 1) (pv 6) (fun _ _ => rfl))))))
      (pss_one (ps_if (PW.pt (pw_and (pt_cmp (pc_dnotin (Nat.lt_of_le_of_lt (Nat.add_le_add_left (by decide) _) hr.units) (pv 4) (pv 1)) (by rfl)) (pw_and1 (pt_cmpR op_gt (pv 5) (pv 3) (nomark _))))) (pss_cons (ps_set (i := 2) sc_hardest_way.nd rfl (Or.inl rfl) (pv 4))
      (pss_one (ps_set (i := 3) sc_hardest_way.nd rfl (Or.inl rfl) (pv 5)))) pss_nil))))
      (pss_one (ps_ret (pv 2)))))), pure_hardest_way h⟩


theorem k_isiD {K : PySem.W.Frag} {H : Hp} {Q : VK} {p : Addr} {kvs : List (Key × V)} (e : H p = some (.dK kvs)) (h : Q (.bl true) H) : rIsi K [.ref p, .ty "dict"] H Q := k_isi (.base (.dK e)) (by decide +kernel) h
theorem k_isiDT {K : PySem.W.Frag} {H : Hp} {Q : VK} {p : Addr} {xs : List V} (e : SqT K H p xs) (h : Q (.bl false) H) : rIsi K [.ref p, .ty "dict"] H Q := by
  obtain ⟨t, rfl, ty⟩ := ty_tup e
  exact k_isi ty (by decide +kernel) h
theorem k_isiTT {K : PySem.W.Frag} {H : Hp} {Q : VK} {p : Addr} {xs : List V} (e : SqT K H p xs) (h : Q (.bl true) H) : rIsi K [.ref p, .ty "tuple"] H Q := by
  obtain ⟨t, rfl, ty⟩ := ty_tup e
  exact k_isi ty (by decide +kernel) h
theorem k_isiSI {K : PySem.W.Frag} {H : Hp} {Q : VK} {i : Int} (h : Q (.bl false) H) : rIsi K [.int i, .ty "str"] H Q := k_isi (.base (.int i)) (by decide +kernel) h
/-! ### fresh cases: all their lists are unlike -/
mutual
inductive Tr (f : List V → List V) (K : PySem.W.Frag) (H : Hp) : V → PyData → List Addr → Prop
  | emp {p : Addr} : SqT K H p [] → Tr f K H (.ref p) (.tuple []) []
  | mk {p l : Addr} {k : Int} {zs : List V} {cs : List PyData} {L : List Addr} : SqT K H p [.int k, .ref l] → H l = some (.lst (f zs)) → TrA f K H zs cs L → Tr f K H (.ref p) (.tuple [.int k, .list cs]) (l :: L)
inductive TrA (f : List V → List V) (K : PySem.W.Frag) (H : Hp) : List V → List PyData → List Addr → Prop
  | nil : TrA f K H [] [] []
  | cons {z : V} {zs : List V} {c : PyData} {cs : List PyData} {L1 L2 : List Addr} : Tr f K H z c L1 → TrA f K H zs cs L2 → TrA f K H (z :: zs) (c :: cs) (L1 ++ L2)
end
mutual
theorem Tr.same {f : List V → List V} {K : PySem.W.Frag} {H H' : Hp} (s : Same H H') {v : V} {D : PyData} {L : List Addr} : Tr f K H v D L → Tr f K H' v D L
  | .emp h => .emp (same_seqT s h)
  | .mk h1 h2 h3 => .mk (same_seqT s h1) (s _ _ h2) (TrA.same s h3)
theorem TrA.same {f : List V → List V} {K : PySem.W.Frag} {H H' : Hp} (s : Same H H') {v : List V} {D : List PyData} {L : List Addr} : TrA f K H v D L → TrA f K H' v D L
  | .nil => .nil
  | .cons h1 h2 => .cons (Tr.same s h1) (TrA.same s h2)
end
theorem sqT_upd {K : PySem.W.Frag} {H : Hp} {a d : Addr} {xs os : List V} {o : HO} (h : SqT K H a xs) (hd : H d = some (.lst os)) : SqT K (upd H d o) a xs := by
  rcases h with (h | ⟨o', h⟩) | h
  · exact .inl (.inl (by rw [upd_ne (fun z => by rw [z, hd] at h; cases h)]; exact h))
  · exact .inl (.inr ⟨o', by rw [upd_ne (fun z => by rw [z, hd] at h; cases h)]; exact h⟩)
  · exact .inr h
mutual
theorem Tr.upd {f : List V → List V} {K : PySem.W.Frag} {H : Hp} {d : Addr} {os : List V} {o : HO} (hd : H d = some (.lst os)) {v : V} {D : PyData} {L : List Addr} : Tr f K H v D L → d ∉ L → Tr f K (L2.upd H d o) v D L
  | .emp h, _ => .emp (sqT_upd h hd)
  | .mk h1 h2 h3, n => .mk (sqT_upd h1 hd) (by rw [upd_ne (fun z => n (by rw [z]; exact List.mem_cons_self))]; exact h2) (TrA.upd hd h3 fun z => n (List.mem_cons_of_mem _ z))
theorem TrA.upd {f : List V → List V} {K : PySem.W.Frag} {H : Hp} {d : Addr} {os : List V} {o : HO} (hd : H d = some (.lst os)) {v : List V} {D : List PyData} {L : List Addr} : TrA f K H v D L → d ∉ L → TrA f K (L2.upd H d o) v D L
  | .nil, _ => .nil
  | .cons h1 h2, n => .cons (Tr.upd hd h1 fun z => n (List.mem_append_left _ z)) (TrA.upd hd h2 fun z => n (List.mem_append_right _ z))
end
mutual
theorem Tr.dp {K : PySem.W.Frag} {H : Hp} {v : V} {D : PyData} {L : List Addr} : Tr id K H v D L → Dp K H v D
  | .emp h => .tup h .nil
  | .mk h1 h2 h3 => .tup h1 (.cons (.int _) (.cons (.lst (sl h2) (TrA.dp h3)) .nil))
theorem TrA.dp {K : PySem.W.Frag} {H : Hp} {v : List V} {D : List PyData} {L : List Addr} : TrA id K H v D L → DpAll K H v D
  | .nil => .nil
  | .cons h1 h2 => .cons (Tr.dp h1) (TrA.dp h2)
end
mutual
theorem Tr.alive {f : List V → List V} {K : PySem.W.Frag} {H : Hp} {v : V} {D : PyData} {L : List Addr} : Tr f K H v D L → ∀ l ∈ L, ∃ zs, H l = some (.lst zs)
  | .emp _, l, h => by cases h
  | .mk h1 h2 h3, l, h => by
    rcases List.mem_cons.mp h with rfl | h
    · exact ⟨_, h2⟩
    · exact TrA.alive h3 l h
theorem TrA.alive {f : List V → List V} {K : PySem.W.Frag} {H : Hp} {v : List V} {D : List PyData} {L : List Addr} : TrA f K H v D L → ∀ l ∈ L, ∃ zs, H l = some (.lst zs)
  | .nil, l, h => by cases h
  | .cons h1 h2, l, h => by
    rcases List.mem_append.mp h with h | h
    · exact Tr.alive h1 l h
    · exact TrA.alive h2 l h
end
theorem TrA.app {f : List V → List V} {K : PySem.W.Frag} {H : Hp} {z : V} {c : PyData} {L2 : List Addr} (h : Tr f K H z c L2) : ∀ {zs : List V} {cs : List PyData} {L1 : List Addr}, TrA f K H zs cs L1 → TrA f K H (zs ++ [z]) (cs ++ [c]) (L1 ++ L2)
  | _, _, _, .nil => by
    have := TrA.cons h (.nil : TrA f K H [] [] [])
    rw [List.append_nil] at this
    exact this
  | _, _, _, .cons h1 h2 => by
    have := TrA.cons h1 (TrA.app h h2)
    rw [← List.append_assoc] at this
    exact this
theorem TrA.len {f : List V → List V} {K : PySem.W.Frag} {H : Hp} : ∀ {zs : List V} {cs : List PyData} {L : List Addr}, TrA f K H zs cs L → zs.length = cs.length
  | _, _, _, .nil => rfl
  | _, _, _, .cons _ h => by rw [List.length_cons, List.length_cons, TrA.len h]
theorem Tr.tup {f : List V → List V} {K : PySem.W.Frag} {H : Hp} {v : V} {D : PyData} {L : List Addr} (h : Tr f K H v D L) : ∃ p xs, v = .ref p ∧ SqT K H p xs := by
  cases h with
  | emp h => exact ⟨_, _, rfl, h⟩
  | mk h1 h2 h3 => exact ⟨_, _, rfl, h1⟩
/-! frames -/
theorem sqT_hid {K : PySem.W.Frag} {H H' : Hp} {X : List Addr} {p : Addr} {xs : List V} (h : SqT K H p xs) (hx : ∀ x ∈ X, ∃ zs, H x = some (.lst zs)) (s : Same (hid X H) (hid X H')) : SqT K H' p xs := by
  have go : ∀ o, H p = some o → (∀ zs, o ≠ .lst zs) → H' p = some o := fun o e n => by
    have np : p ∉ X := fun z => by
      obtain ⟨zs, hz⟩ := hx p z
      rw [hz] at e
      cases e
      exact n zs rfl
    have := s p o (by rw [hid_ne np]; exact e)
    rw [hid_ne np] at this
    exact this
  rcases h with (h | ⟨o', h⟩) | h
  · exact .inl (.inl (go _ h fun zs z => nomatch z))
  · exact .inl (.inr ⟨o', go _ h fun zs z => nomatch z⟩)
  · exact .inr h
theorem keep_hid {H H' : Hp} {X : List Addr} {p : Addr} {o : HO} (e : H p = some o) (np : p ∉ X) (s : Same (hid X H) (hid X H')) : H' p = some o := by
  have := s p o (by rw [hid_ne np]; exact e)
  rw [hid_ne np] at this
  exact this
mutual
theorem Tr.frame {f : List V → List V} {K : PySem.W.Frag} {H H' : Hp} {X : List Addr} (hx : ∀ x ∈ X, ∃ zs, H x = some (.lst zs)) (s : Same (hid X H) (hid X H')) {v : V} {D : PyData} {L : List Addr} : Tr f K H v D L → (∀ l ∈ L, l ∉ X) → Tr f K H' v D L
  | .emp h, _ => .emp (sqT_hid h hx s)
  | .mk h1 h2 h3, n => .mk (sqT_hid h1 hx s) (keep_hid h2 (n _ List.mem_cons_self) s) (TrA.frame hx s h3 fun l hl => n l (List.mem_cons_of_mem _ hl))
theorem TrA.frame {f : List V → List V} {K : PySem.W.Frag} {H H' : Hp} {X : List Addr} (hx : ∀ x ∈ X, ∃ zs, H x = some (.lst zs)) (s : Same (hid X H) (hid X H')) {v : List V} {D : List PyData} {L : List Addr} : TrA f K H v D L → (∀ l ∈ L, l ∉ X) → TrA f K H' v D L
  | .nil, _ => .nil
  | .cons h1 h2, n => .cons (Tr.frame hx s h1 fun l hl => n l (List.mem_append_left _ hl)) (TrA.frame hx s h2 fun l hl => n l (List.mem_append_right _ hl))
end
def pr_gone_into (K : PySem.W.Frag) (d : Nat) (v0 v1 v2 : V) (H : Hp) (Q : VK) (_ : XK) : Prop := ∃ (M : List (List Int)) (h : Int) (a : Addr) (gs : List (Int × Int)), Dp K H v0 (.list (M.map dInts)) ∧ M.length ≤ 100 ∧ (∀ r ∈ M, r.length ≤ 1000) ∧ v1 = .int h ∧ 0 ≤ h ∧ h ≤ 100000 ∧ v2 = .ref a ∧ H a = some (.dK (dS gs)) ∧ Uni gs ∧ Kin M.length gs ∧ gs.length + d ≤ 900 ∧ frN M.length gs < d ∧
  (∀ p g H', Same H H' → goF M h d gs = .inl g → H' p = some (.dK (dS g)) → Q (.ref p) H') ∧
  ∀ v D L H', Same H H' → goF M h d gs = .inr D → Tr id K H' v D L → L.Nodup → (∀ x ∈ L, H x = none) → Q v H'
def spd_gone_into (K : PySem.W.Frag) : Nat → Sp
  | 0 => fun _ _ _ _ => False
  | d + 1 => fun vs H Q E => ∃ v0 v1 v2, vs = [v0, v1, v2] ∧ pr_gone_into K d v0 v1 v2 H Q E
def t_gone_into (K : PySem.W.Frag) (sp : Sp) : TS :=
  (tSeq (tIfS (tTest (tOp rEq (tCB rLenD (tCons (tVar 2) tNil)) (tCB (rLenX K) (tCons (tVar 0) tNil)))) (tRet (tVar 2)) tNext)
    (tSeq (tAsg (tCall (sp_hardest_way K) [] E0 (tCons (tVar 0) (tCons (tVar 2) tNil))) (gName 3))
    (tSeq (tAsg (tLst tNil) (gName 4))
    (tSeq (tFor (iList K (tCall (sp_options K) [] E0 (tCons (tVar 1) (tCons (tVar 2) tNil)))) (gName 5)
      (tIfS (tB (tCall (sp_is_stuck K) [] E0 (tCons (tVar 0) (tCons (tVar 2) (tCons (tVar 3) (tCons (tVar 5) tNil)))))) (tDrop (tBM K "list" rAppend (tVar 4) (tCons (tTup tNil) tNil))) (tSeq (tAsg (tCall sp [] E0 (tCons (tVar 0) (tCons (tVar 1) (tCons (tCall (sp_with_hue K) [] E0 (tCons (tVar 2) (tCons (tVar 3) (tCons (tVar 5) tNil)))) tNil)))) (gName 6))
    (tSeq (tIfS (tB (tCB (rIsi K) (tCons (tVar 6) (tCons (tC (.ty "dict")) tNil)))) (tRet (tVar 6)) tNext)
    (tDrop (tBM K "list" rAppend (tVar 4) (tCons (tVar 6) tNil)))))))
    (tRet (tTup (tCons (tVar 3) (tCons (tVar 4) tNil))))))))
theorem pure_gone_into {d : Nat} {v0 v1 v2 : V} {H : Hp} {Q : VK} {E : XK} (hh : pr_gone_into K d v0 v1 v2 H Q E) : t_gone_into K (spd_gone_into K d) ⟨fun _ H' => Q .non H', Q, fun _ _ => False, fun _ _ => False⟩ [some v0, some v1, some v2, none, none, none, none] H := by
  obtain ⟨M, h, a, gs, d0, hm, hr, rfl, h0, h1, rfl, ha, un, kin, sd, hd, qd, qc⟩ := hh
  obtain ⟨d, rfl⟩ : ∃ d', d = d' + 1 := ⟨d - 1, by omega⟩
  obtain ⟨b, ms, rfl, hb, dms⟩ := dp_list d0
  have lms : ms.length = M.length := by rw [dpa_len dms, List.length_map]
  have lgs := kin.len un
  unfold t_gone_into
  wtm_at "s"
  refine k_lenD ha ?_
  rw [dS_len]
  wtm_at "s"
  refine k_it (fun c => ?_) (fun c => ?_)
  · wtm_at "s"
    refine qd a gs H (Same.refl _) ?_ ha
    unfold goF
    rw [if_pos (by omega)]
  · have cl : ¬ gs.length = M.length := by omega
    obtain ⟨_, k1, kn⟩ := hardK_ok (M := M) (Kin.free (gs := gs) (n := M.length) (by omega))
    have hfree : ∃ j : Nat, j < M.length ∧ lookS gs (j : Int) = none := ⟨_, k1, kn⟩
    have frl := fun u => frN_lt (u := u) (show (0 : Int) ≤ (hardK M gs : Int) by omega) (show (hardK M gs : Int) < (M.length : Nat) by omega) kn
    have eG : goF M h (d + 1) gs = (match kidsF (fun i => stuckB M gs (hardK M gs : Int) (i : Int)) (fun i => goF M h d (gs ++ [((hardK M gs : Int), (i : Int))])) (List.range (optN h gs)) with
      | .inl g => .inl g
      | .inr cs => .inr (.tuple [.int (hardK M gs : Int), .list cs])) := by
      show (if gs.length = M.length then _ else _) = _
      rw [if_neg cl]
      all_goals rfl
    rw [eG] at qd qc
    clear eG
    have on : optN h gs ≤ 1000 := by have := unl_le (gs.map (·.2)); rw [List.length_map] at this; unfold optN; omega
    wtm_at "s"
    refine ⟨_, _, rfl, M, a, gs, d0, by omega, hr, rfl, ha, hfree, fun H1 s1 => ?_⟩
    generalize hardK M gs = k at k1 kn frl qd qc ⊢
    clear hfree c
    wtm_at "s"
    refine kL (by simp) (fun fo H2 nfo s2 e2 => ?_)
    have s02 := s1.trans s2
    have nfoH : H fo = none := s1.free nfo
    wtm_at "s"
    refine ⟨_, _, rfl, h, a, gs, rfl, by omega, h1, rfl, s02 _ _ ha, un, by omega, fun ol H3 nol s3 e3 => ?_⟩
    have s03 := s02.trans s3
    have olfo : ol ≠ fo := fun z => by rw [z, e2] at nol; cases nol
    generalize hst : (fun i : Nat => stuckB M gs (k : Int) (i : Int)) = st at qd qc
    generalize hf : (fun i : Nat => goF M h d (gs ++ [((k : Int), (i : Int))])) = f at qd qc
    wtm_at "s"
    refine forL (sl e3) (fun i σ' H' => ∃ zs cs L k5 k6, σ' = [some (.ref b), some (.int h), some (.ref a), some (.int (k : Int)), some (.ref fo), k5, k6] ∧ Same H H' ∧ H' ol = some (.lst ((List.range (optN h gs)).map fun i : Nat => V.int (i : Int))) ∧ H' fo = some (.lst zs) ∧ zs.length = i ∧ TrA id K H' zs cs L ∧ L.Nodup ∧ (∀ x ∈ L, H x = none) ∧ fo ∉ L ∧ kidsF st f (List.range (optN h gs)) = appK cs (kidsF st f ((List.range (optN h gs)).drop i))) ⟨[], [], [], _, _, rfl, s03, e3, s3 _ _ e2, rfl, .nil, List.nodup_nil, (fun x hx => nomatch hx), (fun hx => nomatch hx), by rw [appK_nil]; rfl⟩ (fun i σ' H' _ ⟨zs, cs, L, k5, k6, _, _, z, _⟩ => sl z) ?_ ?_
    · clear e3 s03 s3 nol e2 s02 s2 nfo s1
      rintro i x σ' H4 hx ⟨zs, cs, L, k5, k6, rfl, s4, eol, efo, lz, tz, nd, fr, nfo, ek⟩
      have hi : i < optN h gs := by have := (List.getElem?_eq_some_iff.mp hx).1; rw [List.length_map, List.length_range] at this; exact this
      obtain rfl : x = .int (i : Int) := by rw [List.getElem?_map, List.getElem?_range hi] at hx; cases hx; rfl
      have edr : (List.range (optN h gs)).drop i = i :: (List.range (optN h gs)).drop (i + 1) := by
        rw [List.drop_eq_getElem_cons (by rw [List.length_range]; exact hi), List.getElem_range]
      rw [edr] at ek
      wtm_at "s"
      refine ⟨_, _, _, _, rfl, M, a, gs, (k : Int), (i : Int), dp_same s4 d0, hr, rfl, s4 _ _ ha, rfl, by omega, by omega, rfl, fun H5 s5 => ?_⟩
      have s05 := s4.trans s5
      have efo5 := s5 _ _ efo
      have eol5 := s5 _ _ eol
      have tz5 := tz.same s5
      cases hs : stuckB M gs (k : Int) (i : Int) with
      | true =>
        have hsi : st i = true := by rw [← hst]; exact hs
        wtm_at "s"
        refine k_tyL (sl efo5) ?_
        wtm_at "s"
        refine kT (by simp) (fun t H6 nt s6 e6 => ?_)
        wtm_at "s"
        have efo6 := s6 _ _ efo5
        refine k_append efo6 (by omega) ?_
        refine ⟨zs ++ [.ref t], cs ++ [.tuple []], L ++ [], _, _, rfl, same_mut (s05.trans s6) nfoH, by rw [upd_ne olfo]; exact s6 _ _ eol5, upd_same, by simp [lz], TrA.app (.emp (sqT_upd (stp e6) efo6)) ((tz5.same s6).upd efo6 nfo), by rw [List.append_nil]; exact nd, by rw [List.append_nil]; exact fr, by rw [List.append_nil]; exact nfo, ?_⟩
        rw [ek, ← appK_app]
        show appK cs (if st i = true then _ else _) = _
        rw [if_pos hsi]
      | false =>
        have hsi : ¬ st i = true := by rw [← hst]; show ¬ stuckB M gs (k : Int) (i : Int) = true; rw [hs]; decide
        wtm_at "s"
        refine ⟨_, _, _, rfl, a, gs, (k : Int), (i : Int), rfl, rfl, rfl, s05 _ _ ha, kn, by omega, fun p6 H6 np6 s6 e6 => ?_⟩
        have s06 := s05.trans s6
        wtm_at "s"
        have efo6 := s6 _ _ efo5
        refine ⟨_, _, _, rfl, M, h, p6, gs ++ [((k : Int), (i : Int))], dp_same s06 d0, hm, hr, rfl, h0, h1, rfl, e6, un.add kn, kin.add k1, by simp; omega, by have := frl (i : Int); omega, fun p g H7 s7 eg eD => ?_, fun v D L2 H7 s7 eg tr nd2 fr2 => ?_⟩
        · wtm_at "s"
          refine k_isiD eD ?_
          wtm_at "s"
          refine qd p g H7 (s06.trans s7) ?_ eD
          have : kidsF st f (List.range (optN h gs)) = .inl g := by
            rw [ek]
            show appK cs (if st i = true then _ else match f i with | .inl g => .inl g | .inr c => _) = _
            rw [if_neg hsi, ← hf]
            show appK cs (match goF M h d (gs ++ [((k : Int), (i : Int))]) with | .inl g => .inl g | .inr c => _) = _
            rw [eg]
            rfl
          rw [this]
        · obtain ⟨pv, xs, rfl, hpv⟩ := tr.tup
          have efo7 := s7 _ _ efo6
          have fo2 : fo ∉ L2 := fun z => by rw [fr2 _ z] at efo6; cases efo6
          wtm_at "s"
          refine k_isiDT hpv ?_
          wtm_at "s"
          refine k_tyL (sl efo7) ?_
          wtm_at "s"
          refine k_append efo7 (by omega) ?_
          refine ⟨zs ++ [.ref pv], cs ++ [D], L ++ L2, _, _, rfl, same_mut (s06.trans s7) nfoH, by rw [upd_ne olfo]; exact (s6.trans s7) _ _ eol5, upd_same, by simp [lz], TrA.app (tr.upd efo7 fo2) ((tz5.same (s6.trans s7)).upd efo7 nfo), ?_, ?_, ?_, ?_⟩
          · refine List.nodup_append.mpr ⟨nd, nd2, fun x hx y hy z => ?_⟩
            obtain ⟨ws, hw⟩ := (tz5.same s6).alive x hx
            rw [z, fr2 y hy] at hw
            cases hw
          · intro x hx
            rcases List.mem_append.mp hx with hx | hx
            · exact fr x hx
            · exact s06.free (fr2 x hx)
          · intro hx
            rcases List.mem_append.mp hx with hx | hx
            · exact nfo hx
            · exact fo2 hx
          · rw [ek, ← appK_app]
            show appK cs (if st i = true then _ else match f i with | .inl g => .inl g | .inr c => _) = _
            rw [if_neg hsi, ← hf]
            show appK cs (match goF M h d (gs ++ [((k : Int), (i : Int))]) with | .inl g => .inl g | .inr c => _) = _
            rw [eg]
    · rintro σ' H4 ⟨zs, cs, L, k5, k6, rfl, s4, eol, efo, lz, tz, nd, fr, nfo, ek⟩
      rw [List.length_map, List.length_range] at lz ek
      rw [List.drop_eq_nil_of_le (by rw [List.length_range]; exact Nat.le_refl _)] at ek
      have ek' : kidsF st f (List.range (optN h gs)) = .inr cs := by rw [ek]; show Sum.inr (cs ++ []) = _; rw [List.append_nil]
      rw [ek'] at qc
      wtm_at "s"
      refine kT (by simp) (fun t H5 nt s5 e5 => ?_)
      refine qc (.ref t) _ (fo :: L) H5 (s4.trans s5) rfl (.mk (stp e5) (s5 _ _ efo) (tz.same s5)) (List.nodup_cons.mpr ⟨nfo, nd⟩) fun x hx => ?_
      rcases List.mem_cons.mp hx with rfl | hx
      · exact nfoH
      · exact fr x hx
theorem okd_gone_into (T : Txt K mg A) : ∀ d : Nat, FnOk P w K mg base CX0 (2 + d) A.a_gone_into A.d_gone_into ["meets", "h", "given"] (spd_gone_into K d)
  | 0 => T.F_gone_into.ok sc_gone_into (fun vs H Q E h => False.elim h) (fun cdv A0 outer s H vs Q E hr h => False.elim h)
  | d + 1 => by
    refine T.F_gone_into.ok sc_gone_into (fun vs H Q E h => by obtain ⟨v0, v1, v2, rfl, _⟩ := h; rfl) (fun cdv A0 outer s H vs Q E hr h => ?_)
    obtain ⟨v0, v1, v2, rfl, h⟩ := h
    exact ⟨t_gone_into K (spd_gone_into K d), (pss_cons (ps_if (pt_cmpR op_eq (pe_callB q_lenD (by rfl) T.z_len (by decide +kernel) (pa_cons (pv 2) pa_nil)) (pe_callB q_len (by rfl) T.z_len (by decide +kernel) (pa_cons (pv 0) pa_nil)) (nomark _)) (pss_one (ps_ret (pv 2))) pss_nil)
      (pss_cons (ps_set (i := 3) sc_gone_into.nd rfl (Or.inl rfl) (pe_call (ok_hardest_way T) (hr.mono (by first | decide | omega | (simp only [Nat.add_eq]; omega))) (by rfl) T.g_hardest_way T.F_hardest_way.kp T.b_hardest_way .nil pass0 (pa_cons (pv 0) (pa_cons (pv 2) pa_nil))))
      (pss_cons (ps_set (i := 4) sc_gone_into.nd rfl (Or.inl rfl) (pe_lst pa_nil))
      (pss_cons (ps_for PassesOwn.never rfl (pi_list (pe_call (ok_options T) (hr.mono (by first | decide | omega | (simp only [Nat.add_eq]; omega))) (by rfl) T.g_options T.F_options.kp T.b_options .nil pass0 (pa_cons (pv 1) (pa_cons (pv 2) pa_nil)))) (pg_name (i := 5) sc_gone_into.nd rfl (Or.inl rfl))
      (pss_one (ps_if (pt_val (pe_call (ok_is_stuck T) (hr.mono (by first | decide | omega | (simp only [Nat.add_eq]; omega))) (by rfl) T.g_is_stuck T.F_is_stuck.kp T.b_is_stuck .nil pass0 (pa_cons (pv 0) (pa_cons (pv 2) (pa_cons (pv 3) (pa_cons (pv 5) pa_nil)))))) (pss_one (ps_expr (pe_bm PySem.F.plainAttrs_list PySem.F.slot_list_append PySem.F.type_list_append mt_append (pv 4) (pa_cons (pe_tup pa_nil) pa_nil)))) (pss_cons (ps_set (i := 6) sc_gone_into.nd rfl (Or.inl rfl) (pe_call (okd_gone_into T d) (hr.mono (by first | decide | omega | (simp only [Nat.add_eq]; omega))) (by rfl) T.g_gone_into T.F_gone_into.kp T.b_gone_into .nil pass0 (pa_cons (pv 0) (pa_cons (pv 1) (pa_cons (pe_call (ok_with_hue T) (hr.mono (by first | decide | omega | (simp only [Nat.add_eq]; omega))) (by rfl) T.g_with_hue T.F_with_hue.kp T.b_with_hue .nil pass0 (pa_cons (pv 2) (pa_cons (pv 3) (pa_cons (pv 5) pa_nil)))) pa_nil)))))
      (pss_cons (ps_if (pt_val (pe_callB q_isi (by rfl) T.z_isinstance (by decide +kernel) (pa_cons (pv 6) (pa_cons (pe_bltn (v := .ty "dict") (by rfl) T.z_dict (by decide +kernel) rfl) pa_nil)))) (pss_one (ps_ret (pv 6))) pss_nil)
      (pss_one (ps_expr (pe_bm PySem.F.plainAttrs_list PySem.F.slot_list_append PySem.F.type_list_append mt_append (pv 4) (pa_cons (pv 6) pa_nil)))))))))
      (pss_one (ps_ret (pe_tup (pa_cons (pv 3) (pa_cons (pv 4) pa_nil))))))))), pure_gone_into h⟩
abbrev sp_gone_into (K : PySem.W.Frag) : Sp := fun vs H Q E => ∃ v0 v1 v2, vs = [v0, v1, v2] ∧ ∃ d : Nat, d < 12 ∧ pr_gone_into K d v0 v1 v2 H Q E
theorem ok_gone_into (T : Txt K mg A) : FnOk P w K mg base CX0 14 A.a_gone_into A.d_gone_into ["meets", "h", "given"] (sp_gone_into K) := by
  refine T.F_gone_into.ok sc_gone_into (fun vs H Q E h => by obtain ⟨v0, v1, v2, rfl, _⟩ := h; rfl) (fun cdv A0 outer s H vs Q E hr h => ?_)
  obtain ⟨v0, v1, v2, rfl, d, hd, h⟩ := h
  exact ⟨t_gone_into K (spd_gone_into K d), (pss_cons (ps_if (pt_cmpR op_eq (pe_callB q_lenD (by rfl) T.z_len (by decide +kernel) (pa_cons (pv 2) pa_nil)) (pe_callB q_len (by rfl) T.z_len (by decide +kernel) (pa_cons (pv 0) pa_nil)) (nomark _)) (pss_one (ps_ret (pv 2))) pss_nil)
      (pss_cons (ps_set (i := 3) sc_gone_into.nd rfl (Or.inl rfl) (pe_call (ok_hardest_way T) (hr.mono (by first | decide | omega | (simp only [Nat.add_eq]; omega))) (by rfl) T.g_hardest_way T.F_hardest_way.kp T.b_hardest_way .nil pass0 (pa_cons (pv 0) (pa_cons (pv 2) pa_nil))))
      (pss_cons (ps_set (i := 4) sc_gone_into.nd rfl (Or.inl rfl) (pe_lst pa_nil))
      (pss_cons (ps_for PassesOwn.never rfl (pi_list (pe_call (ok_options T) (hr.mono (by first | decide | omega | (simp only [Nat.add_eq]; omega))) (by rfl) T.g_options T.F_options.kp T.b_options .nil pass0 (pa_cons (pv 1) (pa_cons (pv 2) pa_nil)))) (pg_name (i := 5) sc_gone_into.nd rfl (Or.inl rfl))
      (pss_one (ps_if (pt_val (pe_call (ok_is_stuck T) (hr.mono (by first | decide | omega | (simp only [Nat.add_eq]; omega))) (by rfl) T.g_is_stuck T.F_is_stuck.kp T.b_is_stuck .nil pass0 (pa_cons (pv 0) (pa_cons (pv 2) (pa_cons (pv 3) (pa_cons (pv 5) pa_nil)))))) (pss_one (ps_expr (pe_bm PySem.F.plainAttrs_list PySem.F.slot_list_append PySem.F.type_list_append mt_append (pv 4) (pa_cons (pe_tup pa_nil) pa_nil)))) (pss_cons (ps_set (i := 6) sc_gone_into.nd rfl (Or.inl rfl) (pe_call (okd_gone_into T d) (hr.mono (by first | decide | omega | (simp only [Nat.add_eq]; omega))) (by rfl) T.g_gone_into T.F_gone_into.kp T.b_gone_into .nil pass0 (pa_cons (pv 0) (pa_cons (pv 1) (pa_cons (pe_call (ok_with_hue T) (hr.mono (by first | decide | omega | (simp only [Nat.add_eq]; omega))) (by rfl) T.g_with_hue T.F_with_hue.kp T.b_with_hue .nil pass0 (pa_cons (pv 2) (pa_cons (pv 3) (pa_cons (pv 5) pa_nil)))) pa_nil)))))
      (pss_cons (ps_if (pt_val (pe_callB q_isi (by rfl) T.z_isinstance (by decide +kernel) (pa_cons (pv 6) (pa_cons (pe_bltn (v := .ty "dict") (by rfl) T.z_dict (by decide +kernel) rfl) pa_nil)))) (pss_one (ps_ret (pv 6))) pss_nil)
      (pss_one (ps_expr (pe_bm PySem.F.plainAttrs_list PySem.F.slot_list_append PySem.F.type_list_append mt_append (pv 4) (pa_cons (pv 6) pa_nil)))))))))
      (pss_one (ps_ret (pe_tup (pa_cons (pv 3) (pa_cons (pv 4) pa_nil))))))))), pure_gone_into h⟩


def pr_case_of (K : PySem.W.Frag) (v0 v1 v2 : V) (H : Hp) (Q : VK) (_ : XK) : Prop := ∃ (N : Net) (ws : List (Int × Int)) (h : Int), Dp K H v0 N.d ∧ N.ok ∧ Dp K H v1 (dPairs ws) ∧ ws.length < 11 ∧ (∀ w ∈ ws, isWay N w.1 w.2) ∧ v2 = .int h ∧ 0 ≤ h ∧ h ≤ 100000 ∧
  (∀ g H', Same H H' → goF (meetF N ws) h 11 [] = .inl g → Q .non H') ∧
  ∀ v D L H', Same H H' → goF (meetF N ws) h 11 [] = .inr D → Tr id K H' v D L → L.Nodup → (∀ x ∈ L, H x = none) → Q v H'
def t_case_of (K : PySem.W.Frag) : TS :=
  (tSeq (tDrop (tCall (sp_look_few K) [] E0 (tCons (tVar 0) (tCons (tVar 1) (tCons (tC (.int 12)) tNil)))))
    (tSeq (tDrop (tCall (sp_look_number K) [] E0 (tCons (tVar 2) tNil)))
    (tSeq (tAsg (tCall (sp_gone_into K) [] E0 (tCons (tCall (sp_meetings K) [] E0 (tCons (tVar 0) (tCons (tVar 1) tNil))) (tCons (tVar 2) (tCons tDNewK tNil)))) (gName 3))
    (tSeq (tIfS (tB (tCB (rIsi K) (tCons (tVar 3) (tCons (tC (.ty "dict")) tNil)))) (tRet (tC .non)) tNext)
    (tRet (tVar 3))))))
theorem pure_case_of {v0 v1 v2 : V} {H : Hp} {Q : VK} {E : XK} (hh : pr_case_of K v0 v1 v2 H Q E) : t_case_of K ⟨fun _ H' => Q .non H', Q, fun _ _ => False, fun _ _ => False⟩ [some v0, some v1, some v2, none] H := by
  obtain ⟨N, ws, h, d0, ok, d1, hz, hok, rfl, h0, h1, qd, qc⟩ := hh
  unfold t_case_of
  wtm_at "s"
  refine ⟨_, _, _, rfl, N, ws, 12, d0, ok, d1, by omega, hok, rfl, by omega, ?_⟩
  wtm_at "s"
  refine ⟨_, rfl, h, rfl, h0, ?_⟩
  wtm_at "s"
  refine ⟨_, _, rfl, N, ws, [], d0, ok, d1, by omega, hok, (fun x hx => by cases hx), fun p H1 np s1 dM => ?_⟩
  replace dM := dp_same (hid_same _ _) dM
  wtm_at "s"
  refine kD (fun a H2 na s2 e2 => ?_)
  have s02 := s1.trans s2
  have ml := meetF_len N ws
  wtm_at "s"
  refine ⟨_, _, _, rfl, 11, by decide, meetF N ws, h, a, [], dp_same s2 dM, by omega, (fun r hr => by have := (meetF_adj N ws).len r hr; omega), rfl, by omega, h1, rfl, e2, Uni.nil, Kin.nil, by decide, by rw [frN_nil]; omega, fun p g H3 s3 eg eD => ?_, fun v D L H3 s3 eg tr nd fr => ?_⟩
  · wtm_at "s"
    refine k_isiD eD ?_
    wtm_at "s"
    exact qd g H3 (s02.trans s3) eg
  · obtain ⟨pv, xs, rfl, hpv⟩ := tr.tup
    wtm_at "s"
    refine k_isiDT hpv ?_
    wtm_at "s"
    exact qc _ D L H3 (s02.trans s3) eg tr nd fun x hx => s02.free (fr x hx)
abbrev sp_case_of (K : PySem.W.Frag) : Sp := fun vs H Q E => ∃ v0 v1 v2, vs = [v0, v1, v2] ∧ pr_case_of K v0 v1 v2 H Q E
theorem ok_case_of (T : Txt K mg A) : FnOk P w K mg base CX0 15 A.a_case_of A.d_case_of ["net", "ways", "h"] (sp_case_of K) := by
  refine T.F_case_of.ok sc_case_of (fun vs H Q E h => by obtain ⟨v0, v1, v2, rfl, _⟩ := h; rfl) (fun cdv A0 outer s H vs Q E hr h => ?_)
  obtain ⟨v0, v1, v2, rfl, h⟩ := h
  exact ⟨t_case_of K, (pss_cons (ps_expr (pe_call (ok_look_few T) (hr.mono (by decide)) (by rfl) T.g_look_few T.F_look_few.kp T.b_look_few .nil pass0 (pa_cons (pv 0) (pa_cons (pv 1) (pa_cons (pe_glob (v := .int 12) (by rfl) T.c_MOST ⟨_, rfl⟩) pa_nil)))))
      (pss_cons (ps_expr (pe_call (ok_look_number T) (hr.mono (by decide)) (by rfl) T.g_look_number T.F_look_number.kp T.b_look_number .nil pass0 (pa_cons (pv 2) pa_nil)))
      (pss_cons (ps_set (i := 3) sc_case_of.nd rfl (Or.inl rfl) (pe_call (ok_gone_into T) (hr.mono (by decide)) (by rfl) T.g_gone_into T.F_gone_into.kp T.b_gone_into .nil pass0 (pa_cons (pe_call (ok_meetings T) (hr.mono (by decide)) (by rfl) T.g_meetings T.F_meetings.kp T.b_meetings .nil pass0 (pa_cons (pv 0) (pa_cons (pv 1) pa_nil))) (pa_cons (pv 2) (pa_cons pe_dnewK pa_nil)))))
      (pss_cons (ps_if (pt_val (pe_callB q_isi (by rfl) T.z_isinstance (by decide +kernel) (pa_cons (pv 3) (pa_cons (pe_bltn (v := .ty "dict") (by rfl) T.z_dict (by decide +kernel) rfl) pa_nil)))) (pss_one (ps_ret pe_non)) pss_nil)
      (pss_one (ps_ret (pv 3))))))), pure_case_of h⟩


def pr_law_draws (K : PySem.W.Frag) (v0 v1 : V) (H : Hp) (Q : VK) (_ : XK) : Prop := ∃ (a : Addr) (ns : List Int) (k : Nat), v0 = .ref a ∧ SqL K H a (ns.map V.int) ∧ ns.length ≤ 63 ∧ v1 = .int (k : Int) ∧ k ≤ 1000 ∧ ∀ p us H', H p = none → Same H H' → H' p = some (.lst (List.map V.int us)) → us.length = k → (∀ u ∈ us, 0 ≤ u ∧ u < 2147483629) → Q (.ref p) H'
def t_law_draws (K : PySem.W.Frag) : TS :=
  (tSeq (tAsg (tLst tNil) (gName 2))
    (tSeq (tFor (iRng1 (tCons (tVar 1) tNil)) (gName 3)
      (tSeq (tAsg (tC (.int 0)) (gName 4))
    (tSeq (tIfS (tTest (tOp xGt (tCB (rLenX K) (tCons (tVar 0) tNil)) (tC (.int 0)))) (tAsg (tOp (rIxL K) (tVar 0) (tOp xMod (tOp xDivW (tVar 3) (tC (.int 20))) (tCB rMin2 (tCons (tC (.int 63)) (tCons (tCB (rLenX K) (tCons (tVar 0) tNil)) tNil))))) (gName 4)) tNext)
    (tIfS (tTest (tOp xGe (tVar 4) (tOp xPow (tC (.int 10)) (tC (.int 18))))) (tSeq (tAsg (tOp xDivW (tVar 4) (tOp xPow (tC (.int 10)) (tC (.int 18)))) (gName 4))
    (tSeq (tFor (iRng1 (tCons (tOp xMod (tVar 3) (tC (.int 20))) tNil)) (gName 5)
      (tAsg (tOp xDivW (tVar 4) (tC (.int 5040))) (gName 4)))
    (tDrop (tBM K "list" rAppend (tVar 2) (tCons (tOp xMod (tVar 4) (tC (.int 5040))) tNil))))) (tSeq (tAsg (tOp xMod (tOp xAdd (tVar 4) (tOp xMul (tC (.int 48271)) (tOp xAdd (tVar 3) (tC (.int 1))))) (tC (.int 2147483629))) (gName 6))
    (tSeq (tAsg (tOp xMod (tOp xAdd (tOp xMul (tVar 6) (tVar 6)) (tVar 3)) (tC (.int 2147483629))) (gName 6))
    (tDrop (tBM K "list" rAppend (tVar 2) (tCons (tOp xMod (tOp xMul (tVar 6) (tVar 6)) (tC (.int 2147483587))) tNil)))))))))
    (tRet (tVar 2))))
theorem pure_law_draws {v0 v1 : V} {H : Hp} {Q : VK} {E : XK} (hh : pr_law_draws K v0 v1 H Q E) : t_law_draws K ⟨fun _ H' => Q .non H', Q, fun _ _ => False, fun _ _ => False⟩ [some v0, some v1, none, none, none, none, none] H := by
  obtain ⟨a, ns, k, rfl, ha, hz, rfl, hk, q⟩ := hh
  unfold t_law_draws
  wtm_at "s"
  refine kL (by simp) (fun fo H1 nf s1 e1 => ?_)
  wtm_at "s"
  rw [Int.toNat_natCast]
  refine forR (fun i σ' H' => Same H H' ∧ ∃ us k3 k4 k5 k6, σ' = [some (.ref a), some (.int (k : Int)), some (.ref fo), k3, k4, k5, k6] ∧ H' fo = some (.lst (List.map V.int us)) ∧ us.length = i ∧ ∀ u ∈ us, 0 ≤ u ∧ u < 2147483629) ⟨s1, [], _, _, _, _, rfl, e1, rfl, by simp⟩ ?_ ?_
  · rintro i σ' H2 hi ⟨s2, us, k3, k4, k5, k6, rfl, e2, lu, ok⟩
    have ha2 := s2.seq ha
    have fin : ∀ (x : Int) (l4 l5 l6 : Option V), 0 ≤ x → x < 2147483629 → Same H (upd H2 fo (.lst (List.map V.int us ++ [.int x]))) ∧ ∃ vs k3 k4 k5 k6, [some (.ref a), some (.int (k : Int)), some (.ref fo), some (.int (0 + (i : Nat))), l4, l5, l6] = [some (.ref a), some (.int (k : Int)), some (.ref fo), k3, k4, k5, k6] ∧ (upd H2 fo (.lst (List.map V.int us ++ [.int x]))) fo = some (.lst (List.map V.int vs)) ∧ vs.length = i + 1 ∧ ∀ u ∈ vs, 0 ≤ u ∧ u < 2147483629 := fun x l4 l5 l6 x0 x1 => by
      refine ⟨same_mut s2 nf, us ++ [x], _, _, _, _, rfl, ?_, by simp [lu], fun u hu => ?_⟩
      · rw [upd_same, List.map_append]; rfl
      · rcases List.mem_append.mp hu with hu | hu
        · exact ok u hu
        · rw [List.mem_singleton.mp hu]; exact ⟨x0, x1⟩
    refine k_gname (k_seq (k_asg (k_c (k_gname (seqO (fun σ' H' => ∃ cell : Int, σ' = [some (.ref a), some (.int (k : Int)), some (.ref fo), some (.int (0 + (i : Nat))), some (.int cell), k5, k6] ∧ H2 = H') ?_ (fun nx' go' => ?_))))))
    · rintro _ _ ⟨cell, rfl, rfl⟩
      wtm_at "s"
      refine k_it (fun c => ?_) (fun c => ?_)
      · wtm_at "s"
        refine k_divW (wide_div (by decide) (b := 100) (by decide) (by decide) (by decide)) ?_
        wtm_at "s"
        refine forR (fun j σ' H' => H2 = H' ∧ ∃ (c : Int) (k5 : Option V), σ' = [some (.ref a), some (.int (k : Int)), some (.ref fo), some (.int (0 + (i : Nat))), some (.int c), k5, k6]) ⟨rfl, _, _, rfl⟩ ?_ ?_
        · rintro j σ' _ hj ⟨rfl, c, l5, rfl⟩
          wtm_at "s"
          refine k_divW (wide_div (by decide) (b := 100) (by decide) (by decide) (by decide)) ?_
          wtm_at "s"
          exact ⟨rfl, _, _, rfl⟩
        · rintro σ' _ ⟨rfl, c, l5, rfl⟩
          wtm_at "s"
          refine k_tyL (sl e2) ?_
          wtm_at "s"
          refine k_append e2 (by rw [List.length_map]; omega) ?_
          exact fin _ _ _ _ (Int.emod_nonneg _ (show (5040 : Int) ≠ 0 by decide)) (by have := Int.emod_lt_of_pos c (show (0 : Int) < 5040 by decide); omega)
      · wtm_at "s"
        refine k_tyL (sl e2) ?_
        wtm_at "s"
        refine k_append e2 (by rw [List.length_map]; omega) ?_
        refine fin _ _ _ _ (Int.emod_nonneg _ (show (2147483587 : Int) ≠ 0 by decide)) ?_
        have := Int.emod_lt_of_pos ((((cell + 48271 * (0 + (i : Nat) + 1)) % 2147483629 * ((cell + 48271 * (0 + (i : Nat) + 1)) % 2147483629) + (0 + (i : Nat))) % 2147483629) * (((cell + 48271 * (0 + (i : Nat) + 1)) % 2147483629 * ((cell + 48271 * (0 + (i : Nat) + 1)) % 2147483629) + (0 + (i : Nat))) % 2147483629)) (show (0 : Int) < 2147483587 by decide)
        omega
    · wtm_at "s"
      refine k_it (fun c => ?_) (fun c => ?_)
      · wtm_at "s"
        refine k_divW (wide_div (by decide) (b := 100) (by decide) (by decide) (by decide)) ?_
        wtm_at "s"
        generalize hm : (if (ns.length : Int) < 63 then (ns.length : Int) else 63) = m
        have hm1 : 0 < m ∧ m ≤ ns.length := by rw [← hm]; split <;> omega
        have g0 := Int.emod_nonneg ((0 + (i : Nat) : Int) / 20) (show m ≠ 0 by omega)
        have g1 := Int.emod_lt_of_pos ((0 + (i : Nat) : Int) / 20) hm1.1
        wtm_at "s"
        refine k_ixI ha2 g0 (by omega) ?_
        wtm_at "s"
        exact go' _ _ ⟨_, rfl, rfl⟩
      · wtm_at "s"
        exact go' _ _ ⟨_, rfl, rfl⟩
  · rintro σ' H2 ⟨s2, us, k3, k4, k5, k6, rfl, e2, lu, ok⟩
    wtm_at "s"
    exact q fo us H2 nf s2 e2 lu ok
abbrev sp_law_draws (K : PySem.W.Frag) : Sp := fun vs H Q E => ∃ v0 v1, vs = [v0, v1] ∧ pr_law_draws K v0 v1 H Q E
theorem ok_law_draws (T : Txt K mg A) : FnOk P w K mg base CX0 1 A.a_law_draws A.d_law_draws ["_law_script", "_law_many_here"] (sp_law_draws K) := by
  refine T.F_law_draws.ok sc_law_draws (fun vs H Q E h => by obtain ⟨v0, v1, rfl, _⟩ := h; rfl) (fun cdv A0 outer s H vs Q E hr h => ?_)
  obtain ⟨v0, v1, rfl, h⟩ := h
  exact ⟨t_law_draws K, (pss_cons (ps_set (i := 2) sc_law_draws.nd rfl (Or.inl rfl) (pe_lst pa_nil))
      (pss_cons (ps_for PassesOwn.never rfl (pi_range1 (by rfl) T.z_range (pa_cons (pv 1) pa_nil)) (pg_name (i := 3) sc_law_draws.nd rfl (Or.inl rfl))
      (pss_cons (ps_set (i := 4) sc_law_draws.nd rfl (Or.inl rfl) pe_int)
      (pss_cons (ps_if (pt_cmpR op_gt (pe_callB q_len (by rfl) T.z_len (by decide +kernel) (pa_cons (pv 0) pa_nil)) pe_int (nomark _)) (pss_one (ps_set (i := 4) sc_law_draws.nd rfl (Or.inl rfl) (pe_ix ix_list (pv 0) (pe_op op_mod (pe_op op_fdivW (pv 3) pe_int) (pe_callB (q_min2 (by rfl)) (by rfl) T.z_min (by decide +kernel) (pa_cons pe_int (pa_cons (pe_callB q_len (by rfl) T.z_len (by decide +kernel) (pa_cons (pv 0) pa_nil)) pa_nil)))) (fun _ _ => rfl)))) pss_nil)
      (pss_one (ps_if (pt_cmpR op_ge (pv 4) (pe_op op_pow pe_int pe_int) (nomark _)) (pss_cons (ps_set (i := 4) sc_law_draws.nd rfl (Or.inl rfl) (pe_op op_fdivW (pv 4) (pe_op op_pow pe_int pe_int)))
      (pss_cons (ps_for PassesOwn.never rfl (pi_range1 (by rfl) T.z_range (pa_cons (pe_op op_mod (pv 3) pe_int) pa_nil)) (pg_name (i := 5) sc_law_draws.nd rfl (Or.inl rfl))
      (pss_one (ps_set (i := 4) sc_law_draws.nd rfl (Or.inl rfl) (pe_op op_fdivW (pv 4) pe_int))))
      (pss_one (ps_expr (pe_bm PySem.F.plainAttrs_list PySem.F.slot_list_append PySem.F.type_list_append mt_append (pv 2) (pa_cons (pe_op op_mod (pv 4) pe_int) pa_nil)))))) (pss_cons (ps_set (i := 6) sc_law_draws.nd rfl (Or.inl rfl) (pe_op op_mod (pe_op op_add (pv 4) (pe_op op_mul pe_int (pe_op op_add (pv 3) pe_int))) pe_int))
      (pss_cons (ps_set (i := 6) sc_law_draws.nd rfl (Or.inl rfl) (pe_op op_mod (pe_op op_add (pe_op op_mul (pv 6) (pv 6)) (pv 3)) pe_int))
      (pss_one (ps_expr (pe_bm PySem.F.plainAttrs_list PySem.F.slot_list_append PySem.F.type_list_append mt_append (pv 2) (pa_cons (pe_op op_mod (pe_op op_mul (pv 6) (pv 6)) pe_int) pa_nil)))))))))))
      (pss_one (ps_ret (pv 2))))), pure_law_draws h⟩
def netF (x m : Int) : Net := if x % 3 = 0 then .line (2 + x / 3 % m) else if x % 3 = 1 then .ring (3 + x / 3 % m) else .tree ((List.range (1 + x / 3 % m).toNat).map fun k : Nat => x / (5 + 3 * (k : Int)) % ((k : Int) + 1))
theorem netF_ok {x m : Int} (hm : 1 ≤ m) (hm2 : m ≤ 20) : (netF x m).ok := by
  have a0 := Int.emod_nonneg (x / 3) (show m ≠ 0 by omega)
  have a1 := Int.emod_lt_of_pos (x / 3) (show 0 < m by omega)
  unfold netF
  split
  · exact ⟨by omega, by omega⟩
  · split
    · exact ⟨by omega, by omega⟩
    · refine ⟨by rw [List.length_map, List.length_range]; omega, by rw [List.length_map, List.length_range]; omega, fun k hk => ?_⟩
      rw [List.length_map, List.length_range] at hk
      rw [List.getD_eq_getElem?_getD, List.getElem?_map, List.getElem?_range hk]
      have b0 := Int.emod_nonneg (x / (5 + 3 * (k : Int))) (show ((k : Int) + 1) ≠ 0 by omega)
      have b1 := Int.emod_lt_of_pos (x / (5 + 3 * (k : Int))) (show 0 < (k : Int) + 1 by omega)
      exact ⟨b0, by show _ ≤ _; simp only [Option.map_some, Option.getD_some]; omega⟩
theorem s_la : decide (Str.ofString "line" = Str.ofString "line") = true := by decide +kernel
def pr_law_net (K : PySem.W.Frag) (v0 v1 : V) (H : Hp) (Q : VK) (_ : XK) : Prop := ∃ (x m : Int), v0 = .int x ∧ 0 ≤ x ∧ x < 100000000000 ∧ v1 = .int m ∧ 1 ≤ m ∧ m ≤ 20 ∧ ∀ p H', H p = none → Same H H' → Dp K H' (.ref p) (netF x m).d → Q (.ref p) H'
def t_law_net (K : PySem.W.Frag) : TS :=
  (tSeq (tAsg (tOp (rIxL K) (tLst (tCons (tC (.str (Str.ofString "line"))) (tCons (tC (.str (Str.ofString "ring"))) (tCons (tC (.str (Str.ofString "tree"))) tNil)))) (tOp xMod (tVar 0) (tC (.int 3)))) (gName 2))
    (tSeq (tAsg (tOp xMod (tOp xDiv (tVar 0) (tC (.int 3))) (tVar 1)) (gName 3))
    (tSeq (tIfS (tTest (tOp rEq (tVar 2) (tC (.str (Str.ofString "line"))))) (tRet (tTup (tCons (tC (.str (Str.ofString "line"))) (tCons (tOp xAdd (tC (.int 2)) (tVar 3)) tNil)))) tNext)
    (tSeq (tIfS (tTest (tOp rEq (tVar 2) (tC (.str (Str.ofString "ring"))))) (tRet (tTup (tCons (tC (.str (Str.ofString "ring"))) (tCons (tOp xAdd (tC (.int 3)) (tVar 3)) tNil)))) tNext)
    (tRet (tTup (tCons (tC (.str (Str.ofString "tree"))) (tCons (tLc (iRng1 (tCons (tOp xAdd (tC (.int 1)) (tVar 3)) tNil)) (gName 4) tYes (tOp xMod (tOp xDiv (tVar 0) (tOp xAdd (tC (.int 5)) (tOp xMul (tC (.int 3)) (tVar 4)))) (tOp xAdd (tVar 4) (tC (.int 1)))) [4]) tNil))))))))
theorem pure_law_net {v0 v1 : V} {H : Hp} {Q : VK} {E : XK} (hh : pr_law_net K v0 v1 H Q E) : t_law_net K ⟨fun _ H' => Q .non H', Q, fun _ _ => False, fun _ _ => False⟩ [some v0, some v1, none, none, none] H := by
  obtain ⟨x, m, rfl, x0, x1, rfl, m0, m1, q⟩ := hh
  have a0 := Int.emod_nonneg (x / 3) (show m ≠ 0 by omega)
  have a1 := Int.emod_lt_of_pos (x / 3) (show 0 < m by omega)
  have hx : x % 3 = 0 ∨ x % 3 = 1 ∨ x % 3 = 2 := by omega
  unfold t_law_net
  wtm_at "s"
  refine kL (by simp) (fun l1 H1 nl1 s1 e1 => ?_)
  wtm_at "s"
  have fin : ∀ (p : Addr) (H2 : Hp) (d : PyData), H1 p = none → Same H1 H2 → (netF x m).d = d → Dp K H2 (.ref p) d → Q (.ref p) H2 := fun p H2 d np s e dd => q p H2 (s1.free np) (s1.trans s) (by rw [e]; exact dd)
  rcases hx with hx | hx | hx
  · have hN : (netF x m).d = .tuple [.str (Str.ofString "line"), .int (2 + x / 3 % m)] := by unfold netF; rw [if_pos hx]; rfl
    rw [hx]
    refine k_ixL (sl e1) (v := .str (Str.ofString "line")) rfl ?_
    wtm_at "s"
    refine k_eqS ?_
    rw [s_same]
    wtm_at "s"
    refine kT (by simp) (fun p H2 np s2 e2 => ?_)
    exact fin p H2 _ np s2 hN (.tup (stp e2) (.cons (.str _) (.cons (.int _) .nil)))
  · have hN : (netF x m).d = .tuple [.str (Str.ofString "ring"), .int (3 + x / 3 % m)] := by unfold netF; rw [if_neg (by omega), if_pos hx]; rfl
    rw [hx]
    refine k_ixL (sl e1) (v := .str (Str.ofString "ring")) rfl ?_
    wtm_at "s"
    refine k_eqS ?_
    rw [s_rl]
    wtm_at "s"
    refine k_eqS ?_
    rw [s_same]
    wtm_at "s"
    refine kT (by simp) (fun p H2 np s2 e2 => ?_)
    exact fin p H2 _ np s2 hN (.tup (stp e2) (.cons (.str _) (.cons (.int _) .nil)))
  · rw [hx]
    refine k_ixL (sl e1) (v := .str (Str.ofString "tree")) rfl ?_
    wtm_at "s"
    refine k_eqS ?_
    rw [s_tl]
    wtm_at "s"
    refine k_eqS ?_
    rw [s_tr]
    wtm_at "s"
    refine lc_pureR (by omega) (fun i : Nat => some (V.int (x / (5 + 3 * (i : Int)) % ((i : Int) + 1)))) ?_ (fun D H2 nD s2 eD => ?_)
    · intro i H' hi sm R R0 g1 g2
      wtm_at "s"
      simp only [Int.zero_add]
      exact g1 _ rfl
    · have eD' : H2 D = some (.lst (List.map V.int ((List.range (1 + x / 3 % m).toNat).map fun k : Nat => x / (5 + 3 * (k : Int)) % ((k : Int) + 1)))) := by rw [eD, fm_map, List.map_map]; rfl
      have hN : (netF x m).d = .tuple [.str (Str.ofString "tree"), dInts ((List.range (1 + x / 3 % m).toNat).map fun k : Nat => x / (5 + 3 * (k : Int)) % ((k : Int) + 1))] := by unfold netF; rw [if_neg (by omega), if_neg (by omega)]; rfl
      wtm_at "s"
      refine kT (by simp) (fun p H3 np s3 e3 => ?_)
      exact fin p H3 _ (s2.free np) (s2.trans s3) hN (.tup (stp e3) (.cons (.str _) (.cons (dp_of_ints (sl (s3 _ _ eD'))) .nil)))
abbrev sp_law_net (K : PySem.W.Frag) : Sp := fun vs H Q E => ∃ v0 v1, vs = [v0, v1] ∧ pr_law_net K v0 v1 H Q E
theorem ok_law_net (T : Txt K mg A) : FnOk P w K mg base CX0 1 A.a_law_net A.d_law_net ["_law_number", "_law_most"] (sp_law_net K) := by
  refine T.F_law_net.ok sc_law_net (fun vs H Q E h => by obtain ⟨v0, v1, rfl, _⟩ := h; rfl) (fun cdv A0 outer s H vs Q E hr h => ?_)
  obtain ⟨v0, v1, rfl, h⟩ := h
  exact ⟨t_law_net K, (pss_cons (ps_set (i := 2) sc_law_net.nd rfl (Or.inl rfl) (pe_ix ix_list (pe_lst (pa_cons pe_str (pa_cons pe_str (pa_cons pe_str pa_nil)))) (pe_op op_mod (pv 0) pe_int) (fun _ _ => rfl)))
      (pss_cons (ps_set (i := 3) sc_law_net.nd rfl (Or.inl rfl) (pe_op op_mod (pe_op op_fdiv (pv 0) pe_int) (pv 1)))
      (pss_cons (ps_if (pt_cmpR op_eq (pv 2) pe_str (nomark _)) (pss_one (ps_ret (pe_tup (pa_cons pe_str (pa_cons (pe_op op_add pe_int (pv 3)) pa_nil))))) pss_nil)
      (pss_cons (ps_if (pt_cmpR op_eq (pv 2) pe_str (nomark _)) (pss_one (ps_ret (pe_tup (pa_cons pe_str (pa_cons (pe_op op_add pe_int (pv 3)) pa_nil))))) pss_nil)
      (pss_one (ps_ret (pe_tup (pa_cons pe_str (pa_cons (pe_lc (own := [("_law_k", 4)]) (by rfl) sc_law_net.nd (pi_range1 (by rfl) T.z_range (pa_cons (pe_op op_add pe_int (pv 3)) pa_nil)) (blkOk_by (own := [("_law_k", 4)]) (N := ["_law_number", "_law_most", "_law_kind", "_law_many_here", "_law_k"]) (sc := defScope s_law_net) (by decide +kernel)) (fun _ _ _ _ _ => (pg_name (i := 4) sc_law_net.nd rfl (Or.inl rfl))) (fun _ _ _ _ _ => pts_nil) (fun _ _ _ _ _ => (pe_op op_mod (pe_op op_fdiv (pv 0) (pe_op op_add pe_int (pe_op op_mul pe_int (pv 4)))) (pe_op op_add (pv 4) pe_int)))) pa_nil))))))))), pure_law_net h⟩
def pr_law_places (K : PySem.W.Frag) (v0 : V) (H : Hp) (Q : VK) (_ : XK) : Prop := ∃ N : Net, Dp K H v0 N.d ∧ Q (.int N.places) H
def t_law_places (K : PySem.W.Frag) : TS :=
  (tSeq (tIfS (tTest (tOp rEq (tOp (rIxT K) (tVar 0) (tC (.int 0))) (tC (.str (Str.ofString "tree"))))) (tRet (tOp xAdd (tCB (rLenX K) (tCons (tOp (rIxT K) (tVar 0) (tC (.int 1))) tNil)) (tC (.int 1)))) tNext)
    (tRet (tOp (rIxT K) (tVar 0) (tC (.int 1)))))
theorem pure_law_places {v0 : V} {H : Hp} {Q : VK} {E : XK} (h : pr_law_places K v0 H Q E) : t_law_places K ⟨fun _ H' => Q .non H', Q, fun _ _ => False, fun _ _ => False⟩ [some v0] H := by
  obtain ⟨N, hd, q⟩ := h
  obtain ⟨a, y, rfl, hs, hy⟩ := dp_net hd
  unfold t_law_places
  wtm_at "s"
  refine k_eqS ?_
  cases N with
  | line n =>
    obtain rfl := dp_int hy
    rw [show Net.kind (.line n) = Str.ofString "line" from rfl, s_lt]
    wtm_at "s"
    exact q
  | ring n =>
    obtain rfl := dp_int hy
    rw [show Net.kind (.ring n) = Str.ofString "ring" from rfl, s_rt]
    wtm_at "s"
    exact q
  | tree ps =>
    obtain ⟨b, rfl, hb⟩ := dp_ints hy
    rw [show Net.kind (.tree ps) = Str.ofString "tree" from rfl, s_same]
    wtm_at "s"
    exact q
abbrev sp_law_places (K : PySem.W.Frag) : Sp := fun vs H Q E => ∃ v0, vs = [v0] ∧ pr_law_places K v0 H Q E
theorem ok_law_places (T : Txt K mg A) : FnOk P w K mg base CX0 1 A.a_law_places A.d_law_places ["_law_net_here"] (sp_law_places K) := by
  refine T.F_law_places.ok sc_law_places (fun vs H Q E h => by obtain ⟨v0, rfl, _⟩ := h; rfl) (fun cdv A0 outer s H vs Q E hr h => ?_)
  obtain ⟨v0, rfl, h⟩ := h
  exact ⟨t_law_places K, (pss_cons (ps_if (pt_cmpR op_eq (pe_ix ix_tup (pv 0) pe_int (fun _ _ => rfl)) pe_str (nomark _)) (pss_one (ps_ret (pe_op op_add (pe_callB q_len (by rfl) T.z_len (by decide +kernel) (pa_cons (pe_ix ix_tup (pv 0) pe_int (fun _ _ => rfl)) pa_nil)) pe_int))) pss_nil)
      (pss_one (ps_ret (pe_ix ix_tup (pv 0) pe_int (fun _ _ => rfl))))), pure_law_places h⟩
def wayN (N : Net) (x : Int) : Int × Int := (x % N.places, (x % N.places + 1 + x / 64 % (N.places - 1)) % N.places)
theorem places_two {N : Net} (ok : N.ok) : 2 ≤ N.places ∧ N.places ≤ 60 := by
  cases N with
  | line n => exact ok
  | ring n => have : 3 ≤ n ∧ n ≤ 60 := ok; show 2 ≤ n ∧ n ≤ 60; omega
  | tree ps => have := ok.1; have := ok.2.1; show 2 ≤ (ps.length : Int) + 1 ∧ (ps.length : Int) + 1 ≤ 60; omega
theorem wayN_ok {N : Net} {x : Int} (ok : N.ok) : isWay N (wayN N x).1 (wayN N x).2 := by
  have hn := (places_two ok).1
  unfold wayN isWay
  generalize N.places = n at hn ⊢
  have a0 := Int.emod_nonneg x (show n ≠ 0 by omega)
  have a1 := Int.emod_lt_of_pos x (show 0 < n by omega)
  have t0 := Int.emod_nonneg (x / 64) (show n - 1 ≠ 0 by omega)
  have t1 := Int.emod_lt_of_pos (x / 64) (show 0 < n - 1 by omega)
  show x % n ≠ (x % n + 1 + x / 64 % (n - 1)) % n ∧ _
  generalize x % n = a at a0 a1 ⊢
  generalize x / 64 % (n - 1) = t at t0 t1 ⊢
  have b0 := Int.emod_nonneg (a + 1 + t) (show n ≠ 0 by omega)
  have b1 := Int.emod_lt_of_pos (a + 1 + t) (show 0 < n by omega)
  refine ⟨?_, a0, b0, a1, b1⟩
  intro h
  by_cases c : a + 1 + t < n
  · rw [Int.emod_eq_of_lt (by omega) c] at h; omega
  · rw [← Int.sub_emod_right, Int.emod_eq_of_lt (by omega) (by omega)] at h; omega
def pr_law_way (K : PySem.W.Frag) (v0 v1 : V) (H : Hp) (Q : VK) (_ : XK) : Prop := ∃ (N : Net) (x : Int), Dp K H v0 N.d ∧ N.ok ∧ v1 = .int x ∧ 0 ≤ x ∧ x < 100000000000 ∧ ∀ p H', H p = none → Same H H' → H' p = some (.tup [.int (wayN N x).1, .int (wayN N x).2]) → Q (.ref p) H'
def t_law_way (K : PySem.W.Frag) : TS :=
  (tSeq (tAsg (tCall (sp_law_places K) [] E0 (tCons (tVar 0) tNil)) (gName 2))
    (tSeq (tAsg (tOp xMod (tVar 1) (tVar 2)) (gName 3))
    (tRet (tTup (tCons (tVar 3) (tCons (tOp xMod (tOp xAdd (tOp xAdd (tVar 3) (tC (.int 1))) (tOp xMod (tOp xDiv (tVar 1) (tC (.int 64))) (tOp xSub (tVar 2) (tC (.int 1))))) (tVar 2)) tNil))))))
theorem pure_law_way {v0 v1 : V} {H : Hp} {Q : VK} {E : XK} (hh : pr_law_way K v0 v1 H Q E) : t_law_way K ⟨fun _ H' => Q .non H', Q, fun _ _ => False, fun _ _ => False⟩ [some v0, some v1, none, none] H := by
  obtain ⟨N, x, d0, ok, rfl, x0, x1, q⟩ := hh
  have hp := places_two ok
  unfold t_law_way
  wtm_at "s"
  refine ⟨_, rfl, N, d0, ?_⟩
  wtm_at "s"
  refine kT (by simp) (fun p H1 np s1 e1 => ?_)
  exact q p H1 np s1 e1
abbrev sp_law_way (K : PySem.W.Frag) : Sp := fun vs H Q E => ∃ v0 v1, vs = [v0, v1] ∧ pr_law_way K v0 v1 H Q E
theorem ok_law_way (T : Txt K mg A) : FnOk P w K mg base CX0 2 A.a_law_way A.d_law_way ["_law_net_here", "_law_number"] (sp_law_way K) := by
  refine T.F_law_way.ok sc_law_way (fun vs H Q E h => by obtain ⟨v0, v1, rfl, _⟩ := h; rfl) (fun cdv A0 outer s H vs Q E hr h => ?_)
  obtain ⟨v0, v1, rfl, h⟩ := h
  exact ⟨t_law_way K, (pss_cons (ps_set (i := 2) sc_law_way.nd rfl (Or.inl rfl) (pe_call (ok_law_places T) (hr.mono (by decide)) (by rfl) T.g_law_places T.F_law_places.kp T.b_law_places .nil pass0 (pa_cons (pv 0) pa_nil)))
      (pss_cons (ps_set (i := 3) sc_law_way.nd rfl (Or.inl rfl) (pe_op op_mod (pv 1) (pv 2)))
      (pss_one (ps_ret (pe_tup (pa_cons (pv 3) (pa_cons (pe_op op_mod (pe_op op_add (pe_op op_add (pv 3) pe_int) (pe_op op_mod (pe_op op_fdiv (pv 1) pe_int) (pe_op op_sub (pv 2) pe_int))) (pv 2)) pa_nil))))))), pure_law_way h⟩


def pr_law_up (K : PySem.W.Frag) (v0 v1 : V) (H : Hp) (Q : VK) (_ : XK) : Prop := ∃ (ps : List Int) (x : Int), Dp K H v0 (Net.tree ps).d ∧ TreeOk ps ∧ v1 = .int x ∧ 0 ≤ x ∧ x ≤ ps.length ∧ ∀ p (us : List Int) H', H p = none → Same H H' → H' p = some (.lst (us.map V.int)) → (∀ t : Nat, (t : Int) ∈ us ↔ below ps (t + 1) x.toNat = true) → Q (.ref p) H'
def t_law_up (K : PySem.W.Frag) : TS :=
  (tSeq (tAsg (tLst tNil) (gName 2))
    (tSeq (tWhile (tTest (tOp xGt (tVar 1) (tC (.int 0))))
      (tSeq (tDrop (tBM K "list" rAppend (tVar 2) (tCons (tOp xSub (tVar 1) (tC (.int 1))) tNil)))
    (tAsg (tOp (rIxL K) (tOp (rIxT K) (tVar 0) (tC (.int 1))) (tOp xSub (tVar 1) (tC (.int 1)))) (gName 1))))
    (tRet (tVar 2))))
theorem pure_law_up {v0 v1 : V} {H : Hp} {Q : VK} {E : XK} (h : pr_law_up K v0 v1 H Q E) : t_law_up K ⟨fun _ H' => Q .non H', Q, fun _ _ => False, fun _ _ => False⟩ [some v0, some v1, none] H := by
  obtain ⟨ps, x, hd, ok, rfl, x0, x1, q⟩ := h
  obtain ⟨an, yy, rfl, hn, hyy⟩ := dp_net hd
  obtain ⟨b, rfl, hb⟩ := dp_ints hyy
  have l60 := ok.2.1
  unfold t_law_up
  wtm_at "s"
  refine kL (by simp) (fun fo H1 nfo s1 e1 => ?_)
  wtm_at "s"
  refine ⟨fun m σ' H' => ∃ (y : Int) (us : List Int), σ' = [some (.ref an), some (.int y), some (.ref fo)] ∧ Same H H' ∧ H' fo = some (.lst (us.map V.int)) ∧ (m : Int) = y ∧ (us.length : Int) + y ≤ x ∧ ∀ t : Nat, (below ps (t + 1) x.toNat = true ↔ (t : Int) ∈ us ∨ below ps (t + 1) y.toNat = true),
    ⟨x.toNat, x, [], rfl, s1, e1, by omega, by simp, fun t => by simp⟩, ?_⟩
  rintro m σ' H2 ⟨y, us, rfl, s2, e2, hm, hl, hc⟩
  wtm_at "s"
  refine k_it (fun c1 => ?_) (fun c1 => ?_)
  · have hpx := ok.2.2 (y - 1).toNat (by omega)
    refine ⟨fun σ' H' => ∃ m', m' < m ∧ ∃ (y : Int) (us : List Int), σ' = [some (.ref an), some (.int y), some (.ref fo)] ∧ Same H H' ∧ H' fo = some (.lst (us.map V.int)) ∧ (m' : Int) = y ∧ (us.length : Int) + y ≤ x ∧ ∀ t : Nat, (below ps (t + 1) x.toNat = true ↔ (t : Int) ∈ us ∨ below ps (t + 1) y.toNat = true), fun σ' H' h => h, ?_⟩
    wtm_at "s"
    refine k_tyL (sl e2) ?_
    wtm_at "s"
    refine k_append e2 (by simp; omega) ?_
    have s3 : Same H (upd H2 fo (.lst (us.map V.int ++ [.int (y - 1)]))) := same_mut s2 nfo
    have e3 : upd H2 fo (.lst (us.map V.int ++ [.int (y - 1)])) fo = some (.lst ((us ++ [y - 1]).map V.int)) := by rw [upd_same, List.map_append]; rfl
    generalize upd H2 fo (.lst (us.map V.int ++ [.int (y - 1)])) = H3 at s3 e3 ⊢
    wtm_at "s"
    refine k_ixI (s3.seq hb) (by omega) (by omega) ?_
    wtm_at "s"
    generalize hx' : ps.getD (y - 1).toNat 0 = y' at hpx ⊢
    refine ⟨y'.toNat, by omega, y', us ++ [y - 1], rfl, s3, e3, by omega, by simp; omega, fun t => ?_⟩
    rw [hc t]
    have ex : y.toNat = (y - 1).toNat + 1 := by omega
    by_cases ck : t + 1 = y.toNat
    · constructor
      · intro _; exact .inl (List.mem_append_right _ (by simp; omega))
      · intro _; refine .inr ?_; rw [← ck]; exact below_self _
    · rw [ex, below_step ok (by omega) (by omega), hx']
      constructor
      · rintro (h | h)
        · exact .inl (List.mem_append_left _ h)
        · exact .inr h
      · rintro (h | h)
        · rcases List.mem_append.mp h with h | h
          · exact .inl h
          · have : (t : Int) = y - 1 := by simpa using h
            omega
        · exact .inr h
  · have y0 : y = 0 := by omega
    subst y0
    wtm_at "s"
    refine q fo us H2 nfo s2 e2 fun t => ?_
    rw [hc t]
    constructor
    · exact .inl
    · rintro (h | h)
      · exact h
      · rw [show (0 : Int).toNat = 0 from rfl, below_lt 0 (by omega)] at h; cases h
abbrev sp_law_up (K : PySem.W.Frag) : Sp := fun vs H Q E => ∃ v0 v1, vs = [v0, v1] ∧ pr_law_up K v0 v1 H Q E
theorem ok_law_up (T : Txt K mg A) : FnOk P w K mg base CX0 1 A.a_law_up A.d_law_up ["_law_net_here", "_law_place"] (sp_law_up K) := by
  refine T.F_law_up.ok sc_law_up (fun vs H Q E h => by obtain ⟨v0, v1, rfl, _⟩ := h; rfl) (fun cdv A0 outer s H vs Q E hr h => ?_)
  obtain ⟨v0, v1, rfl, h⟩ := h
  exact ⟨t_law_up K, (pss_cons (ps_set (i := 2) sc_law_up.nd rfl (Or.inl rfl) (pe_lst pa_nil))
      (pss_cons (ps_while PassesOwn.never (pt_cmpR op_gt (pv 1) pe_int (nomark _))
      (pss_cons (ps_expr (pe_bm PySem.F.plainAttrs_list PySem.F.slot_list_append PySem.F.type_list_append mt_append (pv 2) (pa_cons (pe_op op_sub (pv 1) pe_int) pa_nil)))
      (pss_one (ps_set (i := 1) sc_law_up.nd rfl (Or.inl rfl) (pe_ix ix_list (pe_ix ix_tup (pv 0) pe_int (fun _ _ => rfl)) (pe_op op_sub (pv 1) pe_int) (fun _ _ => rfl))))))
      (pss_one (ps_ret (pv 2))))), pure_law_up h⟩


def pr_law_ties (K : PySem.W.Frag) (v0 v1 : V) (H : Hp) (Q : VK) (_ : XK) : Prop := ∃ (N : Net) (a b : Int), Dp K H v0 N.d ∧ N.ok ∧ Dp K H v1 (dPair (a, b)) ∧ isWay N a b ∧ ∀ p H', H p = none → Same H H' → H' p = some (.lst (List.map V.int (tiesF N (a, b)))) → Q (.ref p) H'
def t_law_ties (K : PySem.W.Frag) : TS :=
  (tSeq (tAsg (tVar 1) (gTup K 2 (gCons (gName 2) (gCons (gName 3) gNil))))
    (tSeq (tIfS (tTest (tOp rEq (tOp (rIxT K) (tVar 0) (tC (.int 0))) (tC (.str (Str.ofString "line"))))) (tRet (tLstRg (tRg2 (tCB rMin2 (tCons (tVar 2) (tCons (tVar 3) tNil))) (tCB rMax2 (tCons (tVar 2) (tCons (tVar 3) tNil)))))) tNext)
    (tSeq (tIfS (tTest (tOp rEq (tOp (rIxT K) (tVar 0) (tC (.int 0))) (tC (.str (Str.ofString "tree"))))) (tSeq (tAsg (tCall (sp_law_up K) [] E0 (tCons (tVar 0) (tCons (tVar 2) tNil))) (gName 4))
    (tSeq (tAsg (tCall (sp_law_up K) [] E0 (tCons (tVar 0) (tCons (tVar 3) tNil))) (gName 5))
    (tRet (tLc (iRng1 (tCons (tCB (rLenX K) (tCons (tOp (rIxT K) (tVar 0) (tC (.int 1))) tNil)) tNil)) (gName 7) (tTest (tOp rNe (tOp (rIn K false) (tVar 7) (tVar 4)) (tOp (rIn K false) (tVar 7) (tVar 5)))) (tVar 7) [7])))) tNext)
    (tSeq (tAsg (tLst tNil) (gName 6))
    (tSeq (tWhile (tTest (tOp rNe (tVar 2) (tVar 3)))
      (tSeq (tDrop (tBM K "list" rAppend (tVar 6) (tCons (tVar 2) tNil)))
    (tAsg (tOp xMod (tOp xAdd (tVar 2) (tC (.int 1))) (tOp (rIxT K) (tVar 0) (tC (.int 1)))) (gName 2))))
    (tRet (tCB (rSortedI K) (tCons (tVar 6) tNil))))))))
theorem pure_law_ties {v0 v1 : V} {H : Hp} {Q : VK} {E : XK} (hh : pr_law_ties K v0 v1 H Q E) : t_law_ties K ⟨fun _ H' => Q .non H', Q, fun _ _ => False, fun _ _ => False⟩ [some v0, some v1, none, none, none, none, none, none] H := by
  obtain ⟨N, a, b, hd, ok, d1, hw, q⟩ := hh
  obtain ⟨an, y, rfl, hn, hy⟩ := dp_net hd
  obtain ⟨c, rfl, hc⟩ := dp_pair d1
  have fin : ∀ p ns H', H p = none → Same H H' → H' p = some (.lst (List.map V.int ns)) → ns.Pairwise (· < ·) → (∀ t, t ∈ ns ↔ OnTie N a b t) → Q (.ref p) H' := fun p ns H' np s e hs hm => q p H' np s (by rw [← tiesF_of ok (w := (a, b)) hw hs hm]; exact e)
  have q0 := q
  clear q
  obtain ⟨w1, w2, w3, w4, w5⟩ := hw
  unfold t_law_ties
  wtm_at "s"
  refine k_eqS ?_
  cases N with
  | line n =>
    have w4' : a < n := w4
    have w5' : b < n := w5
    have ok' : 2 ≤ n ∧ n ≤ 60 := ok
    rw [show Net.kind (.line n) = Str.ofString "line" from rfl, s_same]
    wtm_at "s"
    have e1 : (if b < a then b else a) = min a b := by split <;> omega
    have e2 : (if b > a then b else a) = max a b := by split <;> omega
    rw [e1, e2]
    refine kR (by unfold RgOk; omega) (fun p H1 np s1 e => ?_)
    rw [rg_ints] at e
    refine fin p _ H1 np s1 e ?_ fun t => ?_
    · exact List.pairwise_map.mpr (List.pairwise_lt_range.imp fun {x y} h => by omega)
    · rw [List.mem_map]
      show _ ↔ min a b ≤ t ∧ t < max a b
      constructor
      · rintro ⟨i, hi, rfl⟩
        have := List.mem_range.mp hi
        omega
      · intro h
        exact ⟨(t - min a b).toNat, List.mem_range.mpr (by omega), by omega⟩
  | ring n =>
    obtain rfl := dp_int hy
    have n3 : 3 ≤ n := ok.1
    have n60 : n ≤ 60 := ok.2
    have w4' : a < n := w4
    have w5' : b < n := w5
    rw [show Net.kind (.ring n) = Str.ofString "ring" from rfl] at hn ⊢
    rw [s_rl]
    wtm_at "s"
    refine k_eqS ?_
    rw [s_rt]
    wtm_at "s"
    refine kL (by simp) (fun fo H1 nf s1 e1 => ?_)
    wtm_at "s"
    refine whileW (fun k σ' H' => Same H H' ∧ ∃ (x : Int) (ns : List Int), σ' = [some (.ref an), some (.ref c), some (.int x), some (.int b), none, none, some (.ref fo), none] ∧ 0 ≤ x ∧ x < n ∧ H' fo = some (.lst (List.map V.int ns)) ∧ ns.length + k ≤ 61 ∧ ns.Nodup ∧ (∀ t ∈ ns, ¬ OnTie (.ring n) x b t) ∧ (∀ t, OnTie (.ring n) a b t ↔ t ∈ ns ∨ OnTie (.ring n) x b t) ∧ k = (up n x b).toNat) (m0 := (up n a b).toNat) ⟨s1, a, [], rfl, w2, w4', e1, by have := (ring_far w2 w4' w3 w5' w1); simp; omega, List.nodup_nil, (fun t z => by cases z), fun t => by simp, rfl⟩ ?_ ?_
    · rintro k σ' H2 ⟨s2, x, ns, rfl, x0, x1, e2, lk, nd, no, al, hk⟩
      have hn2 := same_seqT s2 hn
      wtm_at "s"
      refine k_itn (fun c1 => ?_) (fun c1 => ?_)
      · obtain ⟨f1, f2, f3, f4, f5⟩ := ring_far x0 x1 w3 w5' c1
        have onx : ∀ t, 0 ≤ t → t < n → (OnTie (.ring n) x b t ↔ t = x ∨ OnTie (.ring n) ((x + 1) % n) b t) ∧ (t = x → ¬ OnTie (.ring n) ((x + 1) % n) b t) := fun t t0 t1 => by
          obtain ⟨r1, r2⟩ := ring_step x0 x1 w3 w5' c1 t0 t1
          refine ⟨?_, fun z y => r2 z y.2.2⟩
          constructor
          · intro z
            rcases r1.mp z.2.2 with z | z
            · exact .inl z
            · exact .inr ⟨t0, t1, z⟩
          · rintro (z | z)
            · exact ⟨t0, t1, r1.mpr (.inl z)⟩
            · exact ⟨t0, t1, r1.mpr (.inr z.2.2)⟩
        have onself : OnTie (.ring n) x b x := ((onx x x0 x1).1).mpr (.inl rfl)
        wtm_at "s"
        refine k_tyL (sl e2) ?_
        wtm_at "s"
        refine k_append e2 (by rw [List.length_map]; omega) ?_
        have s3 := same_mut (o := .lst (List.map V.int ns ++ [.int x])) s2 nf
        have e3 : upd H2 fo (.lst (List.map V.int ns ++ [.int x])) fo = some (.lst (List.map V.int (ns ++ [x]))) := by rw [upd_same, List.map_append]; rfl
        generalize upd H2 fo (.lst (List.map V.int ns ++ [.int x])) = H3 at s3 e3 ⊢
        clear hn2
        wtm_at "s"
        refine ⟨(up n ((x + 1) % n) b).toNat, by omega, s3, (x + 1) % n, ns ++ [x], rfl, f2, f3, e3, by simp; omega, ?_, fun t ht => ?_, fun t => ?_, rfl⟩
        · rw [List.nodup_append]
          refine ⟨nd, by simp, fun t ht u hu z => ?_⟩
          rw [List.mem_singleton.mp hu] at z
          subst z
          exact no _ ht onself
        · rcases List.mem_append.mp ht with z | z
          · intro y
            exact no t z (((onx t y.1 y.2.1).1).mpr (.inr y))
          · obtain rfl := List.mem_singleton.mp z
            exact (onx t x0 x1).2 rfl
        · rw [al t, List.mem_append, List.mem_singleton]
          constructor
          · rintro (z | z)
            · exact .inl (.inl z)
            · rcases ((onx t z.1 z.2.1).1).mp z with y | y
              · exact .inl (.inr y)
              · exact .inr y
          · rintro ((z | z) | z)
            · exact .inl z
            · exact .inr (z ▸ onself)
            · exact .inr (((onx t z.1 z.2.1).1).mpr (.inr z))
      · wtm_at "s"
        refine k_sortedN (sl e2) (fun ns' p H3 pm srt np s3 e3 => ?_)
        have nd' : ns'.Nodup := pm.nodup_iff.mpr nd
        refine fin p ns' H3 (s2.free np) (s2.trans s3) e3 ?_ fun t => ?_
        · refine List.pairwise_iff_getElem.mpr fun i j hi hj hij => ?_
          have h1 := List.pairwise_iff_getElem.mp srt i j hi hj hij
          have h2 := List.pairwise_iff_getElem.mp nd' i j hi hj hij
          omega
        · rw [pm.mem_iff, al t]
          constructor
          · exact .inl
          · rintro (z | z)
            · exact z
            · exact absurd z.2.2 (by rw [c1, up_self]; have := up_nonneg w3 w5' z.1 z.2.1; omega)
    · intro σ H Q Q' hQ z
      obtain ⟨v, h1, w, h2, h3, k, h4, h5⟩ := z
      exact ⟨v, h1, w, h2, h3, k, h4, hQ _ _ h5⟩
  | tree ps =>
    obtain ⟨d, rfl, hdl⟩ := dp_ints hy
    have w4' : a < (ps.length : Int) + 1 := w4
    have w5' : b < (ps.length : Int) + 1 := w5
    have l60 := ok.2.1
    rw [show Net.kind (.tree ps) = Str.ofString "tree" from rfl] at hn ⊢
    rw [s_tl]
    wtm_at "s"
    refine k_eqS ?_
    rw [s_same]
    wtm_at "s"
    refine ⟨_, _, rfl, ps, a, hd, ok, rfl, w2, by omega, fun p1 us1 H1 np1 s1 e1 m1 => ?_⟩
    wtm_at "s"
    refine ⟨_, _, rfl, ps, b, dp_same s1 hd, ok, rfl, w3, by omega, fun p2 us2 H2 np2 s2 e2 m2 => ?_⟩
    have s02 := s1.trans s2
    have hn2 := same_seqT s02 hn
    have hd2 := s02.seq hdl
    have e12 := s2 _ _ e1
    wtm_at "s"
    rw [Int.toNat_natCast]
    refine lc_pureR (by omega) (fun i => if (decide (OnTie (.tree ps) a b (i : Nat))) = true then some (.int (0 + (i : Nat))) else none) ?_ (fun D H3 nD s3 eD => ?_)
    · intro i H' hi sm R R0 g1 g2
      have onI : OnTie (.tree ps) a b (i : Nat) ↔ decide ((0 + (i : Nat) : Int) ∈ us1) ≠ decide ((0 + (i : Nat) : Int) ∈ us2) := by
        show (0 ≤ ((i : Nat) : Int) ∧ ((i : Nat) : Int) < ps.length ∧ below ps (((i : Nat) : Int).toNat + 1) a.toNat ≠ below ps (((i : Nat) : Int).toNat + 1) b.toNat) ↔ _
        rw [Int.toNat_natCast, Int.zero_add]
        have d1 : decide (((i : Nat) : Int) ∈ us1) = below ps (i + 1) a.toNat := by rw [Bool.eq_iff_iff, decide_eq_true_eq]; exact m1 i
        have d2 : decide (((i : Nat) : Int) ∈ us2) = below ps (i + 1) b.toNat := by rw [Bool.eq_iff_iff, decide_eq_true_eq]; exact m2 i
        rw [d1, d2]
        exact ⟨fun z => z.2.2, fun z => ⟨by omega, by omega, z⟩⟩
      have sq1 := sl_at (K := K) e12 sm
      have sq2 := sl_at (K := K) e2 sm
      wtm_at "s"
      refine k_itn (fun c1 => ?_) (fun c1 => ?_)
      · wtm_at "s"
        exact g1 _ (if_pos (decide_eq_true (onI.mpr c1)))
      · exact g2 (if_neg (by rw [decide_eq_true_eq]; exact fun z => (onI.mp z) c1))
    · rw [keepI_fm] at eD
      exact q0 D H3 (s02.free nD) (s02.trans s3) eD
abbrev sp_law_ties (K : PySem.W.Frag) : Sp := fun vs H Q E => ∃ v0 v1, vs = [v0, v1] ∧ pr_law_ties K v0 v1 H Q E
theorem ok_law_ties (T : Txt K mg A) : FnOk P w K mg base CX0 2 A.a_law_ties A.d_law_ties ["_law_net_here", "_law_way_here"] (sp_law_ties K) := by
  refine T.F_law_ties.ok sc_law_ties (fun vs H Q E h => by obtain ⟨v0, v1, rfl, _⟩ := h; rfl) (fun cdv A0 outer s H vs Q E hr h => ?_)
  obtain ⟨v0, v1, rfl, h⟩ := h
  exact ⟨t_law_ties K, (pss_cons (ps_asg (pv 1) (pg_tup (by rfl) (pgs_cons (pg_name (i := 2) sc_law_ties.nd rfl (Or.inl rfl)) (pgs_cons (pg_name (i := 3) sc_law_ties.nd rfl (Or.inl rfl)) pgs_nil))))
      (pss_cons (ps_if (pt_cmpR op_eq (pe_ix ix_tup (pv 0) pe_int (fun _ _ => rfl)) pe_str (nomark _)) (pss_one (ps_ret (pe_listRg (by rfl) (by rfl) T.z_list (prg_2 (by rfl) T.z_range (pe_callB (q_min2 (by rfl)) (by rfl) T.z_min (by decide +kernel) (pa_cons (pv 2) (pa_cons (pv 3) pa_nil))) (pe_callB (q_max2 (by rfl)) (by rfl) T.z_max (by decide +kernel) (pa_cons (pv 2) (pa_cons (pv 3) pa_nil))))))) pss_nil)
      (pss_cons (ps_if (pt_cmpR op_eq (pe_ix ix_tup (pv 0) pe_int (fun _ _ => rfl)) pe_str (nomark _)) (pss_cons (ps_set (i := 4) sc_law_ties.nd rfl (Or.inr rfl) (pe_call (ok_law_up T) (hr.mono (by decide)) (by rfl) T.g_law_up T.F_law_up.kp T.b_law_up .nil pass0 (pa_cons (pv 0) (pa_cons (pv 2) pa_nil))))
      (pss_cons (ps_set (i := 5) sc_law_ties.nd rfl (Or.inr rfl) (pe_call (ok_law_up T) (hr.mono (by decide)) (by rfl) T.g_law_up T.F_law_up.kp T.b_law_up .nil pass0 (pa_cons (pv 0) (pa_cons (pv 3) pa_nil))))
      (pss_one (ps_ret (pe_lc (own := [("_law_tie", 7)]) (by rfl) sc_law_ties.nd (pi_range1 (by rfl) T.z_range (pa_cons (pe_callB q_len (by rfl) T.z_len (by decide +kernel) (pa_cons (pe_ix ix_tup (pv 0) pe_int (fun _ _ => rfl)) pa_nil)) pa_nil)) (blkOk_by (own := [("_law_tie", 7)]) (N := ["_law_net_here", "_law_way_here", "_law_a", "_law_b", "_law_one", "_law_other", "_law_found", "_law_tie"]) (sc := defScope s_law_ties) (by decide +kernel)) (fun _ _ _ _ _ => (pg_name (i := 7) sc_law_ties.nd rfl (Or.inl rfl))) (fun _ _ _ _ _ => (pts_one (pt_cmpR op_ne (pe_cmpR op_in_seq (pv 7) (pv 4) (by rfl)) (pe_cmpR op_in_seq (pv 7) (pv 5) (by rfl)) (nomark _)))) (fun _ _ _ _ _ => (pv 7))))))) pss_nil)
      (pss_cons (ps_set (i := 6) sc_law_ties.nd rfl (Or.inl rfl) (pe_lst pa_nil))
      (pss_cons (ps_while PassesOwn.never (pt_cmpR op_ne (pv 2) (pv 3) (nomark _))
      (pss_cons (ps_expr (pe_bm PySem.F.plainAttrs_list PySem.F.slot_list_append PySem.F.type_list_append mt_append (pv 6) (pa_cons (pv 2) pa_nil)))
      (pss_one (ps_set (i := 2) sc_law_ties.nd rfl (Or.inl rfl) (pe_op op_mod (pe_op op_add (pv 2) pe_int) (pe_ix ix_tup (pv 0) pe_int (fun _ _ => rfl)))))))
      (pss_one (ps_ret (pe_callB cr_sortedI (by rfl) T.z_sorted (by decide +kernel) (pa_cons (pv 6) pa_nil))))))))), pure_law_ties h⟩
def pr_law_meet (K : PySem.W.Frag) (v0 v1 : V) (H : Hp) (Q : VK) (_ : XK) : Prop := ∃ (a b : Addr) (xs ys : List Int), v0 = .ref a ∧ v1 = .ref b ∧ SqL K H a (xs.map V.int) ∧ SqL K H b (ys.map V.int) ∧ xs.length ≤ 1000 ∧ ∀ H', Same H H' → Q (.bl (commonB xs ys)) H'
def t_law_meet (K : PySem.W.Frag) : TS :=
  (tRet (tOp (rNeD K) (tLc (iList K (tVar 0)) (gName 2) (tTest (tOp (rIn K false) (tVar 2) (tVar 1))) (tVar 2) [2]) (tLst tNil)))
theorem pure_law_meet {v0 v1 : V} {H : Hp} {Q : VK} {E : XK} (h : pr_law_meet K v0 v1 H Q E) : t_law_meet K ⟨fun _ H' => Q .non H', Q, fun _ _ => False, fun _ _ => False⟩ [some v0, some v1, none] H := by
  obtain ⟨a, b, xs, ys, rfl, rfl, ha, hb, hz, q⟩ := h
  unfold t_law_meet
  wtm_at "s"
  refine lc_pure ha xs (by simp) (by omega) (fun t => if t ∈ ys then some (V.int t) else none) ?_ (fun D H1 nD s1 eD => ?_)
  · intro k z p H' hz hp sm R R0 h1 h2
    rw [List.getElem?_map, hp] at hz
    cases hz
    have hb' := sm.seq hb
    wtm_at "s"
    refine k_it (fun w => ?_) (fun w => ?_)
    · wtm_at "s"
      exact h1 _ (by rw [if_pos w])
    · exact h2 (by rw [if_neg w])
  · have ex : ∀ l : List Int, l.filterMap (fun t => if t ∈ ys then some (V.int t) else none) = (l.filter fun t => decide (t ∈ ys)).map V.int := fun l => by
      induction l with
      | nil => rfl
      | cons x r ih =>
        rw [List.filterMap_cons, List.filter_cons]
        by_cases c : x ∈ ys
        · rw [if_pos c, decide_eq_true c, if_pos rfl, List.map_cons, ih]
        · rw [if_neg c, decide_eq_false c, if_neg (by decide), ih]
    rw [ex] at eD
    wtm_at "s"
    refine kL (by simp) (fun l2 H2 nl2 s2 e2 => ?_)
    refine k_neD (n := 1) (dp_of_ints (sl (s2 _ _ eD))) (dp_of_ints (ns := []) (sl e2)) (sh_ints _) (sh_ints _) (by decide) ?_
    have e : (!PyData.eqv (dInts (xs.filter fun t => decide (t ∈ ys))) (dInts [])) = commonB xs ys := by
      rw [Bool.eq_iff_iff, common_iff]
      cases hf : xs.filter fun t => decide (t ∈ ys) with
      | nil =>
        rw [show PyData.eqv (dInts []) (dInts []) = true from rfl]
        refine ⟨fun z => (nomatch z), ?_⟩
        rintro ⟨t, h1, h2⟩
        have : t ∈ xs.filter fun t => decide (t ∈ ys) := List.mem_filter.mpr ⟨h1, decide_eq_true h2⟩
        rw [hf] at this; cases this
      | cons y r =>
        rw [show PyData.eqv (dInts (y :: r)) (dInts []) = false from rfl]
        refine ⟨fun _ => ?_, fun _ => rfl⟩
        have : y ∈ xs.filter fun t => decide (t ∈ ys) := by rw [hf]; exact List.mem_cons_self
        obtain ⟨h1, h2⟩ := List.mem_filter.mp this
        exact ⟨y, h1, of_decide_eq_true h2⟩
    rw [e]
    exact q H2 (s1.trans s2)
abbrev sp_law_meet (K : PySem.W.Frag) : Sp := fun vs H Q E => ∃ v0 v1, vs = [v0, v1] ∧ pr_law_meet K v0 v1 H Q E
theorem ok_law_meet (T : Txt K mg A) : FnOk P w K mg base CX0 1 A.a_law_meet A.d_law_meet ["_law_one", "_law_other"] (sp_law_meet K) := by
  refine T.F_law_meet.ok sc_law_meet (fun vs H Q E h => by obtain ⟨v0, v1, rfl, _⟩ := h; rfl) (fun cdv A0 outer s H vs Q E hr h => ?_)
  obtain ⟨v0, v1, rfl, h⟩ := h
  exact ⟨t_law_meet K, (pss_one (ps_ret (pe_cmpR (op_neD hr.units) (pe_lc (own := [("_law_tie", 2)]) (by rfl) sc_law_meet.nd (pi_list (pv 0)) (blkOk_by (own := [("_law_tie", 2)]) (N := ["_law_one", "_law_other", "_law_tie"]) (sc := defScope s_law_meet) (by decide +kernel)) (fun _ _ _ _ _ => (pg_name (i := 2) sc_law_meet.nd rfl (Or.inl rfl))) (fun _ _ _ _ _ => (pts_one (pt_cmpR op_in_seq (pv 2) (pv 1) (by rfl)))) (fun _ _ _ _ _ => (pv 2))) (pe_lst pa_nil) (nomark _)))), pure_law_meet h⟩


def pr_law_meets (K : PySem.W.Frag) (v0 v1 : V) (H : Hp) (Q : VK) (_ : XK) : Prop := ∃ (N : Net) (ws : List (Int × Int)) (S : List Addr), Dp K H v0 N.d ∧ N.ok ∧ Dp K H v1 (dPairs ws) ∧ ws.length ≤ 100 ∧ (∀ w ∈ ws, isWay N w.1 w.2) ∧ (∀ x ∈ S, H x ≠ none) ∧
  ∀ p H', H p = none → Same H H' → Dp K (hid S H') (.ref p) (.list ((meetF N ws).map dInts)) → Q (.ref p) H'
def t_law_meets (K : PySem.W.Frag) : TS :=
  (tSeq (tAsg (tLc (iList K (tVar 1)) (gName 5) tYes (tCall (sp_law_ties K) [] E0 (tCons (tVar 0) (tCons (tVar 5) tNil))) [5]) (gName 2))
    (tSeq (tAsg (tLst tNil) (gName 3))
    (tSeq (tFor (iRng1 (tCons (tCB (rLenX K) (tCons (tVar 1) tNil)) tNil)) (gName 4)
      (tDrop (tBM K "list" rAppend (tVar 3) (tCons (tLc (iRng1 (tCons (tCB (rLenX K) (tCons (tVar 1) tNil)) tNil)) (gName 6) (tAnd (tTest (tOp rNe (tVar 6) (tVar 4))) (tB (tCall (sp_law_meet K) [] E0 (tCons (tOp (rIxL K) (tVar 2) (tVar 4)) (tCons (tOp (rIxL K) (tVar 2) (tVar 6)) tNil))))) (tVar 6) [6]) tNil))))
    (tRet (tVar 3)))))
theorem pure_law_meets {v0 v1 : V} {H : Hp} {Q : VK} {E : XK} (hh : pr_law_meets K v0 v1 H Q E) : t_law_meets K ⟨fun _ H' => Q .non H', Q, fun _ _ => False, fun _ _ => False⟩ [some v0, some v1, none, none, none, none, none] H := by
  obtain ⟨N, ws, S, d0, ok, d1, hz, hok, hS, q⟩ := hh
  obtain ⟨b, ys, rfl, hb, dys⟩ := dp_list d1
  have ly : ys.length = ws.length := by rw [dpa_len dys, List.length_map]
  have tl60 := (ties_le ok).1
  have fS : ∀ {H1 : Hp} {p : Addr}, Same H H1 → H1 p = none → p ∉ S := fun s np z => hS _ z (s.free np)
  unfold t_law_meets
  wtm_at "s"
  refine lc_dp [] (fun x hx => by cases hx) hb ws ly (by omega) (fun w => dInts (tiesF N w)) ?_ (fun tl zs H1 ntl s1 e1 dz => ?_) (fun x σ' H q q' h hh => h _ _ hh)
  · intro i x w H' hx hw sm R g
    obtain ⟨w', c, hw', rfl, hc⟩ := dpairs_get dys hx
    rw [hw] at hw'
    cases hw'
    have wok := hok w (List.mem_of_getElem? hw)
    wtm_at "s"
    refine ⟨_, _, rfl, N, w.1, w.2, dp_same sm d0, ok, dp_of_pair (same_seqT sm hc), wok, fun p H2 np s2 e2 => ?_⟩
    refine g _ H2 s2 (fun S' hS' => ?_)
    exact dp_of_ints (sl (by rw [hid_ne (fun z => hS' p z np)]; exact e2))
  replace dz := dpa_same (hid_same _ _) dz
  have lz : zs.length = ws.length := by rw [dpa_len dz, List.length_map]
  have row : ∀ (k : Nat), k < ws.length → ∃ c, zs[k]? = some (.ref c) ∧ SqL K H1 c ((tiesF N (ws.getD k (0, 0))).map V.int) := fun k hk => by
    obtain ⟨v, hv, dv⟩ := dpa_get2 dz (i := k) (d := dInts (tiesF N (ws.getD k (0, 0)))) (by rw [List.getElem?_map, List.getElem?_eq_getElem hk, List.getD_eq_getElem?_getD, List.getElem?_eq_getElem hk]; rfl)
    obtain ⟨c, rfl, hc⟩ := dp_ints dv
    exact ⟨c, hv, hc⟩
  wtm_at "s"
  refine kL (by simp) (fun fo H2 nfo s2 e2 => ?_)
  have nf0 : H fo = none := s1.free nfo
  wtm_at "s"
  rw [ly, Int.toNat_natCast]
  refine forR (fun i σ' H' => Same H1 H' ∧ ∃ rs k4 k5 k6, σ' = [some v0, some (.ref b), some (.ref tl), some (.ref fo), k4, k5, k6] ∧ H' fo = some (.lst rs) ∧ rs.length = i ∧ DpAll K (hid (fo :: S) H') rs (((List.range i).map (meetRow N ws)).map dInts)) ⟨s2, [], _, _, _, rfl, e2, rfl, .nil⟩ ?_ ?_
  · rintro i σ' H3 hi ⟨s3, rs, k4, k5, k6, rfl, e3, lr, dr⟩
    have s03 := s1.trans s3
    have hb3 := s03.seq hb
    wtm_at "s"
    refine k_tyL (sl e3) ?_
    wtm_at "s"
    rw [ly, Int.toNat_natCast]
    refine lc_growR (by omega) (fun k => if (decide (k ≠ i) && meetB N (ws.getD i (0, 0)) (ws.getD k (0, 0))) = true then some (.int (0 + (k : Nat))) else none) ?_ (fun D H4 nD s4 eD => ?_)
    · intro k H' hk sm R R0 g1 g2
      obtain ⟨c1, hc1, hs1⟩ := row i hi
      obtain ⟨c2, hc2, hs2⟩ := row k hk
      have s1' := s3.trans sm
      have etl := s1' _ _ e1
      wtm_at "s"
      refine k_itn (fun c => ?_) (fun c => ?_)
      · have ck : k ≠ i := fun z => c (by rw [z])
        wtm_at "s"
        refine k_ixL (sl etl) (atI_nat' hc1) ?_
        wtm_at "s"
        refine k_ixL (sl etl) (atI_nat' hc2) ?_
        wtm_at "s"
        refine ⟨_, _, rfl, c1, c2, _, _, rfl, rfl, s1'.seq hs1, s1'.seq hs2, by have := tiesF_len N (ws.getD i (0, 0)); omega, fun H5 s5 => ?_⟩
        have em : commonB (tiesF N (ws.getD i (0, 0))) (tiesF N (ws.getD k (0, 0))) = meetB N (ws.getD i (0, 0)) (ws.getD k (0, 0)) := rfl
        rw [em]
        cases hm : meetB N (ws.getD i (0, 0)) (ws.getD k (0, 0)) with
        | true =>
          wtm_at "s"
          exact g1 _ H5 (by rw [hm, decide_eq_true ck]; rfl) s5
        | false =>
          wtm_at "s"
          exact g2 H5 (by rw [hm, decide_eq_true ck]; rfl) s5
      · have ck : k = i := by omega
        wtm_at "s"
        exact g2 H' (by rw [decide_eq_false (fun z => z ck)]; rfl) (Same.refl _)
    · rw [keepI_fm] at eD
      have eD' : H4 D = some (.lst ((meetRow N ws i).map V.int)) := eD
      have Dfo : D ≠ fo := fun z => by rw [z, e3] at nD; cases nD
      have DS : D ∉ fo :: S := fun z => by
        rcases List.mem_cons.mp z with z | z
        · exact Dfo z
        · exact fS s03 nD z
      wtm_at "s"
      refine k_append (s4 _ _ e3) (by omega) ?_
      refine ⟨same_mut (s3.trans s4) nfo, rs ++ [.ref D], _, _, _, rfl, upd_same, by simp [lr], ?_⟩
      rw [hid_upd (by simp), List.range_succ, List.map_append, List.map_append]
      exact dpa_app (dpa_same (hid_mono s4) dr) (.cons (dp_of_ints (sl (by rw [hid_ne DS]; exact eD'))) .nil)
  · rintro σ' H3 ⟨s3, rs, k4, k5, k6, rfl, e3, lr, dr⟩
    wtm_at "s"
    refine q fo H3 nf0 (s1.trans s3) (.lst (sl ?_) (dpa_same (hid_sub fun x hx => List.mem_cons_of_mem _ hx) dr))
    rw [hid_ne (fS (Same.refl _) nf0)]; exact e3
abbrev sp_law_meets (K : PySem.W.Frag) : Sp := fun vs H Q E => ∃ v0 v1, vs = [v0, v1] ∧ pr_law_meets K v0 v1 H Q E
theorem ok_law_meets (T : Txt K mg A) : FnOk P w K mg base CX0 3 A.a_law_meets A.d_law_meets ["_law_net_here", "_law_ways"] (sp_law_meets K) := by
  refine T.F_law_meets.ok sc_law_meets (fun vs H Q E h => by obtain ⟨v0, v1, rfl, _⟩ := h; rfl) (fun cdv A0 outer s H vs Q E hr h => ?_)
  obtain ⟨v0, v1, rfl, h⟩ := h
  exact ⟨t_law_meets K, (pss_cons (ps_set (i := 2) sc_law_meets.nd rfl (Or.inr rfl) (pe_lc (own := [("_law_way_here", 5)]) (by rfl) sc_law_meets.nd (pi_list (pv 1)) (blkOk_by (own := [("_law_way_here", 5)]) (N := ["_law_net_here", "_law_ways", "_law_ties_here", "_law_found", "_law_one", "_law_way_here", "_law_k"]) (sc := defScope s_law_meets) (by decide +kernel)) (fun _ _ _ _ _ => (pg_name (i := 5) sc_law_meets.nd rfl (Or.inl rfl))) (fun _ _ _ _ _ => pts_nil) (fun _ _ _ _ _ => (pe_call (ok_law_ties T) (hr.mono (by decide)) (by rfl) T.g_law_ties T.F_law_ties.kp T.b_law_ties .nil pass0 (pa_cons (pv 0) (pa_cons (pv 5) pa_nil))))))
      (pss_cons (ps_set (i := 3) sc_law_meets.nd rfl (Or.inl rfl) (pe_lst pa_nil))
      (pss_cons (ps_for PassesOwn.never rfl (pi_range1 (by rfl) T.z_range (pa_cons (pe_callB q_len (by rfl) T.z_len (by decide +kernel) (pa_cons (pv 1) pa_nil)) pa_nil)) (pg_name (i := 4) sc_law_meets.nd rfl (Or.inr rfl))
      (pss_one (ps_expr (pe_bm PySem.F.plainAttrs_list PySem.F.slot_list_append PySem.F.type_list_append mt_append (pv 3) (pa_cons (pe_lc (own := [("_law_k", 6)]) (by rfl) sc_law_meets.nd (pi_range1 (by rfl) T.z_range (pa_cons (pe_callB q_len (by rfl) T.z_len (by decide +kernel) (pa_cons (pv 1) pa_nil)) pa_nil)) (blkOk_by (own := [("_law_k", 6)]) (N := ["_law_net_here", "_law_ways", "_law_ties_here", "_law_found", "_law_one", "_law_way_here", "_law_k"]) (sc := defScope s_law_meets) (by decide +kernel)) (fun _ _ _ _ _ => (pg_name (i := 6) sc_law_meets.nd rfl (Or.inl rfl))) (fun _ _ _ _ _ => (pts_one (PW.pt (pw_and (pt_cmpR op_ne (pv 6) (pv 4) (nomark _)) (pw_and1 (pt_val (pe_call (ok_law_meet T) (hr.mono (by decide)) (by rfl) T.g_law_meet T.F_law_meet.kp T.b_law_meet .nil pass0 (pa_cons (pe_ix ix_list (pv 2) (pv 4) (fun _ _ => rfl)) (pa_cons (pe_ix ix_list (pv 2) (pv 6) (fun _ _ => rfl)) pa_nil))))))))) (fun _ _ _ _ _ => (pv 6))) pa_nil)))))
      (pss_one (ps_ret (pv 3)))))), pure_law_meets h⟩


def givC : Int := 7
def copyF (us : List Int) : Nat → List (Int × Int) → List (Int × Int)
  | 0, ws => ws
  | i + 1, ws => if us.getD (i + 3) 0 / 1024 % 4 = 1 then (copyF us i ws).set (i + 1) ((copyF us i ws).getD i (0, 0)) else copyF us i ws
def givenN (us : List Int) (most : Int) : Nat := (us.getD 1 0 % (most + 1)).toNat
def givenW (us : List Int) (N : Net) (most : Int) : List (Int × Int) := copyF us (givenN us most - 1) ((List.range (givenN us most)).map fun k => wayN N (us.getD (k + 2) 0))
theorem copyF_len (us : List Int) : ∀ i ws, (copyF us i ws).length = ws.length
  | 0, _ => rfl
  | i + 1, ws => by
    rw [copyF]
    split
    · rw [List.length_set, copyF_len us i ws]
    · exact copyF_len us i ws
theorem copyF_mem (us : List Int) {φ : Int × Int → Prop} : ∀ i ws, (∀ w ∈ ws, φ w) → i < ws.length ∨ i = 0 → ∀ w ∈ copyF us i ws, φ w
  | 0, _, h, _ => h
  | i + 1, ws, h, hi => by
    have ih := copyF_mem us i ws h (by omega)
    rw [copyF]
    split
    · intro w hw
      rcases List.mem_or_eq_of_mem_set hw with hw | rfl
      · exact ih w hw
      · refine ih _ ?_
        rw [List.getD_eq_getElem?_getD, List.getElem?_eq_getElem (by rw [copyF_len]; omega)]
        exact List.getElem_mem _
    · exact ih
theorem givenW_len (us : List Int) (N : Net) (most : Int) : (givenW us N most).length = givenN us most := by unfold givenW; rw [copyF_len]; simp
theorem givenW_ok {us : List Int} {N : Net} {most : Int} (ok : N.ok) : ∀ w ∈ givenW us N most, isWay N w.1 w.2 := by
  unfold givenW
  refine copyF_mem us _ _ (fun w hw => ?_) (by rw [List.length_map, List.length_range]; omega)
  obtain ⟨k, _, rfl⟩ := List.mem_map.mp hw
  exact wayN_ok ok
/-- ways in a list that is changed -/
theorem dpa_set {K : PySem.W.Frag} {H : Hp} : ∀ {vs : List V} {qs : List (Int × Int)} {v : V} {p : Int × Int} (k : Nat), DpAll K H vs (qs.map dPair) → Dp K H v (dPair p) → DpAll K H (vs.set k v) ((qs.set k p).map dPair)
  | _, [], _, _, k, h, _ => by cases h; exact .nil
  | _, a :: r, _, _, k, h, d => by
    cases h with | cons h1 h2 =>
      cases k with
      | zero => exact .cons d h2
      | succ k => exact .cons h1 (dpa_set k h2 d)
theorem rows_dpa {K : PySem.W.Frag} {H : Hp} {S : List Addr} {rs : List Addr} {f : Nat → Int × Int} (rows : ∀ (j : Nat) r, rs[j]? = some r → H r = some (.tup [.int (f j).1, .int (f j).2])) (np : ∀ r ∈ rs, r ∉ S) : DpAll K (hid S H) (rs.map V.ref) (((List.range rs.length).map f).map dPair) := by
  have key : ∀ (rs : List Addr) (ds : List (Int × Int)), ds.length = rs.length → (∀ (j : Nat) r p, rs[j]? = some r → ds[j]? = some p → H r = some (.tup [.int p.1, .int p.2])) → (∀ r ∈ rs, r ∉ S) → DpAll K (hid S H) (rs.map V.ref) (ds.map dPair) := by
    intro rs
    induction rs with
    | nil => intro ds h _ _; cases ds with
      | nil => exact .nil
      | cons y r => simp at h
    | cons r t ih => intro ds h rows np; cases ds with
      | nil => simp at h
      | cons y ds =>
        refine .cons (dp_of_pair (stp ?_)) (ih ds (by simpa using h) (fun j r y hr hy => rows (j + 1) r y (by simpa using hr) (by simpa using hy)) fun r hr => np r (List.mem_cons_of_mem _ hr))
        rw [hid_ne (np r List.mem_cons_self)]
        exact rows 0 r y rfl rfl
  refine key rs _ (by simp) (fun j r p hr hp => ?_) np
  have hj : j < rs.length := (List.getElem?_eq_some_iff.mp hr).1
  rw [List.getElem?_map, List.getElem?_range hj] at hp
  cases hp
  exact rows j r hr
def pr_law_given (K : PySem.W.Frag) (v0 v1 v2 : V) (H : Hp) (Q : VK) (_ : XK) : Prop := ∃ (a : Addr) (us : List Int) (k : Nat), v0 = .ref a ∧ SqL K H a (us.map V.int) ∧ (∀ u ∈ us, 0 ≤ u ∧ u < 2147483629) ∧ v1 = .str (Str.ofString "any") ∧ v2 = .int (k : Int) ∧ k ≤ 100 ∧ 2 + k ≤ us.length ∧
  ∀ p nt wl ys H', H p = none → H nt = none → H wl = none → Same H H' → H' p = some (.tup [.ref nt, .ref wl]) → Dp K H' (.ref nt) (netF (us.getD 0 0) givC).d → H' wl = some (.lst ys) → DpAll K H' ys ((givenW us (netF (us.getD 0 0) givC) (k : Int)).map dPair) → Q (.ref p) H'
def t_law_given (K : PySem.W.Frag) : TS :=
  (tSeq (tAsg (tCall (sp_law_net K) [] E0 (tCons (tOp xAdd (tOp xMul (tOp xDiv (tOp (rIxL K) (tVar 0) (tC (.int 0))) (tC (.int 3))) (tC (.int 3))) (tOp xMod (tOp (rIxL K) (tVar 0) (tC (.int 0))) (tC (.int 3)))) (tCons (tC (.int 7)) tNil))) (gName 3))
    (tSeq (tIfS (tTest (tOp rEq (tVar 1) (tC (.str (Str.ofString "ring"))))) (tAsg (tTup (tCons (tC (.str (Str.ofString "ring"))) (tCons (tOp xAdd (tC (.int 3)) (tOp xMod (tOp (rIxL K) (tVar 0) (tC (.int 0))) (tC (.int 7)))) tNil))) (gName 3)) tNext)
    (tSeq (tAsg (tLc (iRng1 (tCons (tOp xMod (tOp (rIxL K) (tVar 0) (tC (.int 1))) (tOp xAdd (tVar 2) (tC (.int 1)))) tNil)) (gName 5) tYes (tCall (sp_law_way K) [] E0 (tCons (tVar 3) (tCons (tOp (rIxL K) (tVar 0) (tOp xAdd (tC (.int 2)) (tVar 5))) tNil))) [5]) (gName 4))
    (tSeq (tFor (iRng2 (tCons (tC (.int 1)) (tCons (tCB (rLenX K) (tCons (tVar 4) tNil)) tNil))) (gName 5)
      (tIfS (tTest (tOp rEq (tOp xMod (tOp xDiv (tOp (rIxL K) (tVar 0) (tOp xAdd (tC (.int 2)) (tVar 5))) (tC (.int 1024))) (tC (.int 4))) (tC (.int 1)))) (tAsg (tOp (rIxL K) (tVar 4) (tOp xSub (tVar 5) (tC (.int 1)))) (gSub (tVar 4) (tVar 5) rSetL)) tNext))
    (tRet (tTup (tCons (tVar 3) (tCons (tVar 4) tNil))))))))
theorem pure_law_given {v0 v1 v2 : V} {H : Hp} {Q : VK} {E : XK} (hh : pr_law_given K v0 v1 v2 H Q E) : t_law_given K ⟨fun _ H' => Q .non H', Q, fun _ _ => False, fun _ _ => False⟩ [some v0, some v1, some v2, none, none, none] H := by
  obtain ⟨a, us, k, rfl, ha, hu, rfl, rfl, hk, hl, q⟩ := hh
  have ux : ∀ i : Nat, i < us.length → 0 ≤ us.getD i 0 ∧ us.getD i 0 < 2147483629 := fun i h1 => by
    refine hu _ ?_
    rw [List.getD_eq_getElem?_getD, List.getElem?_eq_getElem h1]; exact List.getElem_mem _
  have u0 := ux 0 (by omega)
  have ok : (netF (us.getD 0 0) givC).ok := netF_ok (by decide) (by decide)
  unfold t_law_given
  wtm_at "s"
  refine k_ixI ha (by decide) (by omega) ?_
  rw [show (0 : Int).toNat = 0 from rfl]
  wtm_at "s"
  refine k_ixI ha (by decide) (by omega) ?_
  rw [show (0 : Int).toNat = 0 from rfl]
  wtm_at "s"
  refine ⟨_, _, rfl, us.getD 0 0, givC, by rw [show us.getD 0 0 / 3 * 3 + us.getD 0 0 % 3 = us.getD 0 0 by omega], u0.1, by omega, rfl, by decide, by decide, fun nt H1 nnt s1 dN => ?_⟩
  generalize hN : netF (us.getD 0 0) givC = N at ok dN q
  wtm_at "s"
  refine k_eqS ?_
  rw [show decide (Str.ofString "any" = Str.ofString "ring") = false by decide +kernel]
  wtm_at "s"
  refine k_ixI (s1.seq ha) (by decide) (by omega) ?_
  rw [show (1 : Int).toNat = 1 from rfl]
  wtm_at "s"
  have m0 := Int.emod_nonneg (us.getD 1 0) (show (k : Int) + 1 ≠ 0 by omega)
  have m1 := Int.emod_lt_of_pos (us.getD 1 0) (show (0 : Int) < (k : Int) + 1 by omega)
  have hmN : (us.getD 1 0 % ((k : Int) + 1)).toNat = givenN us (k : Int) := rfl
  generalize hm : givenN us (k : Int) = m at hmN
  have hmk : m ≤ k := by omega
  rw [show us.getD 1 0 % ((k : Int) + 1) = (m : Int) by omega]
  wtm_at "s"
  rw [Int.toNat_natCast]
  refine lc_rowsR (by omega) (fun i : Nat => .tup [.int (wayN N (us.getD (i + 2) 0)).1, .int (wayN N (us.getD (i + 2) 0)).2]) ?_ ?_
  · intro i H' hi sm R R0 g
    wtm_at "s"
    have ei : (2 : Int) + (0 + (i : Nat)) = ((i + 2 : Nat) : Int) := by omega
    rw [ei]
    refine k_ixI ((s1.trans sm).seq ha) (by omega) (by omega) ?_
    rw [Int.toNat_natCast]
    obtain ⟨b0, b1⟩ := ux (i + 2) (by omega)
    wtm_at "s"
    refine ⟨_, _, rfl, N, _, dp_same sm dN, ok, rfl, b0, by omega, fun p H2 np s2 e2 => ?_⟩
    exact g p H2 np s2 e2
  · intro wl rs H2 nwl s2 e2 lr nd dn fr rows
    have w0 : H wl = none := s1.free nwl
    have d2 : DpAll K (hid [wl] H2) (rs.map V.ref) (((List.range rs.length).map fun i => wayN N (us.getD (i + 2) 0)).map dPair) := rows_dpa (f := fun i : Nat => wayN N (us.getD (i + 2) 0)) (fun j r hr => rows j r hr) (fun r hr z => dn (by rw [← List.mem_singleton.mp z]; exact hr))
    rw [lr] at d2
    have h2N : Dp K (hid [wl] H2) (.ref nt) N.d := dp_same (fun b o hb => by rw [hid_ne (fun z => by rw [List.mem_singleton.mp z, nwl] at hb; cases hb)]; exact s2 _ _ hb) dN
    wtm_at "s"
    rw [List.length_map, lr]
    refine k_rj2 (by omega) ?_
    refine forR (fun i σ' H' => Same H H' ∧ ∃ ys k5, σ' = [some (.ref a), some (.str (Str.ofString "any")), some (.int (k : Int)), some (.ref nt), some (.ref wl), k5] ∧ Dp K (hid [wl] H') (.ref nt) N.d ∧ H' wl = some (.lst ys) ∧ ys.length = m ∧ DpAll K (hid [wl] H') ys ((copyF us i ((List.range m).map fun i => wayN N (us.getD (i + 2) 0))).map dPair)) ⟨s1.trans s2, _, _, rfl, h2N, e2, by rw [List.length_map]; exact lr, d2⟩ ?_ ?_
    · rintro i σ' H3 hi ⟨s3, ys, k5, rfl, d3N, e3, ly, d3⟩
      have hi' : i + 1 < m := by omega
      have ha3 := s3.seq ha
      have ei : (2 : Int) + (1 + (i : Nat)) = ((i + 3 : Nat) : Int) := by omega
      wtm_at "s"
      rw [ei]
      obtain ⟨b0, b1⟩ := ux (i + 3) (by omega)
      refine k_ixI ha3 (by omega) (by omega) ?_
      rw [Int.toNat_natCast]
      wtm_at "s"
      refine k_it (fun c => ?_) (fun c => ?_)
      · have lc := copyF_len us i ((List.range m).map fun i => wayN N (us.getD (i + 2) 0))
        rw [List.length_map, List.length_range] at lc
        obtain ⟨v, hv, dv⟩ := dpa_get2 d3 (i := i) (d := dPair ((copyF us i ((List.range m).map fun i => wayN N (us.getD (i + 2) 0))).getD i (0, 0))) (by rw [List.getElem?_map, List.getD_eq_getElem?_getD, List.getElem?_eq_getElem (by omega)]; rfl)
        have hat : atI ys (1 + (i : Nat) - 1) = some v := by rw [show (1 : Int) + (i : Nat) - 1 = (i : Nat) by omega]; exact atI_nat hv
        wtm_at "s"
        refine k_ixL (sl e3) hat ?_
        wtm_at "s"
        have hj : ixN ys.length (1 + (i : Nat)) = some (i + 1) := by rw [ixN_of (by omega) (by omega)]; congr 1; omega
        refine k_setL e3 hj ?_
        refine ⟨same_mut s3 w0, _, _, rfl, by rw [hid_upd (by simp)]; exact d3N, upd_same, by rw [List.length_set]; exact ly, ?_⟩
        rw [hid_upd (by simp), copyF, if_pos c]
        exact dpa_set _ d3 dv
      · wtm_at "s"
        exact ⟨s3, ys, _, rfl, d3N, e3, ly, by rw [copyF, if_neg c]; exact d3⟩
    · rintro σ' H3 ⟨s3, ys, k5, rfl, d3N, e3, ly, d3⟩
      wtm_at "s"
      refine kT (by simp) (fun p H4 np s4 e4 => ?_)
      have em : ((m : Int) - 1).toNat = m - 1 := by omega
      rw [em] at d3
      refine q p nt wl ys H4 (s3.free np) nnt w0 (s3.trans s4) e4 (dp_same ((hid_same _ _).trans s4) d3N) (s4 _ _ e3) ?_
      unfold givenW
      rw [hm]
      exact dpa_same ((hid_same _ _).trans s4) d3
abbrev sp_law_given (K : PySem.W.Frag) : Sp := fun vs H Q E => ∃ v0 v1 v2, vs = [v0, v1, v2] ∧ pr_law_given K v0 v1 v2 H Q E
theorem ok_law_given (T : Txt K mg A) : FnOk P w K mg base CX0 3 A.a_law_given A.d_law_given ["_law_draws_here", "_law_kinds", "_law_most"] (sp_law_given K) := by
  refine T.F_law_given.ok sc_law_given (fun vs H Q E h => by obtain ⟨v0, v1, v2, rfl, _⟩ := h; rfl) (fun cdv A0 outer s H vs Q E hr h => ?_)
  obtain ⟨v0, v1, v2, rfl, h⟩ := h
  exact ⟨t_law_given K, (pss_cons (ps_set (i := 3) sc_law_given.nd rfl (Or.inr rfl) (pe_call (ok_law_net T) (hr.mono (by decide)) (by rfl) T.g_law_net T.F_law_net.kp T.b_law_net .nil pass0 (pa_cons (pe_op op_add (pe_op op_mul (pe_op op_fdiv (pe_ix ix_list (pv 0) pe_int (fun _ _ => rfl)) pe_int) pe_int) (pe_op op_mod (pe_ix ix_list (pv 0) pe_int (fun _ _ => rfl)) pe_int)) (pa_cons pe_int pa_nil))))
      (pss_cons (ps_if (pt_cmpR op_eq (pv 1) pe_str (nomark _)) (pss_one (ps_set (i := 3) sc_law_given.nd rfl (Or.inr rfl) (pe_tup (pa_cons pe_str (pa_cons (pe_op op_add pe_int (pe_op op_mod (pe_ix ix_list (pv 0) pe_int (fun _ _ => rfl)) pe_int)) pa_nil))))) pss_nil)
      (pss_cons (ps_setLc (i := 4) (own := [("_law_k", 5)]) (by rfl) sc_law_given.nd rfl rfl (sw_true rfl rfl rfl (by decide +kernel)) (pi_range1 (by rfl) T.z_range (pa_cons (pe_op op_mod (pe_ix ix_list (pv 0) pe_int (fun _ _ => rfl)) (pe_op op_add (pv 2) pe_int)) pa_nil)) (blkOk_by (own := [("_law_k", 5)]) (N := ["_law_draws_here", "_law_kinds", "_law_most", "_law_net_here", "_law_ways", "_law_k"]) (sc := defScope s_law_given) (by decide +kernel)) (fun _ _ _ _ _ => (pg_name (i := 5) sc_law_given.nd rfl (Or.inl rfl))) (fun _ _ _ _ _ => pts_nil) (fun _ _ _ _ _ => (pe_call (ok_law_way T) (hr.mono (by decide)) (by rfl) T.g_law_way T.F_law_way.kp T.b_law_way .nil pass0 (pa_cons (pv 3) (pa_cons (pe_ix ix_list (pv 0) (pe_op op_add pe_int (pv 5)) (fun _ _ => rfl)) pa_nil)))))
      (pss_cons (ps_for PassesOwn.never rfl (pi_range2 (by rfl) T.z_range (pa_cons pe_int (pa_cons (pe_callB q_len (by rfl) T.z_len (by decide +kernel) (pa_cons (pv 4) pa_nil)) pa_nil))) (pg_name (i := 5) sc_law_given.nd rfl (Or.inl rfl))
      (pss_one (ps_if (pt_cmpR op_eq (pe_op op_mod (pe_op op_fdiv (pe_ix ix_list (pv 0) (pe_op op_add pe_int (pv 5)) (fun _ _ => rfl)) pe_int) pe_int) pe_int (nomark _)) (pss_one (ps_asg (pe_ix ix_list (pv 4) (pe_op op_sub (pv 5) pe_int) (fun _ _ => rfl)) (pg_sub (pv 4) (pv 5) set_list))) pss_nil)))
      (pss_one (ps_ret (pe_tup (pa_cons (pv 3) (pa_cons (pv 4) pa_nil))))))))), pure_law_given h⟩


def pr_law_enough (K : PySem.W.Frag) (d : Nat) (v0 v1 v2 : V) (H : Hp) (Q : VK) (_ : XK) : Prop := ∃ (M : List (List Int)) (h : Int) (b : Addr) (hs : List Int), Dp K H v0 (.list (M.map dInts)) ∧ M.length ≤ 100 ∧ Adj M ∧ v1 = .int h ∧ -1000 ≤ h ∧ h ≤ 10000 ∧ v2 = .ref b ∧ H b = some (.lst (hs.map V.int)) ∧ hs.length ≤ M.length ∧ M.length - hs.length < d ∧ ∀ H', Same H H' → Q (.bl (enoughF M h (M.length - hs.length) hs)) H'
def spd_law_enough (K : PySem.W.Frag) : Nat → Sp
  | 0 => fun _ _ _ _ => False
  | d + 1 => fun vs H Q E => ∃ v0 v1 v2, vs = [v0, v1, v2] ∧ pr_law_enough K d v0 v1 v2 H Q E
def t_law_enough (K : PySem.W.Frag) (sp : Sp) : TS :=
  (tSeq (tAsg (tCB (rLenX K) (tCons (tVar 2) tNil)) (gName 3))
    (tSeq (tIfS (tTest (tOp rEq (tVar 3) (tCB (rLenX K) (tCons (tVar 0) tNil)))) (tRet (tC (.bl true))) tNext)
    (tSeq (tFor (iRng1 (tCons (tCB rMin2 (tCons (tVar 1) (tCons (tOp xAdd (tLenU K (tVar 2)) (tC (.int 1))) tNil))) tNil)) (gName 4)
      (tIfS (tTest (tOp (rIn K true) (tVar 4) (tLc (iList K (tOp (rIxL K) (tVar 0) (tVar 3))) (gName 5) (tTest (tOp xLt (tVar 5) (tVar 3))) (tOp (rIxL K) (tVar 2) (tVar 5)) [5]))) (tIfS (tB (tCall sp [] E0 (tCons (tVar 0) (tCons (tVar 1) (tCons (tOp rCat (tVar 2) (tLst (tCons (tVar 4) tNil))) tNil))))) (tRet (tC (.bl true))) tNext) tNext))
    (tRet (tC (.bl false))))))
theorem pure_law_enough {d : Nat} {v0 v1 v2 : V} {H : Hp} {Q : VK} {E : XK} (hh : pr_law_enough K d v0 v1 v2 H Q E) : t_law_enough K (spd_law_enough K d) ⟨fun _ H' => Q .non H', Q, fun _ _ => False, fun _ _ => False⟩ [some v0, some v1, some v2, none, none, none] H := by
  obtain ⟨M, h, b, hs, d0, hm, A, rfl, h0, h1, rfl, hb, lh, hd, q⟩ := hh
  obtain ⟨mb, ms, rfl, hmb, dms⟩ := dp_list d0
  have lms : ms.length = M.length := by rw [dpa_len dms, List.length_map]
  unfold t_law_enough
  wtm_at "s"
  refine k_it (fun c1 => ?_) (fun c1 => ?_)
  · wtm_at "s"
    have := q H (Same.refl _)
    rw [show M.length - hs.length = 0 by omega] at this
    exact this
  have lh' : hs.length < M.length := by omega
  obtain ⟨r, hr⟩ : ∃ r, M.length - hs.length = r + 1 := ⟨M.length - hs.length - 1, by omega⟩
  obtain ⟨d, rfl⟩ : ∃ d', d = d' + 1 := ⟨d - 1, by omega⟩
  obtain ⟨rw', hrw, hrs⟩ := dp_row hmb dms lh'
  have lrow : (M.getD hs.length []).length ≤ 100 := by
    rw [List.getD_eq_getElem?_getD, List.getElem?_eq_getElem lh']
    have := A.len _ (List.getElem_mem lh')
    show M[hs.length].length ≤ 100
    omega
  have hul := unl_le hs
  rw [hr] at q
  let P : Nat → Bool := fun c => !blockedB M hs (c : Int) && enoughF M h r (hs ++ [(c : Int)])
  have eP : enoughF M h (r + 1) hs = (List.range (min h ((Cm.unl hs : Nat) + 1)).toNat).any P := rfl
  rw [eP] at q
  wtm_at "s"
  refine ⟨b, hs, rfl, sl hb, by omega, ?_⟩
  wtm_at "s"
  have em : (if ((unl hs : Nat) : Int) + 1 < h then ((unl hs : Nat) : Int) + 1 else h) = min h ((unl hs : Nat) + 1) := by split <;> omega
  rw [em]
  wtm_at "s"
  refine forR (fun i σ' H' => Same H H' ∧ (∃ k4 k5, σ' = [some (.ref mb), some (.int h), some (.ref b), some (.int (hs.length : Nat)), k4, k5]) ∧ ∀ j, j < i → P j = false) ⟨Same.refl _, ⟨_, _, rfl⟩, fun j hj => by omega⟩ ?_ ?_
  · rintro i σ' H1 hi ⟨s1, ⟨k4, k5, rfl⟩, ih⟩
    have hmb1 := s1.seq hmb
    have yes : P i = true → ∀ H', Same H H' → Q (.bl true) H' := fun hp H' s => by
      have := q H' s
      rwa [List.any_eq_true.mpr ⟨i, List.mem_range.mpr hi, hp⟩] at this
    have goon : P i = false → ∀ j, j < i + 1 → P j = false := fun hp j hj => by
      by_cases z : j = i
      · rw [z]; exact hp
      · exact ih j (by omega)
    wtm_at "s"
    refine k_ixL hmb1 (atI_nat hrw) ?_
    wtm_at "s"
    refine lc_pure (s1.seq hrs) (M.getD hs.length []) (by simp) (by omega) (fun o => if o < (hs.length : Int) then some (.int (hs.getD o.toNat 0)) else none) ?_ (fun D H2 nD s2 eD => ?_)
    · intro j x o H' hx ho sm R R0 g1 g2
      rw [List.getElem?_map, ho] at hx
      cases hx
      have rg := A.rng hs.length o (List.mem_of_getElem? ho)
      have hb' : SqL K H' b (hs.map V.int) := sl ((s1.trans sm) _ _ hb)
      wtm_at "s"
      refine k_it (fun c => ?_) (fun c => ?_)
      · wtm_at "s"
        refine k_ixI hb' rg.1 c ?_
        exact g1 _ (if_pos c)
      · exact g2 (if_neg c)
    · have ex : (M.getD hs.length []).filterMap (fun o => if o < (hs.length : Int) then some (V.int (hs.getD o.toNat 0)) else none) = (((M.getD hs.length []).filter fun o => decide (o < (hs.length : Int))).map fun o => hs.getD o.toNat 0).map V.int := by
        generalize M.getD hs.length [] = l
        induction l with
        | nil => rfl
        | cons x t ih =>
          rw [List.filterMap_cons, List.filter_cons]
          by_cases c : x < (hs.length : Int)
          · rw [if_pos c, decide_eq_true c, if_pos rfl, List.map_cons, List.map_cons, ih]
          · rw [if_neg c, decide_eq_false c, if_neg (by decide), ih]
      rw [ex] at eD
      have bl : decide ((0 : Int) + (i : Nat) ∈ ((M.getD hs.length []).filter fun o => decide (o < (hs.length : Int))).map fun o => hs.getD o.toNat 0) = blockedB M hs (i : Int) := by
        rw [Int.zero_add, Bool.eq_iff_iff, decide_eq_true_eq]
        unfold blockedB
        rw [List.any_eq_true, List.mem_map]
        constructor
        · rintro ⟨o, ho, e⟩
          obtain ⟨h1, h2⟩ := List.mem_filter.mp ho
          exact ⟨o, h1, by rw [h2, decide_eq_true e]; rfl⟩
        · rintro ⟨o, ho, e⟩
          rw [Bool.and_eq_true] at e
          exact ⟨o, List.mem_filter.mpr ⟨ho, e.1⟩, of_decide_eq_true e.2⟩
      refine k_notInI (sl eD) ?_
      rw [bl]
      have s02 := s1.trans s2
      cases hbl : blockedB M hs (i : Int) with
      | true =>
        wtm_at "s"
        exact ⟨s02, ⟨_, _, rfl⟩, goon (by show (!blockedB M hs (i : Int) && _) = false; rw [hbl]; rfl)⟩
      | false =>
        have pi : P i = enoughF M h r (hs ++ [(i : Int)]) := by show (!blockedB M hs (i : Int) && _) = _; rw [hbl]; rfl
        wtm_at "s"
        refine kL (by simp) (fun l3 H3 nl3 s3 e3 => ?_)
        refine k_catN ((s02.trans s3) _ _ hb) e3 (by simp; omega) (fun l4 H4 nl4 s4 e4 => ?_)
        have s04 := s02.trans (s3.trans s4)
        have e4' : H4 l4 = some (.lst ((hs ++ [(i : Int)]).map V.int)) := by rw [e4, List.map_append, Int.zero_add]; rfl
        wtm_at "s"
        have hr2 : M.length - (hs ++ [(i : Int)]).length = r := by simp; omega
        refine ⟨_, _, _, rfl, M, h, l4, hs ++ [(i : Int)], dp_same s04 d0, hm, A, rfl, h0, h1, rfl, e4', by simp; omega, by omega, fun H5 s5 => ?_⟩
        rw [hr2]
        have s05 := s04.trans s5
        cases he : enoughF M h r (hs ++ [(i : Int)]) with
        | true =>
          wtm_at "s"
          exact yes (by rw [pi, he]) H5 s05
        | false =>
          wtm_at "s"
          exact ⟨s05, ⟨_, _, rfl⟩, goon (by rw [pi, he])⟩
  · rintro σ' H1 ⟨s1, ⟨k4, k5, rfl⟩, ih⟩
    have := q H1 s1
    have na : (List.range (min h ((Cm.unl hs : Nat) + 1)).toNat).any P = false := by
      cases z : (List.range (min h ((Cm.unl hs : Nat) + 1)).toNat).any P with
      | false => rfl
      | true =>
        obtain ⟨j, hj, e⟩ := List.any_eq_true.mp z
        rw [ih j (List.mem_range.mp hj)] at e
        cases e
    rw [na] at this
    wtm_at "s"
    exact this
theorem okd_law_enough (T : Txt K mg A) : ∀ d : Nat, FnOk P w K mg base CX0 (1 + d) A.a_law_enough A.d_law_enough ["_law_meets_here", "_law_h", "_law_given_here"] (spd_law_enough K d)
  | 0 => T.F_law_enough.ok sc_law_enough (fun vs H Q E h => False.elim h) (fun cdv A0 outer s H vs Q E hr h => False.elim h)
  | d + 1 => by
    refine T.F_law_enough.ok sc_law_enough (fun vs H Q E h => by obtain ⟨v0, v1, v2, rfl, _⟩ := h; rfl) (fun cdv A0 outer s H vs Q E hr h => ?_)
    obtain ⟨v0, v1, v2, rfl, h⟩ := h
    exact ⟨t_law_enough K (spd_law_enough K d), (pss_cons (ps_set (i := 3) sc_law_enough.nd rfl (Or.inr rfl) (pe_callB q_len (by rfl) T.z_len (by decide +kernel) (pa_cons (pv 2) pa_nil)))
      (pss_cons (ps_if (pt_cmpR op_eq (pv 3) (pe_callB q_len (by rfl) T.z_len (by decide +kernel) (pa_cons (pv 0) pa_nil)) (nomark _)) (pss_one (ps_ret pe_bl)) pss_nil)
      (pss_cons (ps_for PassesOwn.never rfl (pi_range1 (by rfl) T.z_range (pa_cons (pe_callB (q_min2 (by rfl)) (by rfl) T.z_min (by decide +kernel) (pa_cons (pv 1) (pa_cons (pe_op op_add (pe_lenU (by rfl) (by rfl) T.z_len (by rfl) T.z_set (pv 2)) pe_int) pa_nil))) pa_nil)) (pg_name (i := 4) sc_law_enough.nd rfl (Or.inl rfl))
      (pss_one (ps_if (pt_cmpR op_notIn_seq (pv 4) (pe_lc (own := [("_law_other", 5)]) (by rfl) sc_law_enough.nd (pi_list (pe_ix ix_list (pv 0) (pv 3) (fun _ _ => rfl))) (blkOk_by (own := [("_law_other", 5)]) (N := ["_law_meets_here", "_law_h", "_law_given_here", "_law_k", "_law_hue", "_law_other"]) (sc := defScope s_law_enough) (by decide +kernel)) (fun _ _ _ _ _ => (pg_name (i := 5) sc_law_enough.nd rfl (Or.inl rfl))) (fun _ _ _ _ _ => (pts_one (pt_cmpR op_lt (pv 5) (pv 3) (nomark _)))) (fun _ _ _ _ _ => (pe_ix ix_list (pv 2) (pv 5) (fun _ _ => rfl)))) (by rfl)) (pss_one (ps_if (pt_val (pe_call (okd_law_enough T d) (hr.mono (by first | decide | omega | (simp only [Nat.add_eq]; omega))) (by rfl) T.g_law_enough T.F_law_enough.kp T.b_law_enough .nil pass0 (pa_cons (pv 0) (pa_cons (pv 1) (pa_cons (pe_op op_cat (pv 2) (pe_lst (pa_cons (pv 4) pa_nil))) pa_nil))))) (pss_one (ps_ret pe_bl)) pss_nil)) pss_nil)))
      (pss_one (ps_ret pe_bl))))), pure_law_enough h⟩
abbrev sp_law_enough (K : PySem.W.Frag) : Sp := fun vs H Q E => ∃ v0 v1 v2, vs = [v0, v1, v2] ∧ ∃ d : Nat, d < 12 ∧ pr_law_enough K d v0 v1 v2 H Q E
theorem ok_law_enough (T : Txt K mg A) : FnOk P w K mg base CX0 13 A.a_law_enough A.d_law_enough ["_law_meets_here", "_law_h", "_law_given_here"] (sp_law_enough K) := by
  refine T.F_law_enough.ok sc_law_enough (fun vs H Q E h => by obtain ⟨v0, v1, v2, rfl, _⟩ := h; rfl) (fun cdv A0 outer s H vs Q E hr h => ?_)
  obtain ⟨v0, v1, v2, rfl, d, hd, h⟩ := h
  exact ⟨t_law_enough K (spd_law_enough K d), (pss_cons (ps_set (i := 3) sc_law_enough.nd rfl (Or.inr rfl) (pe_callB q_len (by rfl) T.z_len (by decide +kernel) (pa_cons (pv 2) pa_nil)))
      (pss_cons (ps_if (pt_cmpR op_eq (pv 3) (pe_callB q_len (by rfl) T.z_len (by decide +kernel) (pa_cons (pv 0) pa_nil)) (nomark _)) (pss_one (ps_ret pe_bl)) pss_nil)
      (pss_cons (ps_for PassesOwn.never rfl (pi_range1 (by rfl) T.z_range (pa_cons (pe_callB (q_min2 (by rfl)) (by rfl) T.z_min (by decide +kernel) (pa_cons (pv 1) (pa_cons (pe_op op_add (pe_lenU (by rfl) (by rfl) T.z_len (by rfl) T.z_set (pv 2)) pe_int) pa_nil))) pa_nil)) (pg_name (i := 4) sc_law_enough.nd rfl (Or.inl rfl))
      (pss_one (ps_if (pt_cmpR op_notIn_seq (pv 4) (pe_lc (own := [("_law_other", 5)]) (by rfl) sc_law_enough.nd (pi_list (pe_ix ix_list (pv 0) (pv 3) (fun _ _ => rfl))) (blkOk_by (own := [("_law_other", 5)]) (N := ["_law_meets_here", "_law_h", "_law_given_here", "_law_k", "_law_hue", "_law_other"]) (sc := defScope s_law_enough) (by decide +kernel)) (fun _ _ _ _ _ => (pg_name (i := 5) sc_law_enough.nd rfl (Or.inl rfl))) (fun _ _ _ _ _ => (pts_one (pt_cmpR op_lt (pv 5) (pv 3) (nomark _)))) (fun _ _ _ _ _ => (pe_ix ix_list (pv 2) (pv 5) (fun _ _ => rfl)))) (by rfl)) (pss_one (ps_if (pt_val (pe_call (okd_law_enough T d) (hr.mono (by first | decide | omega | (simp only [Nat.add_eq]; omega))) (by rfl) T.g_law_enough T.F_law_enough.kp T.b_law_enough .nil pass0 (pa_cons (pv 0) (pa_cons (pv 1) (pa_cons (pe_op op_cat (pv 2) (pe_lst (pa_cons (pv 4) pa_nil))) pa_nil))))) (pss_one (ps_ret pe_bl)) pss_nil)) pss_nil)))
      (pss_one (ps_ret pe_bl))))), pure_law_enough h⟩


def pr_law_many (K : PySem.W.Frag) (v0 : V) (H : Hp) (Q : VK) (_ : XK) : Prop := ∃ (a : Addr) (gs : List (Int × Int)), v0 = .ref a ∧ H a = some (.dK (dS gs)) ∧ Uni gs ∧ gs.length ≤ 1000 ∧ ∀ H', Same H H' → Q (.int (unl (gs.map (·.2)) : Nat)) H'
def t_law_many (K : PySem.W.Frag) : TS :=
  (tRet (tLenU K (tLockE (tLc (iKeys (tVar 0)) (gName 1) tYes (tDGet (tVar 0) (tVar 1)) [1]))))
theorem pure_law_many {v0 : V} {H : Hp} {Q : VK} {E : XK} (hh : pr_law_many K v0 H Q E) : t_law_many K ⟨fun _ H' => Q .non H', Q, fun _ _ => False, fun _ _ => False⟩ [some v0, none] H := by
  obtain ⟨a, gs, rfl, ha, un, hl, q⟩ := hh
  unfold t_law_many
  wtm_at "s"
  refine lc_vals ha ⟨rfl, rfl⟩ (fun _ => rfl) (fun _ => rfl) (fun _ => rfl) (by unfold dS; simp; omega) un.vals (fun D H1 nD s1 eD => ?_)
  rw [dS_snd] at eD
  refine ⟨D, _, rfl, sl eD, by simp; omega, ?_⟩
  exact q H1 s1
abbrev sp_law_many (K : PySem.W.Frag) : Sp := fun vs H Q E => ∃ v0, vs = [v0] ∧ pr_law_many K v0 H Q E
theorem ok_law_many (T : Txt K mg A) : FnOk P w K mg base CX0 1 A.a_law_many A.d_law_many ["_law_given_here"] (sp_law_many K) := by
  refine T.F_law_many.ok sc_law_many (fun vs H Q E h => by obtain ⟨v0, rfl, _⟩ := h; rfl) (fun cdv A0 outer s H vs Q E hr h => ?_)
  obtain ⟨v0, rfl, h⟩ := h
  exact ⟨t_law_many K, (pss_one (ps_ret (pe_lenU (by rfl) (by rfl) T.z_len (by rfl) T.z_set (pe_lock (pe_lc (own := [("_law_k", 1)]) (by rfl) sc_law_many.nd (pi_keys (pv 0)) (blkOk_by (own := [("_law_k", 1)]) (N := ["_law_given_here", "_law_k"]) (sc := defScope s_law_many) (by decide +kernel)) (fun _ _ _ _ _ => (pg_name (i := 1) sc_law_many.nd rfl (Or.inl rfl))) (fun _ _ _ _ _ => pts_nil) (fun _ _ _ _ _ => (pe_dget (Nat.lt_of_le_of_lt (Nat.add_le_add_left (by decide) _) hr.units) (pv 0) (pv 1) (fun _ _ => rfl)))))))), pure_law_many h⟩
def pr_law_stuck (K : PySem.W.Frag) (v0 v1 v2 v3 : V) (H : Hp) (Q : VK) (_ : XK) : Prop := ∃ (M : List (List Int)) (a : Addr) (gs : List (Int × Int)) (k c : Int), Dp K H v0 (.list (M.map dInts)) ∧ (∀ r ∈ M, r.length ≤ 1000) ∧ v1 = .ref a ∧ H a = some (.dK (dS gs)) ∧ v2 = .int k ∧ 0 ≤ k ∧ k < M.length ∧ v3 = .int c ∧ ∀ H', Same H H' → Q (.bl (stuckB M gs k c)) H'
def t_law_stuck (K : PySem.W.Frag) : TS :=
  (tRet (tOp (rIn K false) (tVar 3) (tLc (iList K (tOp (rIxL K) (tVar 0) (tVar 2))) (gName 4) (tB (tDIn (tVar 4) (tVar 1))) (tDGet (tVar 1) (tVar 4)) [4])))
theorem pure_law_stuck {v0 v1 v2 v3 : V} {H : Hp} {Q : VK} {E : XK} (hh : pr_law_stuck K v0 v1 v2 v3 H Q E) : t_law_stuck K ⟨fun _ H' => Q .non H', Q, fun _ _ => False, fun _ _ => False⟩ [some v0, some v1, some v2, some v3, none] H := by
  obtain ⟨M, a, gs, k, c, d0, hr, rfl, ha, rfl, k0, k1, rfl, q⟩ := hh
  obtain ⟨b, xs, rfl, hb, dx⟩ := dp_list d0
  obtain ⟨rw', hrw, hrs⟩ := dp_row hb dx (show k.toNat < M.length by omega)
  have hlr : (M.getD k.toNat []).length ≤ 1000 := by
    rw [List.getD_eq_getElem?_getD, List.getElem?_eq_getElem (by omega)]
    exact hr _ (List.getElem_mem _)
  unfold t_law_stuck
  wtm_at "s"
  refine k_ixL hb (show atI xs k = some (.ref rw') by rw [show k = ((k.toNat : Nat) : Int) by omega]; exact atI_nat hrw) ?_
  wtm_at "s"
  refine lc_pure hrs (M.getD k.toNat []) (by simp) (by omega) (fun o => (lookS gs o).map V.int) ?_ (fun D H1 nD s1 eD => ?_)
  · intro i x o H' hx ho sm R R0 g1 g2
    rw [List.getElem?_map, ho] at hx
    cases hx
    wtm_at "s"
    refine k_iD (sm _ _ ha) ?_
    rw [dS_val]
    cases hk : lookS gs o with
    | none =>
      simp only [Option.map_none, Option.isSome_none, Bool.false_eq_true, if_false]
      wtm_at "s"
      exact g2 (by rw [hk]; rfl)
    | some u =>
      simp only [Option.map_some, Option.isSome_some, Bool.false_eq_true, if_false]
      wtm_at "s"
      refine k_gD1 (.inl (sm _ _ ha)) (by rw [dS_val, hk]; rfl) ?_
      exact g1 _ (by rw [hk]; rfl)
  · have ex : (M.getD k.toNat []).filterMap (fun o => (lookS gs o).map V.int) = ((M.getD k.toNat []).filterMap (lookS gs)).map V.int := by
      rw [List.map_filterMap]
    rw [ex] at eD
    refine k_inI (sl eD) ?_
    have es : decide (c ∈ (M.getD k.toNat []).filterMap (lookS gs)) = stuckB M gs k c := by
      rw [Bool.eq_iff_iff, decide_eq_true_eq, List.mem_filterMap]
      unfold stuckB
      rw [List.any_eq_true]
      constructor
      · rintro ⟨o, ho, e⟩; exact ⟨o, ho, decide_eq_true e⟩
      · rintro ⟨o, ho, e⟩; exact ⟨o, ho, of_decide_eq_true e⟩
    rw [es]
    exact q H1 s1
abbrev sp_law_stuck (K : PySem.W.Frag) : Sp := fun vs H Q E => ∃ v0 v1 v2 v3, vs = [v0, v1, v2, v3] ∧ pr_law_stuck K v0 v1 v2 v3 H Q E
theorem ok_law_stuck (T : Txt K mg A) : FnOk P w K mg base CX0 1 A.a_law_stuck A.d_law_stuck ["_law_meets_here", "_law_given_here", "_law_k", "_law_hue"] (sp_law_stuck K) := by
  refine T.F_law_stuck.ok sc_law_stuck (fun vs H Q E h => by obtain ⟨v0, v1, v2, v3, rfl, _⟩ := h; rfl) (fun cdv A0 outer s H vs Q E hr h => ?_)
  obtain ⟨v0, v1, v2, v3, rfl, h⟩ := h
  exact ⟨t_law_stuck K, (pss_one (ps_ret (pe_cmpR op_in_seq (pv 3) (pe_lc (own := [("_law_other", 4)]) (by rfl) sc_law_stuck.nd (pi_list (pe_ix ix_list (pv 0) (pv 2) (fun _ _ => rfl))) (blkOk_by (own := [("_law_other", 4)]) (N := ["_law_meets_here", "_law_given_here", "_law_k", "_law_hue", "_law_other"]) (sc := defScope s_law_stuck) (by decide +kernel)) (fun _ _ _ _ _ => (pg_name (i := 4) sc_law_stuck.nd rfl (Or.inl rfl))) (fun _ _ _ _ _ => (pts_one (pt_cmp (pc_din (Nat.lt_of_le_of_lt (Nat.add_le_add_left (by decide) _) hr.units) (pv 4) (pv 1)) (by rfl)))) (fun _ _ _ _ _ => (pe_dget (Nat.lt_of_le_of_lt (Nat.add_le_add_left (by decide) _) hr.units) (pv 1) (pv 4) (fun _ _ => rfl)))) (by rfl)))), pure_law_stuck h⟩


def pr_law_whole (K : PySem.W.Frag) (v0 : V) (H : Hp) (Q : VK) (_ : XK) : Prop := ∃ d : PyData, Dp K H v0 d ∧ Q (.bl (wholeD d)) H
def t_law_whole (K : PySem.W.Frag) : TS :=
  (tRet (tAndV (tCB (rIsi K) (tCons (tVar 0) (tCons (tC (.ty "int")) tNil))) (tNotV (tCB (rIsi K) (tCons (tVar 0) (tCons (tC (.ty "bool")) tNil))))))
theorem pure_law_whole {v0 : V} {H : Hp} {Q : VK} {E : XK} (h : pr_law_whole K v0 H Q E) : t_law_whole K ⟨fun _ H' => Q .non H', Q, fun _ _ => False, fun _ _ => False⟩ [some v0] H := by
  obtain ⟨d, hd, q⟩ := h
  unfold t_law_whole
  refine k_ret (k_andV ?_)
  refine k_cb (k_cons (k_var rfl (k_cons (k_c (k_nil ?_)))))
  refine k_isiIntD hd ?_
  refine ⟨_, rfl, ?_⟩
  have c : (isD "int" d || isD "bool" d) = true ∨ (isD "int" d || isD "bool" d) = false := by cases (isD "int" d || isD "bool" d) <;> simp
  rcases c with c | c
  · rw [c, if_pos rfl]
    refine k_notV ?_
    refine k_cb (k_cons (k_var rfl (k_cons (k_c (k_nil ?_)))))
    refine k_isiBoolD hd ⟨_, rfl, ?_⟩
    have e : (!isD "bool" d) = wholeD d := by cases d <;> first | rfl | (exact absurd c (by simp [isD, tyD]))
    rw [e]; exact q
  · rw [c, if_neg (by decide)]
    have e : wholeD d = false := by cases d <;> first | rfl | (exact absurd c (by simp [isD, tyD]))
    rw [e] at q; exact q
abbrev sp_law_whole (K : PySem.W.Frag) : Sp := fun vs H Q E => ∃ v0, vs = [v0] ∧ pr_law_whole K v0 H Q E
theorem ok_law_whole (T : Txt K mg A) : FnOk P w K mg base CX0 1 A.a_law_whole A.d_law_whole ["_law_found"] (sp_law_whole K) := by
  refine T.F_law_whole.ok sc_law_whole (fun vs H Q E h => by obtain ⟨v0, rfl, _⟩ := h; rfl) (fun cdv A0 outer s H vs Q E hr h => ?_)
  obtain ⟨v0, rfl, h⟩ := h
  exact ⟨t_law_whole K, (pss_one (ps_ret (pe_and (pe_callB q_isi (by rfl) T.z_isinstance (by decide +kernel) (pa_cons (pv 0) (pa_cons (pe_bltn (v := .ty "int") (by rfl) T.z_int (by decide +kernel) rfl) pa_nil))) (pe_one (pe_not (pe_callB q_isi (by rfl) T.z_isinstance (by decide +kernel) (pa_cons (pv 0) (pa_cons (pe_bltn (v := .ty "bool") (by rfl) T.z_bool (by decide +kernel) rfl) pa_nil)))))))), pure_law_whole h⟩
def pr_law_right (K : PySem.W.Frag) (d : Nat) (v0 v1 v2 v3 : V) (H : Hp) (Q : VK) (_ : XK) : Prop := ∃ (M : List (List Int)) (h : Int) (a : Addr) (gs : List (Int × Int)) (D : PyData), Dp K H v0 (.list (M.map dInts)) ∧ M.length ≤ 1000 ∧ (∀ r ∈ M, r.length ≤ 1000) ∧ v1 = .int h ∧ 0 ≤ h ∧ h ≤ 100000 ∧ v2 = .ref a ∧ H a = some (.dK (dS gs)) ∧ Uni gs ∧ gs.length + d ≤ 900 ∧ frN M.length gs < d ∧ Dp K H v3 D ∧
  ∀ H', Same H H' → Q (.bl (caseJ M h d gs D)) H'
def spd_law_right (K : PySem.W.Frag) : Nat → Sp
  | 0 => fun _ _ _ _ => False
  | d + 1 => fun vs H Q E => ∃ v0 v1 v2 v3, vs = [v0, v1, v2, v3] ∧ pr_law_right K d v0 v1 v2 v3 H Q E
def t_law_right (K : PySem.W.Frag) (sp : Sp) : TS :=
  (tSeq (tIfS (tOr (tNot (tB (tCB (rIsi K) (tCons (tVar 3) (tCons (tC (.ty "tuple")) tNil))))) (tTest (tOp rNe (tCB (rLenX K) (tCons (tVar 3) tNil)) (tC (.int 2))))) (tRet (tC (.bl false))) tNext)
    (tSeq (tAsg (tVar 3) (gTup K 2 (gCons (gName 4) (gCons (gName 5) gNil))))
    (tSeq (tIfS (tOr (tNot (tB (tCall (sp_law_whole K) [] E0 (tCons (tVar 4) tNil)))) (tOr (tTest (tOp xLt (tVar 4) (tC (.int 0)))) (tOr (tTest (tOp xGe (tVar 4) (tCB (rLenX K) (tCons (tVar 0) tNil)))) (tOr (tB (tDIn (tVar 4) (tVar 2))) (tNot (tB (tCB (rIsi K) (tCons (tVar 5) (tCons (tC (.ty "list")) tNil))))))))) (tRet (tC (.bl false))) tNext)
    (tSeq (tIfS (tTest (tOp rNe (tCB (rLenX K) (tCons (tVar 5) tNil)) (tOp xAdd (tCB rMin2 (tCons (tOp xSub (tVar 1) (tC (.int 1))) (tCons (tCall (sp_law_many K) [] E0 (tCons (tVar 2) tNil)) tNil))) (tC (.int 1))))) (tRet (tC (.bl false))) tNext)
    (tSeq (tFor (iRng1 (tCons (tCB (rLenX K) (tCons (tVar 5) tNil)) tNil)) (gName 6)
      (tSeq (tAsg (tCB rDictD (tCons (tVar 2) tNil)) (gName 7))
    (tSeq (sDPut (tVar 7) (tVar 4) (tVar 6))
    (tIfS (tB (tCall (sp_law_stuck K) [] E0 (tCons (tVar 0) (tCons (tVar 2) (tCons (tVar 4) (tCons (tVar 6) tNil)))))) (tIfS (tOr (tNot (tB (tCB (rIsi K) (tCons (tOp (rIxL K) (tVar 5) (tVar 6)) (tCons (tC (.ty "tuple")) tNil))))) (tTest (tOp xGt (tCB (rLenX K) (tCons (tOp (rIxL K) (tVar 5) (tVar 6)) tNil)) (tC (.int 0))))) (tRet (tC (.bl false))) tNext) (tIfS (tNot (tB (tCall sp [] E0 (tCons (tVar 0) (tCons (tVar 1) (tCons (tVar 7) (tCons (tOp (rIxL K) (tVar 5) (tVar 6)) tNil))))))) (tRet (tC (.bl false))) tNext)))))
    (tRet (tC (.bl true))))))))
theorem pure_law_right {d : Nat} {v0 v1 v2 v3 : V} {H : Hp} {Q : VK} {E : XK} (hh : pr_law_right K d v0 v1 v2 v3 H Q E) : t_law_right K (spd_law_right K d) ⟨fun _ H' => Q .non H', Q, fun _ _ => False, fun _ _ => False⟩ [some v0, some v1, some v2, some v3, none, none, none, none] H := by
  obtain ⟨M, h, a, gs, D, d0, hm, hr, rfl, h0, h1, rfl, ha, un, sd, hd, dD, q⟩ := hh
  obtain ⟨b, ms, rfl, hb, dms⟩ := dp_list d0
  have lms : ms.length = M.length := by rw [dpa_len dms, List.length_map]
  obtain ⟨d, rfl⟩ : ∃ d', d = d' + 1 := ⟨d - 1, by omega⟩
  have q0 := q H (Same.refl _)
  unfold t_law_right
  wtm_at "s"
  refine k_isiTupD dD ?_
  rcases (bcases (isD "tuple" D)).symm with c1 | c1
  · rw [c1]
    rw [caseJ_not c1] at q0
    wtm_at "s"
    exact q0
  obtain ⟨ds, rfl⟩ := isD_tup c1
  rw [c1]
  obtain ⟨p, xs, rfl, hp, dx⟩ := dp_tup dD
  wtm_at "s"
  refine k_lenT hp ?_
  wtm_at "s"
  refine k_itn (fun c2 => ?_) (fun c2 => ?_)
  · rw [caseJ_len (by have := dpa_len dx; omega)] at q0
    wtm_at "s"
    exact q0
  obtain ⟨x, y, da, db, rfl, rfl, hx, hy⟩ := dpa2 dx (by have := dpa_len dx; omega)
  clear dx c1 c2
  wtm_at "s"
  refine ⟨_, rfl, da, hx, ?_⟩
  have nof : (∀ cs : List PyData, db = .list cs → (wholeD da && decide (0 ≤ intD da) && decide (intD da < M.length) && (lookS gs (intD da)).isNone && decide (cs.length = optN h gs)) = false) → ∀ H', Same H H' → Q (.bl false) H' := fun hf H' s => by
    have := q H' s
    rcases (bcases (isD "list" db)).symm with cl | cl
    · rwa [caseJ_list cl] at this
    · obtain ⟨cs, rfl⟩ := isD_list cl
      unfold caseJ at this
      rwa [hf cs rfl, Bool.false_and] at this
  rcases (bcases (wholeD da)).symm with c2 | c2
  · rw [c2]
    wtm_at "s"
    exact nof (fun cs e => by rw [c2]; rfl) H (Same.refl _)
  obtain rfl := dp_whole hx c2
  rw [c2]
  wtm_at "s"
  refine k_it (fun c3 => ?_) (fun c3 => ?_)
  · wtm_at "s"
    exact nof (fun cs e => by rw [decide_eq_false (by omega : ¬ 0 ≤ intD da)]; simp) H (Same.refl _)
  wtm_at "s"
  refine k_it (fun c4 => ?_) (fun c4 => ?_)
  · wtm_at "s"
    exact nof (fun cs e => by rw [decide_eq_false (by omega : ¬ intD da < M.length)]; simp) H (Same.refl _)
  wtm_at "s"
  refine k_iD ha ?_
  rw [dS_val]
  cases hk : lookS gs (intD da) with
  | some u =>
    simp only [Option.map_some, Option.isSome_some, Bool.false_eq_true, if_false]
    wtm_at "s"
    exact nof (fun cs e => by rw [hk]; simp) H (Same.refl _)
  | none =>
    simp only [Option.map_none, Option.isSome_none, Bool.false_eq_true, if_false]
    wtm_at "s"
    refine k_isiListD hy ?_
    rcases (bcases (isD "list" db)).symm with cl | cl
    · rw [cl]
      wtm_at "s"
      exact nof (fun cs e => by rw [e] at cl; cases cl) H (Same.refl _)
    obtain ⟨cs, rfl⟩ := isD_list cl
    obtain ⟨cl', zs, rfl, hcl, dzs⟩ := dp_list hy
    have lzs : zs.length = cs.length := dpa_len dzs
    rw [cl]
    have k0 : 0 ≤ intD da := by omega
    have k1 : intD da < M.length := by omega
    wtm_at "s"
    refine ⟨_, rfl, a, gs, rfl, ha, un, by omega, fun H1 s1 => ?_⟩
    have hul := unl_le (gs.map (·.2))
    rw [List.length_map] at hul
    wtm_at "s"
    have em : (if ((unl (gs.map (·.2)) : Nat) : Int) < h - 1 then ((unl (gs.map (·.2)) : Nat) : Int) else h - 1) = min (h - 1) ((unl (gs.map (·.2)) : Nat) : Int) := by split <;> omega
    rw [em, lzs]
    refine k_itn (fun c5 => ?_) (fun c5 => ?_)
    · wtm_at "s"
      exact nof (fun cs' e => by cases e; rw [decide_eq_false (by unfold optN; omega : ¬ cs.length = optN h gs)]; simp) H1 s1
    have c5' : cs.length = optN h gs := by unfold optN; omega
    have frl := fun u => frN_lt (u := u) k0 k1 hk
    let P : Nat → Bool := fun i => if stuckB M gs (intD da) (i : Int) then isEmp (cs.getD i .none) else caseJ M h d (gs ++ [(intD da, (i : Int))]) (cs.getD i .none)
    have q2 : ∀ H', Same H H' → Q (.bl ((List.range cs.length).all P)) H' := fun H' s => by
      have := q H' s
      unfold caseJ at this
      rw [c2, decide_eq_true k0, decide_eq_true k1, hk, decide_eq_true c5'] at this
      exact this
    clear q q0 nof em
    have hcl1 := s1.seq hcl
    wtm_at "s"
    refine forR (fun i σ' H' => Same H H' ∧ (∃ k6 k7, σ' = [some (.ref b), some (.int h), some (.ref a), some (.ref p), some (.int (intD da)), some (.ref cl'), k6, k7]) ∧ ∀ j, j < i → P j = true) ⟨s1, ⟨_, _, rfl⟩, fun j hj => by omega⟩ ?_ ?_
    · rintro i σ' H3 hi ⟨s03, ⟨k6, k7, rfl⟩, ih⟩
      simp only [Int.zero_add]
      have hi : i < cs.length := by first | omega | (split at hi <;> omega)
      have hz : zs[i]? = some zs[i] := List.getElem?_eq_getElem (by omega)
      obtain ⟨dc, hdc, dz⟩ := dpa_get dzs hz
      have gc : cs.getD i .none = dc := by rw [List.getD_eq_getElem?_getD, hdc]; rfl
      have no : P i = false → ∀ H', Same H H' → Q (.bl false) H' := fun hp' H' s => by
        have := q2 H' s
        rwa [all_not hi hp'] at this
      have goon : P i = true → ∀ j, j < i + 1 → P j = true := fun hp' j hj => by
        by_cases z : j = i
        · rw [z]; exact hp'
        · exact ih j (by omega)
      wtm_at "s"
      refine k_dictD (s03 _ _ ha) (fun p5 H5 np5 s5 e5 => ?_)
      wtm_at "s"
      refine k_pD e5 (by unfold dS; simp; omega) ?_
      rw [dS_put hk]
      have sU : Same H3 (upd H5 p5 (.dK (dS (gs ++ [(intD da, (i : Int))])))) := same_mut s5 np5
      have eU : upd H5 p5 (.dK (dS (gs ++ [(intD da, (i : Int))]))) p5 = some (.dK (dS (gs ++ [(intD da, (i : Int))]))) := upd_same
      generalize upd H5 p5 (.dK (dS (gs ++ [(intD da, (i : Int))]))) = H6 at sU eU ⊢
      have s06 := s03.trans sU
      wtm_at "s"
      refine ⟨_, _, _, _, rfl, M, a, gs, intD da, (i : Int), dp_same s06 d0, hr, rfl, s06 _ _ ha, rfl, k0, k1, rfl, fun H7 s7 => ?_⟩
      have s07 := s06.trans s7
      have hcl7 := s07.seq hcl
      cases st : stuckB M gs (intD da) (i : Int) with
      | true =>
        have pi : P i = isEmp dc := by show (if stuckB M gs (intD da) (i : Int) then isEmp (cs.getD i .none) else _) = _; rw [st, gc]; rfl
        wtm_at "s"
        refine k_ixL hcl7 (atI_nat hz) ?_
        wtm_at "s"
        refine k_isiTupD (dp_same s07 dz) ?_
        rcases (bcases (isD "tuple" dc)).symm with c6 | c6
        · rw [c6]
          wtm_at "s"
          refine no ?_ H7 s07
          rw [pi]
          cases dc <;> first | rfl | (simp [isD, tyD] at c6)
        · obtain ⟨es, rfl⟩ := isD_tup c6
          rw [c6]
          obtain ⟨ta, txs, hta, htx, dtx⟩ := dp_tup (dp_same s07 dz)
          have ltx := dpa_len dtx
          wtm_at "s"
          refine k_ixL hcl7 (atI_nat hz) ?_
          rw [hta]
          wtm_at "s"
          refine k_lenT htx ?_
          wtm_at "s"
          refine k_it (fun c7 => ?_) (fun c7 => ?_)
          · wtm_at "s"
            refine no ?_ H7 s07
            rw [pi]
            cases es with
            | nil => have l0 : txs.length = 0 := ltx; omega
            | cons _ _ => rfl
          · wtm_at "s"
            refine ⟨s07, ⟨_, _, rfl⟩, goon ?_⟩
            rw [pi]
            cases es with
            | nil => rfl
            | cons _ _ => rw [List.length_cons] at ltx; omega
      | false =>
        have pi : P i = caseJ M h d (gs ++ [(intD da, (i : Int))]) dc := by show (if stuckB M gs (intD da) (i : Int) then _ else caseJ M h d (gs ++ [(intD da, (i : Int))]) (cs.getD i .none)) = _; rw [st, gc]; rfl
        wtm_at "s"
        refine k_ixL hcl7 (atI_nat hz) ?_
        wtm_at "s"
        refine ⟨_, _, _, _, rfl, M, h, p5, gs ++ [(intD da, (i : Int))], dc, dp_same s07 d0, hm, hr, rfl, h0, h1, rfl, s7 _ _ eU, un.add hk, by simp; omega, by have := frl (i : Int); omega, dp_same s07 dz, fun H8 s8 => ?_⟩
        have s08 := s07.trans s8
        rcases (bcases (caseJ M h d (gs ++ [(intD da, (i : Int))]) dc)).symm with c7 | c7
        · rw [c7]
          wtm_at "s"
          exact no (by rw [pi, c7]) H8 s08
        · rw [c7]
          wtm_at "s"
          exact ⟨s08, ⟨_, _, rfl⟩, goon (by rw [pi, c7])⟩
    · rintro σ' H2 ⟨s2, ⟨k6, k7, rfl⟩, ih⟩
      have := q2 H2 s2
      rw [all_take (fun i hi => ih i (by omega))] at this
      wtm_at "s"
      exact this
theorem okd_law_right (T : Txt K mg A) : ∀ d : Nat, FnOk P w K mg base CX0 (2 + d) A.a_law_right A.d_law_right ["_law_meets_here", "_law_h", "_law_given_here", "_law_case_here"] (spd_law_right K d)
  | 0 => T.F_law_right.ok sc_law_right (fun vs H Q E h => False.elim h) (fun cdv A0 outer s H vs Q E hr h => False.elim h)
  | d + 1 => by
    refine T.F_law_right.ok sc_law_right (fun vs H Q E h => by obtain ⟨v0, v1, v2, v3, rfl, _⟩ := h; rfl) (fun cdv A0 outer s H vs Q E hr h => ?_)
    obtain ⟨v0, v1, v2, v3, rfl, h⟩ := h
    exact ⟨t_law_right K (spd_law_right K d), (pss_cons (ps_if (PW.pt (pw_or (pt_not (pt_val (pe_callB q_isi (by rfl) T.z_isinstance (by decide +kernel) (pa_cons (pv 3) (pa_cons (pe_bltn (v := .ty "tuple") (by rfl) T.z_tuple (by decide +kernel) rfl) pa_nil))))) (pw_or1 (pt_cmpR op_ne (pe_callB q_len (by rfl) T.z_len (by decide +kernel) (pa_cons (pv 3) pa_nil)) pe_int (nomark _))))) (pss_one (ps_ret pe_bl)) pss_nil)
      (pss_cons (ps_asg (pv 3) (pg_tup (by rfl) (pgs_cons (pg_name (i := 4) sc_law_right.nd rfl (Or.inl rfl)) (pgs_cons (pg_name (i := 5) sc_law_right.nd rfl (Or.inl rfl)) pgs_nil))))
      (pss_cons (ps_if (PW.pt (pw_or (pt_not (pt_val (pe_call (ok_law_whole T) (hr.mono (by first | decide | omega | (simp only [Nat.add_eq]; omega))) (by rfl) T.g_law_whole T.F_law_whole.kp T.b_law_whole .nil pass0 (pa_cons (pv 4) pa_nil)))) (pw_or (pt_cmpR op_lt (pv 4) pe_int (nomark _)) (pw_or (pt_cmpR op_ge (pv 4) (pe_callB q_len (by rfl) T.z_len (by decide +kernel) (pa_cons (pv 0) pa_nil)) (nomark _)) (pw_or (pt_cmp (pc_din (Nat.lt_of_le_of_lt (Nat.add_le_add_left (by decide) _) hr.units) (pv 4) (pv 2)) (by rfl)) (pw_or1 (pt_not (pt_val (pe_callB q_isi (by rfl) T.z_isinstance (by decide +kernel) (pa_cons (pv 5) (pa_cons (pe_bltn (v := .ty "list") (by rfl) T.z_list (by decide +kernel) rfl) pa_nil))))))))))) (pss_one (ps_ret pe_bl)) pss_nil)
      (pss_cons (ps_if (pt_cmpR op_ne (pe_callB q_len (by rfl) T.z_len (by decide +kernel) (pa_cons (pv 5) pa_nil)) (pe_op op_add (pe_callB (q_min2 (by rfl)) (by rfl) T.z_min (by decide +kernel) (pa_cons (pe_op op_sub (pv 1) pe_int) (pa_cons (pe_call (ok_law_many T) (hr.mono (by first | decide | omega | (simp only [Nat.add_eq]; omega))) (by rfl) T.g_law_many T.F_law_many.kp T.b_law_many .nil pass0 (pa_cons (pv 2) pa_nil)) pa_nil))) pe_int) (nomark _)) (pss_one (ps_ret pe_bl)) pss_nil)
      (pss_cons (ps_for PassesOwn.never rfl (pi_range1 (by rfl) T.z_range (pa_cons (pe_callB q_len (by rfl) T.z_len (by decide +kernel) (pa_cons (pv 5) pa_nil)) pa_nil)) (pg_name (i := 6) sc_law_right.nd rfl (Or.inl rfl))
      (pss_cons (ps_set (i := 7) sc_law_right.nd rfl (Or.inl rfl) (pe_callTy q_dictD (by rfl) T.z_dict (by decide +kernel) (pa_cons (pv 2) pa_nil)))
      (pss_cons (ps_dput (Nat.lt_of_le_of_lt (Nat.add_le_add_left (by decide) _) hr.units) (pv 7) (pv 4) (pv 6) (by rfl))
      (pss_one (ps_if (pt_val (pe_call (ok_law_stuck T) (hr.mono (by first | decide | omega | (simp only [Nat.add_eq]; omega))) (by rfl) T.g_law_stuck T.F_law_stuck.kp T.b_law_stuck .nil pass0 (pa_cons (pv 0) (pa_cons (pv 2) (pa_cons (pv 4) (pa_cons (pv 6) pa_nil)))))) (pss_one (ps_if (PW.pt (pw_or (pt_not (pt_val (pe_callB q_isi (by rfl) T.z_isinstance (by decide +kernel) (pa_cons (pe_ix ix_list (pv 5) (pv 6) (fun _ _ => rfl)) (pa_cons (pe_bltn (v := .ty "tuple") (by rfl) T.z_tuple (by decide +kernel) rfl) pa_nil))))) (pw_or1 (pt_cmpR op_gt (pe_callB q_len (by rfl) T.z_len (by decide +kernel) (pa_cons (pe_ix ix_list (pv 5) (pv 6) (fun _ _ => rfl)) pa_nil)) pe_int (nomark _))))) (pss_one (ps_ret pe_bl)) pss_nil)) (pss_one (ps_if (pt_not (pt_val (pe_call (okd_law_right T d) (hr.mono (by first | decide | omega | (simp only [Nat.add_eq]; omega))) (by rfl) T.g_law_right T.F_law_right.kp T.b_law_right .nil pass0 (pa_cons (pv 0) (pa_cons (pv 1) (pa_cons (pv 7) (pa_cons (pe_ix ix_list (pv 5) (pv 6) (fun _ _ => rfl)) pa_nil))))))) (pss_one (ps_ret pe_bl)) pss_nil)))))))
      (pss_one (ps_ret pe_bl))))))), pure_law_right h⟩
abbrev sp_law_right (K : PySem.W.Frag) : Sp := fun vs H Q E => ∃ v0 v1 v2 v3, vs = [v0, v1, v2, v3] ∧ ∃ d : Nat, d < 12 ∧ pr_law_right K d v0 v1 v2 v3 H Q E
theorem ok_law_right (T : Txt K mg A) : FnOk P w K mg base CX0 14 A.a_law_right A.d_law_right ["_law_meets_here", "_law_h", "_law_given_here", "_law_case_here"] (sp_law_right K) := by
  refine T.F_law_right.ok sc_law_right (fun vs H Q E h => by obtain ⟨v0, v1, v2, v3, rfl, _⟩ := h; rfl) (fun cdv A0 outer s H vs Q E hr h => ?_)
  obtain ⟨v0, v1, v2, v3, rfl, d, hd, h⟩ := h
  exact ⟨t_law_right K (spd_law_right K d), (pss_cons (ps_if (PW.pt (pw_or (pt_not (pt_val (pe_callB q_isi (by rfl) T.z_isinstance (by decide +kernel) (pa_cons (pv 3) (pa_cons (pe_bltn (v := .ty "tuple") (by rfl) T.z_tuple (by decide +kernel) rfl) pa_nil))))) (pw_or1 (pt_cmpR op_ne (pe_callB q_len (by rfl) T.z_len (by decide +kernel) (pa_cons (pv 3) pa_nil)) pe_int (nomark _))))) (pss_one (ps_ret pe_bl)) pss_nil)
      (pss_cons (ps_asg (pv 3) (pg_tup (by rfl) (pgs_cons (pg_name (i := 4) sc_law_right.nd rfl (Or.inl rfl)) (pgs_cons (pg_name (i := 5) sc_law_right.nd rfl (Or.inl rfl)) pgs_nil))))
      (pss_cons (ps_if (PW.pt (pw_or (pt_not (pt_val (pe_call (ok_law_whole T) (hr.mono (by first | decide | omega | (simp only [Nat.add_eq]; omega))) (by rfl) T.g_law_whole T.F_law_whole.kp T.b_law_whole .nil pass0 (pa_cons (pv 4) pa_nil)))) (pw_or (pt_cmpR op_lt (pv 4) pe_int (nomark _)) (pw_or (pt_cmpR op_ge (pv 4) (pe_callB q_len (by rfl) T.z_len (by decide +kernel) (pa_cons (pv 0) pa_nil)) (nomark _)) (pw_or (pt_cmp (pc_din (Nat.lt_of_le_of_lt (Nat.add_le_add_left (by decide) _) hr.units) (pv 4) (pv 2)) (by rfl)) (pw_or1 (pt_not (pt_val (pe_callB q_isi (by rfl) T.z_isinstance (by decide +kernel) (pa_cons (pv 5) (pa_cons (pe_bltn (v := .ty "list") (by rfl) T.z_list (by decide +kernel) rfl) pa_nil))))))))))) (pss_one (ps_ret pe_bl)) pss_nil)
      (pss_cons (ps_if (pt_cmpR op_ne (pe_callB q_len (by rfl) T.z_len (by decide +kernel) (pa_cons (pv 5) pa_nil)) (pe_op op_add (pe_callB (q_min2 (by rfl)) (by rfl) T.z_min (by decide +kernel) (pa_cons (pe_op op_sub (pv 1) pe_int) (pa_cons (pe_call (ok_law_many T) (hr.mono (by first | decide | omega | (simp only [Nat.add_eq]; omega))) (by rfl) T.g_law_many T.F_law_many.kp T.b_law_many .nil pass0 (pa_cons (pv 2) pa_nil)) pa_nil))) pe_int) (nomark _)) (pss_one (ps_ret pe_bl)) pss_nil)
      (pss_cons (ps_for PassesOwn.never rfl (pi_range1 (by rfl) T.z_range (pa_cons (pe_callB q_len (by rfl) T.z_len (by decide +kernel) (pa_cons (pv 5) pa_nil)) pa_nil)) (pg_name (i := 6) sc_law_right.nd rfl (Or.inl rfl))
      (pss_cons (ps_set (i := 7) sc_law_right.nd rfl (Or.inl rfl) (pe_callTy q_dictD (by rfl) T.z_dict (by decide +kernel) (pa_cons (pv 2) pa_nil)))
      (pss_cons (ps_dput (Nat.lt_of_le_of_lt (Nat.add_le_add_left (by decide) _) hr.units) (pv 7) (pv 4) (pv 6) (by rfl))
      (pss_one (ps_if (pt_val (pe_call (ok_law_stuck T) (hr.mono (by first | decide | omega | (simp only [Nat.add_eq]; omega))) (by rfl) T.g_law_stuck T.F_law_stuck.kp T.b_law_stuck .nil pass0 (pa_cons (pv 0) (pa_cons (pv 2) (pa_cons (pv 4) (pa_cons (pv 6) pa_nil)))))) (pss_one (ps_if (PW.pt (pw_or (pt_not (pt_val (pe_callB q_isi (by rfl) T.z_isinstance (by decide +kernel) (pa_cons (pe_ix ix_list (pv 5) (pv 6) (fun _ _ => rfl)) (pa_cons (pe_bltn (v := .ty "tuple") (by rfl) T.z_tuple (by decide +kernel) rfl) pa_nil))))) (pw_or1 (pt_cmpR op_gt (pe_callB q_len (by rfl) T.z_len (by decide +kernel) (pa_cons (pe_ix ix_list (pv 5) (pv 6) (fun _ _ => rfl)) pa_nil)) pe_int (nomark _))))) (pss_one (ps_ret pe_bl)) pss_nil)) (pss_one (ps_if (pt_not (pt_val (pe_call (okd_law_right T d) (hr.mono (by first | decide | omega | (simp only [Nat.add_eq]; omega))) (by rfl) T.g_law_right T.F_law_right.kp T.b_law_right .nil pass0 (pa_cons (pv 0) (pa_cons (pv 1) (pa_cons (pv 7) (pa_cons (pe_ix ix_list (pv 5) (pv 6) (fun _ _ => rfl)) pa_nil))))))) (pss_one (ps_ret pe_bl)) pss_nil)))))))
      (pss_one (ps_ret pe_bl))))))), pure_law_right h⟩


def pr_law_fewest (K : PySem.W.Frag) (v0 : V) (H : Hp) (Q : VK) (_ : XK) : Prop := ∃ (M : List (List Int)), Dp K H v0 (.list (M.map dInts)) ∧ M.length ≤ 10 ∧ Adj M ∧ ∀ (h : Nat) H', Same H H' → h ≤ M.length → enoughF M (h : Int) M.length [] = true → (∀ k : Nat, k < h → enoughF M (k : Int) M.length [] = false) → Q (.int h) H'
def t_law_fewest (K : PySem.W.Frag) : TS :=
  (tSeq (tAsg (tC (.int 0)) (gName 1))
    (tSeq (tWhile (tNot (tB (tCall (sp_law_enough K) [] E0 (tCons (tVar 0) (tCons (tVar 1) (tCons (tLst tNil) tNil))))))
      (tAsg (tOp xAdd (tVar 1) (tC (.int 1))) (gName 1)))
    (tRet (tVar 1))))
theorem pure_law_fewest {v0 : V} {H : Hp} {Q : VK} {E : XK} (hh : pr_law_fewest K v0 H Q E) : t_law_fewest K ⟨fun _ H' => Q .non H', Q, fun _ _ => False, fun _ _ => False⟩ [some v0, none] H := by
  obtain ⟨M, d0, hm, A, q⟩ := hh
  unfold t_law_fewest
  wtm_at "s"
  refine k_while ⟨fun m σ' H' => Same H H' ∧ ∃ h : Nat, σ' = [some v0, some (.int (h : Int))] ∧ m + h = M.length ∧ ∀ k : Nat, k < h → enoughF M (k : Int) M.length [] = false, ⟨M.length, Same.refl _, 0, rfl, by omega, fun k hk => by omega⟩, ?_⟩
  rintro m σ' H1 ⟨s1, h, rfl, hmh, low⟩
  wtm_at "s"
  refine kL (by simp) (fun l H2 nl s2 e2 => ?_)
  have s02 := s1.trans s2
  wtm_at "s"
  refine ⟨_, _, _, rfl, 11, by decide, M, h, l, [], dp_same s02 d0, by omega, A, rfl, by omega, by omega, rfl, e2, by simp, by simp; omega, fun H3 s3 => ?_⟩
  have s03 := s02.trans s3
  rcases (bcases (enoughF M h (M.length - ([] : List Int).length) [])).symm with z | z
  · have hlt : h < M.length := by
      refine Classical.byContradiction fun y => ?_
      have := col_enough A (d := M.length - ([] : List Int).length) (hs := []) (m := 0) (col_all A (h := (h : Int)) (by omega)) (by simp) Can.nil (fun i hi => by simp at hi)
      rw [this] at z
      cases z
    rw [z]
    wtm_at "s"
    refine ⟨fun σ' H' => Same H H' ∧ σ' = [some v0, some (.int ((h + 1 : Nat) : Int))], fun σ' H' e => ⟨m - 1, by omega, e.1, h + 1, e.2, by omega, fun k hk => by
      by_cases c : k = h
      · rw [c]; exact z
      · exact low k (by omega)⟩, ?_⟩
    wtm_at "s"
    exact ⟨s03, by rw [show ((h + 1 : Nat) : Int) = (h : Int) + 1 by omega]⟩
  · rw [z]
    wtm_at "s"
    exact q h H3 s03 (by omega) z low
abbrev sp_law_fewest (K : PySem.W.Frag) : Sp := fun vs H Q E => ∃ v0, vs = [v0] ∧ pr_law_fewest K v0 H Q E
theorem ok_law_fewest (T : Txt K mg A) : FnOk P w K mg base CX0 14 A.a_law_fewest A.d_law_fewest ["_law_meets_here"] (sp_law_fewest K) := by
  refine T.F_law_fewest.ok sc_law_fewest (fun vs H Q E h => by obtain ⟨v0, rfl, _⟩ := h; rfl) (fun cdv A0 outer s H vs Q E hr h => ?_)
  obtain ⟨v0, rfl, h⟩ := h
  exact ⟨t_law_fewest K, (pss_cons (ps_set (i := 1) sc_law_fewest.nd rfl (Or.inl rfl) pe_int)
      (pss_cons (ps_while PassesOwn.never (pt_not (pt_val (pe_call (ok_law_enough T) (hr.mono (by decide)) (by rfl) T.g_law_enough T.F_law_enough.kp T.b_law_enough .nil pass0 (pa_cons (pv 0) (pa_cons (pv 1) (pa_cons (pe_lst pa_nil) pa_nil))))))
      (pss_one (ps_set (i := 1) sc_law_fewest.nd rfl (Or.inl rfl) (pe_op op_add (pv 1) pe_int))))
      (pss_one (ps_ret (pv 1))))), pure_law_fewest h⟩


/-- data of a bounded depth, no list of it long -/
inductive Cp : Nat → PyData → Prop where
  | non {n : Nat} : Cp n .none
  | bl {n : Nat} {b : Bool} : Cp n (.bool b)
  | int {n : Nat} {i : Int} : Cp n (.int i)
  | str {n : Nat} {s : Str} : Cp n (.str s)
  | lst {n : Nat} {ds : List PyData} : ds.length ≤ 1000 → (∀ d ∈ ds, Cp n d) → Cp (n + 1) (.list ds)
  | tup {n : Nat} {ds : List PyData} : ds.length ≤ 1000 → (∀ d ∈ ds, Cp n d) → Cp (n + 1) (.tuple ds)
theorem Cp.mono {n m : Nat} {d : PyData} (h : Cp n d) (hm : n ≤ m) : Cp m d := by
  induction h generalizing m with
  | non => exact .non
  | bl => exact .bl
  | int => exact .int
  | str => exact .str
  | lst hl _ ih => obtain ⟨k, rfl⟩ : ∃ k, m = k + 1 := ⟨m - 1, by omega⟩; exact .lst hl fun d hd => ih d hd (by omega)
  | tup hl _ ih => obtain ⟨k, rfl⟩ : ∃ k, m = k + 1 := ⟨m - 1, by omega⟩; exact .tup hl fun d hd => ih d hd (by omega)
def pr_law_copied (K : PySem.W.Frag) (d : Nat) (v0 : V) (H : Hp) (Q : VK) (_ : XK) : Prop := ∃ (D : PyData) (e : Nat) (S : List Addr), Dp K H v0 D ∧ Cp e D ∧ e < d ∧ (∀ x ∈ S, H x ≠ none) ∧ ∀ v H', Same H H' → Dp K (hid S H') v D → Q v H'
def spd_law_copied (K : PySem.W.Frag) : Nat → Sp
  | 0 => fun _ _ _ _ => False
  | d + 1 => fun vs H Q E => ∃ v0, vs = [v0] ∧ pr_law_copied K d v0 H Q E
def t_law_copied (K : PySem.W.Frag) (sp : Sp) : TS :=
  (tSeq (tIfS (tB (tCB (rIsi K) (tCons (tVar 0) (tCons (tC (.ty "tuple")) tNil)))) (tRet (tCB (rTupOf K) (tCons (tLc (iAny (iList K (tVar 0)) (iTup K (tVar 0))) (gName 1) tYes (tCall sp [] E0 (tCons (tVar 1) tNil)) [1]) tNil))) tNext)
    (tSeq (tIfS (tB (tCB (rIsi K) (tCons (tVar 0) (tCons (tC (.ty "list")) tNil)))) (tRet (tLc (iAny (iList K (tVar 0)) (iTup K (tVar 0))) (gName 1) tYes (tCall sp [] E0 (tCons (tVar 1) tNil)) [1])) tNext)
    (tRet (tVar 0))))
theorem pure_law_copied {d : Nat} {v0 : V} {H : Hp} {Q : VK} {E : XK} (hh : pr_law_copied K d v0 H Q E) : t_law_copied K (spd_law_copied K d) ⟨fun _ H' => Q .non H', Q, fun _ _ => False, fun _ _ => False⟩ [some v0, none] H := by
  obtain ⟨D, e, S, dD, cp, he, hS, q⟩ := hh
  have fS : ∀ {H1 : Hp} {p : Addr}, Same H H1 → H1 p = none → p ∉ S := fun s np z => hS _ z (s.free np)
  -- the comprehension over a list or a tuple
  have comp : ∀ (a : Addr) (xs : List V) (ds : List PyData) (n : Nat) (R : VK), (SqL K H a xs ∨ SqT K H a xs) → DpAll K H xs ds → ds.length ≤ 1000 → (∀ c ∈ ds, Cp n c) → n + 1 < d →
      (∀ D ys H', H D = none → Same H H' → H' D = some (.lst ys) → DpAll K (hid (D :: S) H') ys ds → R (.ref D) H') →
      tLc (iAny (iList K (tVar 0)) (iTup K (tVar 0))) (gName 1) tYes (tCall (spd_law_copied K d) [] E0 (tCons (tVar 1) tNil)) [1] [some (.ref a), none] H R := by
    intro a xs ds n R hs dx hl hc hn fin
    have lx : xs.length = ds.length := dpa_len dx
    have step : ∀ (D : Addr), H D = none → ∀ (i : Nat) (x : V) (H1 : Hp), xs[i]? = some x → (Same H H1 ∧ ∃ ys, H1 D = some (.lst ys) ∧ ys.length = i ∧ DpAll K (hid (D :: S) H1) ys (ds.take i)) →
        gName 1 x (wipe [some (.ref a), none] [1]) H1 fun σ2 H2 => wipe σ2 [1] = wipe [some (.ref a), none] [1] ∧ tYes σ2 H2 fun b H3 => if b = true then tCall (spd_law_copied K d) [] E0 (tCons (tVar 1) tNil) σ2 H3 fun y H4 => ∃ acc, H4 D = some (.lst acc) ∧ acc.length < sizeLine ∧ (Same H (upd H4 D (.lst (acc ++ [y]))) ∧ ∃ ys, (upd H4 D (.lst (acc ++ [y]))) D = some (.lst ys) ∧ ys.length = i + 1 ∧ DpAll K (hid (D :: S) (upd H4 D (.lst (acc ++ [y])))) ys (ds.take (i + 1))) else (Same H H3 ∧ ∃ ys, H3 D = some (.lst ys) ∧ ys.length = i + 1 ∧ DpAll K (hid (D :: S) H3) ys (ds.take (i + 1))) := by
      rintro D nD i x H1 hx ⟨s1, ys, eD, ly, dys⟩
      obtain ⟨c, hc1, dc⟩ := dpa_get dx hx
      have hi : i < ds.length := (List.getElem?_eq_some_iff.mp hc1).1
      refine k_gname ⟨rfl, k_yes (iteT (k_call (k_cons (k_var rfl (k_nil ?_)))))⟩
      obtain ⟨d, rfl⟩ : ∃ d', d = d' + 1 := ⟨d - 1, by omega⟩
      refine ⟨_, rfl, c, n, D :: S, dp_same s1 dc, hc c (List.mem_of_getElem? hc1), by omega, fun z hz => ?_, fun v H2 s2 dv => ?_⟩
      · rcases List.mem_cons.mp hz with rfl | hz
        · rw [eD]; exact fun y => nomatch y
        · exact fun y => hS z hz (s1.free y)
      · refine ⟨ys, s2 _ _ eD, szl (by omega), same_mut (s1.trans s2) nD, ys ++ [v], upd_same, by simp [ly], ?_⟩
        rw [hid_upd (by simp), List.take_add_one, hc1]
        exact dpa_app (dpa_same (hid_mono s2) dys) (.cons dv .nil)
    have last : ∀ (D : Addr), H D = none → ∀ H1, (Same H H1 ∧ ∃ ys, H1 D = some (.lst ys) ∧ ys.length = xs.length ∧ DpAll K (hid (D :: S) H1) ys (ds.take xs.length)) → R (.ref D) H1 := by
      rintro D nD H1 ⟨s1, ys, eD, ly, dys⟩
      rw [lx, List.take_length] at dys
      exact fin D ys H1 nD s1 eD dys
    rcases hs with hs | hs
    · refine k_lc (.inl (k_iList (k_var rfl ⟨a, rfl, ⟨xs, hs⟩, fun D nD => lc_list (xs := xs) (fun i H1 => Same H H1 ∧ ∃ ys, H1 D = some (.lst ys) ∧ ys.length = i ∧ DpAll K (hid (D :: S) H1) ys (ds.take i)) ⟨same_new nD, [], upd_same, rfl, .nil⟩ (fun i H1 _ z => z.1.seq hs) (step D nD) (last D nD)⟩)))
    · refine k_lc (.inr (k_iTup (k_var rfl ⟨a, rfl, ⟨xs, hs⟩, fun D nD => lc_tup (xs := xs) (fun i H1 => Same H H1 ∧ ∃ ys, H1 D = some (.lst ys) ∧ ys.length = i ∧ DpAll K (hid (D :: S) H1) ys (ds.take i)) ⟨same_new nD, [], upd_same, rfl, .nil⟩ (fun i H1 _ z => same_seqT z.1 hs) (step D nD) (last D nD)⟩)))
  unfold t_law_copied
  refine k_seq (k_if (k_B (k_cb (k_cons (k_var rfl (k_cons (k_c (k_nil ?_))))))))
  refine k_isiTupD dD ⟨_, rfl, ?_⟩
  cases cp with
  | tup hl hc =>
    rename_i n ds
    rw [show isD "tuple" (.tuple ds) = true from rfl, if_pos rfl]
    obtain ⟨a, xs, rfl, hs, dx⟩ := dp_tup dD
    refine k_ret (k_cb (k_cons (comp a xs ds n _ (.inr hs) dx hl hc he ?_)))
    intro D ys H1 nD s1 eD dys
    refine k_nil (k_tupOf (sl eD) (fun p H2 np s2 e2 => ?_))
    refine q _ H2 (s1.trans s2) (.tup (stp (by rw [hid_ne (fS s1 np)]; exact e2)) (dpa_same ((hid_sub (fun z hz => List.mem_cons_of_mem _ hz)).trans (hid_mono s2)) dys))
  | lst hl hc =>
    rename_i n ds
    rw [show isD "tuple" (.list ds) = false from rfl, if_neg (by decide)]
    refine k_next (k_seq (k_if (k_B (k_cb (k_cons (k_var rfl (k_cons (k_c (k_nil ?_)))))))))
    refine k_isiListD dD ⟨_, rfl, ?_⟩
    rw [show isD "list" (.list ds) = true from rfl, if_pos rfl]
    obtain ⟨a, xs, rfl, hs, dx⟩ := dp_list dD
    refine k_ret (comp a xs ds n _ (.inl hs) dx hl hc he ?_)
    intro D ys H1 nD s1 eD dys
    refine q _ H1 s1 (.lst (sl (by rw [hid_ne (fS (Same.refl _) nD)]; exact eD)) (dpa_same (hid_sub (fun z hz => List.mem_cons_of_mem _ hz)) dys))
  | _ =>
    rw [show isD "tuple" _ = false from rfl, if_neg (by decide)]
    refine k_next (k_seq (k_if (k_B (k_cb (k_cons (k_var rfl (k_cons (k_c (k_nil ?_)))))))))
    refine k_isiListD dD ⟨_, rfl, ?_⟩
    rw [show isD "list" _ = false from rfl, if_neg (by decide)]
    refine k_next (k_ret (k_var rfl ?_))
    exact q _ H (Same.refl _) (by cases dD; constructor)
theorem okd_law_copied (T : Txt K mg A) : ∀ d : Nat, FnOk P w K mg base CX0 (1 + d) A.a_law_copied A.d_law_copied ["_law_thing"] (spd_law_copied K d)
  | 0 => T.F_law_copied.ok sc_law_copied (fun vs H Q E h => False.elim h) (fun cdv A0 outer s H vs Q E hr h => False.elim h)
  | d + 1 => by
    refine T.F_law_copied.ok sc_law_copied (fun vs H Q E h => by obtain ⟨v0, rfl, _⟩ := h; rfl) (fun cdv A0 outer s H vs Q E hr h => ?_)
    obtain ⟨v0, rfl, h⟩ := h
    exact ⟨t_law_copied K (spd_law_copied K d), (pss_cons (ps_if (pt_val (pe_callB q_isi (by rfl) T.z_isinstance (by decide +kernel) (pa_cons (pv 0) (pa_cons (pe_bltn (v := .ty "tuple") (by rfl) T.z_tuple (by decide +kernel) rfl) pa_nil)))) (pss_one (ps_ret (pe_callTy q_tupOf (by rfl) T.z_tuple (by decide +kernel) (pa_cons (pe_lc (own := [("_law_part", 1)]) (by rfl) sc_law_copied.nd (pi_any (pi_list (pv 0)) (pi_tup (pv 0))) (blkOk_by (own := [("_law_part", 1)]) (N := ["_law_thing", "_law_part"]) (sc := defScope s_law_copied) (by decide +kernel)) (fun _ _ _ _ _ => (pg_name (i := 1) sc_law_copied.nd rfl (Or.inl rfl))) (fun _ _ _ _ _ => pts_nil) (fun _ _ _ _ _ => (pe_call (okd_law_copied T d) (hr.mono (by first | decide | omega | (simp only [Nat.add_eq]; omega))) (by rfl) T.g_law_copied T.F_law_copied.kp T.b_law_copied .nil pass0 (pa_cons (pv 1) pa_nil)))) pa_nil)))) pss_nil)
      (pss_cons (ps_if (pt_val (pe_callB q_isi (by rfl) T.z_isinstance (by decide +kernel) (pa_cons (pv 0) (pa_cons (pe_bltn (v := .ty "list") (by rfl) T.z_list (by decide +kernel) rfl) pa_nil)))) (pss_one (ps_ret (pe_lc (own := [("_law_part", 1)]) (by rfl) sc_law_copied.nd (pi_any (pi_list (pv 0)) (pi_tup (pv 0))) (blkOk_by (own := [("_law_part", 1)]) (N := ["_law_thing", "_law_part"]) (sc := defScope s_law_copied) (by decide +kernel)) (fun _ _ _ _ _ => (pg_name (i := 1) sc_law_copied.nd rfl (Or.inl rfl))) (fun _ _ _ _ _ => pts_nil) (fun _ _ _ _ _ => (pe_call (okd_law_copied T d) (hr.mono (by first | decide | omega | (simp only [Nat.add_eq]; omega))) (by rfl) T.g_law_copied T.F_law_copied.kp T.b_law_copied .nil pass0 (pa_cons (pv 1) pa_nil)))))) pss_nil)
      (pss_one (ps_ret (pv 0))))), pure_law_copied h⟩
abbrev sp_law_copied (K : PySem.W.Frag) : Sp := fun vs H Q E => ∃ v0, vs = [v0] ∧ ∃ d : Nat, d < 45 ∧ pr_law_copied K d v0 H Q E
theorem ok_law_copied (T : Txt K mg A) : FnOk P w K mg base CX0 46 A.a_law_copied A.d_law_copied ["_law_thing"] (sp_law_copied K) := by
  refine T.F_law_copied.ok sc_law_copied (fun vs H Q E h => by obtain ⟨v0, rfl, _⟩ := h; rfl) (fun cdv A0 outer s H vs Q E hr h => ?_)
  obtain ⟨v0, rfl, d, hd, h⟩ := h
  exact ⟨t_law_copied K (spd_law_copied K d), (pss_cons (ps_if (pt_val (pe_callB q_isi (by rfl) T.z_isinstance (by decide +kernel) (pa_cons (pv 0) (pa_cons (pe_bltn (v := .ty "tuple") (by rfl) T.z_tuple (by decide +kernel) rfl) pa_nil)))) (pss_one (ps_ret (pe_callTy q_tupOf (by rfl) T.z_tuple (by decide +kernel) (pa_cons (pe_lc (own := [("_law_part", 1)]) (by rfl) sc_law_copied.nd (pi_any (pi_list (pv 0)) (pi_tup (pv 0))) (blkOk_by (own := [("_law_part", 1)]) (N := ["_law_thing", "_law_part"]) (sc := defScope s_law_copied) (by decide +kernel)) (fun _ _ _ _ _ => (pg_name (i := 1) sc_law_copied.nd rfl (Or.inl rfl))) (fun _ _ _ _ _ => pts_nil) (fun _ _ _ _ _ => (pe_call (okd_law_copied T d) (hr.mono (by first | decide | omega | (simp only [Nat.add_eq]; omega))) (by rfl) T.g_law_copied T.F_law_copied.kp T.b_law_copied .nil pass0 (pa_cons (pv 1) pa_nil)))) pa_nil)))) pss_nil)
      (pss_cons (ps_if (pt_val (pe_callB q_isi (by rfl) T.z_isinstance (by decide +kernel) (pa_cons (pv 0) (pa_cons (pe_bltn (v := .ty "list") (by rfl) T.z_list (by decide +kernel) rfl) pa_nil)))) (pss_one (ps_ret (pe_lc (own := [("_law_part", 1)]) (by rfl) sc_law_copied.nd (pi_any (pi_list (pv 0)) (pi_tup (pv 0))) (blkOk_by (own := [("_law_part", 1)]) (N := ["_law_thing", "_law_part"]) (sc := defScope s_law_copied) (by decide +kernel)) (fun _ _ _ _ _ => (pg_name (i := 1) sc_law_copied.nd rfl (Or.inl rfl))) (fun _ _ _ _ _ => pts_nil) (fun _ _ _ _ _ => (pe_call (okd_law_copied T d) (hr.mono (by first | decide | omega | (simp only [Nat.add_eq]; omega))) (by rfl) T.g_law_copied T.F_law_copied.kp T.b_law_copied .nil pass0 (pa_cons (pv 1) pa_nil)))))) pss_nil)
      (pss_one (ps_ret (pv 0))))), pure_law_copied h⟩
/-- data that may be compared and copied -/
def Sc (n : Nat) (d : PyData) : Prop := Sh n d ∧ Cp n d
theorem Sc.mono {n m : Nat} {d : PyData} (h : Sc n d) (hm : n ≤ m) : Sc m d := ⟨h.1.mono hm, h.2.mono hm⟩
theorem sc_int {n : Nat} {i : Int} : Sc n (.int i) := ⟨sh_int, .int⟩
theorem sc_bool {n : Nat} {b : Bool} : Sc n (.bool b) := ⟨sh_bool, .bl⟩
theorem sc_none {n : Nat} : Sc n .none := ⟨sh_none, .non⟩
theorem sc_lit {n : Nat} {s : Str} (h : (PyData.str s).canLay0 = true) : Sc n (.str s) := ⟨⟨h, Nat.zero_le _⟩, .str⟩
theorem sc_tup {n : Nat} {ds : List PyData} (h : ∀ d ∈ ds, Sc n d) (hl : ds.length ≤ 1000 := by simp) : Sc (n + 1) (.tuple ds) := ⟨sh_tup fun d hd => (h d hd).1, .tup hl fun d hd => (h d hd).2⟩
theorem sc_list {n : Nat} {ds : List PyData} (h : ∀ d ∈ ds, Sc n d) (hl : ds.length ≤ 1000 := by simp) : Sc (n + 1) (.list ds) := ⟨sh_list fun d hd => (h d hd).1, .lst hl fun d hd => (h d hd).2⟩
theorem shn {n : Nat} : ∀ d ∈ ([] : List PyData), Sc n d := fun d hd => nomatch hd
theorem shc {n : Nat} {a : PyData} {r : List PyData} (h : Sc n a) (h' : ∀ d ∈ r, Sc n d) : ∀ d ∈ a :: r, Sc n d := fun d hd => by
  rcases List.mem_cons.mp hd with rfl | hd
  · exact h
  · exact h' d hd
theorem Cas.sc {n m : Nat} {D : PyData} (h : Cas n m D) (hm : n + m ≤ 100) : Sc (2 * n + 1) D := by
  induction h with
  | emp => exact (sc_tup (n := 0) shn).mono (by omega)
  | mk k0 k1 hl _ ih => exact (sc_tup (shc sc_int (shc (sc_list (fun c hc => ih c hc (by omega)) (by omega)) shn))).mono (by omega)


def mk99 (zs : List V) : List V := zs ++ [.int 99]
def pr_law_marked (K : PySem.W.Frag) (d : Nat) (v0 : V) (H : Hp) (Q : VK) (_ : XK) : Prop := ∃ (D : PyData) (L : List Addr) (n m : Nat), Tr id K H v0 D L ∧ L.Nodup ∧ D ≠ .tuple [] ∧ Cas n m D ∧ n + m ≤ 100 ∧ n < d ∧ ∀ H', Same (hid L H) (hid L H') → Tr mk99 K H' v0 D L → Q .non H'
def spd_law_marked (K : PySem.W.Frag) : Nat → Sp
  | 0 => fun _ _ _ _ => False
  | d + 1 => fun vs H Q E => ∃ v0, vs = [v0] ∧ pr_law_marked K d v0 H Q E
def t_law_marked (K : PySem.W.Frag) (sp : Sp) : TS :=
  (tSeq (tAsg (tCB (rListOf K) (tCons (tOp (rIxT K) (tVar 0) (tC (.int 1))) tNil)) (gName 1))
    (tSeq (tDrop (tBM K "list" rAppend (tOp (rIxT K) (tVar 0) (tC (.int 1))) (tCons (tC (.int 99)) tNil)))
    (tFor (iList K (tVar 1)) (gName 2)
      (tIfS (tTest (tOp rEq (tCB (rLenX K) (tCons (tVar 2) tNil)) (tC (.int 2)))) (tDrop (tCall sp [] E0 (tCons (tVar 2) tNil))) tNext))))
theorem pure_law_marked {d : Nat} {v0 : V} {H : Hp} {Q : VK} {E : XK} (hh : pr_law_marked K d v0 H Q E) : t_law_marked K (spd_law_marked K d) ⟨fun _ H' => Q .non H', Q, fun _ _ => False, fun _ _ => False⟩ [some v0, none, none] H := by
  obtain ⟨D, L, n, m, tr, nd, hne, cas, hnm, hd, q⟩ := hh
  have al := tr.alive
  cases tr with
  | emp => exact absurd rfl hne
  | mk h1 h2 h3 =>
  rename_i p l k zs cs L
  cases cas with
  | mk k0 k1 hl hc =>
  rename_i n
  obtain ⟨d, rfl⟩ : ∃ d', d = d' + 1 := ⟨d - 1, by omega⟩
  have lzs := h3.len
  have hlL : l ∉ L := (List.nodup_cons.mp nd).1
  have ndL : L.Nodup := (List.nodup_cons.mp nd).2
  replace h2 : H l = some (.lst zs) := h2
  unfold t_law_marked
  wtm_at "s"
  refine k_listN (sl h2) (fun fo H1 nfo s1 e1 => ?_)
  have h21 := s1 _ _ h2
  have fol : fo ≠ l := fun z => by rw [z, h2] at nfo; cases nfo
  have foL : fo ∉ L := fun z => by obtain ⟨ws, hw⟩ := h3.alive fo z; rw [nfo] at hw; cases hw
  have h11 := same_seqT s1 h1
  wtm_at "s"
  refine k_tyL (sl h21) ?_
  wtm_at "s"
  refine k_append h21 (by omega) ?_
  have S2 : Same (hid (l :: L) H) (hid (l :: L) (upd H1 l (.lst (zs ++ [.int 99])))) := by rw [hid_upd (by simp)]; exact hid_mono s1
  have e2 : upd H1 l (.lst (zs ++ [.int 99])) fo = some (.lst zs) := by rw [upd_ne fol]; exact e1
  have el2 : upd H1 l (.lst (zs ++ [.int 99])) l = some (.lst (mk99 zs)) := upd_same
  have t2 := (h3.same s1).upd (o := .lst (zs ++ [.int 99])) h21 hlL
  generalize upd H1 l (.lst (zs ++ [.int 99])) = H2 at S2 e2 el2 t2 ⊢
  wtm_at "s"
  refine forL (sl e2) (fun i σ' H' => Same (hid (l :: L) H) (hid (l :: L) H') ∧ (∃ k2, σ' = [some (.ref p), some (.ref fo), k2]) ∧ H' l = some (.lst (mk99 zs)) ∧ H' fo = some (.lst zs) ∧ ∃ La Lb, L = La ++ Lb ∧ TrA mk99 K H' (zs.take i) (cs.take i) La ∧ TrA id K H' (zs.drop i) (cs.drop i) Lb) ⟨S2, ⟨_, rfl⟩, el2, e2, [], L, rfl, .nil, t2⟩ (fun i σ' H' _ z => sl z.2.2.2.1) ?_ ?_
  · clear S2 e2 el2 t2 h21 h11 e1 s1
    rintro i x σ' H3 hx ⟨s3, ⟨k2, rfl⟩, el, efo, La, Lb, eL, ta, tb⟩
    obtain ⟨hi, rfl⟩ := List.getElem?_eq_some_iff.mp hx
    have hi2 : i < cs.length := by omega
    have ez : zs.take (i + 1) = zs.take i ++ [zs[i]] := by rw [List.take_add_one, hx]; rfl
    have ec : cs.take (i + 1) = cs.take i ++ [cs[i]] := by rw [List.take_add_one, List.getElem?_eq_getElem hi2]; rfl
    rw [List.drop_eq_getElem_cons hi, List.drop_eq_getElem_cons hi2] at tb
    have hcc := hc cs[i] (List.getElem_mem hi2)
    generalize zs[i] = z at tb ez hx ⊢
    generalize cs[i] = c at tb ec hcc
    cases tb with
    | cons ht hr =>
    rename_i L1 L2
    subst eL
    obtain ⟨nda, ndb, dab⟩ := List.nodup_append.mp ndL
    obtain ⟨nd1, nd2, d12⟩ := List.nodup_append.mp ndb
    cases ht with
    | emp hq =>
      rename_i pz
      wtm_at "s"
      refine k_lenT hq ?_
      wtm_at "s"
      exact ⟨s3, ⟨_, rfl⟩, el, efo, La ++ [], L2, by rw [List.append_nil]; rfl, by rw [ez, ec]; exact TrA.app (.emp hq) ta, hr⟩
    | mk q1 q2 q3 =>
      rename_i pz lz kz ws ds L1
      have ht : Tr id K H3 (.ref pz) (.tuple [.int kz, .list ds]) (lz :: L1) := .mk q1 q2 q3
      wtm_at "s"
      refine k_lenT q1 ?_
      wtm_at "s"
      refine k_it (fun c2 => ?_) (fun c2 => absurd rfl c2)
      wtm_at "s"
      have hx1 := ht.alive
      generalize lz :: L1 = L1 at ht hlL foL ndL nda ndb dab nd1 nd2 d12 hx1 s3 q al ⊢
      refine ⟨_, rfl, _, L1, n, m + 1, ht, nd1, (fun z => by cases z), hcc, by omega, by omega, fun H4 s4 t4 => ?_⟩
      have lL1 : l ∉ L1 := fun z => hlL (by simp [z])
      have foL1 : fo ∉ L1 := fun z => foL (by simp [z])
      wtm_at "s"
      exact ⟨s3.trans (hid_more s4 (fun a ha => by simp [ha])), ⟨_, rfl⟩, keep_hid el lL1 s4, keep_hid efo foL1 s4, La ++ L1, L2, by rw [List.append_assoc], by rw [ez, ec]; exact TrA.app t4 (ta.frame hx1 s4 fun a ha hb => dab a ha a (List.mem_append_left _ hb) rfl), hr.frame hx1 s4 fun a ha hb => d12 a hb a ha rfl⟩
  · rintro σ' H3 ⟨s3, ⟨k2, rfl⟩, el, efo, La, Lb, eL, ta, tb⟩
    rw [List.drop_eq_nil_of_le (Nat.le_refl _), List.drop_eq_nil_of_le (by omega)] at tb
    rw [List.take_length, lzs, List.take_length] at ta
    cases tb
    rw [List.append_nil] at eL
    subst eL
    wtm_at "s"
    exact q H3 s3 (.mk (sqT_hid h1 al s3) el ta)
theorem okd_law_marked (T : Txt K mg A) : ∀ d : Nat, FnOk P w K mg base CX0 (1 + d) A.a_law_marked A.d_law_marked ["_law_case_here"] (spd_law_marked K d)
  | 0 => T.F_law_marked.ok sc_law_marked (fun vs H Q E h => False.elim h) (fun cdv A0 outer s H vs Q E hr h => False.elim h)
  | d + 1 => by
    refine T.F_law_marked.ok sc_law_marked (fun vs H Q E h => by obtain ⟨v0, rfl, _⟩ := h; rfl) (fun cdv A0 outer s H vs Q E hr h => ?_)
    obtain ⟨v0, rfl, h⟩ := h
    exact ⟨t_law_marked K (spd_law_marked K d), (pss_cons (ps_set (i := 1) sc_law_marked.nd rfl (Or.inl rfl) (pe_callTy q_listOf (by rfl) T.z_list (by decide +kernel) (pa_cons (pe_ix ix_tup (pv 0) pe_int (fun _ _ => rfl)) pa_nil)))
      (pss_cons (ps_expr (pe_bm PySem.F.plainAttrs_list PySem.F.slot_list_append PySem.F.type_list_append mt_append (pe_ix ix_tup (pv 0) pe_int (fun _ _ => rfl)) (pa_cons pe_int pa_nil)))
      (pss_one (ps_for PassesOwn.never rfl (pi_list (pv 1)) (pg_name (i := 2) sc_law_marked.nd rfl (Or.inl rfl))
      (pss_one (ps_if (pt_cmpR op_eq (pe_callB q_len (by rfl) T.z_len (by decide +kernel) (pa_cons (pv 2) pa_nil)) pe_int (nomark _)) (pss_one (ps_expr (pe_call (okd_law_marked T d) (hr.mono (by first | decide | omega | (simp only [Nat.add_eq]; omega))) (by rfl) T.g_law_marked T.F_law_marked.kp T.b_law_marked .nil pass0 (pa_cons (pv 2) pa_nil)))) pss_nil)))))), pure_law_marked h⟩
abbrev sp_law_marked (K : PySem.W.Frag) : Sp := fun vs H Q E => ∃ v0, vs = [v0] ∧ ∃ d : Nat, d < 12 ∧ pr_law_marked K d v0 H Q E
theorem ok_law_marked (T : Txt K mg A) : FnOk P w K mg base CX0 13 A.a_law_marked A.d_law_marked ["_law_case_here"] (sp_law_marked K) := by
  refine T.F_law_marked.ok sc_law_marked (fun vs H Q E h => by obtain ⟨v0, rfl, _⟩ := h; rfl) (fun cdv A0 outer s H vs Q E hr h => ?_)
  obtain ⟨v0, rfl, d, hd, h⟩ := h
  exact ⟨t_law_marked K (spd_law_marked K d), (pss_cons (ps_set (i := 1) sc_law_marked.nd rfl (Or.inl rfl) (pe_callTy q_listOf (by rfl) T.z_list (by decide +kernel) (pa_cons (pe_ix ix_tup (pv 0) pe_int (fun _ _ => rfl)) pa_nil)))
      (pss_cons (ps_expr (pe_bm PySem.F.plainAttrs_list PySem.F.slot_list_append PySem.F.type_list_append mt_append (pe_ix ix_tup (pv 0) pe_int (fun _ _ => rfl)) (pa_cons pe_int pa_nil)))
      (pss_one (ps_for PassesOwn.never rfl (pi_list (pv 1)) (pg_name (i := 2) sc_law_marked.nd rfl (Or.inl rfl))
      (pss_one (ps_if (pt_cmpR op_eq (pe_callB q_len (by rfl) T.z_len (by decide +kernel) (pa_cons (pv 2) pa_nil)) pe_int (nomark _)) (pss_one (ps_expr (pe_call (okd_law_marked T d) (hr.mono (by first | decide | omega | (simp only [Nat.add_eq]; omega))) (by rfl) T.g_law_marked T.F_law_marked.kp T.b_law_marked .nil pass0 (pa_cons (pv 2) pa_nil)))) pss_nil)))))), pure_law_marked h⟩


theorem layAll_app : ∀ {ds es : List PyData}, PyData.canLayAll0 ds = true → PyData.canLayAll0 es = true → PyData.canLayAll0 (ds ++ es) = true
  | [], _, _, h => h
  | a :: r, es, h, h' => by
    have h1 : (a.canLay0 && PyData.canLayAll0 r) = true := h
    rw [Bool.and_eq_true] at h1
    show (a.canLay0 && PyData.canLayAll0 (r ++ es)) = true
    rw [h1.1, layAll_app h1.2 h']
    rfl
mutual
theorem Tr.dpm {K : PySem.W.Frag} {H : Hp} {v : V} {D : PyData} {L : List Addr} : Tr mk99 K H v D L → ∃ ds, Dp K H v (.tuple ds) ∧ PyData.canLayAll0 ds = true
  | .emp h => ⟨[], .tup h .nil, rfl⟩
  | .mk h1 h2 h3 => by
    obtain ⟨ds, h4, h5, _⟩ := TrA.dpm h3
    refine ⟨[.int _, .list (ds ++ [.int 99])], .tup h1 (.cons (.int _) (.cons (.lst (sl h2) (dpa_app h4 (.cons (.int _) .nil))) .nil)), ?_⟩
    show (true && (PyData.canLayAll0 (ds ++ [.int 99]) && true)) = true
    rw [layAll_app h5 rfl]
    rfl
theorem TrA.dpm {K : PySem.W.Frag} {H : Hp} {v : List V} {D : List PyData} {L : List Addr} : TrA mk99 K H v D L → ∃ ds, DpAll K H v ds ∧ PyData.canLayAll0 ds = true ∧ ∀ d ∈ ds, ∃ es, d = .tuple es
  | .nil => ⟨[], .nil, rfl, fun d h => by cases h⟩
  | .cons h1 h2 => by
    obtain ⟨d, a1, a2⟩ := Tr.dpm h1
    obtain ⟨ds, b1, b2, b3⟩ := TrA.dpm h2
    refine ⟨.tuple d :: ds, .cons a1 b1, ?_, fun x hx => ?_⟩
    · show (PyData.canLayAll0 d && PyData.canLayAll0 ds) = true
      rw [a2, b2]; rfl
    · rcases List.mem_cons.mp hx with rfl | hx
      · exact ⟨d, rfl⟩
      · exact b3 x hx
end
theorem TrA.get {f : List V → List V} {K : PySem.W.Frag} {H : Hp} : ∀ {zs : List V} {cs : List PyData} {L : List Addr} {i : Nat} {z : V}, TrA f K H zs cs L → zs[i]? = some z → ∃ c L1, c ∈ cs ∧ Tr f K H z c L1
  | _, _, _, _, _, .nil, h => by simp at h
  | _, _, _, 0, _, .cons h1 _, h => by cases h; exact ⟨_, _, List.mem_cons_self, h1⟩
  | _, _, _, i + 1, _, .cons _ h2, h => by
    obtain ⟨c, L1, hc, t⟩ := TrA.get h2 (by simpa using h)
    exact ⟨c, L1, List.mem_cons_of_mem _ hc, t⟩
theorem cnt99 {zs : List V} (h : ∀ z ∈ zs, ∃ p, z = .ref p) : (mk99 zs).countP (isK 99) = 1 := by
  unfold mk99
  rw [List.countP_append]
  have : zs.countP (isK 99) = 0 := List.countP_eq_zero.mpr fun z hz => by
    obtain ⟨p, rfl⟩ := h z hz
    rw [show isK 99 (V.ref p) = false from rfl]
    decide
  rw [this]
  rfl
theorem cut99 (zs : List V) : cutV (mk99 zs) none (some (-1)) = zs := by
  unfold cutV mk99
  have e : HT.sIx (zs ++ [V.int 99]).length 0 none = 0 := rfl
  have e2 : HT.sIx (zs ++ [V.int 99]).length (zs ++ [V.int 99]).length (some (-1)) = zs.length := by
    unfold HT.sIx
    simp
    try omega
  rw [e, e2]
  simp
def pr_law_once (K : PySem.W.Frag) (d : Nat) (v0 : V) (H : Hp) (Q : VK) (_ : XK) : Prop := ∃ (D : PyData) (L : List Addr) (n m : Nat), Tr mk99 K H v0 D L ∧ D ≠ .tuple [] ∧ Cas n m D ∧ n + m ≤ 100 ∧ n < d ∧ ∀ H', Same H H' → Q (.bl true) H'
def spd_law_once (K : PySem.W.Frag) : Nat → Sp
  | 0 => fun _ _ _ _ => False
  | d + 1 => fun vs H Q E => ∃ v0, vs = [v0] ∧ pr_law_once K d v0 H Q E
def t_law_once (K : PySem.W.Frag) (sp : Sp) : TS :=
  (tSeq (tIfS (tTest (tOp rNe (tBM K "list" (rCntD K) (tOp (rIxT K) (tVar 0) (tC (.int 1))) (tCons (tC (.int 99)) tNil)) (tC (.int 1)))) (tRet (tC (.bl false))) tNext)
    (tSeq (tFor (iList K (tSl (rSlL K) (tOp (rIxT K) (tVar 0) (tC (.int 1))) tNoPart (tPart (tUn xNeg (tC (.int 1)))))) (gName 1)
      (tIfS (tAnd (tTest (tOp rEq (tCB (rLenX K) (tCons (tVar 1) tNil)) (tC (.int 2)))) (tNot (tB (tCall sp [] E0 (tCons (tVar 1) tNil))))) (tRet (tC (.bl false))) tNext))
    (tRet (tC (.bl true)))))
theorem pure_law_once {d : Nat} {v0 : V} {H : Hp} {Q : VK} {E : XK} (hh : pr_law_once K d v0 H Q E) : t_law_once K (spd_law_once K d) ⟨fun _ H' => Q .non H', Q, fun _ _ => False, fun _ _ => False⟩ [some v0, none] H := by
  obtain ⟨D, L, n, m, tr, hne, cas, hnm, hd, q⟩ := hh
  cases tr with
  | emp => exact absurd rfl hne
  | mk h1 h2 h3 =>
  rename_i p l k zs cs L
  cases cas with
  | mk k0 k1 hl hc =>
  rename_i n
  obtain ⟨d, rfl⟩ : ∃ d', d = d' + 1 := ⟨d - 1, by omega⟩
  have lzs := h3.len
  have refs : ∀ z ∈ zs, ∃ p, z = .ref p := fun z hz => by
    obtain ⟨i, hi, e⟩ := List.mem_iff_getElem.mp hz
    obtain ⟨c, L1, _, t⟩ := h3.get (show zs[i]? = some z by rw [List.getElem?_eq_getElem hi, e])
    obtain ⟨p, _, e, _⟩ := t.tup
    exact ⟨p, e⟩
  obtain ⟨ds, dds, lds, kds⟩ := h3.dpm
  unfold t_law_once
  wtm_at "s"
  refine k_tyL (sl h2) ?_
  wtm_at "s"
  refine ⟨l, mk99 zs, ds ++ [.int 99], 99, rfl, rfl, sl h2, dpa_app dds (.cons (.int _) .nil), layAll_app lds rfl, fun d hd => ?_, ?_⟩
  · rcases List.mem_append.mp hd with hd | hd
    · exact .inl (kds d hd)
    · exact .inr ⟨99, List.mem_singleton.mp hd⟩
  rw [cnt99 refs]
  wtm_at "s"
  refine k_slL (sl h2) (fun sp H1 nsp s1 e1 => ?_)
  rw [cut99] at e1
  wtm_at "s"
  refine forL (sl e1) (fun i σ' H' => Same H1 H' ∧ ∃ k1, σ' = [some (.ref p), k1]) ⟨Same.refl _, _, rfl⟩ (fun i σ' H' _ z => sl (z.1 _ _ e1)) ?_ ?_
  · rintro i x σ' H2 hx ⟨s2, k1, rfl⟩
    obtain ⟨c, L1, hcm, t⟩ := h3.get hx
    have hcc := hc c hcm
    have t2 := t.same (s1.trans s2)
    cases t2 with
    | emp hq =>
      wtm_at "s"
      refine k_lenT hq ?_
      wtm_at "s"
      exact ⟨s2, _, rfl⟩
    | mk q1 q2 q3 =>
      wtm_at "s"
      refine k_lenT q1 ?_
      wtm_at "s"
      refine k_it (fun c2 => ?_) (fun c2 => absurd rfl c2)
      wtm_at "s"
      refine ⟨_, rfl, _, _, n, m + 1, .mk q1 q2 q3, (fun z => by cases z), hcc, by omega, by omega, fun H3 s3 => ?_⟩
      wtm_at "s"
      exact ⟨s2.trans s3, _, rfl⟩
  · rintro σ' H2 ⟨s2, k1, rfl⟩
    wtm_at "s"
    exact q H2 (s1.trans s2)
theorem okd_law_once (T : Txt K mg A) : ∀ d : Nat, FnOk P w K mg base CX0 (1 + d) A.a_law_once A.d_law_once ["_law_case_here"] (spd_law_once K d)
  | 0 => T.F_law_once.ok sc_law_once (fun vs H Q E h => False.elim h) (fun cdv A0 outer s H vs Q E hr h => False.elim h)
  | d + 1 => by
    refine T.F_law_once.ok sc_law_once (fun vs H Q E h => by obtain ⟨v0, rfl, _⟩ := h; rfl) (fun cdv A0 outer s H vs Q E hr h => ?_)
    obtain ⟨v0, rfl, h⟩ := h
    exact ⟨t_law_once K (spd_law_once K d), (pss_cons (ps_if (pt_cmpR op_ne (pe_bm PySem.F.plainAttrs_list PySem.F.slot_list_count PySem.F.type_list_count (mt_lcountD hr.units) (pe_ix ix_tup (pv 0) pe_int (fun _ _ => rfl)) (pa_cons pe_int pa_nil)) pe_int (nomark _)) (pss_one (ps_ret pe_bl)) pss_nil)
      (pss_cons (ps_for PassesOwn.never rfl (pi_list (pe_slice sl_list (pe_ix ix_tup (pv 0) pe_int (fun _ _ => rfl)) po_none (po_some (pe_un un_neg pe_int)))) (pg_name (i := 1) sc_law_once.nd rfl (Or.inl rfl))
      (pss_one (ps_if (PW.pt (pw_and (pt_cmpR op_eq (pe_callB q_len (by rfl) T.z_len (by decide +kernel) (pa_cons (pv 1) pa_nil)) pe_int (nomark _)) (pw_and1 (pt_not (pt_val (pe_call (okd_law_once T d) (hr.mono (by first | decide | omega | (simp only [Nat.add_eq]; omega))) (by rfl) T.g_law_once T.F_law_once.kp T.b_law_once .nil pass0 (pa_cons (pv 1) pa_nil))))))) (pss_one (ps_ret pe_bl)) pss_nil)))
      (pss_one (ps_ret pe_bl)))), pure_law_once h⟩
abbrev sp_law_once (K : PySem.W.Frag) : Sp := fun vs H Q E => ∃ v0, vs = [v0] ∧ ∃ d : Nat, d < 12 ∧ pr_law_once K d v0 H Q E
theorem ok_law_once (T : Txt K mg A) : FnOk P w K mg base CX0 13 A.a_law_once A.d_law_once ["_law_case_here"] (sp_law_once K) := by
  refine T.F_law_once.ok sc_law_once (fun vs H Q E h => by obtain ⟨v0, rfl, _⟩ := h; rfl) (fun cdv A0 outer s H vs Q E hr h => ?_)
  obtain ⟨v0, rfl, d, hd, h⟩ := h
  exact ⟨t_law_once K (spd_law_once K d), (pss_cons (ps_if (pt_cmpR op_ne (pe_bm PySem.F.plainAttrs_list PySem.F.slot_list_count PySem.F.type_list_count (mt_lcountD hr.units) (pe_ix ix_tup (pv 0) pe_int (fun _ _ => rfl)) (pa_cons pe_int pa_nil)) pe_int (nomark _)) (pss_one (ps_ret pe_bl)) pss_nil)
      (pss_cons (ps_for PassesOwn.never rfl (pi_list (pe_slice sl_list (pe_ix ix_tup (pv 0) pe_int (fun _ _ => rfl)) po_none (po_some (pe_un un_neg pe_int)))) (pg_name (i := 1) sc_law_once.nd rfl (Or.inl rfl))
      (pss_one (ps_if (PW.pt (pw_and (pt_cmpR op_eq (pe_callB q_len (by rfl) T.z_len (by decide +kernel) (pa_cons (pv 1) pa_nil)) pe_int (nomark _)) (pw_and1 (pt_not (pt_val (pe_call (okd_law_once T d) (hr.mono (by first | decide | omega | (simp only [Nat.add_eq]; omega))) (by rfl) T.g_law_once T.F_law_once.kp T.b_law_once .nil pass0 (pa_cons (pv 1) pa_nil))))))) (pss_one (ps_ret pe_bl)) pss_nil)))
      (pss_one (ps_ret pe_bl)))), pure_law_once h⟩


theorem str_okC (s : Str) (h : PyData.strOk s = true) {n : Nat} : Sh n (.str s) := ⟨h, Nat.zero_le _⟩
theorem sh_netC (N : Net) : Sh 4 N.d := by
  cases N with
  | line n => exact sh_two (str_okC _ (by show PyData.strOk (Str.ofString "line") = true; decide +kernel)) sh_int
  | ring n => exact sh_two (str_okC _ (by show PyData.strOk (Str.ofString "ring") = true; decide +kernel)) sh_int
  | tree ps => exact sh_two (str_okC _ (by show PyData.strOk (Str.ofString "tree") = true; decide +kernel)) (sh_ints ps)
theorem same_free {A B : Hp} {L : List Addr} (s : Same A B) (f : ∀ x ∈ L, A x = none) : Same A (hid L B) := fun b o hb => by
  rw [hid_ne (fun z => by rw [f b z] at hb; cases hb)]
  exact s b o hb
def sp_law (K : PySem.W.Frag) : Sp := fun vs H Q _ => ∃ (a : Addr) (ns : List Int), vs = [.ref a] ∧ SqL K H a (ns.map V.int) ∧ ns.length ≤ 63 ∧ ∀ H', Q (.bl true) H'
def t_law (K : PySem.W.Frag) : TS :=
  (tSeq (tAsg (tCall (sp_law_draws K) [] E0 (tCons (tVar 0) (tCons (tC (.int 20)) tNil))) (gName 1))
    (tSeq (tAsg (tCall (sp_law_given K) [] E0 (tCons (tVar 1) (tCons (tC (.str (Str.ofString "any"))) (tCons (tC (.int 8)) tNil)))) (gTup K 2 (gCons (gName 2) (gCons (gName 3) gNil))))
    (tSeq (tAsg (tCall (sp_law_meets K) [] E0 (tCons (tVar 2) (tCons (tVar 3) tNil))) (gName 4))
    (tSeq (tAsg (tCall (sp_law_fewest K) [] E0 (tCons (tVar 4) tNil)) (gName 5))
    (tSeq (tAsg (tCB (rListOf K) (tCons (tVar 3) tNil)) (gName 6))
    (tSeq (tFor (iRng1 (tCons (tOp xAdd (tVar 5) (tC (.int 3))) tNil)) (gName 7)
      (tSeq (tAsg (tCall (sp_case_of K) [] E0 (tCons (tVar 2) (tCons (tVar 6) (tCons (tVar 7) tNil)))) (gName 8))
    (tSeq (tIfS (tOr (tTest (tOp (rNeD K) (tTup (tCons (tVar 2) (tCons (tVar 6) tNil))) (tCall (sp_law_given K) [] E0 (tCons (tVar 1) (tCons (tC (.str (Str.ofString "any"))) (tCons (tC (.int 8)) tNil)))))) (tTest (tOp rNe (tOp xIsN (tVar 8) (tC .non)) (tOp xGe (tVar 7) (tVar 5))))) (tRet (tC (.bl false))) tNext)
    (tIfS (tTest (tOp xNotN (tVar 8) (tC .non))) (tSeq (tIfS (tOr (tNot (tB (tCall (sp_law_right K) [] E0 (tCons (tVar 4) (tCons (tVar 7) (tCons tDNewK (tCons (tVar 8) tNil))))))) (tTest (tOp xNotB (tCall (sp_case_judged K) [] E0 (tCons (tVar 2) (tCons (tVar 6) (tCons (tVar 7) (tCons (tVar 8) tNil))))) (tC (.bl true))))) (tRet (tC (.bl false))) tNext)
    (tSeq (tAsg (tCall (sp_law_copied K) [] E0 (tCons (tVar 8) tNil)) (gName 9))
    (tSeq (tDrop (tCall (sp_law_marked K) [] E0 (tCons (tVar 8) tNil)))
    (tIfS (tOr (tNot (tB (tCall (sp_law_once K) [] E0 (tCons (tVar 8) tNil)))) (tTest (tOp (rNeD K) (tCall (sp_case_of K) [] E0 (tCons (tVar 2) (tCons (tVar 6) (tCons (tVar 7) tNil)))) (tVar 9)))) (tRet (tC (.bl false))) tNext)))) tNext))))
    (tRet (tC (.bl true)))))))))
theorem pure_law {v0 : V} {H : Hp} {Q : VK} (h : ∃ (a : Addr) (ns : List Int), v0 = .ref a ∧ SqL K H a (ns.map V.int) ∧ ns.length ≤ 63 ∧ ∀ H', Q (.bl true) H') : t_law K ⟨fun _ H' => Q .non H', Q, fun _ _ => False, fun _ _ => False⟩ [some v0, none, none, none, none, none, none, none, none, none] H := by
  obtain ⟨a, ns, rfl, ha, hz, q⟩ := h
  unfold t_law
  wtm_at "s"
  refine ⟨_, _, rfl, a, ns, 20, rfl, ha, hz, rfl, by decide, fun dl us0 H1 ndl s1 e1 lus hus => ?_⟩
  wtm_at "s"
  refine ⟨_, _, _, rfl, dl, us0, 8, rfl, sl e1, hus, rfl, rfl, by decide, by omega, fun p0 nt wl ys H2 np0 nnt nwl s2 e2 dN ew dys => ?_⟩
  have e12 := s2 _ _ e1
  have hok := givenW_ok (us := us0) (most := ((8 : Nat) : Int)) (netF_ok (x := us0.getD 0 0) (m := givC) (by decide) (by decide))
  have ok : (netF (us0.getD 0 0) givC).ok := netF_ok (by decide) (by decide)
  have hwl : (givenW us0 (netF (us0.getD 0 0) givC) ((8 : Nat) : Int)).length ≤ 8 := by
    rw [givenW_len]; unfold givenN
    have := Int.emod_lt_of_pos (us0.getD 1 0) (show (0 : Int) < ((8 : Nat) : Int) + 1 by decide)
    omega
  have dW : Dp K H2 (.ref wl) (dPairs (givenW us0 (netF (us0.getD 0 0) givC) ((8 : Nat) : Int))) := .lst (sl ew) dys
  generalize hW : givenW us0 (netF (us0.getD 0 0) givC) ((8 : Nat) : Int) = ws at hok hwl dW dys
  generalize hN : netF (us0.getD 0 0) givC = N at hok dN ok hW
  clear s1 e1 np0 nnt nwl ha ndl
  wtm_at "s"
  refine ⟨_, _, rfl, N, ws, [], dN, ok, dW, by omega, hok, (fun x hx => by cases hx), fun pm H3 npm s3 dM => ?_⟩
  replace dM := dp_same (hid_same _ _) dM
  have ml := meetF_len N ws
  have A := meetF_adj N ws
  have rl : ∀ r ∈ meetF N ws, r.length ≤ 1000 := fun r hr => by have := A.len r hr; omega
  have e13 := s3 _ _ e12
  have dN3 := dp_same s3 dN
  have dys3 := dpa_same s3 dys
  have ew3 := s3 _ _ ew
  clear e2 e12 s2 s3 dN dW npm ew dys
  wtm_at "s"
  refine ⟨_, rfl, meetF N ws, dM, by omega, A, fun f H4 s4 hf hen hlow => ?_⟩
  have ew4 := s4 _ _ ew3
  wtm_at "s"
  refine k_listN (sl ew4) (fun hl H5 nhl s5 e5 => ?_)
  have s35 := s4.trans s5
  have dH : Dp K H5 (.ref hl) (dPairs ws) := .lst (sl e5) (dpa_same s35 dys3)
  have dN5 := dp_same s35 dN3
  have dM5 := dp_same s35 dM
  have e15 := s35 _ _ e13
  have proper : ∀ i : Nat, (∃ g, Proper (meetF N ws) (i : Int) g) → enoughF (meetF N ws) (i : Int) (meetF N ws).length [] = true := fun i ⟨g, p⟩ => col_enough A p (by simp) Can.nil (fun j hj => by simp at hj)
  have top : ∃ g, Proper (meetF N ws) (f : Int) g := enough_col A hen (by simp) (fun x hx => by cases hx) (fun i hi => by simp at hi)
  have inlF : ∀ (i : Nat) g, goF (meetF N ws) (i : Int) 11 [] = .inl g → f ≤ i := fun i g eg => by
    obtain ⟨g1, g2, g3, g4⟩ := go_dict A (fun {g k u} un kn => Uni.add un kn) eg Uni.nil Kin.nil (by rw [frN_nil]; omega) PrpS.nil
    have := proper i ⟨_, full_proper A g1 g2 g3 g4⟩
    refine Classical.byContradiction fun z => ?_
    rw [hlow i (by omega)] at this
    cases this
  have inrF : ∀ (i : Nat) D, goF (meetF N ws) (i : Int) 11 [] = .inr D → caseJ (meetF N ws) (i : Int) 11 [] D = true ∧ i < f := fun i D eg => by
    have cj := go_case eg Uni.nil Kin.nil (fun {g k u} un kn => Uni.add un kn)
    refine ⟨cj, Classical.byContradiction fun z => ?_⟩
    obtain ⟨g, p⟩ := top
    exact case_bars A cj (m := 0) Can.nil (p.more (show (f : Int) ≤ (i : Int) by omega)) (fun k u _ y => by cases y)
  clear s4 s5 s35 ew3 ew4 dys3 dN3 dM e13 nhl proper top hen hlow
  wtm_at "s"
  refine forR (fun i σ' H' => Same H5 H' ∧ ∃ k7 k8 k9, σ' = [some (.ref a), some (.ref dl), some (.ref nt), some (.ref wl), some (.ref pm), some (.int (f : Int)), some (.ref hl), k7, k8, k9]) ⟨Same.refl _, _, _, _, rfl⟩ ?_ ?_
  · rintro i σ' HA hi ⟨sA, k7, k8, k9, rfl⟩
    simp only [Int.zero_add]
    have hi' : i ≤ 11 := by omega
    have dNA := dp_same sA dN5
    have dHA := dp_same sA dH
    have dMA := dp_same sA dM5
    have e1A := sA _ _ e15
    wtm_at "s"
    refine ⟨_, _, _, rfl, N, ws, (i : Int), dNA, ok, dHA, by omega, hok, rfl, by omega, by omega, fun g HB sB eg => ?_, fun v D L HB sB eg tr nd fr => ?_⟩
    · have hfi := inlF i g eg
      wtm_at "s"
      refine kT (by simp) (fun t HC nt' sC eC => ?_)
      have sBC := sB.trans sC
      wtm_at "s"
      refine ⟨_, _, _, rfl, dl, us0, 8, rfl, sl (sBC _ _ e1A), hus, rfl, rfl, by decide, by omega, fun p1 nt1 wl1 ys1 HD np1 nnt1 nwl1 sD eD dN1 ew1 dys1 => ?_⟩
      rw [hN] at dN1 dys1
      rw [hW] at dys1
      have sAD := sBC.trans sD
      refine k_neD0 (c := .tuple [N.d, dPairs ws]) (n := 5) (.tup (stp (sD _ _ eC)) (.cons (dp_same sAD dNA) (.cons (dp_same sAD dHA) .nil))) (.tup (stp eD) (.cons dN1 (.cons (.lst (sl ew1) dys1) .nil))) (sh_two (n := 4) (sh_netC N) ((sh_pairs (n := 0) ws).mono (by decide))) (by decide) ?_
      wtm_at "s"
      refine k_itNF (decide_eq_true (by omega)).symm ?_
      wtm_at "s"
      exact ⟨sA.trans sAD, _, _, _, rfl⟩
    · obtain ⟨cj, hif⟩ := inrF i D eg
      have hne : D ≠ .tuple [] := fun z => by rw [z] at cj; cases cj
      have cas : Cas 8 0 D := by
        have := cas_of (by omega) cj
        rw [frN_nil] at this
        exact this.mono (by omega)
      have scD : Sc 17 D := cas.sc (by decide)
      obtain ⟨pv, xs, rfl, hpv⟩ := tr.tup
      wtm_at "s"
      refine kT (by simp) (fun t HC nt' sC eC => ?_)
      have sBC := sB.trans sC
      wtm_at "s"
      refine ⟨_, _, _, rfl, dl, us0, 8, rfl, sl (sBC _ _ e1A), hus, rfl, rfl, by decide, by omega, fun p1 nt1 wl1 ys1 HD np1 nnt1 nwl1 sD eD dN1 ew1 dys1 => ?_⟩
      rw [hN] at dN1 dys1
      rw [hW] at dys1
      have sAD := sBC.trans sD
      refine k_neD0 (c := .tuple [N.d, dPairs ws]) (n := 5) (.tup (stp (sD _ _ eC)) (.cons (dp_same sAD dNA) (.cons (dp_same sAD dHA) .nil))) (.tup (stp eD) (.cons dN1 (.cons (.lst (sl ew1) dys1) .nil))) (sh_two (n := 4) (sh_netC N) ((sh_pairs (n := 0) ws).mono (by decide))) (by decide) ?_
      wtm_at "s"
      refine k_itNF (decide_eq_false (by omega)).symm ?_
      have trD := (tr.same sC).same sD
      clear tr dN1 ew1 dys1 eD np1 nnt1 nwl1 eC nt' hpv
      wtm_at "s"
      refine kD (fun de HE nde sE eE => ?_)
      have sAE := sAD.trans sE
      wtm_at "s"
      refine ⟨_, _, _, _, rfl, 11, by decide, meetF N ws, (i : Int), de, [], D, dp_same sAE dMA, by omega, rl, rfl, by omega, by omega, rfl, eE, Uni.nil, by decide, by rw [frN_nil]; omega, (trD.same sE).dp, fun HF sF => ?_⟩
      have sAF := sAE.trans sF
      rw [cj]
      have trF := (trD.same sE).same sF
      wtm_at "s"
      refine ⟨_, _, _, _, rfl, N, ws, (i : Int), D, dp_same sAF dNA, ok, dp_same sAF dHA, by omega, hok, rfl, by omega, by omega, trF.dp, (scD.mono (by decide)).1, fun HG sG => ?_⟩
      have sAG := sAF.trans sG
      rw [cj]
      have trG := trF.same sG
      clear trF trD
      wtm_at "s"
      refine ⟨_, rfl, 44, by decide, D, 40, L, trG.dp, (scD.mono (by decide)).2, by decide, (fun x hx => by obtain ⟨ws, hw⟩ := trG.alive x hx; rw [hw]; exact fun y => nomatch y), fun vk HI sI dK => ?_⟩
      have sAI := sAG.trans sI
      have trI := trG.same sI
      clear trG
      wtm_at "s"
      refine ⟨_, rfl, 11, by decide, D, L, 8, 0, trI, nd, hne, cas, by decide, by decide, fun HJ sJ tm => ?_⟩
      have sAJ : Same HA HJ := ((same_free sAI fr).trans sJ).trans (hid_same _ _)
      have dKJ := dp_same (sJ.trans (hid_same _ _)) dK
      clear trI dK
      wtm_at "s"
      refine ⟨_, rfl, 11, by decide, D, L, 8, 0, tm, hne, cas, by decide, by decide, fun HK sK => ?_⟩
      have sAK := sAJ.trans sK
      wtm_at "s"
      refine ⟨_, _, _, rfl, N, ws, (i : Int), dp_same sAK dNA, ok, dp_same sAK dHA, by omega, hok, rfl, by omega, by omega, fun g HL sL eg2 => ?_, fun v2 D2 L2 HL sL eg2 tr2 nd2 fr2 => ?_⟩
      · rw [eg] at eg2; cases eg2
      · rw [eg] at eg2
        cases eg2
        wtm_at "s"
        refine k_neD0 (c := D) (n := 17) tr2.dp (dp_same (sK.trans sL) dKJ) scD.1 (by decide) ?_
        wtm_at "s"
        exact ⟨sA.trans (sAK.trans sL), _, _, _, rfl⟩
  · rintro σ' HA ⟨sA, k7, k8, k9, rfl⟩
    wtm_at "s"
    exact q _
theorem ok_law (T : Txt K mg A) : FnOk P w K mg base CX0 47 A.a_law A.d_law ["_law_script"] (sp_law K) := by
  refine T.F_law.ok sc_law (fun vs H Q E h => by obtain ⟨a, ns, rfl, _⟩ := h; rfl) (fun cdv A0 outer s H vs Q E hr h => ?_)
  obtain ⟨a, ns, rfl, h⟩ := h
  exact ⟨t_law K, (pss_cons (ps_set (i := 1) sc_law.nd rfl (Or.inl rfl) (pe_call (ok_law_draws T) (hr.mono (by decide)) (by rfl) T.g_law_draws T.F_law_draws.kp T.b_law_draws .nil pass0 (pa_cons (pv 0) (pa_cons pe_int pa_nil))))
      (pss_cons (ps_asg (pe_call (ok_law_given T) (hr.mono (by decide)) (by rfl) T.g_law_given T.F_law_given.kp T.b_law_given .nil pass0 (pa_cons (pv 1) (pa_cons pe_str (pa_cons pe_int pa_nil)))) (pg_tup (by rfl) (pgs_cons (pg_name (i := 2) sc_law.nd rfl (Or.inl rfl)) (pgs_cons (pg_name (i := 3) sc_law.nd rfl (Or.inl rfl)) pgs_nil))))
      (pss_cons (ps_set (i := 4) sc_law.nd rfl (Or.inl rfl) (pe_call (ok_law_meets T) (hr.mono (by decide)) (by rfl) T.g_law_meets T.F_law_meets.kp T.b_law_meets .nil pass0 (pa_cons (pv 2) (pa_cons (pv 3) pa_nil))))
      (pss_cons (ps_set (i := 5) sc_law.nd rfl (Or.inl rfl) (pe_call (ok_law_fewest T) (hr.mono (by decide)) (by rfl) T.g_law_fewest T.F_law_fewest.kp T.b_law_fewest .nil pass0 (pa_cons (pv 4) pa_nil)))
      (pss_cons (ps_set (i := 6) sc_law.nd rfl (Or.inl rfl) (pe_callTy q_listOf (by rfl) T.z_list (by decide +kernel) (pa_cons (pv 3) pa_nil)))
      (pss_cons (ps_for PassesOwn.never rfl (pi_range1 (by rfl) T.z_range (pa_cons (pe_op op_add (pv 5) pe_int) pa_nil)) (pg_name (i := 7) sc_law.nd rfl (Or.inl rfl))
      (pss_cons (ps_set (i := 8) sc_law.nd rfl (Or.inl rfl) (pe_call (ok_case_of T) (hr.mono (by decide)) (by rfl) T.g_case_of T.F_case_of.kp T.b_case_of .nil pass0 (pa_cons (pv 2) (pa_cons (pv 6) (pa_cons (pv 7) pa_nil)))))
      (pss_cons (ps_if (PW.pt (pw_or (pt_cmpR (op_neD hr.units) (pe_tup (pa_cons (pv 2) (pa_cons (pv 6) pa_nil))) (pe_call (ok_law_given T) (hr.mono (by decide)) (by rfl) T.g_law_given T.F_law_given.kp T.b_law_given .nil pass0 (pa_cons (pv 1) (pa_cons pe_str (pa_cons pe_int pa_nil)))) (nomark _)) (pw_or1 (pt_cmpR op_ne (pe_cmpR op_isN (pv 8) pe_non (nomark _)) (pe_cmpR op_ge (pv 7) (pv 5) (nomark _)) (nomark _))))) (pss_one (ps_ret pe_bl)) pss_nil)
      (pss_one (ps_if (pt_cmpR op_notN (pv 8) pe_non (nomark _)) (pss_cons (ps_if (PW.pt (pw_or (pt_not (pt_val (pe_call (ok_law_right T) (hr.mono (by decide)) (by rfl) T.g_law_right T.F_law_right.kp T.b_law_right .nil pass0 (pa_cons (pv 4) (pa_cons (pv 7) (pa_cons pe_dnewK (pa_cons (pv 8) pa_nil))))))) (pw_or1 (pt_cmpR op_notBl (pe_call (ok_case_judged T) (hr.mono (by decide)) (by rfl) T.g_case_judged T.F_case_judged.kp T.b_case_judged .nil pass0 (pa_cons (pv 2) (pa_cons (pv 6) (pa_cons (pv 7) (pa_cons (pv 8) pa_nil))))) pe_bl (nomark _))))) (pss_one (ps_ret pe_bl)) pss_nil)
      (pss_cons (ps_set (i := 9) sc_law.nd rfl (Or.inl rfl) (pe_call (ok_law_copied T) (hr.mono (by decide)) (by rfl) T.g_law_copied T.F_law_copied.kp T.b_law_copied .nil pass0 (pa_cons (pv 8) pa_nil)))
      (pss_cons (ps_expr (pe_call (ok_law_marked T) (hr.mono (by decide)) (by rfl) T.g_law_marked T.F_law_marked.kp T.b_law_marked .nil pass0 (pa_cons (pv 8) pa_nil)))
      (pss_one (ps_if (PW.pt (pw_or (pt_not (pt_val (pe_call (ok_law_once T) (hr.mono (by decide)) (by rfl) T.g_law_once T.F_law_once.kp T.b_law_once .nil pass0 (pa_cons (pv 8) pa_nil)))) (pw_or1 (pt_cmpR (op_neD hr.units) (pe_call (ok_case_of T) (hr.mono (by decide)) (by rfl) T.g_case_of T.F_case_of.kp T.b_case_of .nil pass0 (pa_cons (pv 2) (pa_cons (pv 6) (pa_cons (pv 7) pa_nil)))) (pv 9) (nomark _))))) (pss_one (ps_ret pe_bl)) pss_nil))))) pss_nil)))))
      (pss_one (ps_ret pe_bl)))))))), pure_law ⟨a, ns, rfl, h⟩⟩

theorem all_mk {l : PySem.W.OpenLaw} {w : World} {K : PySem.W.Frag} {h : Heap} {mg : Str → Option Value} {fa : Addr} {f0 f1 f2 f3 f4 f5 f6 f7 f8 f9 f10 f11 f12 f13 f14 f15 f16 f17 f18 f19 f20 f21 f22 f23 f24 f25 f26 f27 f28 f29 f30 f31 f32 f33 f34 f35 f36 f37 f38 : Addr} (X : K.In h) (G : h.Ns mainGlobals mg) (hfa : mg "law" = some (.ref fa))
    {od0 an0 od1 an1 od2 an2 od3 an3 od4 an4 od5 an5 od6 an6 od7 an7 od8 an8 od9 an9 od10 an10 od11 an11 od12 an12 od13 an13 od14 an14 od15 an15 od16 an16 od17 an17 od18 an18 od19 an19 od20 an20 od21 an21 od22 an22 od23 an23 od24 an24 od25 an25 od26 an26 od27 an27 od28 an28 od29 an29 od30 an30 od31 an31 od32 an32 od33 an33 od34 an34 od35 an35 od36 an36 od37 an37 od38 an38 : Option Addr} {sl0 sl1 sl2 sl3 sl4 sl5 sl6 sl7 sl8 sl9 sl10 sl11 sl12 sl13 sl14 sl15 sl16 sl17 sl18 sl19 sl20 sl21 sl22 sl23 sl24 sl25 sl26 sl27 sl28 sl29 sl30 sl31 sl32 sl33 sl34 sl35 sl36 sl37 sl38 : Array (Option Value)} {oc0 kV0 dc0 pm0 cd0 ct0 oc1 kV1 dc1 pm1 cd1 ct1 oc2 kV2 dc2 pm2 cd2 ct2 oc3 kV3 dc3 pm3 cd3 ct3 oc4 kV4 dc4 pm4 cd4 ct4 oc5 kV5 dc5 pm5 cd5 ct5 oc6 kV6 dc6 pm6 cd6 ct6 oc7 kV7 dc7 pm7 cd7 ct7 oc8 kV8 dc8 pm8 cd8 ct8 oc9 kV9 dc9 pm9 cd9 ct9 oc10 kV10 dc10 pm10 cd10 ct10 oc11 kV11 dc11 pm11 cd11 ct11 oc12 kV12 dc12 pm12 cd12 ct12 oc13 kV13 dc13 pm13 cd13 ct13 oc14 kV14 dc14 pm14 cd14 ct14 oc15 kV15 dc15 pm15 cd15 ct15 oc16 kV16 dc16 pm16 cd16 ct16 oc17 kV17 dc17 pm17 cd17 ct17 oc18 kV18 dc18 pm18 cd18 ct18 oc19 kV19 dc19 pm19 cd19 ct19 oc20 kV20 dc20 pm20 cd20 ct20 oc21 kV21 dc21 pm21 cd21 ct21 oc22 kV22 dc22 pm22 cd22 ct22 oc23 kV23 dc23 pm23 cd23 ct23 oc24 kV24 dc24 pm24 cd24 ct24 oc25 kV25 dc25 pm25 cd25 ct25 oc26 kV26 dc26 pm26 cd26 ct26 oc27 kV27 dc27 pm27 cd27 ct27 oc28 kV28 dc28 pm28 cd28 ct28 oc29 kV29 dc29 pm29 cd29 ct29 oc30 kV30 dc30 pm30 cd30 ct30 oc31 kV31 dc31 pm31 cd31 ct31 oc32 kV32 dc32 pm32 cd32 ct32 oc33 kV33 dc33 pm33 cd33 ct33 oc34 kV34 dc34 pm34 cd34 ct34 oc35 kV35 dc35 pm35 cd35 ct35 oc36 kV36 dc36 pm36 cd36 ct36 oc37 kV37 dc37 pm37 cd37 ct37 oc38 kV38 dc38 pm38 cd38 ct38 : Value}
    {tk0 tk1 : Tok}
    (a0 : PySem.W.nsIn K mainGlobals "is_tree" = some (some (.ref f0))) (l0 : K.lookup f0 = some ⟨oc0, od0, .func (PySem.W.fnOf "is_tree" "is_tree" (defArgs s_is_tree) (defBody s_is_tree) (defScope s_is_tree) .none kV0 dc0 pm0 an0 cd0 ct0), sl0⟩) (c0 : PySem.W.codeIn K cd0 "is_tree" = true) (k0 : PySem.W.keepIn K (.ref f0) = true)
    (a1 : PySem.W.nsIn K mainGlobals "look_net" = some (some (.ref f1))) (l1 : K.lookup f1 = some ⟨oc1, od1, .func (PySem.W.fnOf "look_net" "look_net" (defArgs s_look_net) (defBody s_look_net) (defScope s_look_net) .none kV1 dc1 pm1 an1 cd1 ct1), sl1⟩) (c1 : PySem.W.codeIn K cd1 "look_net" = true) (k1 : PySem.W.keepIn K (.ref f1) = true)
    (a2 : PySem.W.nsIn K mainGlobals "places_of" = some (some (.ref f2))) (l2 : K.lookup f2 = some ⟨oc2, od2, .func (PySem.W.fnOf "places_of" "places_of" (defArgs s_places_of) (defBody s_places_of) (defScope s_places_of) .none kV2 dc2 pm2 an2 cd2 ct2), sl2⟩) (c2 : PySem.W.codeIn K cd2 "places_of" = true) (k2 : PySem.W.keepIn K (.ref f2) = true)
    (a3 : PySem.W.nsIn K mainGlobals "is_way" = some (some (.ref f3))) (l3 : K.lookup f3 = some ⟨oc3, od3, .func (PySem.W.fnOf "is_way" "is_way" (defArgs s_is_way) (defBody s_is_way) (defScope s_is_way) .none kV3 dc3 pm3 an3 cd3 ct3), sl3⟩) (c3 : PySem.W.codeIn K cd3 "is_way" = true) (k3 : PySem.W.keepIn K (.ref f3) = true)
    (a4 : PySem.W.nsIn K mainGlobals "ties_on" = some (some (.ref f4))) (l4 : K.lookup f4 = some ⟨oc4, od4, .func (PySem.W.fnOf "ties_on" "ties_on" (defArgs s_ties_on) (defBody s_ties_on) (defScope s_ties_on) .none kV4 dc4 pm4 an4 cd4 ct4), sl4⟩) (c4 : PySem.W.codeIn K cd4 "ties_on" = true) (k4 : PySem.W.keepIn K (.ref f4) = true)
    (a5 : PySem.W.nsIn K mainGlobals "must_be_ways" = some (some (.ref f5))) (l5 : K.lookup f5 = some ⟨oc5, od5, .func (PySem.W.fnOf "must_be_ways" "must_be_ways" (defArgs s_must_be_ways) (defBody s_must_be_ways) (defScope s_must_be_ways) .none kV5 dc5 pm5 an5 cd5 ct5), sl5⟩) (c5 : PySem.W.codeIn K cd5 "must_be_ways" = true) (k5 : PySem.W.keepIn K (.ref f5) = true)
    (a6 : PySem.W.nsIn K mainGlobals "look_ways" = some (some (.ref f6))) (l6 : K.lookup f6 = some ⟨oc6, od6, .func (PySem.W.fnOf "look_ways" "look_ways" (defArgs s_look_ways) (defBody s_look_ways) (defScope s_look_ways) .none kV6 dc6 pm6 an6 cd6 ct6), sl6⟩) (c6 : PySem.W.codeIn K cd6 "look_ways" = true) (k6 : PySem.W.keepIn K (.ref f6) = true)
    (a7 : PySem.W.nsIn K mainGlobals "is_whole" = some (some (.ref f7))) (l7 : K.lookup f7 = some ⟨oc7, od7, .func (PySem.W.fnOf "is_whole" "is_whole" (defArgs s_is_whole) (defBody s_is_whole) (defScope s_is_whole) .none kV7 dc7 pm7 an7 cd7 ct7), sl7⟩) (c7 : PySem.W.codeIn K cd7 "is_whole" = true) (k7 : PySem.W.keepIn K (.ref f7) = true)
    (a8 : PySem.W.nsIn K mainGlobals "have_common" = some (some (.ref f8))) (l8 : K.lookup f8 = some ⟨oc8, od8, .func (PySem.W.fnOf "have_common" "have_common" (defArgs s_have_common) (defBody s_have_common) (defScope s_have_common) .none kV8 dc8 pm8 an8 cd8 ct8), sl8⟩) (c8 : PySem.W.codeIn K cd8 "have_common" = true) (k8 : PySem.W.keepIn K (.ref f8) = true)
    (a9 : PySem.W.nsIn K mainGlobals "meetings" = some (some (.ref f9))) (l9 : K.lookup f9 = some ⟨oc9, od9, .func (PySem.W.fnOf "meetings" "meetings" (defArgs s_meetings) (defBody s_meetings) (defScope s_meetings) .none kV9 dc9 pm9 an9 cd9 ct9), sl9⟩) (c9 : PySem.W.codeIn K cd9 "meetings" = true) (k9 : PySem.W.keepIn K (.ref f9) = true)
    (a10 : PySem.W.nsIn K mainGlobals "look_few" = some (some (.ref f10))) (l10 : K.lookup f10 = some ⟨oc10, od10, .func (PySem.W.fnOf "look_few" "look_few" (defArgs s_look_few) (defBody s_look_few) (defScope s_look_few) .none kV10 dc10 pm10 an10 cd10 ct10), sl10⟩) (c10 : PySem.W.codeIn K cd10 "look_few" = true) (k10 : PySem.W.keepIn K (.ref f10) = true)
    (a11 : PySem.W.nsIn K mainGlobals "look_number" = some (some (.ref f11))) (l11 : K.lookup f11 = some ⟨oc11, od11, .func (PySem.W.fnOf "look_number" "look_number" (defArgs s_look_number) (defBody s_look_number) (defScope s_look_number) .none kV11 dc11 pm11 an11 cd11 ct11), sl11⟩) (c11 : PySem.W.codeIn K cd11 "look_number" = true) (k11 : PySem.W.keepIn K (.ref f11) = true)
    (a12 : PySem.W.nsIn K mainGlobals "options" = some (some (.ref f12))) (l12 : K.lookup f12 = some ⟨oc12, od12, .func (PySem.W.fnOf "options" "options" (defArgs s_options) (defBody s_options) (defScope s_options) .none kV12 dc12 pm12 an12 cd12 ct12), sl12⟩) (c12 : PySem.W.codeIn K cd12 "options" = true) (k12 : PySem.W.keepIn K (.ref f12) = true)
    (a13 : PySem.W.nsIn K mainGlobals "is_stuck" = some (some (.ref f13))) (l13 : K.lookup f13 = some ⟨oc13, od13, .func (PySem.W.fnOf "is_stuck" "is_stuck" (defArgs s_is_stuck) (defBody s_is_stuck) (defScope s_is_stuck) .none kV13 dc13 pm13 an13 cd13 ct13), sl13⟩) (c13 : PySem.W.codeIn K cd13 "is_stuck" = true) (k13 : PySem.W.keepIn K (.ref f13) = true)
    (a14 : PySem.W.nsIn K mainGlobals "with_hue" = some (some (.ref f14))) (l14 : K.lookup f14 = some ⟨oc14, od14, .func (PySem.W.fnOf "with_hue" "with_hue" (defArgs s_with_hue) (defBody s_with_hue) (defScope s_with_hue) .none kV14 dc14 pm14 an14 cd14 ct14), sl14⟩) (c14 : PySem.W.codeIn K cd14 "with_hue" = true) (k14 : PySem.W.keepIn K (.ref f14) = true)
    (a15 : PySem.W.nsIn K mainGlobals "is_right" = some (some (.ref f15))) (l15 : K.lookup f15 = some ⟨oc15, od15, .func (PySem.W.fnOf "is_right" "is_right" (defArgs s_is_right) (defBody s_is_right) (defScope s_is_right) .none kV15 dc15 pm15 an15 cd15 ct15), sl15⟩) (c15 : PySem.W.codeIn K cd15 "is_right" = true) (k15 : PySem.W.keepIn K (.ref f15) = true)
    (a16 : PySem.W.nsIn K mainGlobals "case_judged" = some (some (.ref f16))) (l16 : K.lookup f16 = some ⟨oc16, od16, .func (PySem.W.fnOf "case_judged" "case_judged" (defArgs s_case_judged) (defBody s_case_judged) (defScope s_case_judged) .none kV16 dc16 pm16 an16 cd16 ct16), sl16⟩) (c16 : PySem.W.codeIn K cd16 "case_judged" = true) (k16 : PySem.W.keepIn K (.ref f16) = true)
    (a17 : PySem.W.nsIn K mainGlobals "hardest_way" = some (some (.ref f17))) (l17 : K.lookup f17 = some ⟨oc17, od17, .func (PySem.W.fnOf "hardest_way" "hardest_way" (defArgs s_hardest_way) (defBody s_hardest_way) (defScope s_hardest_way) .none kV17 dc17 pm17 an17 cd17 ct17), sl17⟩) (c17 : PySem.W.codeIn K cd17 "hardest_way" = true) (k17 : PySem.W.keepIn K (.ref f17) = true)
    (a18 : PySem.W.nsIn K mainGlobals "gone_into" = some (some (.ref f18))) (l18 : K.lookup f18 = some ⟨oc18, od18, .func (PySem.W.fnOf "gone_into" "gone_into" (defArgs s_gone_into) (defBody s_gone_into) (defScope s_gone_into) .none kV18 dc18 pm18 an18 cd18 ct18), sl18⟩) (c18 : PySem.W.codeIn K cd18 "gone_into" = true) (k18 : PySem.W.keepIn K (.ref f18) = true)
    (a19 : PySem.W.nsIn K mainGlobals "case_of" = some (some (.ref f19))) (l19 : K.lookup f19 = some ⟨oc19, od19, .func (PySem.W.fnOf "case_of" "case_of" (defArgs s_case_of) (defBody s_case_of) (defScope s_case_of) .none kV19 dc19 pm19 an19 cd19 ct19), sl19⟩) (c19 : PySem.W.codeIn K cd19 "case_of" = true) (k19 : PySem.W.keepIn K (.ref f19) = true)
    (a20 : PySem.W.nsIn K mainGlobals "_law_whole" = some (some (.ref f20))) (l20 : K.lookup f20 = some ⟨oc20, od20, .func (PySem.W.fnOf "_law_whole" "_law_whole" (defArgs s_law_whole) (defBody s_law_whole) (defScope s_law_whole) .none kV20 dc20 pm20 an20 cd20 ct20), sl20⟩) (c20 : PySem.W.codeIn K cd20 "_law_whole" = true) (k20 : PySem.W.keepIn K (.ref f20) = true)
    (a21 : PySem.W.nsIn K mainGlobals "_law_draws" = some (some (.ref f21))) (l21 : K.lookup f21 = some ⟨oc21, od21, .func (PySem.W.fnOf "_law_draws" "_law_draws" (defArgs s_law_draws) (defBody s_law_draws) (defScope s_law_draws) .none kV21 dc21 pm21 an21 cd21 ct21), sl21⟩) (c21 : PySem.W.codeIn K cd21 "_law_draws" = true) (k21 : PySem.W.keepIn K (.ref f21) = true)
    (a22 : PySem.W.nsIn K mainGlobals "_law_net" = some (some (.ref f22))) (l22 : K.lookup f22 = some ⟨oc22, od22, .func (PySem.W.fnOf "_law_net" "_law_net" (defArgs s_law_net) (defBody s_law_net) (defScope s_law_net) .none kV22 dc22 pm22 an22 cd22 ct22), sl22⟩) (c22 : PySem.W.codeIn K cd22 "_law_net" = true) (k22 : PySem.W.keepIn K (.ref f22) = true)
    (a23 : PySem.W.nsIn K mainGlobals "_law_places" = some (some (.ref f23))) (l23 : K.lookup f23 = some ⟨oc23, od23, .func (PySem.W.fnOf "_law_places" "_law_places" (defArgs s_law_places) (defBody s_law_places) (defScope s_law_places) .none kV23 dc23 pm23 an23 cd23 ct23), sl23⟩) (c23 : PySem.W.codeIn K cd23 "_law_places" = true) (k23 : PySem.W.keepIn K (.ref f23) = true)
    (a24 : PySem.W.nsIn K mainGlobals "_law_way" = some (some (.ref f24))) (l24 : K.lookup f24 = some ⟨oc24, od24, .func (PySem.W.fnOf "_law_way" "_law_way" (defArgs s_law_way) (defBody s_law_way) (defScope s_law_way) .none kV24 dc24 pm24 an24 cd24 ct24), sl24⟩) (c24 : PySem.W.codeIn K cd24 "_law_way" = true) (k24 : PySem.W.keepIn K (.ref f24) = true)
    (a25 : PySem.W.nsIn K mainGlobals "_law_up" = some (some (.ref f25))) (l25 : K.lookup f25 = some ⟨oc25, od25, .func (PySem.W.fnOf "_law_up" "_law_up" (defArgs s_law_up) (defBody s_law_up) (defScope s_law_up) .none kV25 dc25 pm25 an25 cd25 ct25), sl25⟩) (c25 : PySem.W.codeIn K cd25 "_law_up" = true) (k25 : PySem.W.keepIn K (.ref f25) = true)
    (a26 : PySem.W.nsIn K mainGlobals "_law_ties" = some (some (.ref f26))) (l26 : K.lookup f26 = some ⟨oc26, od26, .func (PySem.W.fnOf "_law_ties" "_law_ties" (defArgs s_law_ties) (defBody s_law_ties) (defScope s_law_ties) .none kV26 dc26 pm26 an26 cd26 ct26), sl26⟩) (c26 : PySem.W.codeIn K cd26 "_law_ties" = true) (k26 : PySem.W.keepIn K (.ref f26) = true)
    (a27 : PySem.W.nsIn K mainGlobals "_law_meet" = some (some (.ref f27))) (l27 : K.lookup f27 = some ⟨oc27, od27, .func (PySem.W.fnOf "_law_meet" "_law_meet" (defArgs s_law_meet) (defBody s_law_meet) (defScope s_law_meet) .none kV27 dc27 pm27 an27 cd27 ct27), sl27⟩) (c27 : PySem.W.codeIn K cd27 "_law_meet" = true) (k27 : PySem.W.keepIn K (.ref f27) = true)
    (a28 : PySem.W.nsIn K mainGlobals "_law_meets" = some (some (.ref f28))) (l28 : K.lookup f28 = some ⟨oc28, od28, .func (PySem.W.fnOf "_law_meets" "_law_meets" (defArgs s_law_meets) (defBody s_law_meets) (defScope s_law_meets) .none kV28 dc28 pm28 an28 cd28 ct28), sl28⟩) (c28 : PySem.W.codeIn K cd28 "_law_meets" = true) (k28 : PySem.W.keepIn K (.ref f28) = true)
    (a29 : PySem.W.nsIn K mainGlobals "_law_given" = some (some (.ref f29))) (l29 : K.lookup f29 = some ⟨oc29, od29, .func (PySem.W.fnOf "_law_given" "_law_given" (defArgs s_law_given) (defBody s_law_given) (defScope s_law_given) .none kV29 dc29 pm29 an29 cd29 ct29), sl29⟩) (c29 : PySem.W.codeIn K cd29 "_law_given" = true) (k29 : PySem.W.keepIn K (.ref f29) = true)
    (a30 : PySem.W.nsIn K mainGlobals "_law_enough" = some (some (.ref f30))) (l30 : K.lookup f30 = some ⟨oc30, od30, .func (PySem.W.fnOf "_law_enough" "_law_enough" (defArgs s_law_enough) (defBody s_law_enough) (defScope s_law_enough) .none kV30 dc30 pm30 an30 cd30 ct30), sl30⟩) (c30 : PySem.W.codeIn K cd30 "_law_enough" = true) (k30 : PySem.W.keepIn K (.ref f30) = true)
    (a31 : PySem.W.nsIn K mainGlobals "_law_fewest" = some (some (.ref f31))) (l31 : K.lookup f31 = some ⟨oc31, od31, .func (PySem.W.fnOf "_law_fewest" "_law_fewest" (defArgs s_law_fewest) (defBody s_law_fewest) (defScope s_law_fewest) .none kV31 dc31 pm31 an31 cd31 ct31), sl31⟩) (c31 : PySem.W.codeIn K cd31 "_law_fewest" = true) (k31 : PySem.W.keepIn K (.ref f31) = true)
    (a32 : PySem.W.nsIn K mainGlobals "_law_many" = some (some (.ref f32))) (l32 : K.lookup f32 = some ⟨oc32, od32, .func (PySem.W.fnOf "_law_many" "_law_many" (defArgs s_law_many) (defBody s_law_many) (defScope s_law_many) .none kV32 dc32 pm32 an32 cd32 ct32), sl32⟩) (c32 : PySem.W.codeIn K cd32 "_law_many" = true) (k32 : PySem.W.keepIn K (.ref f32) = true)
    (a33 : PySem.W.nsIn K mainGlobals "_law_stuck" = some (some (.ref f33))) (l33 : K.lookup f33 = some ⟨oc33, od33, .func (PySem.W.fnOf "_law_stuck" "_law_stuck" (defArgs s_law_stuck) (defBody s_law_stuck) (defScope s_law_stuck) .none kV33 dc33 pm33 an33 cd33 ct33), sl33⟩) (c33 : PySem.W.codeIn K cd33 "_law_stuck" = true) (k33 : PySem.W.keepIn K (.ref f33) = true)
    (a34 : PySem.W.nsIn K mainGlobals "_law_right" = some (some (.ref f34))) (l34 : K.lookup f34 = some ⟨oc34, od34, .func (PySem.W.fnOf "_law_right" "_law_right" (defArgs s_law_right) (defBody s_law_right) (defScope s_law_right) .none kV34 dc34 pm34 an34 cd34 ct34), sl34⟩) (c34 : PySem.W.codeIn K cd34 "_law_right" = true) (k34 : PySem.W.keepIn K (.ref f34) = true)
    (a35 : PySem.W.nsIn K mainGlobals "_law_copied" = some (some (.ref f35))) (l35 : K.lookup f35 = some ⟨oc35, od35, .func (PySem.W.fnOf "_law_copied" "_law_copied" (defArgs s_law_copied) (defBody s_law_copied) (defScope s_law_copied) .none kV35 dc35 pm35 an35 cd35 ct35), sl35⟩) (c35 : PySem.W.codeIn K cd35 "_law_copied" = true) (k35 : PySem.W.keepIn K (.ref f35) = true)
    (a36 : PySem.W.nsIn K mainGlobals "_law_marked" = some (some (.ref f36))) (l36 : K.lookup f36 = some ⟨oc36, od36, .func (PySem.W.fnOf "_law_marked" "_law_marked" (defArgs s_law_marked) (defBody s_law_marked) (defScope s_law_marked) .none kV36 dc36 pm36 an36 cd36 ct36), sl36⟩) (c36 : PySem.W.codeIn K cd36 "_law_marked" = true) (k36 : PySem.W.keepIn K (.ref f36) = true)
    (a37 : PySem.W.nsIn K mainGlobals "_law_once" = some (some (.ref f37))) (l37 : K.lookup f37 = some ⟨oc37, od37, .func (PySem.W.fnOf "_law_once" "_law_once" (defArgs s_law_once) (defBody s_law_once) (defScope s_law_once) .none kV37 dc37 pm37 an37 cd37 ct37), sl37⟩) (c37 : PySem.W.codeIn K cd37 "_law_once" = true) (k37 : PySem.W.keepIn K (.ref f37) = true)
    (a38 : PySem.W.nsIn K mainGlobals "law" = some (some (.ref f38))) (l38 : K.lookup f38 = some ⟨oc38, od38, .func (PySem.W.fnOf "law" "law" (defArgs s_law) (defBody s_law) (defScope s_law) .none kV38 dc38 pm38 an38 cd38 ct38), sl38⟩) (c38 : PySem.W.codeIn K cd38 "law" = true) (k38 : PySem.W.keepIn K (.ref f38) = true)
    (e0 : PySem.W.nsIn K mainGlobals "MOST_PLACES" = some (some (.int 60 tk0)))
    (e1 : PySem.W.nsIn K mainGlobals "MOST" = some (some (.int 12 tk1)))
    (z0 : PySem.W.nsIn K mainGlobals "bool" = some none)
    (z1 : PySem.W.nsIn K mainGlobals "dict" = some none)
    (z2 : PySem.W.nsIn K mainGlobals "enumerate" = some none)
    (z3 : PySem.W.nsIn K mainGlobals "int" = some none)
    (z4 : PySem.W.nsIn K mainGlobals "isinstance" = some none)
    (z5 : PySem.W.nsIn K mainGlobals "len" = some none)
    (z6 : PySem.W.nsIn K mainGlobals "list" = some none)
    (z7 : PySem.W.nsIn K mainGlobals "max" = some none)
    (z8 : PySem.W.nsIn K mainGlobals "min" = some none)
    (z9 : PySem.W.nsIn K mainGlobals "range" = some none)
    (z10 : PySem.W.nsIn K mainGlobals "set" = some none)
    (z11 : PySem.W.nsIn K mainGlobals "sorted" = some none)
    (z12 : PySem.W.nsIn K mainGlobals "tuple" = some none)
    : ∃ fd : FuncData, (∀ (s : Shared) (v : Value), BindsTo s fd ⟨[v], []⟩ [("_law_script", v)]) ∧ ∀ base : Heap, K.In base → base.Ns mainGlobals mg → FnOk l.prog w K mg base CX0 47 fa fd ["_law_script"] (sp_law K) := by
  have e := hfa.symm.trans (PySem.W.mg_of X G a38)
  cases e
  have F0 := fun_mk (st := s_is_tree) l0 c0 k0
  have b0 := F0.binds (ps := ["parents"]) fun _ _ _ _ _ _ us hl => match us, hl with | [_], _ => rfl
  have F1 := fun_mk (st := s_look_net) l1 c1 k1
  have b1 := F1.binds (ps := ["net"]) fun _ _ _ _ _ _ us hl => match us, hl with | [_], _ => rfl
  have F2 := fun_mk (st := s_places_of) l2 c2 k2
  have b2 := F2.binds (ps := ["net"]) fun _ _ _ _ _ _ us hl => match us, hl with | [_], _ => rfl
  have F3 := fun_mk (st := s_is_way) l3 c3 k3
  have b3 := F3.binds (ps := ["net", "way"]) fun _ _ _ _ _ _ us hl => match us, hl with | [_, _], _ => rfl
  have F4 := fun_mk (st := s_ties_on) l4 c4 k4
  have b4 := F4.binds (ps := ["net", "way"]) fun _ _ _ _ _ _ us hl => match us, hl with | [_, _], _ => rfl
  have F5 := fun_mk (st := s_must_be_ways) l5 c5 k5
  have b5 := F5.binds (ps := ["net", "ways"]) fun _ _ _ _ _ _ us hl => match us, hl with | [_, _], _ => rfl
  have F6 := fun_mk (st := s_look_ways) l6 c6 k6
  have b6 := F6.binds (ps := ["net", "ways"]) fun _ _ _ _ _ _ us hl => match us, hl with | [_, _], _ => rfl
  have F7 := fun_mk (st := s_is_whole) l7 c7 k7
  have b7 := F7.binds (ps := ["thing"]) fun _ _ _ _ _ _ us hl => match us, hl with | [_], _ => rfl
  have F8 := fun_mk (st := s_have_common) l8 c8 k8
  have b8 := F8.binds (ps := ["one", "other"]) fun _ _ _ _ _ _ us hl => match us, hl with | [_, _], _ => rfl
  have F9 := fun_mk (st := s_meetings) l9 c9 k9
  have b9 := F9.binds (ps := ["net", "ways"]) fun _ _ _ _ _ _ us hl => match us, hl with | [_, _], _ => rfl
  have F10 := fun_mk (st := s_look_few) l10 c10 k10
  have b10 := F10.binds (ps := ["net", "ways", "most"]) fun _ _ _ _ _ _ us hl => match us, hl with | [_, _, _], _ => rfl
  have F11 := fun_mk (st := s_look_number) l11 c11 k11
  have b11 := F11.binds (ps := ["number"]) fun _ _ _ _ _ _ us hl => match us, hl with | [_], _ => rfl
  have F12 := fun_mk (st := s_options) l12 c12 k12
  have b12 := F12.binds (ps := ["h", "given"]) fun _ _ _ _ _ _ us hl => match us, hl with | [_, _], _ => rfl
  have F13 := fun_mk (st := s_is_stuck) l13 c13 k13
  have b13 := F13.binds (ps := ["meets", "given", "k", "hue"]) fun _ _ _ _ _ _ us hl => match us, hl with | [_, _, _, _], _ => rfl
  have F14 := fun_mk (st := s_with_hue) l14 c14 k14
  have b14 := F14.binds (ps := ["given", "k", "hue"]) fun _ _ _ _ _ _ us hl => match us, hl with | [_, _, _], _ => rfl
  have F15 := fun_mk (st := s_is_right) l15 c15 k15
  have b15 := F15.binds (ps := ["meets", "h", "given", "case"]) fun _ _ _ _ _ _ us hl => match us, hl with | [_, _, _, _], _ => rfl
  have F16 := fun_mk (st := s_case_judged) l16 c16 k16
  have b16 := F16.binds (ps := ["net", "ways", "h", "case"]) fun _ _ _ _ _ _ us hl => match us, hl with | [_, _, _, _], _ => rfl
  have F17 := fun_mk (st := s_hardest_way) l17 c17 k17
  have b17 := F17.binds (ps := ["meets", "given"]) fun _ _ _ _ _ _ us hl => match us, hl with | [_, _], _ => rfl
  have F18 := fun_mk (st := s_gone_into) l18 c18 k18
  have b18 := F18.binds (ps := ["meets", "h", "given"]) fun _ _ _ _ _ _ us hl => match us, hl with | [_, _, _], _ => rfl
  have F19 := fun_mk (st := s_case_of) l19 c19 k19
  have b19 := F19.binds (ps := ["net", "ways", "h"]) fun _ _ _ _ _ _ us hl => match us, hl with | [_, _, _], _ => rfl
  have F20 := fun_mk (st := s_law_whole) l20 c20 k20
  have b20 := F20.binds (ps := ["_law_found"]) fun _ _ _ _ _ _ us hl => match us, hl with | [_], _ => rfl
  have F21 := fun_mk (st := s_law_draws) l21 c21 k21
  have b21 := F21.binds (ps := ["_law_script", "_law_many_here"]) fun _ _ _ _ _ _ us hl => match us, hl with | [_, _], _ => rfl
  have F22 := fun_mk (st := s_law_net) l22 c22 k22
  have b22 := F22.binds (ps := ["_law_number", "_law_most"]) fun _ _ _ _ _ _ us hl => match us, hl with | [_, _], _ => rfl
  have F23 := fun_mk (st := s_law_places) l23 c23 k23
  have b23 := F23.binds (ps := ["_law_net_here"]) fun _ _ _ _ _ _ us hl => match us, hl with | [_], _ => rfl
  have F24 := fun_mk (st := s_law_way) l24 c24 k24
  have b24 := F24.binds (ps := ["_law_net_here", "_law_number"]) fun _ _ _ _ _ _ us hl => match us, hl with | [_, _], _ => rfl
  have F25 := fun_mk (st := s_law_up) l25 c25 k25
  have b25 := F25.binds (ps := ["_law_net_here", "_law_place"]) fun _ _ _ _ _ _ us hl => match us, hl with | [_, _], _ => rfl
  have F26 := fun_mk (st := s_law_ties) l26 c26 k26
  have b26 := F26.binds (ps := ["_law_net_here", "_law_way_here"]) fun _ _ _ _ _ _ us hl => match us, hl with | [_, _], _ => rfl
  have F27 := fun_mk (st := s_law_meet) l27 c27 k27
  have b27 := F27.binds (ps := ["_law_one", "_law_other"]) fun _ _ _ _ _ _ us hl => match us, hl with | [_, _], _ => rfl
  have F28 := fun_mk (st := s_law_meets) l28 c28 k28
  have b28 := F28.binds (ps := ["_law_net_here", "_law_ways"]) fun _ _ _ _ _ _ us hl => match us, hl with | [_, _], _ => rfl
  have F29 := fun_mk (st := s_law_given) l29 c29 k29
  have b29 := F29.binds (ps := ["_law_draws_here", "_law_kinds", "_law_most"]) fun _ _ _ _ _ _ us hl => match us, hl with | [_, _, _], _ => rfl
  have F30 := fun_mk (st := s_law_enough) l30 c30 k30
  have b30 := F30.binds (ps := ["_law_meets_here", "_law_h", "_law_given_here"]) fun _ _ _ _ _ _ us hl => match us, hl with | [_, _, _], _ => rfl
  have F31 := fun_mk (st := s_law_fewest) l31 c31 k31
  have b31 := F31.binds (ps := ["_law_meets_here"]) fun _ _ _ _ _ _ us hl => match us, hl with | [_], _ => rfl
  have F32 := fun_mk (st := s_law_many) l32 c32 k32
  have b32 := F32.binds (ps := ["_law_given_here"]) fun _ _ _ _ _ _ us hl => match us, hl with | [_], _ => rfl
  have F33 := fun_mk (st := s_law_stuck) l33 c33 k33
  have b33 := F33.binds (ps := ["_law_meets_here", "_law_given_here", "_law_k", "_law_hue"]) fun _ _ _ _ _ _ us hl => match us, hl with | [_, _, _, _], _ => rfl
  have F34 := fun_mk (st := s_law_right) l34 c34 k34
  have b34 := F34.binds (ps := ["_law_meets_here", "_law_h", "_law_given_here", "_law_case_here"]) fun _ _ _ _ _ _ us hl => match us, hl with | [_, _, _, _], _ => rfl
  have F35 := fun_mk (st := s_law_copied) l35 c35 k35
  have b35 := F35.binds (ps := ["_law_thing"]) fun _ _ _ _ _ _ us hl => match us, hl with | [_], _ => rfl
  have F36 := fun_mk (st := s_law_marked) l36 c36 k36
  have b36 := F36.binds (ps := ["_law_case_here"]) fun _ _ _ _ _ _ us hl => match us, hl with | [_], _ => rfl
  have F37 := fun_mk (st := s_law_once) l37 c37 k37
  have b37 := F37.binds (ps := ["_law_case_here"]) fun _ _ _ _ _ _ us hl => match us, hl with | [_], _ => rfl
  have F38 := fun_mk (st := s_law) l38 c38 k38
  have b38 := F38.binds (ps := ["_law_script"]) fun _ _ _ _ _ _ us hl => match us, hl with | [_], _ => rfl
  have T : Txt K mg ⟨f0, _, f1, _, f2, _, f3, _, f4, _, f5, _, f6, _, f7, _, f8, _, f9, _, f10, _, f11, _, f12, _, f13, _, f14, _, f15, _, f16, _, f17, _, f18, _, f19, _, f20, _, f21, _, f22, _, f23, _, f24, _, f25, _, f26, _, f27, _, f28, _, f29, _, f30, _, f31, _, f32, _, f33, _, f34, _, f35, _, f36, _, f37, _, fa, _⟩ :=
    ⟨PySem.W.mg_of X G a0, F0, b0, PySem.W.mg_of X G a1, F1, b1, PySem.W.mg_of X G a2, F2, b2, PySem.W.mg_of X G a3, F3, b3, PySem.W.mg_of X G a4, F4, b4, PySem.W.mg_of X G a5, F5, b5, PySem.W.mg_of X G a6, F6, b6, PySem.W.mg_of X G a7, F7, b7, PySem.W.mg_of X G a8, F8, b8, PySem.W.mg_of X G a9, F9, b9, PySem.W.mg_of X G a10, F10, b10, PySem.W.mg_of X G a11, F11, b11, PySem.W.mg_of X G a12, F12, b12, PySem.W.mg_of X G a13, F13, b13, PySem.W.mg_of X G a14, F14, b14, PySem.W.mg_of X G a15, F15, b15, PySem.W.mg_of X G a16, F16, b16, PySem.W.mg_of X G a17, F17, b17, PySem.W.mg_of X G a18, F18, b18, PySem.W.mg_of X G a19, F19, b19, PySem.W.mg_of X G a20, F20, b20, PySem.W.mg_of X G a21, F21, b21, PySem.W.mg_of X G a22, F22, b22, PySem.W.mg_of X G a23, F23, b23, PySem.W.mg_of X G a24, F24, b24, PySem.W.mg_of X G a25, F25, b25, PySem.W.mg_of X G a26, F26, b26, PySem.W.mg_of X G a27, F27, b27, PySem.W.mg_of X G a28, F28, b28, PySem.W.mg_of X G a29, F29, b29, PySem.W.mg_of X G a30, F30, b30, PySem.W.mg_of X G a31, F31, b31, PySem.W.mg_of X G a32, F32, b32, PySem.W.mg_of X G a33, F33, b33, PySem.W.mg_of X G a34, F34, b34, PySem.W.mg_of X G a35, F35, b35, PySem.W.mg_of X G a36, F36, b36, PySem.W.mg_of X G a37, F37, b37, PySem.W.mg_of X G a38, F38, b38, tok_mk (PySem.W.mg_of X G e0), tok_mk (PySem.W.mg_of X G e1), PySem.W.mg_none_of X G z0, PySem.W.mg_none_of X G z1, PySem.W.mg_none_of X G z2, PySem.W.mg_none_of X G z3, PySem.W.mg_none_of X G z4, PySem.W.mg_none_of X G z5, PySem.W.mg_none_of X G z6, PySem.W.mg_none_of X G z7, PySem.W.mg_none_of X G z8, PySem.W.mg_none_of X G z9, PySem.W.mg_none_of X G z10, PySem.W.mg_none_of X G z11, PySem.W.mg_none_of X G z12⟩
  exact ⟨_, fun s v => .of_eq rfl, fun base _ _ => ok_law T⟩
end Pf
open PySem PySem.W PyProof.Rows
set_option maxHeartbeats 0 in
theorem PySem.Challenge.cw_tiehues_k52_whole_cases_found_holds : PySem.Challenge.rw_tiehues_k52_whole_cases_found.Holds := by
  w_on; o_law; k_head; (case hw => w_witness2)
  k_fill
  refine L2.walk_ofK (l := PySem.Challenge.rw_tiehues_k52_whole_cases_found) (n := 63) (k := 47) (x := "_law_script") (CX := L2.CX0) (sp := Pf.sp_law) rfl (by decide) rfl ⟨rfl, by decide, by decide⟩ (fun w h Y => PySem.W.kIn_of Y) ?F (fun _ _ a ns hl _ hS => ⟨a, ns, rfl, hS, hl, fun _ => rfl⟩) (fun _ _ _ _ h => h)
  case F =>
    intro w mg fa h KX G hmg
    refine' Pf.all_mk KX G hmg ?a0 ?l0 ?c0 ?k0 ?a1 ?l1 ?c1 ?k1 ?a2 ?l2 ?c2 ?k2 ?a3 ?l3 ?c3 ?k3 ?a4 ?l4 ?c4 ?k4 ?a5 ?l5 ?c5 ?k5 ?a6 ?l6 ?c6 ?k6 ?a7 ?l7 ?c7 ?k7 ?a8 ?l8 ?c8 ?k8 ?a9 ?l9 ?c9 ?k9 ?a10 ?l10 ?c10 ?k10 ?a11 ?l11 ?c11 ?k11 ?a12 ?l12 ?c12 ?k12 ?a13 ?l13 ?c13 ?k13 ?a14 ?l14 ?c14 ?k14 ?a15 ?l15 ?c15 ?k15 ?a16 ?l16 ?c16 ?k16 ?a17 ?l17 ?c17 ?k17 ?a18 ?l18 ?c18 ?k18 ?a19 ?l19 ?c19 ?k19 ?a20 ?l20 ?c20 ?k20 ?a21 ?l21 ?c21 ?k21 ?a22 ?l22 ?c22 ?k22 ?a23 ?l23 ?c23 ?k23 ?a24 ?l24 ?c24 ?k24 ?a25 ?l25 ?c25 ?k25 ?a26 ?l26 ?c26 ?k26 ?a27 ?l27 ?c27 ?k27 ?a28 ?l28 ?c28 ?k28 ?a29 ?l29 ?c29 ?k29 ?a30 ?l30 ?c30 ?k30 ?a31 ?l31 ?c31 ?k31 ?a32 ?l32 ?c32 ?k32 ?a33 ?l33 ?c33 ?k33 ?a34 ?l34 ?c34 ?k34 ?a35 ?l35 ?c35 ?k35 ?a36 ?l36 ?c36 ?k36 ?a37 ?l37 ?c37 ?k37 ?a38 ?l38 ?c38 ?k38 ?e0 ?e1 ?z0 ?z1 ?z2 ?z3 ?z4 ?z5 ?z6 ?z7 ?z8 ?z9 ?z10 ?z11 ?z12
    (case a0 => k_is); (case l0 => k_is); (case c0 => k_is); (case k0 => k_is); (case a1 => k_is); (case l1 => k_is); (case c1 => k_is); (case k1 => k_is); (case a2 => k_is); (case l2 => k_is); (case c2 => k_is); (case k2 => k_is); (case a3 => k_is); (case l3 => k_is); (case c3 => k_is); (case k3 => k_is); (case a4 => k_is); (case l4 => k_is); (case c4 => k_is); (case k4 => k_is); (case a5 => k_is); (case l5 => k_is); (case c5 => k_is); (case k5 => k_is); (case a6 => k_is); (case l6 => k_is); (case c6 => k_is); (case k6 => k_is); (case a7 => k_is); (case l7 => k_is); (case c7 => k_is); (case k7 => k_is); (case a8 => k_is); (case l8 => k_is); (case c8 => k_is); (case k8 => k_is); (case a9 => k_is); (case l9 => k_is); (case c9 => k_is); (case k9 => k_is); (case a10 => k_is); (case l10 => k_is); (case c10 => k_is); (case k10 => k_is); (case a11 => k_is); (case l11 => k_is); (case c11 => k_is); (case k11 => k_is); (case a12 => k_is); (case l12 => k_is); (case c12 => k_is); (case k12 => k_is); (case a13 => k_is); (case l13 => k_is); (case c13 => k_is); (case k13 => k_is); (case a14 => k_is); (case l14 => k_is); (case c14 => k_is); (case k14 => k_is); (case a15 => k_is); (case l15 => k_is); (case c15 => k_is); (case k15 => k_is); (case a16 => k_is); (case l16 => k_is); (case c16 => k_is); (case k16 => k_is); (case a17 => k_is); (case l17 => k_is); (case c17 => k_is); (case k17 => k_is); (case a18 => k_is); (case l18 => k_is); (case c18 => k_is); (case k18 => k_is); (case a19 => k_is); (case l19 => k_is); (case c19 => k_is); (case k19 => k_is); (case a20 => k_is); (case l20 => k_is); (case c20 => k_is); (case k20 => k_is); (case a21 => k_is); (case l21 => k_is); (case c21 => k_is); (case k21 => k_is); (case a22 => k_is); (case l22 => k_is); (case c22 => k_is); (case k22 => k_is); (case a23 => k_is); (case l23 => k_is); (case c23 => k_is); (case k23 => k_is); (case a24 => k_is); (case l24 => k_is); (case c24 => k_is); (case k24 => k_is); (case a25 => k_is); (case l25 => k_is); (case c25 => k_is); (case k25 => k_is); (case a26 => k_is); (case l26 => k_is); (case c26 => k_is); (case k26 => k_is); (case a27 => k_is); (case l27 => k_is); (case c27 => k_is); (case k27 => k_is); (case a28 => k_is); (case l28 => k_is); (case c28 => k_is); (case k28 => k_is); (case a29 => k_is); (case l29 => k_is); (case c29 => k_is); (case k29 => k_is); (case a30 => k_is); (case l30 => k_is); (case c30 => k_is); (case k30 => k_is); (case a31 => k_is); (case l31 => k_is); (case c31 => k_is); (case k31 => k_is); (case a32 => k_is); (case l32 => k_is); (case c32 => k_is); (case k32 => k_is); (case a33 => k_is); (case l33 => k_is); (case c33 => k_is); (case k33 => k_is); (case a34 => k_is); (case l34 => k_is); (case c34 => k_is); (case k34 => k_is); (case a35 => k_is); (case l35 => k_is); (case c35 => k_is); (case k35 => k_is); (case a36 => k_is); (case l36 => k_is); (case c36 => k_is); (case k36 => k_is); (case a37 => k_is); (case l37 => k_is); (case c37 => k_is); (case k37 => k_is); (case a38 => k_is); (case l38 => k_is); (case c38 => k_is); (case k38 => k_is); (case e0 => k_is); (case e1 => k_is); (case z0 => k_is); (case z1 => k_is); (case z2 => k_is); (case z3 => k_is); (case z4 => k_is); (case z5 => k_is); (case z6 => k_is); (case z7 => k_is); (case z8 => k_is); (case z9 => k_is); (case z10 => k_is); (case z11 => k_is); (case z12 => k_is)
