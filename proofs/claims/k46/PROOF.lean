import PyProof.Rows.All
import Wide.All
import OpenK.AllK
import Wide.FinOn
import HandS.ForMost
import HandS.NoneIn
import HandS.Conv
import HandS.IsInst
import HandS.Wide
import HandS.SortInts
import HandS.Walk
import KE.DataMinMax
import HandS.ForExc
import HandS.ExcInit
import KE.KExcIs
import HandS.ExcField
import HandS.ExcIs
import HandS.Text
import HandS.Zip
import HandS.Exc
import HandS.WordsDict
import HandS.Deep
import HandS.Iter
import HandS.Sort
import HandS.Dict
import HandS.ExcOwn
import HandS.More
import HandS.Style
import HandS.List
import HandS.Rev
import HandS.Set
import HandS.Strs
import KE.SortData
import HandS.ExcValue
import PySem.Challenge.RW_tiehues_k46_whole_trees_cut_and_starred
set_option Elab.async false
set_option linter.all false
set_option maxRecDepth 100000
set_option maxHeartbeats 4000000
set_option synthInstance.maxHeartbeats 0
set_option synthInstance.maxSize 1000000
namespace Cm
open PySem PySem.Spec PyProof.Rows L2

/-! ### named readings -/
def rLenX (K : PySem.W.Frag) : List V → Hp → VK → Prop := fun xs H Q => ∃ p ys, xs = [.ref p] ∧ (SqL K H p ys ∨ SqT K H p ys) ∧ Q (.int ys.length) H
theorem q_len {X : Cx} : CallR X (.builtin "len") (rLenX X.K) := call_len_seq
def rListOf (K : PySem.W.Frag) : List V → Hp → VK → Prop := fun xs H Q => ∃ p ys, xs = [.ref p] ∧ (SqL K H p ys ∨ SqT K H p ys) ∧ ∀ l, H l = none → Q (.ref l) (upd H l (.lst ys))
theorem q_listOf {X : Cx} : CallR X (.type "list") (rListOf X.K) := call_list_of
def rMax2 : List V → Hp → VK → Prop := fun xs H Q => ∃ i j, xs = [.int i, .int j] ∧ Q (.int (if j > i then j else i)) H
theorem q_max2 {X : Cx} (hc : X.calm = true) : CallR X (.builtin "max") rMax2 := call_max2 hc
def rMin2 : List V → Hp → VK → Prop := fun xs H Q => ∃ i j, xs = [.int i, .int j] ∧ Q (.int (if j < i then j else i)) H
theorem q_min2 {X : Cx} (hc : X.calm = true) : CallR X (.builtin "min") rMin2 := call_min2 hc
theorem q_isi {X : Cx} : CallR X (.builtin "isinstance") (rIsi X.K) := call_isi
def rIntOf : List V → Hp → VK → Prop := fun xs H Q => (∃ i, xs = [.int i] ∧ Q (.int i) H) ∨ ∃ k, xs = [.bl k] ∧ Q (.int (if k then 1 else 0)) H
theorem q_intB {X : Cx} : CallR X (.type "int") rIntOf := call_int1
theorem q_intI {X : Cx} : CallR X (.type "int") rIntOf := call_int1

/-! ### operators by names -/
def xAdd : R2 := rI0 fun i j => .int (i + j)
def xSub : R2 := rI0 fun i j => .int (i - j)
def xMul : R2 := rI CMul fun i j => .int (i * j)
def xMulW : R2 := rI CMulW fun i j => .int (i * j)
def xDiv : R2 := rI CDiv fun i j => .int (i / j)
def xDivW : R2 := rI CDivW fun i j => .int (i / j)
def xMod : R2 := rI (fun _ j => 0 < j) fun i j => .int (i % j)
def xPow : R2 := rI CPow fun i j => .int (i ^ j.toNat)
def xLt : R2 := rI0 fun i j => .bl (decide (i < j))
def xLe : R2 := rI0 fun i j => .bl (decide (i ≤ j))
def xGt : R2 := rI0 fun i j => .bl (decide (j < i))
def xGe : R2 := rI0 fun i j => .bl (decide (j ≤ i))
def xNeg : V → Hp → VK → Prop := rU fun i => .int (-i)
def xIsN : R2 := fun x y H Q => y = .non ∧ Q (.bl (decide (x = .non))) H
def xNotN : R2 := fun x y H Q => y = .non ∧ Q (.bl (!decide (x = .non))) H
def xTru (K : PySem.W.Frag) (ta : TE) : TT := fun σ H Q => ta σ H fun x H' => ∃ k, TruV K x H' k ∧ Q k H'

/-! ### xs[i] += e -/
def rGetL (K : PySem.W.Frag) : V → V → Hp → VK → Prop := fun x y H Q => ∃ p xs i v, x = .ref p ∧ y = .int i ∧ SqL K H p xs ∧ 0 ≤ i ∧ atI xs i = some v ∧ Q v H
theorem get_list {X : Cx} : PGet X (rGetL X.K) := by
  intro pins s σ H x y v u Q I rx ry h
  obtain ⟨p, xs, i, z, rfl, rfl, hq, h0, he, q⟩ := h
  cases rx
  obtain ⟨t, rfl⟩ := ry
  obtain ⟨its, r, pl, hz⟩ := I.list hq
  obtain ⟨j, h1, h2, h3, h4, h5⟩ := atI_get he
  obtain ⟨w, ew, rw'⟩ := r.get h2
  have hl := r.length
  have hn := line63
  have fin : EP X pins σ Q w s := ⟨z, H, I, rw', q⟩
  have hj : i.toNat = j := by
    rw [seqIndex_of h0 h5] at h1
    exact Option.some.inj h1
  exact wpAny_getItem_list pl.isList h0 (by omega) (by rw [hj]; simpa using ew) fin
def xAugL (K : PySem.W.Frag) (to ti te : TE) : TS := tAugS to ti te (rGetL K) (ipI fun i j => i + j) rSetL
theorem q_augL {X : Cx} {o i e : Expr} {to ti te : TE} {tpos pos : Pos} (ho : PE X o to) (hi : PE X i ti) (he : PE X e te)
    (ha : ∀ ov iv new, augStore i ov iv new = (do holding [new, ov, iv] (setItem ov iv new); release [new, ov, iv] []; pure .next) := by intros; rfl) : PS X (.AugAssign (.Subscript o i tpos) .Add e pos) (xAugL X.K to ti te) :=
  ps_augS ho hi get_list he ip_add set_list ha

/-! ### constants of the module -/
def g_tok (mg : Str → Option Value) (x : Str) : Tok := match mg x with
  | some (.int _ t) => t
  | _ => default
theorem tok_mk {mg : Str → Option Value} {x : Str} {n : Int} {t : Tok} (h : mg x = some (.int n t)) : mg x = some (.int n (g_tok mg x)) := by
  unfold g_tok
  rw [h]

/-! ### heaps -/
theorem same_new {H : Hp} {p : Addr} {o : HO} (h : H p = none) : Same H (upd H p o) := fun b x e => by
  rw [upd_ne (ne_of_none e h)]
  exact e
theorem same_mut {H H' : Hp} {p : Addr} {o : HO} (e : Same H H') (h : H p = none) : Same H (upd H' p o) := fun a u ha => by
  rw [upd_ne (ne_of_none ha h)]
  exact e a u ha
theorem same_seqT {K : PySem.W.Frag} {H H' : Hp} {a : Addr} {xs : List V} (e : Same H H') (h : SqT K H a xs) : SqT K H' a xs := by
  rcases h with (h | ⟨o, h⟩) | h
  · exact .inl (.inl (e _ _ h))
  · exact .inl (.inr ⟨o, e _ _ h⟩)
  · exact .inr h
theorem sl {K : PySem.W.Frag} {H : Hp} {a : Addr} {xs : List V} (h : H a = some (.lst xs)) : SqL K H a xs := .inl (.inl h)
theorem stp {K : PySem.W.Frag} {H : Hp} {a : Addr} {xs : List V} (h : H a = some (.tup xs)) : SqT K H a xs := .inl (.inl h)
theorem sz {n : Nat} (h : n ≤ 100000) : n ≤ sizeLine := Nat.le_trans h (by decide)
theorem szl {n : Nat} (h : n < 100000) : n < sizeLine := Nat.lt_of_lt_of_le h (by decide)

/-! ### data -/
mutual
theorem dp_same {K : PySem.W.Frag} {H H' : Hp} (e : Same H H') : ∀ {v : V} {d : PyData}, Dp K H v d → Dp K H' v d
  | _, _, .non => .non
  | _, _, .bl b => .bl b
  | _, _, .int i => .int i
  | _, _, .str x => .str x
  | _, _, .lst s r => .lst (e.seq s) (dpa_same e r)
  | _, _, .tup s r => .tup (same_seqT e s) (dpa_same e r)
theorem dpa_same {K : PySem.W.Frag} {H H' : Hp} (e : Same H H') : ∀ {vs : List V} {ds : List PyData}, DpAll K H vs ds → DpAll K H' vs ds
  | _, _, .nil => .nil
  | _, _, .cons h r => .cons (dp_same e h) (dpa_same e r)
end
section
variable {K : PySem.W.Frag} {H : Hp}
theorem dp_int {v : V} {i : Int} (h : Dp K H v (.int i)) : v = .int i := by cases h; rfl
theorem dp_bool {v : V} {b : Bool} (h : Dp K H v (.bool b)) : v = .bl b := by cases h; rfl
theorem dp_str {v : V} {s : Str} (h : Dp K H v (.str s)) : v = .str s := by cases h; rfl
theorem dp_list {v : V} {ds : List PyData} (h : Dp K H v (.list ds)) : ∃ a xs, v = .ref a ∧ SqL K H a xs ∧ DpAll K H xs ds := by
  cases h with | lst s r => exact ⟨_, _, rfl, s, r⟩
theorem dp_tup {v : V} {ds : List PyData} (h : Dp K H v (.tuple ds)) : ∃ a xs, v = .ref a ∧ SqT K H a xs ∧ DpAll K H xs ds := by
  cases h with | tup s r => exact ⟨_, _, rfl, s, r⟩
theorem dp_tup2 {v : V} {c d : PyData} (h : Dp K H v (.tuple [c, d])) : ∃ a x y, v = .ref a ∧ SqT K H a [x, y] ∧ Dp K H x c ∧ Dp K H y d := by
  cases h with | tup s r =>
    cases r with | cons h1 r =>
      cases r with | cons h2 r =>
        cases r
        exact ⟨_, _, _, rfl, s, h1, h2⟩
theorem dp_pair {v : V} {a b : Int} (h : Dp K H v (.tuple [.int a, .int b])) : ∃ p, v = .ref p ∧ SqT K H p [.int a, .int b] := by
  obtain ⟨p, x, y, rfl, s, h1, h2⟩ := dp_tup2 h
  rw [dp_int h1, dp_int h2] at s
  exact ⟨p, rfl, s⟩
theorem dpa_ints : ∀ {ns : List Int} {vs : List V}, DpAll K H vs (ns.map PyData.int) → vs = ns.map V.int
  | [], _, h => by cases h; rfl
  | n :: r, _, h => by
    cases h with | cons h1 h2 => rw [dp_int h1, dpa_ints h2]; rfl
theorem dpa_of_ints : ∀ ns : List Int, DpAll K H (ns.map V.int) (ns.map PyData.int)
  | [] => .nil
  | n :: r => .cons (.int n) (dpa_of_ints r)
theorem dpa_len : ∀ {vs : List V} {ds : List PyData}, DpAll K H vs ds → vs.length = ds.length
  | _, _, .nil => rfl
  | _, _, .cons _ r => by simp [dpa_len r]
theorem dpa_get : ∀ {vs : List V} {ds : List PyData} {i : Nat} {v : V}, DpAll K H vs ds → vs[i]? = some v → ∃ d, ds[i]? = some d ∧ Dp K H v d
  | _, _, _, _, .nil, e => by simp at e
  | _, _, 0, _, .cons h _, e => by simp at e; subst e; exact ⟨_, rfl, h⟩
  | _, _, i + 1, _, .cons _ r, e => by
    obtain ⟨d, h1, h2⟩ := dpa_get (i := i) r (by simpa using e)
    exact ⟨d, by simpa using h1, h2⟩
theorem dpa_get2 : ∀ {vs : List V} {ds : List PyData} {i : Nat} {d : PyData}, DpAll K H vs ds → ds[i]? = some d → ∃ v, vs[i]? = some v ∧ Dp K H v d
  | _, _, _, _, .nil, e => by simp at e
  | _, _, 0, _, .cons h _, e => by simp at e; subst e; exact ⟨_, rfl, h⟩
  | _, _, i + 1, _, .cons _ r, e => by
    obtain ⟨d, h1, h2⟩ := dpa_get2 (i := i) r (by simpa using e)
    exact ⟨d, by simpa using h1, h2⟩
theorem dpa_app {vs ws : List V} {ds es : List PyData} : DpAll K H vs ds → DpAll K H ws es → DpAll K H (vs ++ ws) (ds ++ es)
  | .nil, r => r
  | .cons h t, r => .cons h (dpa_app t r)
/-- a list of ints -/
abbrev dInts (ns : List Int) : PyData := .list (ns.map PyData.int)
theorem dp_ints {v : V} {ns : List Int} (h : Dp K H v (dInts ns)) : ∃ a, v = .ref a ∧ SqL K H a (ns.map V.int) := by
  obtain ⟨a, xs, rfl, s, r⟩ := dp_list h
  rw [dpa_ints r] at s
  exact ⟨a, rfl, s⟩
theorem dp_of_ints {a : Addr} {ns : List Int} (h : SqL K H a (ns.map V.int)) : Dp K H (.ref a) (dInts ns) := .lst h (dpa_of_ints ns)
/-- a pair of ints -/
abbrev dPair (p : Int × Int) : PyData := .tuple [.int p.1, .int p.2]
theorem dp_of_pair {a : Addr} {x y : Int} (h : SqT K H a [.int x, .int y]) : Dp K H (.ref a) (dPair (x, y)) := .tup h (.cons (.int x) (.cons (.int y) .nil))
abbrev dPairs (ps : List (Int × Int)) : PyData := .list (ps.map dPair)
end

theorem dpairs_get {K : PySem.W.Frag} {H : Hp} {xs : List V} {ps : List (Int × Int)} {i : Nat} {x : V} (hxs : DpAll K H xs (ps.map dPair)) (hx : xs[i]? = some x) : ∃ p c, ps[i]? = some p ∧ x = .ref c ∧ SqT K H c [.int p.1, .int p.2] := by
  obtain ⟨d, hd, hdx⟩ := dpa_get hxs hx
  rw [List.getElem?_map] at hd
  obtain ⟨p, hp, rfl⟩ := Option.map_eq_some_iff.mp hd
  obtain ⟨c, rfl, hcs⟩ := dp_pair hdx
  exact ⟨p, c, hp, rfl, hcs⟩
/-- data that may be compared: no dicts, at most n deep -/
def Sh (n : Nat) (d : PyData) : Prop := d.canLay0 = true ∧ d.depth ≤ n
theorem Sh.shaped {n : Nat} {d : PyData} (h : Sh n d) (hn : n ≤ 64) : SeqAt.shaped d = true := by
  unfold SeqAt.shaped
  rw [h.1, decide_eq_true (Nat.le_trans h.2 hn)]; rfl
theorem Sh.mono {n m : Nat} {d : PyData} (h : Sh n d) (hn : n ≤ m) : Sh m d := ⟨h.1, Nat.le_trans h.2 hn⟩
theorem sh_int {n : Nat} {i : Int} : Sh n (.int i) := ⟨rfl, Nat.zero_le _⟩
theorem sh_bool {n : Nat} {b : Bool} : Sh n (.bool b) := ⟨rfl, Nat.zero_le _⟩
theorem sh_none {n : Nat} : Sh n .none := ⟨rfl, Nat.zero_le _⟩
theorem sh_all {n : Nat} : ∀ {ds : List PyData}, (∀ d ∈ ds, Sh n d) → PyData.canLayAll0 ds = true ∧ PyData.depthAll ds ≤ n
  | [], _ => ⟨rfl, Nat.zero_le _⟩
  | d :: r, h => by
    obtain ⟨h1, h2⟩ := sh_all (ds := r) fun x hx => h x (List.mem_cons_of_mem _ hx)
    obtain ⟨h3, h4⟩ := h d List.mem_cons_self
    refine ⟨?_, ?_⟩
    · show (PyData.canLay0 d && PyData.canLayAll0 r) = true
      rw [h3, h1]; rfl
    · show max d.depth (PyData.depthAll r) ≤ n
      omega
theorem sh_list {n : Nat} {ds : List PyData} (h : ∀ d ∈ ds, Sh n d) : Sh (n + 1) (.list ds) := by
  obtain ⟨h1, h2⟩ := sh_all h
  exact ⟨h1, by show PyData.depthAll ds + 1 ≤ n + 1; omega⟩
theorem sh_tup {n : Nat} {ds : List PyData} (h : ∀ d ∈ ds, Sh n d) : Sh (n + 1) (.tuple ds) := by
  obtain ⟨h1, h2⟩ := sh_all h
  exact ⟨h1, by show PyData.depthAll ds + 1 ≤ n + 1; omega⟩
theorem sh_ints {n : Nat} (ns : List Int) : Sh (n + 1) (dInts ns) := sh_list fun d hd => by
  obtain ⟨i, _, rfl⟩ := List.mem_map.mp hd
  exact sh_int
theorem sh_pair {n : Nat} (p : Int × Int) : Sh (n + 1) (dPair p) := sh_tup fun d hd => by
  rcases List.mem_cons.mp hd with rfl | hd
  · exact sh_int
  · rcases List.mem_cons.mp hd with rfl | hd
    · exact sh_int
    · cases hd
theorem sh_pairs {n : Nat} (ps : List (Int × Int)) : Sh (n + 2) (dPairs ps) := sh_list fun d hd => by
  obtain ⟨p, _, rfl⟩ := List.mem_map.mp hd
  exact sh_pair p
theorem sh_two {n : Nat} {c d : PyData} (h1 : Sh n c) (h2 : Sh n d) : Sh (n + 1) (.tuple [c, d]) := sh_tup fun x hx => by
  rcases List.mem_cons.mp hx with rfl | hx
  · exact h1
  · rcases List.mem_cons.mp hx with rfl | hx
    · exact h2
    · cases hx
theorem Sh.refl {n : Nat} {d : PyData} (h : Sh n d) : PyData.eqv d d = true := SeqAt.eqv_refl d h.1
theorem ff_iff {P : Prop} (h : ¬ P) : false = true ↔ P := ⟨fun z => (nomatch z), fun z => (h z).elim⟩
theorem tt_iff {P : Prop} (h : P) : true = true ↔ P := ⟨fun _ => h, fun _ => rfl⟩

theorem ixN_of {n : Nat} {i : Int} (h0 : 0 ≤ i) (h1 : i < n) : ixN n i = some i.toNat := by unfold ixN; rw [if_pos h0, if_pos h1]
theorem map_erase (ns : List Int) (i : Nat) : (ns.map V.int).eraseIdx i = (ns.eraseIdx i).map V.int := by
  induction ns generalizing i with
  | nil => rfl
  | cons x r ih => cases i with
    | zero => rfl
    | succ i => show V.int x :: (r.map V.int).eraseIdx i = _; rw [ih]; rfl
theorem erase_perm {α : Type} (l : List α) (i : Nat) (h : i < l.length) : (l[i] :: l.eraseIdx i).Perm l := by
  induction l generalizing i with
  | nil => exact absurd h (by simp)
  | cons x r ih => cases i with
    | zero => exact List.Perm.refl _
    | succ i =>
      have h' : i < r.length := by simpa using h
      show (r[i] :: x :: r.eraseIdx i).Perm (x :: r)
      exact (List.Perm.swap _ _ _).trans ((ih i h').cons x)
theorem getD_memI {ns : List Int} {i : Int} (h0 : 0 ≤ i) (h1 : i < ns.length) : ns.getD i.toNat 0 ∈ ns := by
  have h : i.toNat < ns.length := by omega
  rw [List.getD_eq_getElem?_getD, List.getElem?_eq_getElem h]
  exact List.getElem_mem h
theorem not_in2 {p a b : Addr} (h1 : p ≠ a) (h2 : p ≠ b) : p ∉ [a, b] := by
  intro z
  rcases List.mem_cons.mp z with z | z
  · exact h1 z
  · rcases List.mem_cons.mp z with z | z
    · exact h2 z
    · cases z

/-! ### readings, step by step -/
section
variable {K : PySem.W.Frag} {σ : L2.St} {H : Hp} {D : Ends} {Q : VK} {ta tb te : TE} {t u : TT} {s1 s2 : TS} {QT : Bool → Hp → Prop} {QA : List V → Hp → Prop} {tr : TA} {QS : L2.St → Hp → Prop}
theorem k_seq {nx : L2.St → Hp → Prop} {rt : VK} {bk ct : L2.St → Hp → Prop} (h : s1 ⟨s2 ⟨nx, rt, bk, ct⟩, rt, bk, ct⟩ σ H) : tSeq s1 s2 ⟨nx, rt, bk, ct⟩ σ H := h
theorem k_nx {nx : L2.St → Hp → Prop} {rt : VK} {bk ct : L2.St → Hp → Prop} (h : nx σ H) : Ends.nx ⟨nx, rt, bk, ct⟩ σ H := h
theorem k_next {nx : L2.St → Hp → Prop} {rt : VK} {bk ct : L2.St → Hp → Prop} (h : nx σ H) : tNext ⟨nx, rt, bk, ct⟩ σ H := h
theorem k_cont {nx : L2.St → Hp → Prop} {rt : VK} {bk ct : L2.St → Hp → Prop} (h : ct σ H) : tCont ⟨nx, rt, bk, ct⟩ σ H := h
theorem k_brk {nx : L2.St → Hp → Prop} {rt : VK} {bk ct : L2.St → Hp → Prop} (h : bk σ H) : tBreak ⟨nx, rt, bk, ct⟩ σ H := h
theorem k_set {nx : L2.St → Hp → Prop} {rt : VK} {bk ct : L2.St → Hp → Prop} {i : Nat} (h : te σ H fun x H1 => nx (σ.set i (some x)) H1) : tAsg te (gName i) ⟨nx, rt, bk, ct⟩ σ H := h
theorem k_asg {nx : L2.St → Hp → Prop} {rt : VK} {bk ct : L2.St → Hp → Prop} {g : TG} (h : te σ H fun x H1 => g x σ H1 nx) : tAsg te g ⟨nx, rt, bk, ct⟩ σ H := h
theorem k_drop {nx : L2.St → Hp → Prop} {rt : VK} {bk ct : L2.St → Hp → Prop} (h : te σ H fun _ H1 => nx σ H1) : tDrop te ⟨nx, rt, bk, ct⟩ σ H := h
theorem k_ret {nx : L2.St → Hp → Prop} {rt : VK} {bk ct : L2.St → Hp → Prop} (h : te σ H rt) : tRet te ⟨nx, rt, bk, ct⟩ σ H := h
theorem k_retN {nx : L2.St → Hp → Prop} {rt : VK} {bk ct : L2.St → Hp → Prop} (h : rt .non H) : tRetN ⟨nx, rt, bk, ct⟩ σ H := h
theorem k_aug {nx : L2.St → Hp → Prop} {rt : VK} {bk ct : L2.St → Hp → Prop} {i : Nat} {f : Int → Int → Int} {a : Int} (e : σ[i]? = some (some (.int a))) (h : te σ H fun y H1 => ipI f (.int a) y H1 fun z H2 => nx (σ.set i (some z)) H2) : tAug i te (ipI f) ⟨nx, rt, bk, ct⟩ σ H := ⟨_, e, h⟩
theorem k_augL {nx : L2.St → Hp → Prop} {rt : VK} {bk ct : L2.St → Hp → Prop} {to ti : TE} (h : to σ H fun o H1 => ti σ H1 fun i H2 => rGetL K o i H2 fun x H3 => te σ H3 fun y H4 => ipI (fun i j => i + j) x y H4 fun z H5 => rSetL o i z H5 fun H6 => nx σ H6) : xAugL K to ti te ⟨nx, rt, bk, ct⟩ σ H := h
theorem k_ipI {f : Int → Int → Int} {a b : Int} (h : Q (.int (f a b)) H) : ipI f (.int a) (.int b) H Q := ⟨a, b, rfl, rfl, h⟩
theorem k_if (h : t σ H fun b H1 => if b = true then s1 D σ H1 else s2 D σ H1) : tIfS t s1 s2 D σ H := h
theorem k_var {i : Nat} {v : V} (e : σ[i]? = some (some v)) (h : Q v H) : tVar i σ H Q := ⟨v, e, h⟩
theorem k_c {v : V} (h : Q v H) : tC v σ H Q := h
theorem k_op {r : R2} (h : ta σ H fun x H1 => tb σ H1 fun y H2 => r x y H2 Q) : tOp r ta tb σ H Q := h
theorem k_un {r : V → Hp → VK → Prop} (h : ta σ H fun x H1 => r x H1 Q) : tUn r ta σ H Q := h
theorem k_I0 {g : Int → Int → V} {i j : Int} (h : Q (g i j) H) : rI0 g (.int i) (.int j) H Q := ⟨i, j, rfl, rfl, h⟩
theorem k_I {C : Int → Int → Prop} {g : Int → Int → V} {i j : Int} (hc : C i j) (h : Q (g i j) H) : rI C g (.int i) (.int j) H Q := ⟨i, j, rfl, rfl, hc, h⟩
theorem k_add {i j : Int} (h : Q (.int (i + j)) H) : xAdd (.int i) (.int j) H Q := ⟨i, j, rfl, rfl, h⟩
theorem k_sub {i j : Int} (h : Q (.int (i - j)) H) : xSub (.int i) (.int j) H Q := ⟨i, j, rfl, rfl, h⟩
theorem k_mul {i j : Int} (hc : CMul i j) (h : Q (.int (i * j)) H) : xMul (.int i) (.int j) H Q := ⟨i, j, rfl, rfl, hc, h⟩
theorem k_mulW {i j : Int} (hc : CMulW i j) (h : Q (.int (i * j)) H) : xMulW (.int i) (.int j) H Q := ⟨i, j, rfl, rfl, hc, h⟩
theorem k_div {i j : Int} (hc : CDiv i j) (h : Q (.int (i / j)) H) : xDiv (.int i) (.int j) H Q := ⟨i, j, rfl, rfl, hc, h⟩
theorem k_divW {i j : Int} (hc : CDivW i j) (h : Q (.int (i / j)) H) : xDivW (.int i) (.int j) H Q := ⟨i, j, rfl, rfl, hc, h⟩
theorem k_mod {i j : Int} (hc : 0 < j) (h : Q (.int (i % j)) H) : xMod (.int i) (.int j) H Q := ⟨i, j, rfl, rfl, hc, h⟩
theorem k_pow {i j : Int} (hc : CPow i j) (h : Q (.int (i ^ j.toNat)) H) : xPow (.int i) (.int j) H Q := ⟨i, j, rfl, rfl, hc, h⟩
theorem k_lt {i j : Int} (h : Q (.bl (decide (i < j))) H) : xLt (.int i) (.int j) H Q := ⟨i, j, rfl, rfl, h⟩
theorem k_le {i j : Int} (h : Q (.bl (decide (i ≤ j))) H) : xLe (.int i) (.int j) H Q := ⟨i, j, rfl, rfl, h⟩
theorem k_gt {i j : Int} (h : Q (.bl (decide (j < i))) H) : xGt (.int i) (.int j) H Q := ⟨i, j, rfl, rfl, h⟩
theorem k_ge {i j : Int} (h : Q (.bl (decide (j ≤ i))) H) : xGe (.int i) (.int j) H Q := ⟨i, j, rfl, rfl, h⟩
theorem k_neg {i : Int} (h : Q (.int (-i)) H) : xNeg (.int i) H Q := ⟨i, rfl, h⟩
theorem k_U {g : Int → V} {i : Int} (h : Q (g i) H) : rU g (.int i) H Q := ⟨i, rfl, h⟩
theorem k_eqI {i j : Int} (h : Q (.bl (decide (i = j))) H) : rEq (.int i) (.int j) H Q := ⟨rfl, by
  have e : decide (V.int i = V.int j) = decide (i = j) := by
    by_cases c : i = j
    · rw [decide_eq_true c, decide_eq_true (by rw [c])]
    · rw [decide_eq_false c, decide_eq_false (fun z => c (V.int.inj z))]
  rw [e]; exact h⟩
theorem k_neI {i j : Int} (h : Q (.bl (!decide (i = j))) H) : rNe (.int i) (.int j) H Q := ⟨rfl, by
  have e : decide (V.int i = V.int j) = decide (i = j) := by
    by_cases c : i = j
    · rw [decide_eq_true c, decide_eq_true (by rw [c])]
    · rw [decide_eq_false c, decide_eq_false (fun z => c (V.int.inj z))]
  rw [e]; exact h⟩
theorem k_test (h : te σ H fun x H1 => ∃ k, x = .bl k ∧ QT k H1) : tTest te σ H QT := h
theorem k_B (h : te σ H fun x H1 => ∃ k, x = .bl k ∧ QT k H1) : tB te σ H QT := h
theorem k_bl {b : Bool} {R : Bool → Prop} (h : R b) : ∃ k, V.bl b = .bl k ∧ R k := ⟨b, rfl, h⟩
theorem k_and (h : t σ H fun c H1 => if c = true then u σ H1 QT else QT false H1) : tAnd t u σ H QT := h
theorem k_or (h : t σ H fun c H1 => if c = true then QT true H1 else u σ H1 QT) : tOr t u σ H QT := h
theorem k_not (h : t σ H fun c H1 => QT (!c) H1) : tNot t σ H QT := h
theorem k_notV (h : ta σ H fun x H1 => ∃ c, x = .bl c ∧ Q (.bl (!c)) H1) : tNotV ta σ H Q := h
theorem k_andV (h : ta σ H fun x H1 => ∃ c, x = .bl c ∧ if c = true then tb σ H1 Q else Q (.bl false) H1) : tAndV ta tb σ H Q := h
theorem k_orV (h : ta σ H fun x H1 => ∃ c, x = .bl c ∧ if c = true then Q (.bl true) H1 else tb σ H1 Q) : tOrV ta tb σ H Q := h
theorem k_cb {r : List V → Hp → VK → Prop} (h : tr σ H fun vs H1 => r vs H1 Q) : tCB r tr σ H Q := h
theorem k_nil (h : QA [] H) : tNil σ H QA := h
theorem k_cons (h : ta σ H fun x H1 => tr σ H1 fun xs H2 => QA (x :: xs) H2) : tCons ta tr σ H QA := h
theorem k_call {sp : Sp} {dvs : List V} {E : XK} (h : tr σ H fun vs H1 => sp (vs ++ dvs) H1 Q E) : tCall sp dvs E tr σ H Q := h
theorem k_len {p : Addr} {ys : List V} (hs : SqL K H p ys) (h : Q (.int ys.length) H) : rLenX K [.ref p] H Q := ⟨p, ys, rfl, .inl hs, h⟩
theorem k_len0 {p : Addr} (hs : H p = some (.lst [])) (h : Q (.int 0) H) : rLenX K [.ref p] H Q := ⟨p, [], rfl, .inl (sl hs), h⟩
theorem k_lenT {p : Addr} {ys : List V} (hs : SqT K H p ys) (h : Q (.int ys.length) H) : rLenX K [.ref p] H Q := ⟨p, ys, rfl, .inr hs, h⟩
theorem k_lenI {p : Addr} {ns : List Int} (hs : SqL K H p (ns.map V.int)) (h : Q (.int ns.length) H) : rLenX K [.ref p] H Q := ⟨p, _, rfl, .inl hs, by rw [List.length_map]; exact h⟩
theorem k_list {p : Addr} {ys : List V} (hs : SqL K H p ys) (h : ∀ l, H l = none → Q (.ref l) (upd H l (.lst ys))) : rListOf K [.ref p] H Q := ⟨p, ys, rfl, .inl hs, h⟩
theorem k_lst (h : tr σ H fun xs H1 => xs.length ≤ sizeLine ∧ ∀ p, H1 p = none → Q (.ref p) (upd H1 p (.lst xs))) : tLst tr σ H Q := h
theorem k_tup (h : tr σ H fun xs H1 => xs.length ≤ sizeLine ∧ ∀ p, H1 p = none → Q (.ref p) (upd H1 p (.tup xs))) : tTup tr σ H Q := h
theorem k_new {xs : List V} {R : Addr → Prop} (hn : xs.length ≤ 100000) (h : ∀ p, H p = none → R p) : xs.length ≤ sizeLine ∧ ∀ p, H p = none → R p := ⟨sz hn, h⟩
theorem k_gtup {n : Nat} {g : TGs} {a : Addr} {xs : List V} (hs : SqT K H a xs) (hn : xs.length = n) (h : g xs σ H QS) : gTup K n g (.ref a) σ H QS := ⟨a, xs, rfl, hs, hn, h⟩
theorem k_gunl {n : Nat} {g : TGs} {a : Addr} {xs : List V} (hs : SqL K H a xs) (hn : xs.length = n) (h : g xs σ H QS) : gUnl K n g (.ref a) σ H QS := ⟨a, xs, rfl, hs, hn, h⟩
theorem k_gcons {g : TG} {gs : TGs} {v : V} {r : List V} (h : g v σ H fun σ' H' => gs r σ' H' QS) : gCons g gs (v :: r) σ H QS := ⟨v, r, rfl, h⟩
theorem k_gnil (h : QS σ H) : gNil [] σ H QS := ⟨rfl, h⟩
theorem k_gname {i : Nat} {v : V} (h : QS (σ.set i (some v)) H) : gName i v σ H QS := h
theorem k_gsub {to ti : TE} {ts : TSet} {v : V} (h : to σ H fun o H1 => ti σ H1 fun i H2 => ts o i v H2 fun H3 => QS σ H3) : gSub to ti ts v σ H QS := h
theorem k_setL {p : Addr} {xs : List V} {k : Int} {j : Nat} {v : V} {QH : Hp → Prop} (hp : H p = some (.lst xs)) (hj : ixN xs.length k = some j) (h : QH (upd H p (.lst (xs.set j v)))) : rSetL (.ref p) (.int k) v H QH := ⟨p, xs, k, j, rfl, rfl, hp, hj, h⟩
theorem k_ixL {p : Addr} {xs : List V} {i : Int} {v : V} (hs : SqL K H p xs) (ha : atI xs i = some v) (h : Q v H) : rIxL K (.ref p) (.int i) H Q := ⟨p, xs, i, v, rfl, rfl, hs, ha, h⟩
theorem k_ixT {p : Addr} {xs : List V} {i : Int} {v : V} (hs : SqT K H p xs) (ha : atI xs i = some v) (h : Q v H) : rIxT K (.ref p) (.int i) H Q := ⟨p, xs, i, v, rfl, rfl, hs, ha, h⟩
theorem k_min {p : Addr} {ns : List Int} (hs : SqL K H p (ns.map V.int)) (h0 : 0 < ns.length) (h : ∀ m, m ∈ ns → (∀ y, y ∈ ns → m ≤ y) → Q (.int m) H) : rMin K [.ref p] H Q := ⟨p, ns, rfl, hs, h0, h⟩
theorem k_max {p : Addr} {ns : List Int} (hs : SqL K H p (ns.map V.int)) (h0 : 0 < ns.length) (h : ∀ m, m ∈ ns → (∀ y, y ∈ ns → y ≤ m) → Q (.int m) H) : rMax K [.ref p] H Q := ⟨p, ns, rfl, hs, h0, h⟩
theorem k_popI {p : Addr} {ns : List Int} {i : Int} (hp : H p = some (.lst (ns.map V.int))) (h0 : 0 ≤ i) (h1 : i < ns.length) (h2 : i < 1000000) (h : Q (.int (ns.getD i.toNat 0)) (upd H p (.lst ((ns.eraseIdx i.toNat).map V.int)))) : rPopAt (.ref p) [.int i] H Q := by
  refine ⟨p, _, i, i.toNat, .int (ns.getD i.toNat 0), rfl, rfl, hp, by omega, by omega, ?_, ?_, ?_⟩
  · exact (ixN_seq (ixN_of h0 (by rw [List.length_map]; exact h1))).1
  · have hh : i.toNat < ns.length := by omega
    rw [List.getElem?_map, List.getElem?_eq_getElem hh]
    simp [List.getD_eq_getElem?_getD, List.getElem?_eq_getElem hh]
  · have e : (ns.map V.int).eraseIdx i.toNat = (ns.eraseIdx i.toNat).map V.int := map_erase ns _
    rw [e]; exact h
theorem k_sortedI {a : Addr} {ns : List Int} (hs : SqL K H a (ns.map V.int)) (h : ∀ (ns' : List Int) (p : Addr), ns'.Perm ns → ns'.Pairwise (· ≤ ·) → H p = none → Q (.ref p) (upd H p (.lst (ns'.map V.int)))) : rSortedI K [.ref a] H Q := ⟨a, ns, rfl, hs, h⟩
theorem k_max2 {i j : Int} (h : Q (.int (if j > i then j else i)) H) : rMax2 [.int i, .int j] H Q := ⟨i, j, rfl, h⟩
theorem k_min2 {i j : Int} (h : Q (.int (if j < i then j else i)) H) : rMin2 [.int i, .int j] H Q := ⟨i, j, rfl, h⟩
theorem k_bm {T : String} {r : V → List V → Hp → VK → Prop} (h : ta σ H fun x H1 => tyV K T x H1 ∧ tr σ H1 fun xs H2 => r x xs H2 Q) : tBM K T r ta tr σ H Q := h
theorem k_bm0 {T : String} {r : V → List V → Hp → VK → Prop} (h : ta σ H fun x H1 => tyV K T x H1 ∧ r x [] H1 Q) : tBM0 K T r ta σ H Q := h
theorem k_cat {p q : Addr} {xs ys : List V} (hp : H p = some (.lst xs)) (hq : H q = some (.lst ys)) (hz : xs.length + ys.length ≤ 100000) (h : ∀ l, H l = none → Q (.ref l) (upd H l (.lst (xs ++ ys)))) : rCat (.ref p) (.ref q) H Q := ⟨p, q, xs, ys, rfl, rfl, hp, hq, sz hz, h⟩
theorem k_tyL {p : Addr} {xs : List V} {R : Prop} (hp : SqL K H p xs) (h : R) : tyV K "list" (.ref p) H ∧ R := ⟨.inl ⟨rfl, _, hp⟩, h⟩
theorem k_append {p : Addr} {xs : List V} {y : V} (hp : H p = some (.lst xs)) (hn : xs.length < 100000) (h : Q .non (upd H p (.lst (xs ++ [y])))) : rAppend (.ref p) [y] H Q := ⟨p, xs, y, rfl, rfl, hp, szl hn, h⟩
theorem k_itT {b : Bool} {A B : Prop} (e : b = true) (h : A) : if b = true then A else B := by rw [if_pos e]; exact h
theorem k_itF {b : Bool} {A B : Prop} (e : b = false) (h : B) : if b = true then A else B := by rw [e]; exact h
theorem iteNT {A B : Prop} (h : B) : if (!true) = true then A else B := iteF h
theorem iteNF {A B : Prop} (h : A) : if (!false) = true then A else B := iteT h
theorem k_itDT {c A B : Prop} [Decidable c] (e : c) (h : A) : if decide c = true then A else B := by rw [if_pos (decide_eq_true e)]; exact h
theorem k_itDF {c A B : Prop} [Decidable c] (e : ¬ c) (h : B) : if decide c = true then A else B := by rw [decide_eq_false e]; exact h
theorem k_itNT {c A B : Prop} [Decidable c] (e : ¬ c) (h : A) : if (!decide c) = true then A else B := by rw [decide_eq_false e]; exact h
theorem k_itNF {c A B : Prop} [Decidable c] (e : c) (h : B) : if (!decide c) = true then A else B := by rw [decide_eq_true e]; exact h
theorem k_for {nx : L2.St → Hp → Prop} {rt : VK} {bk ct : L2.St → Hp → Prop} {wi : TI} {g : TG} {tb : TS} (h : wi σ H fun J H1 => ∃ W : Nat → Nat → L2.St → Hp → Prop, (∃ m, W 0 m σ H1) ∧ ∀ i m σ H, W i m σ H →
  (J.stop i H ∧ nx σ H) ∨ (J.go i H ∧ ∃ N : L2.St → Hp → Prop, (∀ σ' H', N σ' H' → ∃ m', m' < m ∧ W (i + 1) m' σ' H') ∧ ∀ x H', J.yld i H x H' → g x σ H' fun σ2 H2 => tb ⟨N, rt, nx, N⟩ σ2 H2)) : tFor wi g tb ⟨nx, rt, bk, ct⟩ σ H := h
theorem forL {nx : L2.St → Hp → Prop} {rt : VK} {b : Addr} {xs : List V} {g : TG} {tb : TS} (hs0 : SqL K H b xs) (Pv : Nat → L2.St → Hp → Prop) (h0 : Pv 0 σ H) (hl : ∀ i σ H, i ≤ xs.length → Pv i σ H → SqL K H b xs)
    (hs : ∀ (i : Nat) x σ H, xs[i]? = some x → Pv i σ H → g x σ H fun σ2 H2 => tb ⟨Pv (i + 1), rt, nx, Pv (i + 1)⟩ σ2 H2) (hd : ∀ σ H, Pv xs.length σ H → nx σ H) :
    ∃ a, V.ref b = .ref a ∧ (∃ xs, SqL K H a xs) ∧ ∃ W : Nat → Nat → L2.St → Hp → Prop, (∃ m, W 0 m σ H) ∧ ∀ i m σ H, W i m σ H →
      ((Itl K a).stop i H ∧ nx σ H) ∨ ((Itl K a).go i H ∧ ∃ N : L2.St → Hp → Prop, (∀ σ' H', N σ' H' → ∃ m', m' < m ∧ W (i + 1) m' σ' H') ∧ ∀ x H', (Itl K a).yld i H x H' → g x σ H' fun σ2 H2 => tb ⟨N, rt, nx, N⟩ σ2 H2) :=
  ⟨b, rfl, ⟨xs, hs0⟩, for_list (D := ⟨nx, rt, fun _ _ => False, fun _ _ => False⟩) Pv h0 hl hs hd⟩
theorem forR {nx : L2.St → Hp → Prop} {rt : VK} {lo : Int} {n : Nat} {g : TG} {tb : TS} (Pv : Nat → L2.St → Hp → Prop) (h0 : Pv 0 σ H)
    (hs : ∀ (i : Nat) σ H, i < n → Pv i σ H → g (.int (lo + i)) σ H fun σ2 H2 => tb ⟨Pv (i + 1), rt, nx, Pv (i + 1)⟩ σ2 H2) (hd : ∀ σ H, Pv n σ H → nx σ H) :
    ∃ W : Nat → Nat → L2.St → Hp → Prop, (∃ m, W 0 m σ H) ∧ ∀ i m σ H, W i m σ H →
      ((Itr lo n).stop i H ∧ nx σ H) ∨ ((Itr lo n).go i H ∧ ∃ N : L2.St → Hp → Prop, (∀ σ' H', N σ' H' → ∃ m', m' < m ∧ W (i + 1) m' σ' H') ∧ ∀ x H', (Itr lo n).yld i H x H' → g x σ H' fun σ2 H2 => tb ⟨N, rt, nx, N⟩ σ2 H2) :=
  for_range (D := ⟨nx, rt, fun _ _ => False, fun _ _ => False⟩) Pv h0 hs hd
theorem k_while {nx : L2.St → Hp → Prop} {rt : VK} {bk ct : L2.St → Hp → Prop} {c : TT} {tb : TS} (h : ∃ W : Nat → L2.St → Hp → Prop, (∃ m, W m σ H) ∧ ∀ m σ H, W m σ H →
  c σ H fun b H1 => if b = true then ∃ N : L2.St → Hp → Prop, (∀ σ' H', N σ' H' → ∃ m', m' < m ∧ W m' σ' H') ∧ tb ⟨N, rt, nx, N⟩ σ H1 else nx σ H1) : tWhile c tb ⟨nx, rt, bk, ct⟩ σ H := h
theorem whileW {nx : L2.St → Hp → Prop} {rt : VK} {bk ct : L2.St → Hp → Prop} {c : TT} {tb : TS} (W : Nat → L2.St → Hp → Prop) {m0 : Nat} (h0 : W m0 σ H)
    (hs : ∀ m σ H, W m σ H → c σ H fun b H1 => if b = true then tb ⟨fun σ' H' => ∃ m', m' < m ∧ W m' σ' H', rt, nx, fun σ' H' => ∃ m', m' < m ∧ W m' σ' H'⟩ σ H1 else nx σ H1)
    (mono : ∀ σ H (Q Q' : Bool → Hp → Prop), (∀ b H1, Q b H1 → Q' b H1) → c σ H Q → c σ H Q') : tWhile c tb ⟨nx, rt, bk, ct⟩ σ H := by
  refine ⟨W, ⟨m0, h0⟩, fun m σ H w => mono σ H _ _ (fun b H1 q => ?_) (hs m σ H w)⟩
  cases b with
  | true => exact ⟨_, fun σ' H' h => h, q⟩
  | false => exact q
theorem k_iList {R : It → Hp → Prop} (h : te σ H fun x H1 => ∃ a, x = .ref a ∧ (∃ xs, SqL K H1 a xs) ∧ R (Itl K a) H1) : iList K te σ H R := h
theorem k_iTup {R : It → Hp → Prop} (h : te σ H fun x H1 => ∃ a, x = .ref a ∧ (∃ xs, SqT K H1 a xs) ∧ R (Itt K a) H1) : iTup K te σ H R := h
theorem k_iZip {R : It → Hp → Prop} (h : tr σ H fun vs H1 => ∃ a b xs ys, vs = [.ref a, .ref b] ∧ SqL K H1 a xs ∧ SqL K H1 b ys ∧ R (Itz K a b) H1) : iZip K tr σ H R := h
theorem k_iEnum {R : It → Hp → Prop} (h : tr σ H fun vs H1 => ∃ a xs, vs = [.ref a] ∧ SqL K H1 a xs ∧ R (Ite K a) H1) : iEnum K tr σ H R := h
theorem k_iRng1 {R : It → Hp → Prop} (h : tr σ H fun vs H1 => ∃ j : Int, vs = [.int j] ∧ -(2 ^ 62) ≤ j ∧ j < 2 ^ 62 ∧ R (Itr 0 j.toNat) H1) : iRng1 tr σ H R := h
theorem k_iRng2 {R : It → Hp → Prop} (h : tr σ H fun vs H1 => ∃ i j : Int, vs = [.int i, .int j] ∧ (-(2 ^ 62) ≤ i ∧ i < 2 ^ 62 ∧ -(2 ^ 62) ≤ j ∧ j < 2 ^ 62) ∧ R (Itr i (j - i).toNat) H1) : iRng2 tr σ H R := h
theorem k_rj1 {j : Int} {R : Int → Prop} (h1 : -(2 ^ 62) ≤ j) (h2 : j < 2 ^ 62) (h : R j) : ∃ j' : Int, [V.int j] = [.int j'] ∧ -(2 ^ 62) ≤ j' ∧ j' < 2 ^ 62 ∧ R j' := ⟨j, rfl, h1, h2, h⟩
theorem k_rj2 {i j : Int} {R : Int → Int → Prop} (h1 : -(2 ^ 62) ≤ i ∧ i < 2 ^ 62 ∧ -(2 ^ 62) ≤ j ∧ j < 2 ^ 62) (h : R i j) : ∃ i' j' : Int, [V.int i, V.int j] = [.int i', .int j'] ∧ (-(2 ^ 62) ≤ i' ∧ i' < 2 ^ 62 ∧ -(2 ^ 62) ≤ j' ∧ j' < 2 ^ 62) ∧ R i' j' := ⟨i, j, rfl, h1, h⟩
theorem k_it {c A B : Prop} [Decidable c] (h1 : c → A) (h2 : ¬ c → B) : if decide c = true then A else B := by
  by_cases h : c
  · rw [if_pos (decide_eq_true h)]; exact h1 h
  · rw [decide_eq_false h]; exact h2 h
theorem k_itn {c A B : Prop} [Decidable c] (h1 : ¬ c → A) (h2 : c → B) : if (!decide c) = true then A else B := by
  by_cases h : c
  · rw [decide_eq_true h]; exact h2 h
  · rw [decide_eq_false h]; exact h1 h
theorem k_itb {b : Bool} {A B : Prop} (h1 : b = true → A) (h2 : b = false → B) : if b = true then A else B := by
  cases b with
  | true => exact h1 rfl
  | false => exact h2 rfl
theorem k_isi {x : V} {c : String} {tx : String} {b : Bool} (ht : TyX K H x (.type tx)) (hb : kitB tx c = some b) (h : Q (.bl b) H) : rIsi K [x, .ty c] H Q := ⟨x, .ty c, .type tx, .type c, b, rfl, .ty c, ht, kit_ty hb, h⟩

theorem ty_list {p : Addr} {xs : List V} (h : SqL K H p xs) : TyX K H (.ref p) (.type "list") := by
  rcases h with (h | ⟨o, h⟩) | ⟨o, its, n, h, c, _⟩
  · exact .base (.lst h)
  · exact .base (.frz h)
  · exact .kList h c
theorem k_isiL {p : Addr} {xs : List V} (hs : SqL K H p xs) (h : Q (.bl true) H) : rIsi K [.ref p, .ty "list"] H Q := k_isi (ty_list hs) (by decide +kernel) h
theorem k_isiLI {i : Int} (h : Q (.bl false) H) : rIsi K [.int i, .ty "list"] H Q := k_isi (.base (.int i)) (by decide +kernel) h
theorem k_isiI {i : Int} (h : Q (.bl true) H) : rIsi K [.int i, .ty "int"] H Q := k_isi (.base (.int i)) (by decide +kernel) h
theorem k_isiB {i : Int} (h : Q (.bl false) H) : rIsi K [.int i, .ty "bool"] H Q := k_isi (.base (.int i)) (by decide +kernel) h
theorem inV_ints (x : Int) : ∀ ns : List Int, inV (.int x) (ns.map V.int) = decide (x ∈ ns)
  | [] => rfl
  | n :: r => by
    show (eqV (.int n) (.int x) || inV (.int x) (r.map V.int)) = decide (x ∈ n :: r)
    rw [inV_ints x r]
    show ((n == x) || decide (x ∈ r)) = decide (x ∈ n :: r)
    by_cases h : n = x
    · subst h; simp
    · have : (n == x) = false := by simp [h]
      rw [this, Bool.false_or]
      have h' : ¬ x = n := fun e => h e.symm
      simp [h']
theorem flat_ints : ∀ ns : List Int, (ns.map V.int).all flatV = true
  | [] => rfl
  | _ :: r => by show (true && (r.map V.int).all flatV) = true; rw [flat_ints r]; rfl
theorem k_inI {p : Addr} {ns : List Int} {x : Int} (hs : SqL K H p (ns.map V.int)) (h : Q (.bl (decide (x ∈ ns))) H) : rIn K false (.int x) (.ref p) H Q :=
  ⟨p, _, rfl, .inl hs, rfl, flat_ints ns, by rw [if_neg Bool.false_ne_true, inV_ints]; exact h⟩
theorem k_notInI {p : Addr} {ns : List Int} {x : Int} (hs : SqL K H p (ns.map V.int)) (h : Q (.bl (!decide (x ∈ ns))) H) : rIn K true (.int x) (.ref p) H Q :=
  ⟨p, _, rfl, .inl hs, rfl, flat_ints ns, by rw [if_pos rfl, inV_ints]; exact h⟩
theorem k_intB {b : Bool} (h : Q (.int (if b then 1 else 0)) H) : rIntOf [.bl b] H Q := .inr ⟨b, rfl, h⟩
theorem at_int {ns : List Int} {i : Int} (h0 : 0 ≤ i) (h1 : i < ns.length) : atI (ns.map V.int) i = some (.int (ns.getD i.toNat 0)) := by
  obtain ⟨k, rfl⟩ : ∃ k : Nat, i = k := ⟨i.toNat, by omega⟩
  have h : k < ns.length := by omega
  refine atI_nat ?_
  rw [List.getElem?_map]
  simp [List.getElem?_eq_getElem h, List.getD_eq_getElem?_getD]
theorem k_ixI {p : Addr} {ns : List Int} {i : Int} (hs : SqL K H p (ns.map V.int)) (h0 : 0 ≤ i) (h1 : i < ns.length) (h : Q (.int (ns.getD i.toNat 0)) H) : rIxL K (.ref p) (.int i) H Q := k_ixL hs (at_int h0 h1) h
theorem k_eqD {x y : V} {c d : PyData} {n : Nat} (hx : Dp K H x c) (hy : Dp K H y d) (h1 : Sh n c) (h2 : Sh n d) (hn : n ≤ 64) (h : Q (.bl (PyData.eqv c d)) H) : rEqD K x y H Q := ⟨c, d, hx, hy, h1.shaped hn, h2.shaped hn, h⟩
theorem k_neD {x y : V} {c d : PyData} {n : Nat} (hx : Dp K H x c) (hy : Dp K H y d) (h1 : Sh n c) (h2 : Sh n d) (hn : n ≤ 64) (h : Q (.bl (!PyData.eqv c d)) H) : rNeD K x y H Q := ⟨c, d, hx, hy, h1.shaped hn, h2.shaped hn, h⟩
theorem k_neD0 {x y : V} {c : PyData} {n : Nat} (hx : Dp K H x c) (hy : Dp K H y c) (h1 : Sh n c) (hn : n ≤ 64) (h : Q (.bl false) H) : rNeD K x y H Q := k_neD hx hy h1 h1 hn (by rw [h1.refl]; exact h)
theorem k_eqD1 {x y : V} {c : PyData} {n : Nat} (hx : Dp K H x c) (hy : Dp K H y c) (h1 : Sh n c) (hn : n ≤ 64) (h : Q (.bl true) H) : rEqD K x y H Q := k_eqD hx hy h1 h1 hn (by rw [h1.refl]; exact h)
theorem k_getI {p : Addr} {ns : List Int} {i : Int} (hs : SqL K H p (ns.map V.int)) (h0 : 0 ≤ i) (h1 : i < ns.length) (h : Q (.int (ns.getD i.toNat 0)) H) : rGetL K (.ref p) (.int i) H Q := ⟨p, _, i, _, rfl, rfl, hs, h0, at_int h0 h1, h⟩
theorem k_setI {p : Addr} {ns : List Int} {k v : Int} {QH : Hp → Prop} (hp : H p = some (.lst (ns.map V.int))) (h0 : 0 ≤ k) (h1 : k < ns.length) (h : QH (upd H p (.lst ((ns.set k.toNat v).map V.int)))) : rSetL (.ref p) (.int k) (.int v) H QH :=
  ⟨p, _, k, k.toNat, rfl, rfl, hp, ixN_of h0 (by rw [List.length_map]; exact h1), by rw [List.map_set] at h; exact h⟩
theorem k_rep {p : Addr} {xs : List V} {k : Int} (hp : H p = some (.lst xs)) (h0 : 0 ≤ k) (h1 : k < 100000) (h2 : xs.length * k.toNat ≤ 100000) (h : ∀ l, H l = none → Q (.ref l) (upd H l (.lst (List.replicate k.toNat xs).flatten))) : rRep (.ref p) (.int k) H Q := ⟨p, k, xs, rfl, rfl, hp, by omega, by omega, sz h2, h⟩
theorem k_eqB {a b : Bool} (h : Q (.bl (decide (a = b))) H) : rEq (.bl a) (.bl b) H Q := ⟨rfl, by
  have e : decide (V.bl a = V.bl b) = decide (a = b) := by cases a <;> cases b <;> decide
  rw [e]; exact h⟩
theorem k_neB {a b : Bool} (h : Q (.bl (!decide (a = b))) H) : rNe (.bl a) (.bl b) H Q := ⟨rfl, by
  have e : decide (V.bl a = V.bl b) = decide (a = b) := by cases a <;> cases b <;> decide
  rw [e]; exact h⟩
/-- new objects, the heap behind as a letter -/
theorem k_newL {xs : List V} (hn : xs.length ≤ 100000) (h : ∀ p H', H p = none → Same H H' → H' p = some (.lst xs) → Q (.ref p) H') : xs.length ≤ sizeLine ∧ ∀ p, H p = none → Q (.ref p) (upd H p (.lst xs)) :=
  ⟨sz hn, fun p np => h p _ np (same_new np) upd_same⟩
theorem k_newT {xs : List V} (hn : xs.length ≤ 100000) (h : ∀ p H', H p = none → Same H H' → H' p = some (.tup xs) → Q (.ref p) H') : xs.length ≤ sizeLine ∧ ∀ p, H p = none → Q (.ref p) (upd H p (.tup xs)) :=
  ⟨sz hn, fun p np => h p _ np (same_new np) upd_same⟩
theorem k_listN {p : Addr} {ys : List V} (hs : SqL K H p ys) (h : ∀ l H', H l = none → Same H H' → H' l = some (.lst ys) → Q (.ref l) H') : rListOf K [.ref p] H Q := k_list hs fun l nl => h l _ nl (same_new nl) upd_same
theorem k_slL {a : Addr} {xs : List V} {lo hi : Option Int} (hs : SqL K H a xs) (h : ∀ p H', H p = none → Same H H' → H' p = some (.lst (cutV xs lo hi)) → Q (.ref p) H') : rSlL K (.ref a) lo hi H Q := ⟨a, xs, rfl, hs, fun p np => h p _ np (same_new np) upd_same⟩
theorem k_sl {r : V → Option Int → Option Int → Hp → VK → Prop} {tl th : TO} (h : te σ H fun x H1 => tl σ H1 fun l H2 => th σ H2 fun u H3 => r x l u H3 Q) : tSl r te tl th σ H Q := h
theorem k_nopart {QO : Option Int → Hp → Prop} (h : QO none H) : tNoPart σ H QO := h
theorem k_part {QO : Option Int → Hp → Prop} (h : te σ H fun x H1 => ∃ i, x = .int i ∧ QO (some i) H1) : tPart te σ H QO := h
theorem k_int {i : Int} {R : Int → Prop} (h : R i) : ∃ j, V.int i = .int j ∧ R j := ⟨i, rfl, h⟩
theorem rg_ints (a b : Int) : rgV a b = ((List.range (b - a).toNat).map fun i => a + (i : Nat)).map V.int := by
  unfold rgV; rw [List.map_map]; rfl
theorem k_listRg {tg : L2.St → Hp → (Int → Int → Hp → Prop) → Prop} (h : tg σ H fun a b H1 => RgOk a b ∧ ∀ q, H1 q = none → Q (.ref q) (upd H1 q (.lst (rgV a b)))) : tLstRg tg σ H Q := h
theorem k_rg1 {QR : Int → Int → Hp → Prop} (h : ta σ H fun x H1 => ∃ n, x = .int n ∧ QR 0 n H1) : tRg1 ta σ H QR := h
theorem k_rg2 {QR : Int → Int → Hp → Prop} (h : ta σ H fun x H1 => tb σ H1 fun y H2 => ∃ i j, x = .int i ∧ y = .int j ∧ QR i j H2) : tRg2 ta tb σ H QR := h
theorem k_int2 {i j : Int} {R : Int → Int → Prop} (h : R i j) : ∃ i' j', V.int i = .int i' ∧ V.int j = .int j' ∧ R i' j' := ⟨i, j, rfl, rfl, h⟩
theorem k_rgN {a b : Int} (hr : RgOk a b) (h : ∀ p H', H p = none → Same H H' → H' p = some (.lst (rgV a b)) → Q (.ref p) H') : RgOk a b ∧ ∀ q, H q = none → Q (.ref q) (upd H q (.lst (rgV a b))) := ⟨hr, fun q nq => h q _ nq (same_new nq) upd_same⟩
theorem dp_of_int {i j : Int} (e : i = j) : Dp K H (.int i) (.int j) := e ▸ .int i
end
/-! ### heaps with some places out of sight -/
def hid (S : List Addr) (H : Hp) : Hp := fun b => if b ∈ S then none else H b
theorem hid_ne {S : List Addr} {H : Hp} {b : Addr} (h : b ∉ S) : hid S H b = H b := if_neg h
theorem hid_in {S : List Addr} {H : Hp} {b : Addr} (h : b ∈ S) : hid S H b = none := if_pos h
theorem hid_some {S : List Addr} {H : Hp} {b : Addr} {o : HO} (h : hid S H b = some o) : b ∉ S ∧ H b = some o := by
  unfold hid at h
  split at h
  · cases h
  · exact ⟨by assumption, h⟩
theorem hid_same (S : List Addr) (H : Hp) : Same (hid S H) H := fun b o h => (hid_some h).2
theorem hid_mono {S : List Addr} {H H' : Hp} (e : Same H H') : Same (hid S H) (hid S H') := fun b o h => by
  obtain ⟨n, h⟩ := hid_some h
  rw [hid_ne n]
  exact e b o h
theorem hid_sub {S S' : List Addr} {H : Hp} (h : ∀ a ∈ S, a ∈ S') : Same (hid S' H) (hid S H) := fun b o e => by
  obtain ⟨n, e⟩ := hid_some e
  rw [hid_ne fun z => n (h b z)]
  exact e
/-- a change at a hidden place -/
theorem hid_upd {S : List Addr} {H : Hp} {p : Addr} {o : HO} (h : p ∈ S) : hid S (upd H p o) = hid S H := by
  funext b
  unfold hid
  split
  · rfl
  · rename_i n
    rw [upd_ne fun e => n (by rw [e]; exact h)]
theorem same_hid_upd {S : List Addr} {H0 H : Hp} {p : Addr} {o : HO} (e : Same H0 (hid S H)) (h : p ∈ S) : Same H0 (hid S (upd H p o)) := by rw [hid_upd h]; exact e
/-- what the law's data says stays when a fresh object is changed -/
theorem same_hid_mut {S : List Addr} {H0 H : Hp} {p : Addr} {o : HO} (e : Same H0 (hid S H)) (h : H0 p = none) : Same H0 (hid S (upd H p o)) := fun b u hb => by
  have := e b u hb
  obtain ⟨n, q⟩ := hid_some this
  rw [hid_ne n, upd_ne (ne_of_none hb h)]
  exact q
theorem hid_more {S S' : List Addr} {H H' : Hp} (e : Same (hid S H) (hid S H')) (h : ∀ a ∈ S, a ∈ S') : Same (hid S' H) (hid S' H') := fun b o hb => by
  obtain ⟨n, q⟩ := hid_some hb
  have n' : b ∉ S := fun z => n (h b z)
  have := e b o (by rw [hid_ne n']; exact q)
  rw [hid_ne n'] at this
  rw [hid_ne n]
  exact this
theorem same_hid_new {S : List Addr} {H : Hp} {p : Addr} {o : HO} (h : H p = none) : Same (hid S H) (hid S (upd H p o)) := hid_mono (same_new h)

theorem same_of_hid {S : List Addr} {H0 H1 H2 : Hp} (h : Same H0 H1) (f : ∀ a ∈ S, H0 a = none) (e : Same (hid S H1) (hid S H2)) : Same H0 H2 := fun b o hb => by
  have n : b ∉ S := fun z => by rw [f b z] at hb; cases hb
  have := e b o (by rw [hid_ne n]; exact h b o hb)
  rw [hid_ne n] at this
  exact this
theorem free1 {H0 : Hp} {p : Addr} (h : H0 p = none) : ∀ a ∈ [p], H0 a = none := fun a z => by rw [List.mem_singleton.mp z]; exact h
theorem cutTo {ns : List Int} (k : Nat) : cutV (ns.map V.int) none (some (k : Int)) = (ns.take k).map V.int := by
  unfold cutV
  rw [HT.sIx_none, HT.sIx_nat, List.drop_zero, List.length_map, Nat.sub_zero, List.map_take]
  by_cases h : k ≤ ns.length
  · rw [Nat.min_eq_left h]
  · rw [Nat.min_eq_right (by omega), List.take_of_length_le (by simp), List.take_of_length_le (by simp; omega)]
/-! ### the law's purse: a list of the cells and the turn -/
structure Pu (H : Hp) (pu ce : Addr) (n : Nat) (t : Int) : Prop where
  hp : H pu = some (.lst [.ref ce, .int t])
  hc : ∃ cs : List Int, cs.length = n ∧ H ce = some (.lst (cs.map V.int))
  n0 : 0 < n
  n1 : n ≤ 63
  t0 : 0 ≤ t
theorem Pu.ne {H : Hp} {pu ce : Addr} {n : Nat} {t : Int} (h : Pu H pu ce n t) : pu ≠ ce := fun e => by
  obtain ⟨cs, hl, hc⟩ := h.hc
  have hp := h.hp
  rw [e, hc] at hp
  cases cs with
  | nil => injection hp with hp; injection hp with hp; cases hp
  | cons x r => injection hp with hp; injection hp with hp; injection hp with h1 h2; cases h1
theorem Pu.fresh {H : Hp} {pu ce : Addr} {n : Nat} {t : Int} (h : Pu H pu ce n t) {p : Addr} (np : H p = none) : p ∉ [pu, ce] := fun z => by
  obtain ⟨cs, hl, hc⟩ := h.hc
  rcases List.mem_cons.mp z with rfl | z
  · rw [h.hp] at np; cases np
  · rcases List.mem_cons.mp z with rfl | z
    · rw [hc] at np; cases np
    · cases z
theorem Pu.upd {H : Hp} {pu ce : Addr} {n : Nat} {t : Int} (h : Pu H pu ce n t) {p : Addr} {o : HO} (np : p ∉ [pu, ce]) : Pu (upd H p o) pu ce n t := by
  have h1 : pu ≠ p := fun e => np (by rw [e]; exact List.mem_cons_self)
  have h2 : ce ≠ p := fun e => np (by rw [e]; exact List.mem_cons_of_mem _ List.mem_cons_self)
  obtain ⟨cs, hl, hc⟩ := h.hc
  exact ⟨by rw [upd_ne h1]; exact h.hp, ⟨cs, hl, by rw [upd_ne h2]; exact hc⟩, h.n0, h.n1, h.t0⟩
theorem Pu.same {H H' : Hp} {pu ce : Addr} {n : Nat} {t : Int} (h : Pu H pu ce n t) (e : Same H H') : Pu H' pu ce n t := by
  obtain ⟨cs, hl, hc⟩ := h.hc
  exact ⟨e _ _ h.hp, ⟨cs, hl, e _ _ hc⟩, h.n0, h.n1, h.t0⟩
/-- an object that is none of the purse's stays as it is -/
theorem keeps {S : List Addr} {H H' : Hp} (e : Same (hid S H) (hid S H')) {b : Addr} {o : HO} (hb : H b = some o) (n : b ∉ S) : H' b = some o := by
  have := e b o (by rw [hid_ne n]; exact hb)
  rw [hid_ne n] at this
  exact this
theorem fresh_hid {S : List Addr} {H H' : Hp} (e : Same (hid S H) (hid S H')) {b : Addr} (hb : H' b = none) (n : b ∉ S) : H b = none := by
  have := e.free (l := b) (by rw [hid_ne n]; exact hb)
  rw [hid_ne n] at this
  exact this
theorem getD_set_len {α : Type} (l : List α) (i : Nat) (v : α) : (l.set i v).length = l.length := List.length_set
theorem map_set_int (cs : List Int) (i : Nat) (v : Int) : (cs.map V.int).set i (.int v) = (cs.set i v).map V.int := by rw [List.map_set]

/-! ### the law's other purse: [a number, a mark, how many were drawn] -/
structure Le (H : Hp) (pu : Addr) (k : Int) : Prop where
  hp : ∃ x f : Int, H pu = some (.lst [.int x, .int f, .int k]) ∧ (f = 0 → 0 ≤ x ∧ x < 2147483629)
  k0 : 0 ≤ k
theorem Le.fresh {H : Hp} {pu : Addr} {k : Int} (h : Le H pu k) {p : Addr} (np : H p = none) : p ∉ [pu] := fun z => by
  obtain ⟨x, f, hp, _⟩ := h.hp
  rw [List.mem_singleton.mp z, hp] at np
  cases np
theorem Le.upd {H : Hp} {pu : Addr} {k : Int} (h : Le H pu k) {p : Addr} {o : HO} (np : p ∉ [pu]) : Le (upd H p o) pu k := by
  obtain ⟨x, f, hp, hx⟩ := h.hp
  exact ⟨⟨x, f, by rw [upd_ne fun e => np (by rw [e]; exact List.mem_singleton.mpr rfl)]; exact hp, hx⟩, h.k0⟩
theorem Le.same {H H' : Hp} {pu : Addr} {k : Int} (h : Le H pu k) (e : Same H H') : Le H' pu k := by
  obtain ⟨x, f, hp, hx⟩ := h.hp
  exact ⟨⟨x, f, e _ _ hp, hx⟩, h.k0⟩

/-! ### comprehensions whose block leaves the heap as it is -/
section
variable {K : PySem.W.Frag} {σ : L2.St} {H1 : Hp} {Q : VK} {g : TG} {tt : TT} {te : TE} {vs : List Nat}
theorem k_lc {wi : TI} (h : wi σ H1 fun J H1 => ∀ D, H1 D = none → ∃ W : Nat → Nat → Hp → Prop, (∃ m, W 0 m (upd H1 D (.lst []))) ∧ ∀ i m H, W i m H →
  (J.stop i H ∧ Q (.ref D) H) ∨ (J.go i H ∧ ∃ Nx : Hp → Prop, (∀ H', Nx H' → ∃ m', m' < m ∧ W (i + 1) m' H') ∧ ∀ x H', J.yld i H x H' → g x (wipe σ vs) H' fun σ2 H2 => wipe σ2 vs = wipe σ vs ∧ tt σ2 H2 fun b H3 =>
    if b = true then te σ2 H3 fun y H4 => ∃ acc, H4 D = some (.lst acc) ∧ acc.length < sizeLine ∧ Nx (upd H4 D (.lst (acc ++ [y]))) else Nx H3)) : tLc wi g tt te vs σ H1 Q := h
theorem k_wipe {σ' : L2.St} {R : Prop} (e : wipe σ' vs = wipe σ vs) (h : R) : wipe σ' vs = wipe σ vs ∧ R := ⟨e, h⟩
theorem k_yes {QT : Bool → Hp → Prop} (h : QT true H1) : tYes σ H1 QT := h
theorem take_filterMap {α β : Type} {f : α → Option β} {ps : List α} {i : Nat} {p : α} (h : ps[i]? = some p) : (ps.take (i + 1)).filterMap f = (ps.take i).filterMap f ++ (f p).toList := by
  rw [List.take_add_one, h, List.filterMap_append]
  simp [List.filterMap_cons]
  cases f p <;> rfl
/-- over a list of which ps tells the items -/
theorem lc_pure {QD : Addr → Hp → Prop} {α : Type} {a : Addr} {xs : List V} (hs : SqL K H1 a xs) (ps : List α) (hl : xs.length = ps.length) (hz : ps.length ≤ 50000) (f : α → Option V)
    (step : ∀ (i : Nat) x p H', xs[i]? = some x → ps[i]? = some p → Same H1 H' → ∀ (R : V → Hp → Prop) (R0 : Hp → Prop), (∀ y, f p = some y → R y H') → (f p = none → R0 H') →
      g x (wipe σ vs) H' fun σ2 H2 => wipe σ2 vs = wipe σ vs ∧ tt σ2 H2 fun b H3 => if b = true then te σ2 H3 R else R0 H3)
    (h : ∀ D H', H1 D = none → Same H1 H' → H' D = some (.lst (ps.filterMap f)) → QD D H') :
    ∃ a', V.ref a = .ref a' ∧ (∃ xs, SqL K H1 a' xs) ∧ ∀ D, H1 D = none → ∃ W : Nat → Nat → Hp → Prop, (∃ m, W 0 m (upd H1 D (.lst []))) ∧ ∀ i m H, W i m H →
      ((Itl K a').stop i H ∧ QD D H) ∨ ((Itl K a').go i H ∧ ∃ Nx : Hp → Prop, (∀ H', Nx H' → ∃ m', m' < m ∧ W (i + 1) m' H') ∧ ∀ x H', (Itl K a').yld i H x H' → g x (wipe σ vs) H' fun σ2 H2 => wipe σ2 vs = wipe σ vs ∧ tt σ2 H2 fun b H3 =>
        if b = true then te σ2 H3 fun y H4 => ∃ acc, H4 D = some (.lst acc) ∧ acc.length < sizeLine ∧ Nx (upd H4 D (.lst (acc ++ [y]))) else Nx H3) := by
  refine ⟨a, rfl, ⟨xs, hs⟩, fun D nD => lc_list (xs := xs) (fun i H => Same H1 H ∧ H D = some (.lst ((ps.take i).filterMap f))) ⟨same_new nD, by rw [upd_same]; simp⟩ (fun i H _ e => e.1.seq hs) ?_ ?_⟩
  · rintro i x H hx ⟨sm, hD⟩
    have hi : i < xs.length := (List.getElem?_eq_some_iff.mp hx).1
    obtain ⟨p, hp⟩ : ∃ p, ps[i]? = some p := ⟨ps[i]'(by omega), List.getElem?_eq_getElem (by omega)⟩
    have tk := take_filterMap (f := f) hp
    refine step i x p H hx hp sm _ _ (fun y hy => ⟨_, hD, szl ?_, same_mut sm nD, ?_⟩) (fun hn => ⟨sm, ?_⟩)
    · have := List.length_filterMap_le f (ps.take i)
      rw [List.length_take] at this
      omega
    · rw [upd_same, tk, hy]; rfl
    · rw [tk, hn, hD]; simp
  · rintro H ⟨sm, hD⟩
    rw [hl, List.take_length] at hD
    exact h D H nD sm hD
/-- the same where a turn may make new objects -/
theorem lc_grow {QD : Addr → Hp → Prop} {α : Type} {a : Addr} {xs : List V} (hs : SqL K H1 a xs) (ps : List α) (hl : xs.length = ps.length) (hz : ps.length ≤ 50000) (f : α → Option V)
    (step : ∀ (i : Nat) x p H', xs[i]? = some x → ps[i]? = some p → Same H1 H' → ∀ (R : V → Hp → Prop) (R0 : Hp → Prop), (∀ y H'', f p = some y → Same H' H'' → R y H'') → (∀ H'', f p = none → Same H' H'' → R0 H'') →
      g x (wipe σ vs) H' fun σ2 H2 => wipe σ2 vs = wipe σ vs ∧ tt σ2 H2 fun b H3 => if b = true then te σ2 H3 R else R0 H3)
    (h : ∀ D H', H1 D = none → Same H1 H' → H' D = some (.lst (ps.filterMap f)) → QD D H') :
    ∃ a', V.ref a = .ref a' ∧ (∃ xs, SqL K H1 a' xs) ∧ ∀ D, H1 D = none → ∃ W : Nat → Nat → Hp → Prop, (∃ m, W 0 m (upd H1 D (.lst []))) ∧ ∀ i m H, W i m H →
      ((Itl K a').stop i H ∧ QD D H) ∨ ((Itl K a').go i H ∧ ∃ Nx : Hp → Prop, (∀ H', Nx H' → ∃ m', m' < m ∧ W (i + 1) m' H') ∧ ∀ x H', (Itl K a').yld i H x H' → g x (wipe σ vs) H' fun σ2 H2 => wipe σ2 vs = wipe σ vs ∧ tt σ2 H2 fun b H3 =>
        if b = true then te σ2 H3 fun y H4 => ∃ acc, H4 D = some (.lst acc) ∧ acc.length < sizeLine ∧ Nx (upd H4 D (.lst (acc ++ [y]))) else Nx H3) := by
  refine ⟨a, rfl, ⟨xs, hs⟩, fun D nD => lc_list (xs := xs) (fun i H => Same H1 H ∧ H D = some (.lst ((ps.take i).filterMap f))) ⟨same_new nD, by rw [upd_same]; simp⟩ (fun i H _ e => e.1.seq hs) ?_ ?_⟩
  · rintro i x H hx ⟨sm, hD⟩
    have hi : i < xs.length := (List.getElem?_eq_some_iff.mp hx).1
    obtain ⟨p, hp⟩ : ∃ p, ps[i]? = some p := ⟨ps[i]'(by omega), List.getElem?_eq_getElem (by omega)⟩
    have tk := take_filterMap (f := f) hp
    refine step i x p H hx hp sm _ _ (fun y H'' hy s2 => ⟨_, s2 _ _ hD, szl ?_, same_mut (sm.trans s2) nD, ?_⟩) (fun H'' hn s2 => ⟨sm.trans s2, ?_⟩)
    · have := List.length_filterMap_le f (ps.take i)
      rw [List.length_take] at this
      omega
    · rw [upd_same, tk, hy]; rfl
    · rw [tk, hn, s2 _ _ hD]; simp
  · rintro H ⟨sm, hD⟩
    rw [hl, List.take_length] at hD
    exact h D H nD sm hD
theorem range_take {n i : Nat} (h : i < n) : (List.range n)[i]? = some i := by simp [h]
/-- over a range -/
theorem lc_pureR {QD : Addr → Hp → Prop} {lo : Int} {n : Nat} (hz : n ≤ 50000) (f : Nat → Option V)
    (step : ∀ (i : Nat) H', i < n → Same H1 H' → ∀ (R : V → Hp → Prop) (R0 : Hp → Prop), (∀ y, f i = some y → R y H') → (f i = none → R0 H') →
      g (.int (lo + (i : Nat))) (wipe σ vs) H' fun σ2 H2 => wipe σ2 vs = wipe σ vs ∧ tt σ2 H2 fun b H3 => if b = true then te σ2 H3 R else R0 H3)
    (h : ∀ D H', H1 D = none → Same H1 H' → H' D = some (.lst ((List.range n).filterMap f)) → QD D H') :
    ∀ D, H1 D = none → ∃ W : Nat → Nat → Hp → Prop, (∃ m, W 0 m (upd H1 D (.lst []))) ∧ ∀ i m H, W i m H →
      ((Itr lo n).stop i H ∧ QD D H) ∨ ((Itr lo n).go i H ∧ ∃ Nx : Hp → Prop, (∀ H', Nx H' → ∃ m', m' < m ∧ W (i + 1) m' H') ∧ ∀ x H', (Itr lo n).yld i H x H' → g x (wipe σ vs) H' fun σ2 H2 => wipe σ2 vs = wipe σ vs ∧ tt σ2 H2 fun b H3 =>
        if b = true then te σ2 H3 fun y H4 => ∃ acc, H4 D = some (.lst acc) ∧ acc.length < sizeLine ∧ Nx (upd H4 D (.lst (acc ++ [y]))) else Nx H3) := by
  refine fun D nD => lc_range (fun i H => Same H1 H ∧ H D = some (.lst (((List.range n).take i).filterMap f))) ⟨same_new nD, by rw [upd_same]; simp⟩ ?_ ?_
  · rintro i H hi ⟨sm, hD⟩
    have tk := take_filterMap (f := f) (range_take hi)
    refine step i H hi sm _ _ (fun y hy => ⟨_, hD, szl ?_, same_mut sm nD, ?_⟩) (fun hn => ⟨sm, ?_⟩)
    · have := List.length_filterMap_le f ((List.range n).take i)
      rw [List.length_take, List.length_range] at this
      omega
    · rw [upd_same, tk, hy]; rfl
    · rw [tk, hn, hD]; simp
  · rintro H ⟨sm, hD⟩
    rw [List.take_of_length_le (by simp)] at hD
    exact h D H nD sm hD
end
/-! ### min, max of a pair -/
def rMinT (K : PySem.W.Frag) : List V → Hp → VK → Prop := fun xs H Q => ∃ (p : Addr) (a b : Int), xs = [.ref p] ∧ SqT K H p [.int a, .int b] ∧ Q (.int (min a b)) H
def rMaxT (K : PySem.W.Frag) : List V → Hp → VK → Prop := fun xs H Q => ∃ (p : Addr) (a b : Int), xs = [.ref p] ∧ SqT K H p [.int a, .int b] ∧ Q (.int (max a b)) H
theorem reads_int {h : Heap} {v : Value} {n : Int} {as : List Addr} (r : Reads h v (.int n) as) : ∃ t, v = .int n t := by
  cases r; exact ⟨_, rfl⟩
theorem alike2 (a b : Int) : PySem.W.AlikeAll [.int a, .int b] := by
  refine ⟨fun x hx y hy => ?_, fun x hx => ?_⟩
  · simp only [List.mem_cons, List.not_mem_nil, or_false] at hx hy
    rcases hx with rfl | rfl <;> rcases hy with rfl | rfl <;> rfl
  · simp only [List.mem_cons, List.not_mem_nil, or_false] at hx
    rcases hx with rfl | rfl <;> (intro z; cases z)
theorem q_minT {X : Cx} (hc : X.calm = true) (hu : X.A.units + 64 < cLine) : CallR X (.builtin "min") (rMinT X.K) := by
  intro pins s σ H vs us Q I r h
  obtain ⟨p, a, b, rfl, hs, q⟩ := h
  obtain ⟨its, rv, hl, _⟩ := I.tuple hs
  rw [Vals.ref1 r]
  have ri : IntsAre its [a, b] := Vals.ints (ns := [a, b]) rv
  refine PySem.W.min_tuple_data (x := .int a) (xs := [.int b]) (as := []) (I.ok.hd hc) hl (ri.reads _) (alike2 a b) ?_ fun i v h' tk bs hi rd hk => ?_
  · have : PyData.depthAll [.int a, .int b] = 0 := rfl
    omega
  · rw [show PySem.W.minD (.int a) [.int b] = .int (min a b) from PySem.W.minD_ints a [b]] at rd
    obtain ⟨t, rfl⟩ := reads_int rd
    exact ⟨.int _, H, I.kept hk, ⟨_, rfl⟩, q⟩
theorem q_maxT {X : Cx} (hc : X.calm = true) (hu : X.A.units + 64 < cLine) : CallR X (.builtin "max") (rMaxT X.K) := by
  intro pins s σ H vs us Q I r h
  obtain ⟨p, a, b, rfl, hs, q⟩ := h
  obtain ⟨its, rv, hl, _⟩ := I.tuple hs
  rw [Vals.ref1 r]
  have ri : IntsAre its [a, b] := Vals.ints (ns := [a, b]) rv
  refine PySem.W.max_tuple_data (x := .int a) (xs := [.int b]) (as := []) (I.ok.hd hc) hl (ri.reads _) (alike2 a b) ?_ fun i v h' tk bs hi rd hk => ?_
  · have : PyData.depthAll [.int a, .int b] = 0 := rfl
    omega
  · rw [show PySem.W.maxD (.int a) [.int b] = .int (max a b) from PySem.W.maxD_ints a [b]] at rd
    obtain ⟨t, rfl⟩ := reads_int rd
    exact ⟨.int _, H, I.kept hk, ⟨_, rfl⟩, q⟩
theorem k_minT {K : PySem.W.Frag} {H : Hp} {Q : VK} {p : Addr} {a b : Int} (hs : SqT K H p [.int a, .int b]) (h : Q (.int (min a b)) H) : rMinT K [.ref p] H Q := ⟨p, a, b, rfl, hs, h⟩
theorem k_maxT {K : PySem.W.Frag} {H : Hp} {Q : VK} {p : Addr} {a b : Int} (hs : SqT K H p [.int a, .int b]) (h : Q (.int (max a b)) H) : rMaxT K [.ref p] H Q := ⟨p, a, b, rfl, hs, h⟩
end Cm

namespace Cm
open PySem PySem.Spec PyProof.Rows L2
/-! ### steps of a reading, found by instances -/
class Stp (p : Prop) (q : outParam Prop) : Prop where
  run : q → p
class Stps (p : Prop) (q : outParam Prop) : Prop where
  run : q → p
class Stps1 (p : Prop) (q : outParam Prop) : Prop where
  run : q → p
instance (priority := low) stps_nil {p : Prop} : Stps p p := ⟨id⟩
instance (priority := high) stps_cons {p q r : Prop} [a : Stp p q] [b : Stps q r] : Stps p r := ⟨fun h => a.run (b.run h)⟩
instance stps_one {p q r : Prop} [a : Stp p q] [b : Stps q r] : Stps1 p r := ⟨fun h => a.run (b.run h)⟩
theorem go {p q : Prop} [a : Stps1 p q] (h : q) : p := a.run h
class Slot (σ : L2.St) (i : Nat) (v : outParam V) : Prop where
  get : σ[i]? = some (some v)
instance {v : V} {r : L2.St} : Slot (some v :: r) 0 v := ⟨rfl⟩
instance {x : Option V} {v : V} {r : L2.St} {i : Nat} [a : Slot r i v] : Slot (x :: r) (i + 1) v := ⟨a.get⟩
class Put (σ : L2.St) (i : Nat) (v : Option V) (σ' : outParam L2.St) : Prop where
  eq : σ.set i v = σ'
instance {x v : Option V} {r : L2.St} : Put (x :: r) 0 v (v :: r) := ⟨rfl⟩
instance {x v : Option V} {r r' : L2.St} {i : Nat} [a : Put r i v r'] : Put (x :: r) (i + 1) v (x :: r') := ⟨by rw [List.set_cons_succ, a.eq]⟩
instance {σ σ0 σ' : L2.St} {j : Nat} {w : Option V} {i : Nat} {v : Option V} [a : Put σ j w σ0] [b : Put σ0 i v σ'] : Put (List.set σ j w) i v σ' := ⟨by rw [a.eq, b.eq]⟩
instance {σ σ0 : L2.St} {j : Nat} {w : Option V} {i : Nat} {v : V} [a : Put σ j w σ0] [b : Slot σ0 i v] : Slot (List.set σ j w) i v := ⟨by rw [a.eq, b.get]⟩
class Wip (σ : L2.St) (vs : List Nat) (σ' : outParam L2.St) : Prop where
  eq : wipe σ vs = σ'
instance {σ : L2.St} : Wip σ [] σ := ⟨rfl⟩
instance {σ σ' σ'' : L2.St} {i : Nat} {vs : List Nat} [b : Wip σ vs σ'] [a : Put σ' i none σ''] : Wip σ (i :: vs) σ'' := ⟨by
  show (wipe σ vs).set i none = σ''
  rw [b.eq, a.eq]⟩
instance {σ σ0 σ' : L2.St} {vs : List Nat} {i : Nat} {v : Option V} [a : Wip σ vs σ0] [b : Put σ0 i v σ'] : Put (wipe σ vs) i v σ' := ⟨by rw [a.eq, b.eq]⟩
/-- a new list, a new tuple -/
def newL (xs : List V) (H : Hp) (Q : VK) : Prop := xs.length ≤ sizeLine ∧ ∀ p, H p = none → Q (.ref p) (upd H p (.lst xs))
def newT (xs : List V) (H : Hp) (Q : VK) : Prop := xs.length ≤ sizeLine ∧ ∀ p, H p = none → Q (.ref p) (upd H p (.tup xs))
def newR (a b : Int) (H : Hp) (Q : VK) : Prop := RgOk a b ∧ ∀ q, H q = none → Q (.ref q) (upd H q (.lst (rgV a b)))
theorem kL {xs : List V} {H : Hp} {Q : VK} (hn : xs.length ≤ 100000) (h : ∀ p H', H p = none → Same H H' → H' p = some (.lst xs) → Q (.ref p) H') : newL xs H Q := ⟨sz hn, fun p np => h p _ np (same_new np) upd_same⟩
theorem kT {xs : List V} {H : Hp} {Q : VK} (hn : xs.length ≤ 100000) (h : ∀ p H', H p = none → Same H H' → H' p = some (.tup xs) → Q (.ref p) H') : newT xs H Q := ⟨sz hn, fun p np => h p _ np (same_new np) upd_same⟩
theorem kR {a b : Int} {H : Hp} {Q : VK} (hr : RgOk a b) (h : ∀ p H', H p = none → Same H H' → H' p = some (.lst (rgV a b)) → Q (.ref p) H') : newR a b H Q := ⟨hr, fun q nq => h q _ nq (same_new nq) upd_same⟩
section
variable {K : PySem.W.Frag} {σ σ' : L2.St} {H : Hp} {D : Ends} {Q : VK} {ta tb tc te to ti : TE} {t u : TT} {s1 s2 : TS} {QT : Bool → Hp → Prop} {QA : List V → Hp → Prop} {tr : TA} {QS : L2.St → Hp → Prop} {nx bk ct : L2.St → Hp → Prop} {rt : VK} {g : TG} {gs : TGs} {i j : Nat} {v w : V} {a b : Int} {wi : TI} {tS : TS}
instance : Stp (tSeq s1 s2 ⟨nx, rt, bk, ct⟩ σ H) (s1 ⟨s2 ⟨nx, rt, bk, ct⟩, rt, bk, ct⟩ σ H) := ⟨k_seq⟩
instance : Stp (tNext ⟨nx, rt, bk, ct⟩ σ H) (nx σ H) := ⟨k_next⟩
instance : Stp (tCont ⟨nx, rt, bk, ct⟩ σ H) (ct σ H) := ⟨k_cont⟩
instance : Stp (tBreak ⟨nx, rt, bk, ct⟩ σ H) (bk σ H) := ⟨k_brk⟩
instance : Stp (tAsg te g ⟨nx, rt, bk, ct⟩ σ H) (te σ H fun x H1 => g x σ H1 nx) := ⟨k_asg⟩
instance : Stp (tDrop te ⟨nx, rt, bk, ct⟩ σ H) (te σ H fun _ H1 => nx σ H1) := ⟨k_drop⟩
instance : Stp (tRet te ⟨nx, rt, bk, ct⟩ σ H) (te σ H rt) := ⟨k_ret⟩
instance : Stp (tRetN ⟨nx, rt, bk, ct⟩ σ H) (rt .non H) := ⟨k_retN⟩
instance {f : Int → Int → Int} [e : Slot σ i (.int a)] : Stp (tAug i te (ipI f) ⟨nx, rt, bk, ct⟩ σ H) (te σ H fun y H1 => ipI f (.int a) y H1 fun z H2 => gName i z σ H2 nx) := ⟨fun h => k_aug e.get h⟩
instance {f : Int → Int → Int} : Stp (ipI f (.int a) (.int b) H Q) (Q (.int (f a b)) H) := ⟨k_ipI⟩
instance : Stp (xAugL K to ti te ⟨nx, rt, bk, ct⟩ σ H) (to σ H fun o H1 => ti σ H1 fun i H2 => rGetL K o i H2 fun x H3 => te σ H3 fun y H4 => ipI (fun i j => i + j) x y H4 fun z H5 => rSetL o i z H5 fun H6 => nx σ H6) := ⟨k_augL⟩
instance : Stp (tIfS t s1 s2 D σ H) (t σ H fun b H1 => if b = true then s1 D σ H1 else s2 D σ H1) := ⟨k_if⟩
instance [e : Slot σ i v] : Stp (tVar i σ H Q) (Q v H) := ⟨fun h => k_var e.get h⟩
instance : Stp (tC v σ H Q) (Q v H) := ⟨k_c⟩
instance {r : R2} : Stp (tOp r ta tb σ H Q) (ta σ H fun x H1 => tb σ H1 fun y H2 => r x y H2 Q) := ⟨k_op⟩
instance {r : V → Hp → VK → Prop} : Stp (tUn r ta σ H Q) (ta σ H fun x H1 => r x H1 Q) := ⟨k_un⟩
instance : Stp (xAdd (.int a) (.int b) H Q) (Q (.int (a + b)) H) := ⟨k_add⟩
instance : Stp (xSub (.int a) (.int b) H Q) (Q (.int (a - b)) H) := ⟨k_sub⟩
instance : Stp (xLt (.int a) (.int b) H Q) (Q (.bl (decide (a < b))) H) := ⟨k_lt⟩
instance : Stp (xLe (.int a) (.int b) H Q) (Q (.bl (decide (a ≤ b))) H) := ⟨k_le⟩
instance : Stp (xGt (.int a) (.int b) H Q) (Q (.bl (decide (b < a))) H) := ⟨k_gt⟩
instance : Stp (xGe (.int a) (.int b) H Q) (Q (.bl (decide (b ≤ a))) H) := ⟨k_ge⟩
instance : Stp (xNeg (.int a) H Q) (Q (.int (-a)) H) := ⟨k_neg⟩
instance : Stp (rEq (.int a) (.int b) H Q) (Q (.bl (decide (a = b))) H) := ⟨k_eqI⟩
instance : Stp (rNe (.int a) (.int b) H Q) (Q (.bl (!decide (a = b))) H) := ⟨k_neI⟩
instance {a b : Bool} : Stp (rEq (.bl a) (.bl b) H Q) (Q (.bl (decide (a = b))) H) := ⟨k_eqB⟩
instance {a b : Bool} : Stp (rNe (.bl a) (.bl b) H Q) (Q (.bl (!decide (a = b))) H) := ⟨k_neB⟩
theorem k_eqNN (h : Q (.bl true) H) : rEq .non .non H Q := ⟨rfl, h⟩
theorem k_isN0 (h : Q (.bl true) H) : xIsN .non .non H Q := ⟨rfl, h⟩
theorem k_isNr {p : Addr} (h : Q (.bl false) H) : xIsN (.ref p) .non H Q := ⟨rfl, by rw [decide_eq_false (by intro z; cases z)]; exact h⟩
theorem k_isNi (h : Q (.bl false) H) : xIsN (.int a) .non H Q := ⟨rfl, by rw [decide_eq_false (by intro z; cases z)]; exact h⟩
theorem k_notN0 (h : Q (.bl false) H) : xNotN .non .non H Q := ⟨rfl, h⟩
theorem k_notNr {p : Addr} (h : Q (.bl true) H) : xNotN (.ref p) .non H Q := ⟨rfl, by rw [decide_eq_false (by intro z; cases z)]; exact h⟩
theorem k_notNi (h : Q (.bl true) H) : xNotN (.int a) .non H Q := ⟨rfl, by rw [decide_eq_false (by intro z; cases z)]; exact h⟩
instance : Stp (xIsN .non .non H Q) (Q (.bl true) H) := ⟨k_isN0⟩
instance {p : Addr} : Stp (xIsN (.ref p) .non H Q) (Q (.bl false) H) := ⟨k_isNr⟩
instance : Stp (xIsN (.int a) .non H Q) (Q (.bl false) H) := ⟨k_isNi⟩
instance : Stp (xNotN .non .non H Q) (Q (.bl false) H) := ⟨k_notN0⟩
instance {p : Addr} : Stp (xNotN (.ref p) .non H Q) (Q (.bl true) H) := ⟨k_notNr⟩
instance : Stp (xNotN (.int a) .non H Q) (Q (.bl true) H) := ⟨k_notNi⟩
instance : Stp (tTest te σ H QT) (te σ H fun x H1 => ∃ k, x = .bl k ∧ QT k H1) := ⟨k_test⟩
instance : Stp (tB te σ H QT) (te σ H fun x H1 => ∃ k, x = .bl k ∧ QT k H1) := ⟨k_B⟩
instance {b : Bool} {R : Bool → Prop} : Stp (∃ k, V.bl b = .bl k ∧ R k) (R b) := ⟨k_bl⟩
instance {R : Int → Prop} : Stp (∃ j, V.int a = .int j ∧ R j) (R a) := ⟨k_int⟩
instance {R : Int → Int → Prop} : Stp (∃ i' j', V.int a = .int i' ∧ V.int b = .int j' ∧ R i' j') (R a b) := ⟨k_int2⟩
instance : Stp (tAnd t u σ H QT) (t σ H fun c H1 => if c = true then u σ H1 QT else QT false H1) := ⟨k_and⟩
instance : Stp (tOr t u σ H QT) (t σ H fun c H1 => if c = true then QT true H1 else u σ H1 QT) := ⟨k_or⟩
instance : Stp (tNot t σ H QT) (t σ H fun c H1 => QT (!c) H1) := ⟨k_not⟩
instance : Stp (tNotV ta σ H Q) (ta σ H fun x H1 => ∃ c, x = .bl c ∧ Q (.bl (!c)) H1) := ⟨k_notV⟩
instance : Stp (tAndV ta tb σ H Q) (ta σ H fun x H1 => ∃ c, x = .bl c ∧ if c = true then tb σ H1 Q else Q (.bl false) H1) := ⟨k_andV⟩
instance : Stp (tOrV ta tb σ H Q) (ta σ H fun x H1 => ∃ c, x = .bl c ∧ if c = true then Q (.bl true) H1 else tb σ H1 Q) := ⟨k_orV⟩
instance {r : List V → Hp → VK → Prop} : Stp (tCB r tr σ H Q) (tr σ H fun vs H1 => r vs H1 Q) := ⟨k_cb⟩
instance : Stp (tNil σ H QA) (QA [] H) := ⟨k_nil⟩
instance : Stp (tCons ta tr σ H QA) (ta σ H fun x H1 => tr σ H1 fun xs H2 => QA (x :: xs) H2) := ⟨k_cons⟩
instance {sp : Sp} {E : XK} : Stp (tCall sp [] E tr σ H Q) (tr σ H fun vs H1 => sp vs H1 Q E) := ⟨fun h => k_call (by simpa only [List.append_nil] using h)⟩
instance : Stp (tLst tr σ H Q) (tr σ H fun xs H1 => newL xs H1 Q) := ⟨k_lst⟩
instance : Stp (tTup tr σ H Q) (tr σ H fun xs H1 => newT xs H1 Q) := ⟨k_tup⟩
instance {r : List V} : Stp (gCons g gs (v :: r) σ H QS) (g v σ H fun σ' H' => gs r σ' H' QS) := ⟨k_gcons⟩
instance : Stp (gNil [] σ H QS) (QS σ H) := ⟨k_gnil⟩
instance [e : Put σ i (some v) σ'] : Stp (gName i v σ H QS) (QS σ' H) := ⟨fun h => k_gname (by rw [e.eq]; exact h)⟩
instance {ts : TSet} : Stp (gSub to ti ts v σ H QS) (to σ H fun o H1 => ti σ H1 fun i H2 => ts o i v H2 fun H3 => QS σ H3) := ⟨k_gsub⟩
instance : Stp (rMax2 [.int a, .int b] H Q) (Q (.int (if b > a then b else a)) H) := ⟨k_max2⟩
instance : Stp (rMin2 [.int a, .int b] H Q) (Q (.int (if b < a then b else a)) H) := ⟨k_min2⟩
instance {T : String} {r : V → List V → Hp → VK → Prop} : Stp (tBM K T r ta tr σ H Q) (ta σ H fun x H1 => tyV K T x H1 ∧ tr σ H1 fun xs H2 => r x xs H2 Q) := ⟨k_bm⟩
instance {T : String} {r : V → List V → Hp → VK → Prop} : Stp (tBM0 K T r ta σ H Q) (ta σ H fun x H1 => tyV K T x H1 ∧ r x [] H1 Q) := ⟨k_bm0⟩
instance {A B : Prop} {i : Decidable (true = true)} : Stp (@ite Prop (true = true) i A B) A := ⟨fun h => by rw [if_pos rfl]; exact h⟩
instance {A B : Prop} {i : Decidable (false = true)} : Stp (@ite Prop (false = true) i A B) B := ⟨fun h => by rw [if_neg (by simp)]; exact h⟩
instance {A B : Prop} {i : Decidable ((!true) = true)} : Stp (@ite Prop ((!true) = true) i A B) B := ⟨fun h => by rw [if_neg (by simp)]; exact h⟩
instance {A B : Prop} {i : Decidable ((!false) = true)} : Stp (@ite Prop ((!false) = true) i A B) A := ⟨fun h => by rw [if_pos (by simp)]; exact h⟩
instance : Stp (tFor wi g tS ⟨nx, rt, bk, ct⟩ σ H) (wi σ H fun J H1 => ∃ W : Nat → Nat → L2.St → Hp → Prop, (∃ m, W 0 m σ H1) ∧ ∀ i m σ H, W i m σ H →
  (J.stop i H ∧ nx σ H) ∨ (J.go i H ∧ ∃ N : L2.St → Hp → Prop, (∀ σ' H', N σ' H' → ∃ m', m' < m ∧ W (i + 1) m' σ' H') ∧ ∀ x H', J.yld i H x H' → g x σ H' fun σ2 H2 => tS ⟨N, rt, nx, N⟩ σ2 H2)) := ⟨k_for⟩
instance {R : It → Hp → Prop} : Stp (iList K te σ H R) (te σ H fun x H1 => ∃ a, x = .ref a ∧ (∃ xs, SqL K H1 a xs) ∧ R (Itl K a) H1) := ⟨k_iList⟩
instance {R : It → Hp → Prop} : Stp (iTup K te σ H R) (te σ H fun x H1 => ∃ a, x = .ref a ∧ (∃ xs, SqT K H1 a xs) ∧ R (Itt K a) H1) := ⟨k_iTup⟩
instance {R : It → Hp → Prop} : Stp (iZip K tr σ H R) (tr σ H fun vs H1 => ∃ a b xs ys, vs = [.ref a, .ref b] ∧ SqL K H1 a xs ∧ SqL K H1 b ys ∧ R (Itz K a b) H1) := ⟨k_iZip⟩
instance {R : It → Hp → Prop} : Stp (iEnum K tr σ H R) (tr σ H fun vs H1 => ∃ a xs, vs = [.ref a] ∧ SqL K H1 a xs ∧ R (Ite K a) H1) := ⟨k_iEnum⟩
instance {R : It → Hp → Prop} : Stp (iRng1 tr σ H R) (tr σ H fun vs H1 => ∃ j : Int, vs = [.int j] ∧ -(2 ^ 62) ≤ j ∧ j < 2 ^ 62 ∧ R (Itr 0 j.toNat) H1) := ⟨k_iRng1⟩
instance {R : It → Hp → Prop} : Stp (iRng2 tr σ H R) (tr σ H fun vs H1 => ∃ i j : Int, vs = [.int i, .int j] ∧ (-(2 ^ 62) ≤ i ∧ i < 2 ^ 62 ∧ -(2 ^ 62) ≤ j ∧ j < 2 ^ 62) ∧ R (Itr i (j - i).toNat) H1) := ⟨k_iRng2⟩
instance {vs : List Nat} : Stp (tLc wi g t te vs σ H Q) (wi σ H fun J H1 => ∀ D, H1 D = none → ∃ W : Nat → Nat → Hp → Prop, (∃ m, W 0 m (upd H1 D (.lst []))) ∧ ∀ i m H, W i m H →
  (J.stop i H ∧ Q (.ref D) H) ∨ (J.go i H ∧ ∃ Nx : Hp → Prop, (∀ H', Nx H' → ∃ m', m' < m ∧ W (i + 1) m' H') ∧ ∀ x H', J.yld i H x H' → g x (wipe σ vs) H' fun σ2 H2 => wipe σ2 vs = wipe σ vs ∧ t σ2 H2 fun b H3 =>
    if b = true then te σ2 H3 fun y H4 => ∃ acc, H4 D = some (.lst acc) ∧ acc.length < sizeLine ∧ Nx (upd H4 D (.lst (acc ++ [y]))) else Nx H3)) := ⟨k_lc⟩
instance : Stp (tYes σ H QT) (QT true H) := ⟨k_yes⟩
instance {r : V → Option Int → Option Int → Hp → VK → Prop} {tl th : TO} : Stp (tSl r te tl th σ H Q) (te σ H fun x H1 => tl σ H1 fun l H2 => th σ H2 fun u H3 => r x l u H3 Q) := ⟨k_sl⟩
instance {QO : Option Int → Hp → Prop} : Stp (tNoPart σ H QO) (QO none H) := ⟨k_nopart⟩
instance {QO : Option Int → Hp → Prop} : Stp (tPart te σ H QO) (te σ H fun x H1 => ∃ i, x = .int i ∧ QO (some i) H1) := ⟨k_part⟩
instance {tg : L2.St → Hp → (Int → Int → Hp → Prop) → Prop} : Stp (tLstRg tg σ H Q) (tg σ H fun a b H1 => newR a b H1 Q) := ⟨k_listRg⟩
instance {QR : Int → Int → Hp → Prop} : Stp (tRg1 ta σ H QR) (ta σ H fun x H1 => ∃ n, x = .int n ∧ QR 0 n H1) := ⟨k_rg1⟩
instance {QR : Int → Int → Hp → Prop} : Stp (tRg2 ta tb σ H QR) (ta σ H fun x H1 => tb σ H1 fun y H2 => ∃ i j, x = .int i ∧ y = .int j ∧ QR i j H2) := ⟨k_rg2⟩
instance : Stp (rIsi K [.int a, .ty "int"] H Q) (Q (.bl true) H) := ⟨k_isiI⟩
instance : Stp (rIsi K [.int a, .ty "bool"] H Q) (Q (.bl false) H) := ⟨k_isiB⟩
instance : Stp (rIsi K [.int a, .ty "list"] H Q) (Q (.bl false) H) := ⟨k_isiLI⟩
instance {b : Bool} : Stp (rIntOf [.bl b] H Q) (Q (.int (if b then 1 else 0)) H) := ⟨k_intB⟩
theorem k_chain {r r' : R2} (h : ta σ H fun x H1 => tb σ H1 fun y H2 => r x y H2 fun z H3 => ∃ k, z = .bl k ∧ if k = true then tc σ H3 fun z H4 => r' y z H4 Q else Q (.bl false) H3) : tChain r r' ta tb tc σ H Q := h
instance {r r' : R2} : Stp (tChain r r' ta tb tc σ H Q) (ta σ H fun x H1 => tb σ H1 fun y H2 => r x y H2 fun z H3 => ∃ k, z = .bl k ∧ if k = true then tc σ H3 fun z H4 => r' y z H4 Q else Q (.bl false) H3) := ⟨k_chain⟩
theorem k_ifE (h : t σ H fun c H1 => if c = true then ta σ H1 Q else tb σ H1 Q) : tIf t ta tb σ H Q := h
instance : Stp (tIf t ta tb σ H Q) (t σ H fun c H1 => if c = true then ta σ H1 Q else tb σ H1 Q) := ⟨k_ifE⟩
def par2 (i j : Nat) (vs : List V) (σ : L2.St) (H : Hp) (nx : L2.St → Hp → Prop) : Prop := ∃ v w, vs = [v, w] ∧ nx ((σ.set i (some v)).set j (some w)) H
instance : Stp (tPar i j tr ⟨nx, rt, bk, ct⟩ σ H) (tr σ H fun vs H1 => par2 i j vs σ H1 nx) := ⟨fun h => h⟩
instance {σ'' : L2.St} [e : Put σ i (some v) σ'] [e2 : Put σ' j (some w) σ''] : Stp (par2 i j [v, w] σ H nx) (nx σ'' H) := ⟨fun h => ⟨v, w, rfl, by rw [e.eq, e2.eq]; exact h⟩⟩
end
/-! ### bits -/
def xShl : R2 := rI CPow fun i j => .int (i * 2 ^ j.toNat)
def xAnd : R2 := rI0 fun i j => .int (Builtin.bitAnd i j)
theorem k_shl {H : Hp} {Q : VK} {i j : Int} (hc : CPow i j) (h : Q (.int (i * 2 ^ j.toNat)) H) : xShl (.int i) (.int j) H Q := ⟨i, j, rfl, rfl, hc, h⟩
instance {H : Hp} {Q : VK} {i j : Int} : Stp (xAnd (.int i) (.int j) H Q) (Q (.int (Builtin.bitAnd i j)) H) := ⟨fun h => ⟨i, j, rfl, rfl, h⟩⟩
/-! ### list.count of flat values -/
def cntV (y : V) (ys : List V) : Nat := ys.countP fun z => eqV z y
def rCntV (K : PySem.W.Frag) : V → List V → Hp → VK → Prop := fun x xs H Q => ∃ (a : Addr) (ys : List V) (y : V), x = V.ref a ∧ xs = [y] ∧ SqL K H a ys ∧ flatV y = true ∧ ys.all flatV = true ∧ Q (.int (cntV y ys : Nat)) H
theorem cntV_eq {y : V} : ∀ {ys : List V} {its : List Value}, Vals ys its → ys.all flatV = true → its.countP (eqU y) = cntV y ys
  | _, _, .nil, _ => rfl
  | a :: as, _ :: _, .cons r rs, f => by
    have f1 : flatV a = true ∧ as.all flatV = true := by simpa using f
    unfold cntV
    rw [List.countP_cons, List.countP_cons, eqU_of r f1.1, cntV_eq rs f1.2]
    rfl
theorem mt_lcountV {X : Cx} : MtR X "list.count" (rCntV X.K) := by
  intro pins s σ H x xs v us Q I rx rxs h
  obtain ⟨a, ys, y, rfl, rfl, hs, fy, fys, q⟩ := h
  cases rx
  cases rxs with
  | cons ry rt =>
    rename_i uy ut
    cases rt
    obtain ⟨its, rv, ⟨⟨cls, dd, data, sl⟩, n, ho, hc, hdn, hd⟩, hlen⟩ := I.list hs
    simp only at hc hd
    subst hc hd
    refine call_meets PySem.F.slot_list_count ⟨_, ho, rfl⟩ PySem.F.entry_list_count (PySem.F.args_list_count_2 _ _)
      (SeqAt.list_countAt a its.toArray n dd sl uy (eqU y)) ⟨ho, fun u' hu' => mem_eqAt ry fy rv fys u' (by simpa using hu'), ?_⟩
    have ec : its.toArray.toList.countP (eqU y) = cntV y ys := cntV_eq rv fys
    refine ⟨.int (cntV y ys : Nat), H, I.tok _, ⟨s.toks, ?_⟩, q⟩
    show Value.int ((its.toArray.toList.countP (eqU y) : Nat) : Int) s.toks = Value.int ((cntV y ys : Nat) : Int) s.toks
    rw [ec]
section
variable {K : PySem.W.Frag} {H : Hp} {Q : VK}
theorem k_catN {p q : Addr} {xs ys : List V} (hp : H p = some (.lst xs)) (hq : H q = some (.lst ys)) (hz : xs.length + ys.length ≤ 100000) (h : ∀ l H', H l = none → Same H H' → H' l = some (.lst (xs ++ ys)) → Q (.ref l) H') : rCat (.ref p) (.ref q) H Q := k_cat hp hq hz fun l nl => h l _ nl (same_new nl) upd_same
theorem k_cntV {p : Addr} {ys : List V} {y : V} (hs : SqL K H p ys) (fy : flatV y = true) (fys : ys.all flatV = true) (h : Q (.int (cntV y ys : Nat)) H) : rCntV K (.ref p) [y] H Q := ⟨p, ys, y, rfl, rfl, hs, fy, fys, h⟩
theorem k_indexV {p : Addr} {ys : List V} {y z : V} {j : Nat} (hs : SqL K H p ys) (fy : flatV y = true) (fys : ys.all flatV = true) (hj : ys[j]? = some z) (hz : eqV z y = true) (hn : ∀ (m : Nat) (z' : V), m < j → ys[m]? = some z' → eqV z' y = false) (h : Q (.int (j : Nat)) H) : rIndex K (.ref p) [y] H Q := ⟨p, ys, y, j, z, rfl, rfl, hs, fy, fys, hj, hz, hn, h⟩
theorem k_sortedN {a : Addr} {ns : List Int} (hs : SqL K H a (ns.map V.int)) (h : ∀ (ns' : List Int) (p : Addr) H', ns'.Perm ns → ns'.Pairwise (· ≤ ·) → H p = none → Same H H' → H' p = some (.lst (ns'.map V.int)) → Q (.ref p) H') : rSortedI K [.ref a] H Q := k_sortedI hs fun ns' p h1 h2 h3 => h ns' p _ h1 h2 h3 (same_new h3) upd_same
end
/-! ### facts of older heaps -/
theorem hid_back {S : List Addr} {X Y : Hp} (h : Same X (hid S Y)) : Same X Y := h.trans (hid_same S Y)
theorem at_same {X Y : Hp} {p : Addr} {o : HO} (h : X p = some o) (s : Same X Y) : Y p = some o := s _ _ h
theorem sl_at {K : PySem.W.Frag} {X Y : Hp} {p : Addr} {xs : List V} (h : X p = some (.lst xs)) (s : Same X Y) : SqL K Y p xs := sl (s _ _ h)
theorem st_at {K : PySem.W.Frag} {X Y : Hp} {p : Addr} {xs : List V} (h : X p = some (.tup xs)) (s : Same X Y) : SqT K Y p xs := stp (s _ _ h)
theorem dpI_at {K : PySem.W.Frag} {X Y : Hp} {p : Addr} {ns : List Int} (h : X p = some (.lst (ns.map V.int))) (s : Same X Y) : Dp K Y (.ref p) (dInts ns) := dp_of_ints (sl (s _ _ h))
theorem dpP_at {K : PySem.W.Frag} {X Y : Hp} {p : Addr} {a b : Int} (h : X p = some (.tup [.int a, .int b])) (s : Same X Y) : Dp K Y (.ref p) (dPair (a, b)) := dp_of_pair (stp (s _ _ h))
theorem hid_free {S : List Addr} {H : Hp} (f : ∀ a ∈ S, H a = none) : Same H (hid S H) := fun b o hb => by
  rw [hid_ne fun z => by rw [f b z] at hb; cases hb]; exact hb
theorem hid_free1 {p : Addr} {H : Hp} (f : H p = none) : Same H (hid [p] H) := hid_free (free1 f)
theorem cut_to (xs : List V) (k : Nat) : cutV xs none (some (k : Int)) = xs.take k := by
  unfold cutV
  rw [HT.sIx_none, HT.sIx_nat, List.drop_zero, Nat.sub_zero]
  by_cases h : k ≤ xs.length
  · rw [Nat.min_eq_left h]
  · rw [Nat.min_eq_right (by omega), List.take_of_length_le (by simp), List.take_of_length_le (by omega)]
theorem cut_from (xs : List V) (k : Nat) : cutV xs (some (k : Int)) none = xs.drop k := by
  unfold cutV
  rw [HT.sIx_none, HT.sIx_nat]
  by_cases h : k ≤ xs.length
  · rw [Nat.min_eq_left h]
    exact List.take_of_length_le (by simp)
  · rw [Nat.min_eq_right (by omega), List.drop_of_length_le (Nat.le_refl _), List.drop_of_length_le (by omega), List.take_nil]
theorem dpa_take {K : PySem.W.Frag} {H : Hp} : ∀ {vs : List V} {ds : List PyData} (n : Nat), DpAll K H vs ds → DpAll K H (vs.take n) (ds.take n)
  | _, _, 0, _ => by simp only [List.take_zero]; exact .nil
  | _, _, n + 1, .nil => by simp only [List.take_nil]; exact .nil
  | _, _, n + 1, .cons h r => .cons h (dpa_take n r)
theorem dpa_drop {K : PySem.W.Frag} {H : Hp} : ∀ {vs : List V} {ds : List PyData} (n : Nat), DpAll K H vs ds → DpAll K H (vs.drop n) (ds.drop n)
  | _, _, 0, h => h
  | _, _, n + 1, .nil => by simp only [List.drop_nil]; exact .nil
  | _, _, n + 1, .cons _ r => dpa_drop n r
theorem Le.at {H H' : Hp} {pu p : Addr} {k : Int} {o : HO} (L : Le H pu k) (np : H p = none) (e : H' p = some o) : hid [pu] H' p = some o := by rw [hid_ne (L.fresh np)]; exact e
theorem hat {H : Hp} {pu p : Addr} {o : HO} (np : p ∉ [pu]) (e : H p = some o) : hid [pu] H p = some o := by rw [hid_ne np]; exact e
theorem kLp {xs : List V} {H : Hp} {Q : VK} {pu : Addr} {k : Int} (L : Le H pu k) (hn : xs.length ≤ 100000) (h : ∀ p H', H p = none → Same H H' → hid [pu] H' p = some (.lst xs) → Q (.ref p) H') : newL xs H Q := ⟨sz hn, fun p np => h p _ np (same_new np) (L.at np upd_same)⟩
theorem kTp {xs : List V} {H : Hp} {Q : VK} {pu : Addr} {k : Int} (L : Le H pu k) (hn : xs.length ≤ 100000) (h : ∀ p H', H p = none → Same H H' → hid [pu] H' p = some (.tup xs) → Q (.ref p) H') : newT xs H Q := ⟨sz hn, fun p np => h p _ np (same_new np) (L.at np upd_same)⟩
theorem sh_l2 {n : Nat} {c d : PyData} (h1 : Sh n c) (h2 : Sh n d) : Sh (n + 1) (.list [c, d]) := sh_list fun x hx => by
  rcases List.mem_cons.mp hx with rfl | hx
  · exact h1
  · rcases List.mem_cons.mp hx with rfl | hx
    · exact h2
    · cases hx
section
variable {K : PySem.W.Frag} {σ : L2.St} {H1 : Hp} {Q : VK} {g : TG} {tt : TT} {te : TE} {vs : List Nat}
/-- over a range, new objects may be made -/
theorem lc_growR {QD : Addr → Hp → Prop} {lo : Int} {n : Nat} (hz : n ≤ 50000) (f : Nat → Option V)
    (step : ∀ (i : Nat) H', i < n → Same H1 H' → ∀ (R : V → Hp → Prop) (R0 : Hp → Prop), (∀ y H'', f i = some y → Same H' H'' → R y H'') → (∀ H'', f i = none → Same H' H'' → R0 H'') →
      g (.int (lo + (i : Nat))) (wipe σ vs) H' fun σ2 H2 => wipe σ2 vs = wipe σ vs ∧ tt σ2 H2 fun b H3 => if b = true then te σ2 H3 R else R0 H3)
    (h : ∀ D H', H1 D = none → Same H1 H' → H' D = some (.lst ((List.range n).filterMap f)) → QD D H') :
    ∀ D, H1 D = none → ∃ W : Nat → Nat → Hp → Prop, (∃ m, W 0 m (upd H1 D (.lst []))) ∧ ∀ i m H, W i m H →
      ((Itr lo n).stop i H ∧ QD D H) ∨ ((Itr lo n).go i H ∧ ∃ Nx : Hp → Prop, (∀ H', Nx H' → ∃ m', m' < m ∧ W (i + 1) m' H') ∧ ∀ x H', (Itr lo n).yld i H x H' → g x (wipe σ vs) H' fun σ2 H2 => wipe σ2 vs = wipe σ vs ∧ tt σ2 H2 fun b H3 =>
        if b = true then te σ2 H3 fun y H4 => ∃ acc, H4 D = some (.lst acc) ∧ acc.length < sizeLine ∧ Nx (upd H4 D (.lst (acc ++ [y]))) else Nx H3) := by
  refine fun D nD => lc_range (fun i H => Same H1 H ∧ H D = some (.lst (((List.range n).take i).filterMap f))) ⟨same_new nD, by rw [upd_same]; simp⟩ ?_ ?_
  · rintro i H hi ⟨sm, hD⟩
    have tk := take_filterMap (f := f) (range_take hi)
    refine step i H hi sm _ _ (fun y H'' hy s2 => ⟨_, s2 _ _ hD, szl ?_, same_mut (sm.trans s2) nD, ?_⟩) (fun H'' hn s2 => ⟨sm.trans s2, ?_⟩)
    · have := List.length_filterMap_le f ((List.range n).take i)
      rw [List.length_take, List.length_range] at this
      omega
    · rw [upd_same, tk, hy]; rfl
    · rw [tk, hn, s2 _ _ hD]; simp
  · rintro H ⟨sm, hD⟩
    rw [List.take_of_length_le (by simp)] at hD
    exact h D H nD sm hD
end
/-- behind an if: what follows is shown once -/
theorem ifjoin {c : Bool} {σ : L2.St} {H : Hp} {s1 s2 : TS} {nx bk ct : L2.St → Hp → Prop} {rt : VK} (G : L2.St → Hp → Prop) (main : ∀ σ H, G σ H → nx σ H) (h : (∀ σ H, G σ H → nx σ H) → if c = true then s1 ⟨nx, rt, bk, ct⟩ σ H else s2 ⟨nx, rt, bk, ct⟩ σ H) : if c = true then s1 ⟨nx, rt, bk, ct⟩ σ H else s2 ⟨nx, rt, bk, ct⟩ σ H := h main
theorem k_repN {H : Hp} {Q : VK} {p : Addr} {xs : List V} {k : Int} (hp : H p = some (.lst xs)) (h0 : 0 ≤ k) (h1 : k < 100000) (h2 : xs.length * k.toNat ≤ 100000) (h : ∀ l H', H l = none → Same H H' → H' l = some (.lst (List.replicate k.toNat xs).flatten) → Q (.ref l) H') : rRep (.ref p) (.int k) H Q := k_rep hp h0 h1 h2 fun l nl => h l _ nl (same_new nl) upd_same
theorem ixN_last {n : Nat} (h : 0 < n) : ixN n (-1) = some (n - 1) := by
  unfold ixN
  rw [if_neg (by omega)]
  split
  · simp; omega
  · omega
theorem ifsjoin {t : TT} {σ : L2.St} {H : Hp} {s1 s2 : TS} {nx bk ct : L2.St → Hp → Prop} {rt : VK} (G : L2.St → Hp → Prop) (main : ∀ σ H, G σ H → nx σ H) (h : (∀ σ H, G σ H → nx σ H) → tIfS t s1 s2 ⟨nx, rt, bk, ct⟩ σ H) : tIfS t s1 s2 ⟨nx, rt, bk, ct⟩ σ H := h main
/-- over a list or a tuple -/
def iAny (w1 w2 : TI) : TI := fun σ H R => w1 σ H R ∨ w2 σ H R
theorem pi_any {X : Cx} {tg it : Expr} {w1 w2 : TI} (h1 : PI X tg it w1) (h2 : PI X tg it w2) : PI X tg it (iAny w1 w2) := ⟨fun pins s σ H R I h => by
  rcases h with h | h
  · exact h1.run pins s σ H R I h
  · exact h2.run pins s σ H R I h⟩
theorem k_inT2 {K : PySem.W.Frag} {H : Hp} {Q : VK} {p : Addr} {x a b : Int} (hs : SqT K H p [.int a, .int b]) (h : Q (.bl (decide (x = a ∨ x = b))) H) : rIn K false (.int x) (.ref p) H Q :=
  ⟨p, _, rfl, .inr hs, rfl, flat_ints [a, b], by
    rw [if_neg Bool.false_ne_true, show ([V.int a, .int b] : List V) = List.map V.int [a, b] from rfl, inV_ints]
    have e : decide (x ∈ [a, b]) = decide (x = a ∨ x = b) := by simp
    rw [e]; exact h⟩
theorem Pu.at {H H' : Hp} {pu ce p : Addr} {n : Nat} {t : Int} {o : HO} (L : Pu H pu ce n t) (np : H p = none) (e : H' p = some o) : hid [pu, ce] H' p = some o := by rw [hid_ne (L.fresh np)]; exact e
theorem kLq {xs : List V} {H : Hp} {Q : VK} {pu ce : Addr} {n : Nat} {t : Int} (L : Pu H pu ce n t) (hn : xs.length ≤ 100000) (h : ∀ p H', H p = none → Same H H' → hid [pu, ce] H' p = some (.lst xs) → Q (.ref p) H') : newL xs H Q := ⟨sz hn, fun p np => h p _ np (same_new np) (L.at np upd_same)⟩
theorem kTq {xs : List V} {H : Hp} {Q : VK} {pu ce : Addr} {n : Nat} {t : Int} (L : Pu H pu ce n t) (hn : xs.length ≤ 100000) (h : ∀ p H', H p = none → Same H H' → hid [pu, ce] H' p = some (.tup xs) → Q (.ref p) H') : newT xs H Q := ⟨sz hn, fun p np => h p _ np (same_new np) (L.at np upd_same)⟩
end Cm

namespace Cm
open PySem PySem.Spec PyProof.Rows L2

/-! ### a caught exception that is kept as a value -/
def ExV (cls : Value) (d : Option Addr) (a : Addr) : HO := .ext fun h => ∃ (oe : Obj) (vs : Array Value), h.get? a = some oe ∧ Zc cls d oe ∧ oe.data = .fields vs
theorem exV_ok {P : Program} {w : World} {H : Hp} {h : Heap} {a : Addr} {cls : Value} {d : Option Addr} {oe : Obj} {vs : Array Value} (he : h.get? a = some oe) (hz : Zc cls d oe) (hd : oe.data = .fields vs) : ObjOk P w H h a (ExV cls d a) :=
  ⟨⟨oe, vs, he, hz, hd⟩, ⟨oe, he⟩, fun h1 h2 ⟨o1, v1, g1, g2, g3⟩ k => ⟨o1, v1, k _ g1, g2, g3⟩⟩
theorem exV_at {P : Program} {w : World} {H : Hp} {h : Heap} {a : Addr} {cls : Value} {d : Option Addr} (hok : HOk P w H h) (e : H a = some (ExV cls d a)) : ∃ (oe : Obj) (vs : Array Value), h.get? a = some oe ∧ Zc cls d oe ∧ oe.data = .fields vs :=
  (hok a _ e).1
section
variable {X : Cx} {pins : List (Addr × Obj)} {σ : L2.St} {H : Hp} {s : Shared}
/-- an object of this def's own time is taken into sight -/
theorem track {a : Addr} {cls : Value} {d : Option Addr} {oe : Obj} {vs : Array Value} (I : Inv X pins σ H s) (he : s.heap.get? a = some oe) (hz : Zc cls d oe) (hd : oe.data = .fields vs) (na : H a = none) (n0 : X.s_0.heap.get? a = none)
    (nL : a ≠ X.env.locals) (np : ∀ p ∈ X.pn ++ pins, p.1 ≠ a) : Inv X pins σ (upd H a (ExV cls d a)) s := by
  have ne : ∀ {b : Addr} {o : HO}, H b = some o → b ≠ a := fun q => ne_of_none q na
  have nb : ∀ b o, X.s_0.heap.get? b = some o → b ≠ a := fun b o q z => by rw [z, n0] at q; cases q
  refine { I with base := ?_, free := ?_, freeC := ?_, pin := ?_, hok := ?_ }
  · have B := I.base
    refine ⟨B.keep, B.slot, fun b o q n x => ?_, B.there, fun b xs q => ?_, fun b o u q => ?_, fun b ps q => ?_⟩
    · rw [upd_ne (nb b o q)]; exact B.free b o q n x
    · have z := B.tups b xs q; rw [upd_ne (ne z)]; exact z
    · have z := B.frzs b o u q; rw [upd_ne (ne z)]; exact z
    · obtain ⟨m, z⟩ := B.tbls b ps q; exact ⟨m, by rw [upd_ne (ne z)]; exact z⟩
  · rw [upd_ne nL.symm]; exact I.free
  · intro x c q
    have nc : c ≠ a := fun z => by
      obtain ⟨v, oc, g1, g2⟩ := I.cell x c q
      rw [z, he] at g1
      cases g1
      rw [hd] at g2
      cases g2
    rw [upd_ne nc]; exact I.freeC x c q
  · intro p hp
    obtain ⟨g1, g2, g3⟩ := I.pin p hp
    exact ⟨g1, by rw [upd_ne (np p hp)]; exact g2, g3⟩
  · intro b u q
    by_cases hb : b = a
    · rw [hb] at q ⊢
      rw [upd_same] at q
      cases q
      exact exV_ok he hz hd
    · rw [upd_ne hb] at q
      exact (I.hok b u q).stay (fun _ _ _ z => z) (fun c z => by rw [upd_ne (ne z)]; exact z) fun c xs z => by rw [upd_ne (ne z)]; exact z
end
/-- what «except x as n: suite» wishes, the exception kept behind it -/
def wKept (K : PySem.W.Frag) (c : Value) (i : Nat) (ts : Addr → Value → Option Addr → TS) (Wout : WX) (D : Ends) : WX := fun cls d σ H =>
  ∃ b, PySem.W.exmOne K cls c = some b ∧
    (b = true → ∀ a, H a = none → ts a cls d ⟨fun σ' H' => D.nx (σ'.set i none) (upd H' a (ExV cls d a)), fun _ _ => False, fun _ _ => False, fun _ _ => False⟩ (σ.set i (some (.ref a))) H) ∧ (b = false → Wout cls d σ H)
section
variable {X : Cx} {x n : Str} {c : Value} {i : Nat} {body suite : List Stmt} {b0 : Stmt} {np pos pos' : Pos} {tb : WX → TS} {ts : Addr → Value → Option Addr → TS} {Wout : WX}
theorem ps_try_kept (hst : X.stack = X.env :: X.outer) (hfm : X.env.frame = some X.env.locals) (hex : X.ex = []) (hN : X.N.Nodup) (hi : X.N[i]? = some n) (hln : X.env.kindOf n = some .local) (hc : Names X x c) (tk : Takes X Wout)
    (hb : ∀ (W : WX) (pn : List (Addr × Obj)) (xe : Value → Shared → Prop), Takes (X.tr pn xe) W → PassesOwn (model X.prog X.w) X.A X.env xe → PSs (X.tr pn xe) body (tb W))
    (hsu : ∀ (a : Addr) (oe : Obj) (cls : Value) (d : Option Addr) (pn : List (Addr × Obj)), Zc cls d oe → (∃ vs, oe.data = .fields vs) → PSs (X.suite a ((a, oe) :: pn)) (b0 :: suite) (ts a cls d)) :
    PS X (.Try body [.ExceptHandler (some (.Name x np)) (some n) (b0 :: suite) pos'] [] [] pos) (fun D σ H => tb (wKept X.K c i ts Wout D) D σ H) := by
  constructor
  intro pins s σ H D I h
  have ok := I.ok
  have frm : X.A.frames = some (X.env :: X.outer) := by rw [← hst]; exact ok.frames
  refine wpAny_Try_except (wpAny_mono ((hb (wKept X.K c i ts Wout D) (X.pn ++ pins) _ (fun u s1 air => ?caught) PassesOwn.looking).run [] s σ H D (I.toTry _) h) (fun f s1 q => ?through) (fun e s1 q => q))
  case through =>
    cases f with
    | next => obtain ⟨σ1, H1, J, q⟩ := q; exact wpAny_execs_nil ⟨σ1, H1, J.ofTry ok, q⟩
    | brk => obtain ⟨σ1, H1, J, q⟩ := q; exact ⟨σ1, H1, J.ofTry ok, q⟩
    | cont => obtain ⟨σ1, H1, J, q⟩ := q; exact ⟨σ1, H1, J.ofTry ok, q⟩
    | ret u => obtain ⟨v, σ1, H1, J, r, q⟩ := q; exact ⟨v, σ1, H1, J.ofTry ok, r, q⟩
  case caught =>
    obtain ⟨a, B, sI, pins1, σ1, H1, cls, d, rfl, J0, ground, up, sky, na, os, bare, b, hcls, yes, no⟩ := air
    have J : Inv X pins σ1 H1 sI := J0.ofTry ok
    rw [show (X.tr (X.pn ++ pins) _).stack = X.stack from rfl, hst] at sky
    have Ba : B.get? a = none := by
      rcases sky with z | z | z
      · exact z.2.1
      · exact z.2.1
      · exact z.2.1
    show wpAny (model X.prog X.w) X.A (noteFrame (.ref a) X.env) _ _ _
    refine Sky.land Zc.steady frm hfm sky fun h2 fly up2 => ?_
    obtain ⟨o2, v2, g2, z2, d2⟩ := fly.there
    have J2 : Inv X pins σ1 H1 { s1 with heap := h2 } := J.landed ground fly.1 (up.trans up2) os bare
    have out : a ∉ frs (X.env :: X.outer) := fun hm => by
      obtain ⟨_, o', e', hnf⟩ := fly.2.2.1.mem hm
      rw [g2] at e'
      cases e'
      exact hnf _ d2
    have nL : a ≠ X.env.locals := fun z => out (List.mem_filterMap.mpr ⟨X.env, List.mem_cons_self, by rw [hfm, z]⟩)
    have nF : a ∉ X.fs := fun hm => by
      obtain ⟨e, he, q⟩ := List.mem_filterMap.mp hm
      exact out (List.mem_filterMap.mpr ⟨e, List.mem_cons_of_mem _ he, q⟩)
    have sIa : sI.heap.get? a = none := by
      cases q : sI.heap.get? a with
      | none => rfl
      | some o =>
        have := ground a o q (by rw [show (X.tr (X.pn ++ pins) _).stack = X.stack from rfl, hst]; exact out)
        rw [Ba] at this; cases this
    have n0 : X.s_0.heap.get? a = none := by
      cases q : X.s_0.heap.get? a with
      | none => rfl
      | some o =>
        obtain ⟨o', q'⟩ := J.base.there a o q (by rw [hex]; simp)
        rw [sIa] at q'; cases q'
    have pinNe : ∀ p ∈ X.pn ++ pins, p.1 ≠ a := fun p hp z => by
      have := (J.pin p hp).1
      rw [z, sIa] at this; cases this
    refine wpAny_handleBy_cons (codeAny_handlers_test ?_) (fun q => by cases q)
    have T2 := J2.suite g2 d2 na nL nF
    have ty : PySem.W.Looks (model X.prog X.w) h2 (typeOf (.ref a)) cls := fun _ _ _ _ k q => wpAny_typeOf_ref (k _ _ g2) (by rw [z2.1]; exact q)
    have named : ∀ {Q : Value → Shared → Prop} {E : Value → Shared → Prop}, Q c { s1 with heap := h2 } → wpAny (model X.prog X.w) (X.A.mark (some (.ref a))) (eval (.Name x np) X.env) Q E { s1 with heap := h2 } := fun {Q E} q => by
      obtain ⟨gl, db, hm | ⟨hm, hv, hn⟩⟩ := hc
      · exact ld_glob (X := X.suite a ((a, o2) :: (X.pn ++ pins))) T2 gl hm q db
      · exact ld_blt (X := X.suite a ((a, o2) :: (X.pn ++ pins))) T2 gl hm hv q hn db
    refine named ((PySem.W.exm_one (M := model X.prog X.w) J2.kIn ty hcls).here ?_)
    cases b with
    | false =>
      show wpAny _ X.A (handleBy (.ref a) X.env []) _ _ _
      refine wpAny_handleBy_nil ?_
      obtain ⟨_, _, _, oe, vs, T, oT, ts', he, hz, hd, h1, hr⟩ := id fly
      unfold PySem.passOn
      refine wpAny_bind (wpAny_field he hd h1 ?_)
      rw [if_neg (show ¬ ((Value.ref T == Value.none) = true) by simp)]
      have on : wpAny (model X.prog X.w) X.A (setFlight (.ref a) X.env.frame) (fun _ s4 => wpAny (model X.prog X.w) X.A (throw (.ref a) : Sem Flow) (SP X pins D) X.xe s4) X.xe { s1 with heap := h2 } := by
        rw [hfm]
        refine HandSPX.setFlight_upZ fly fun h4 hh4 up4 => wpAny_throw (tk _ _ ⟨a, B, sI, pins, σ1, H1, cls, d, rfl, J, ground, (up.trans up2).trans up4, .inr (.inr (by rw [hst]; exact hh4)), na, os, bare, no rfl⟩)
      first
        | exact wpAny_bind (wpAny_pure (wpAny_bind on))
        | exact wpAny_bind on
    | true =>
      refine codeAny_handlers_suite_as (HandSPX.lands_againZ fly fun h3 fly3 up3 => ?_)
      obtain ⟨o3, v3, g3, z3, d3⟩ := fly3.there
      have J3 : Inv X pins σ1 H1 { s1 with heap := h3 } := J.landed ground fly3.1 ((up.trans up2).trans up3) os bare
      refine store_ok (X := X.suite a ((a, o3) :: (X.pn ++ pins))) (v := .ref a) (J3.suite g3 d3 na nL nF) hN hi (.inl hln) rfl (fun s4 S4 => ?_) (.inr hln)
      refine wpAny_mono ((hsu a o3 cls d (X.pn ++ pins) z3 ⟨_, d3⟩).run [] s4 _ H1 _ S4 (yes rfl a na)) (fun f s5 q => ?_) (fun _ _ z => z.elim)
      cases f with
      | brk => obtain ⟨_, _, _, q⟩ := q; exact q.elim
      | cont => obtain ⟨_, _, _, q⟩ := q; exact q.elim
      | ret u => obtain ⟨_, _, _, _, _, q⟩ := q; exact q.elim
      | next =>
        obtain ⟨σ5, H5, S5, q5⟩ := q
        have K5 : Inv X ((a, o3) :: pins) σ5 H5 s5 := ⟨ok, S5.os, S5.bare, S5.base, S5.loc, S5.cell, S5.free, S5.freeC, fun p hp => S5.pin p (by
          rw [List.append_nil]
          rcases List.mem_append.mp hp with hp | hp
          · exact List.mem_cons_of_mem _ (List.mem_append_left _ hp)
          · rcases List.mem_cons.mp hp with hp | hp
            · rw [hp]; exact List.mem_cons_self
            · exact List.mem_cons_of_mem _ (List.mem_append_right _ hp)), S5.hok, S5.len⟩
        refine gone_ok K5 hN hi hln fun s6 K6 => ?_
        obtain ⟨g6, na6, _⟩ := K6.pin (a, o3) (List.mem_append_right _ List.mem_cons_self)
        have K7 : Inv X pins (σ5.set i none) H5 s6 := { K6 with pin := fun p hp => K6.pin p (by
          rcases List.mem_append.mp hp with hp | hp
          · exact List.mem_append_left _ hp
          · exact List.mem_append_right _ (List.mem_cons_of_mem _ hp)) }
        exact ⟨_, _, track K7 g6 z3 d3 na6 n0 nL pinNe, q5⟩
end

/-! ### isinstance of a kept exception, of None and of the other values -/
/-- what an exception class of the program must say, so that its instances are asked rightly -/
structure ExK (K : PySem.W.Frag) (D : Addr) : Prop where
  hg : PySem.W.findIn K (.ref D) "__getattribute__" = some (some (.builtin "BaseException.__getattribute__"))
  hk : PySem.W.findIn K (.ref D) "__getattr__" = some none
  hs : PySem.W.subIn K (.ref D) (.type "BaseException") = some true
  hd : PySem.W.hasDictIn K D = true
  ha : PySem.W.findIn K (.ref D) "__class__" = some (some (.builtin "object.__class__"))
  hn : PySem.W.specialIn K (.builtin "object.__class__") "__get__" = some (some (.builtin "getset_descriptor.__get__"))
  ht : PySem.W.takesIn K (.builtin "object.__class__") = some true
  hm : PySem.W.mroIn K D (.type "object") = some true
def exkB (K : PySem.W.Frag) (D : Addr) : Bool :=
  (PySem.W.findIn K (.ref D) "__getattribute__" == some (some (.builtin "BaseException.__getattribute__"))) && ((PySem.W.findIn K (.ref D) "__getattr__" == some none) && ((PySem.W.subIn K (.ref D) (.type "BaseException") == some true) && (PySem.W.hasDictIn K D &&
  ((PySem.W.findIn K (.ref D) "__class__" == some (some (.builtin "object.__class__"))) && ((PySem.W.specialIn K (.builtin "object.__class__") "__get__" == some (some (.builtin "getset_descriptor.__get__"))) && ((PySem.W.takesIn K (.builtin "object.__class__") == some true) && (PySem.W.mroIn K D (.type "object") == some true)))))))
theorem exkB_ok {K : PySem.W.Frag} {D : Addr} (h : exkB K D = true) : ExK K D := by
  unfold exkB at h
  simp only [Bool.and_eq_true, beq_iff_eq] at h
  obtain ⟨h1, h2, h3, h4, h5, h6, h7, h8⟩ := h
  exact ⟨h1, h2, h3, h4, h5, h6, h7, h8⟩
theorem ExK.xf {K : PySem.W.Frag} {D : Addr} (h : ExK K D) : XfC K D := ⟨h.hg, h.hk, h.hs, h.hd⟩
/-- what is known of a kept exception at a: its class D, its dict's state -/
def KeptAt (H : Hp) (a D : Addr) : Prop := ∃ d : Option Addr, H a = some (ExV (.ref D) d a) ∧ (d = none ∨ ∃ dd fs, d = some dd ∧ H dd = some (.xd fs))
def rIsX (K : PySem.W.Frag) : List V → Hp → VK → Prop := fun xs H Q => ∃ (a D : Addr) (c : V) (cv : Value) (b : Bool), xs = [.ref a, c] ∧ KeptAt H a D ∧ ExK K D ∧ ClsV c cv ∧ PySem.W.kitOne K (.ref D) cv = some b ∧ Q (.bl b) H
def rIsXT (K : PySem.W.Frag) : List V → Hp → VK → Prop := fun xs H Q => ∃ (a D tp : Addr) (cs : List V) (us : List Value) (b : Bool), xs = [.ref a, .ref tp] ∧ KeptAt H a D ∧ ExK K D ∧ H tp = some (.tup cs) ∧ Paired ClsV cs us ∧ PySem.W.kitAny K (.ref D) us = some b ∧ Q (.bl b) H
section
variable {X : Cx} {pins : List (Addr × Obj)} {σ : L2.St} {H : Hp} {s : Shared}
theorem kept_inst {a D : Addr} (I : Inv X pins σ H s) (k : KeptAt H a D) : ∃ ox od, PySem.W.InstAt s.heap a ox D od := by
  obtain ⟨d, e, dd⟩ := k
  obtain ⟨oe, vs, g, z, hd⟩ := exV_at I.hok e
  obtain ⟨oc, od, oda, osl⟩ := oe
  obtain ⟨h1, h2⟩ := z
  dsimp only at h1 h2 hd
  subst h1 h2 hd
  rcases dd with rfl | ⟨dx, fs, rfl, hx⟩
  · exact ⟨_, none, g, rfl, rfl, trivial⟩
  · obtain ⟨mA, ⟨o, es, ep, g2, _⟩, _⟩ := (show ObjOk X.prog X.w H s.heap dx (.xd fs) from I.hok dx _ hx)
    exact ⟨_, some o, g, rfl, rfl, g2⟩
theorem kit_exc {K : PySem.W.Frag} {a D : Addr} {ox : Obj} {od : Option Obj} (C : ExK K D) : PySem.W.KitX K (.ref a) (.ref D) (fun h => PySem.W.InstAt h a ox D od) := by
  have hcl : (PySem.W.clsIn K D).isSome = true := by
    obtain ⟨cd, hc, _⟩ := PySem.W.any_some C.hd
    rw [hc]; rfl
  exact PySem.W.kitx_exc hcl C.hg C.hk C.hs C.ha C.hn C.ht C.hm
theorem call_isX : CallR X (.builtin "isinstance") (rIsX X.K) := by
  intro pins s σ H xs us Q I r h
  obtain ⟨a, D, c, cv, b, rfl, k, C, kc, e, q⟩ := h
  obtain ⟨u1, u2, rfl, r1, r2⟩ := vals2 r
  have e2 := kc.eq r2
  subst e2
  cases (show u1 = Value.ref a from r1)
  obtain ⟨ox, od, J⟩ := kept_inst I k
  exact PySem.W.kia_one (kit_exc C) I.kIn J e (fun z => nomatch z) fun tk => ⟨.bl b, H, I.tok tk, rfl, q⟩
theorem call_isXT : CallR X (.builtin "isinstance") (rIsXT X.K) := by
  intro pins s σ H xs us Q I r h
  obtain ⟨a, D, tp, cs, ws, b, rfl, k, C, hT, kc, e, q⟩ := h
  obtain ⟨u1, u2, rfl, r1, r2⟩ := vals2 r
  cases (show u1 = Value.ref a from r1)
  cases (show u2 = Value.ref tp from r2)
  obtain ⟨ox, od, J⟩ := kept_inst I k
  obtain ⟨_, its, rv, o, h1, h2, n, h3⟩ := (show ObjOk X.prog X.w H s.heap tp (.tup cs) from I.hok tp _ hT)
  have e3 := ClsV.all kc rv
  subst e3
  obtain ⟨oc, od', dt, sl⟩ := o
  simp only at h2 h3
  subst h2 h3
  exact PySem.W.kia_tup (kit_exc C) I.kIn J h1 e (fun z => nomatch z) fun tk => ⟨.bl b, H, I.tok tk, rfl, q⟩
/-- isinstance of anything, one class or a tuple of them -/
def rIsA (K : PySem.W.Frag) : List V → Hp → VK → Prop := fun xs H Q => rIsi K xs H Q ∨ rIsiT K xs H Q ∨ rIsX K xs H Q ∨ rIsXT K xs H Q
theorem q_isA : CallR X (.builtin "isinstance") (rIsA X.K) := by
  intro pins s σ H xs us Q I r h
  rcases h with h | h | h | h
  · exact call_isi pins s σ H xs us Q I r h
  · exact call_isiT pins s σ H xs us Q I r h
  · exact call_isX pins s σ H xs us Q I r h
  · exact call_isXT pins s σ H xs us Q I r h
end

/-! ### a kept exception's field -/
def tXat (K : PySem.W.Frag) (n : Str) (te : TE) : TE := fun σ H Q => te σ H fun x H1 => ∃ (a C dd : Addr) (fs : List (Str × V)) (v : V), x = .ref a ∧ H1 a = some (ExV (.ref C) (some dd) a) ∧ XfC K C ∧ PySem.W.findIn K (.ref C) n = some none ∧ H1 dd = some (.xd fs) ∧ fs.lookup n = some v ∧ Q v H1
theorem pe_xat {X : Cx} {e : Expr} {te : TE} {pos : Pos} {n : Str} (he : PE X e te) (hb : attributeBase e n X.env (eval e X.env) = eval e X.env := by rfl) : PE X (.Attribute e n pos) (tXat X.K n te) := by
  constructor
  intro pins s σ H Q I h
  refine attr_of hb (thn (he.run pins s σ H _ I h) fun u s1 hh => ?_)
  obtain ⟨x, H1, I1, rx, a, C, dd, fs, v, rfl, ea, T, hno, ed, l, q⟩ := hh
  cases (show u = Value.ref a from rx)
  obtain ⟨oe, vs, g, z, hd⟩ := exV_at I1.hok ea
  obtain ⟨mA, hns, hr⟩ := (show ObjOk X.prog X.w H1 s1.heap dd (.xd fs) from I1.hok dd _ ed)
  obtain ⟨od, ho, hl⟩ := lookIn_ns hns
  obtain ⟨u, hu, ru⟩ := RelO.some_of (v := v) (o := mA n) (by rw [← l]; exact hr n)
  have J : PySem.W.InstAt s1.heap a oe C (some od) := ⟨g, z.1, by unfold PySem.W.notCls; rw [hd] <;> rfl, by rw [z.2]; exact ho⟩
  exact HandSPX.exc_get I1.kIn J T.ga T.gg T.exC (PySem.W.findObj_own T.hdC hno rfl (by rw [hl, hu])) (handed_of ru) ⟨v, H1, I1.tok _, ru, q⟩

/-! ### Base.__init__(self, ..) in an own exception's __init__, Base an own class without an __init__ -/
structure BaseI (K : PySem.W.Frag) (mg : Str → Option Value) (B : Addr) (x : Str) : Prop where
  gB : mg x = some (.ref B)
  rd : PySem.W.readsIn K B (.type "type") = true
  ga : PySem.W.specialIn K (.ref B) "__getattribute__" = some (some (.builtin "type.__getattribute__"))
  at_ : PySem.W.findCls K (.ref B) (.type "type") "__init__" = some (.val (.builtin "ValueError.__init__"))
theorem pe_binit {X : Cx} {x : Str} {B : Addr} {e : Expr} {es : List Expr} {ta : TA} {p1 p2 pos : Pos} {pl : Sem Bool} (T : BaseI X.K X.mg B x) (hg : Gl X x) (ha : PA X (e :: es) ta) (hdb : (x == ("__debug__" : Str)) = false := by decide)
    (hc : eval (.Call (.Attribute (.Name x p1) "__init__" p2) (e :: es) [] pos) X.env = (do
      let ov ← eval (.Name x p1) X.env
      standAt p2.atName
      let (f, first) ← holding [ov] (getMethod ov "__init__" pl)
      callWith pos f first (backTo pos (starEach (e :: es) X.env)) (backToKw pos (keywordEach [] X.env))) := by rfl)
    (he : starEach (e :: es) X.env = (false, eval e X.env) :: starEach es X.env := by rfl) (hpl : (backTo pos (starEach es X.env)).any (·.1) = false := by rfl) :
    PE X (.Call (.Attribute (.Name x p1) "__init__" p2) (e :: es) [] pos) (tVeI X.K ta) := by
  constructor
  intro pins s σ H Q I h
  refine PySem.W.methodCall_KW (ld_glob I hg T.gB ?_ hdb) hc
  refine PySem.W.method_cls I.kIn T.ga (PySem.W.cls_value I.kIn T.rd T.at_ (by decide +kernel) ?_)
  show wpAny _ _ (callWith pos (Value.builtin "ValueError.__init__") [] (backTo pos (starEach (e :: es) X.env)) []) _ _ _
  refine PyProof.Rows.callWith_method1 (thn (ha.run pos pins _ σ H _ (I.tok _) h) fun us s1 hh => ?_) he hpl
  obtain ⟨vs, H1, I1, r1, a, C, ws, rfl, hl, O, ea, q⟩ := hh
  cases r1 with
  | @cons _ u0 _ ur ra rr =>
    cases (show u0 = Value.ref a from ra)
    have len : ur.length ≤ sizeLine := by
      have := Paired.length rr
      rw [sizeLine_eq]
      omega
    exact oinit_ok O I1 ea len fun s' J => ⟨.non, H1, J, rfl, q⟩

/-! ### readings of raise, of an exception's own __init__ and of try, step by step -/
/-- raise C('..'), C without an __init__ -/
def tRaiseP (C : Addr) (E : XK) : TS := fun _ _ H => E (.ref C) none H
/-- raise C(e), C with an __init__ that keeps sp -/
def tRaiseO (C : Addr) (sp : Sp) (ta : TA) (E : XK) : TS := fun _ σ H => tMkO C sp [] ta σ H fun cls d H' => E cls d H'
/-- the promise of such an __init__(self, f): the field f is stored -/
def prInit (C : Addr) (f : Str) (v0 v1 : V) (H : Hp) (Q : VK) : Prop := ∃ a, v0 = .ref a ∧ H a = some (exo a C none) ∧ ∀ dx, H dx = none → dx ≠ a → Q .non (upd (upd H dx (exd dx [(f, v1)])) a (exo a C (some dx)))
def spInit (C : Addr) (f : Str) : Sp := fun vs H Q _ => ∃ v0 v1, vs = [v0, v1] ∧ prInit C f v0 v1 H Q
/-- try: .. except c as n: m = n (n in slot i, m in slot j) -/
def tTryK (K : PySem.W.Frag) (c : Value) (i j : Nat) (tb : WX → TS) : TS := fun D σ H => tb (wKept K c i (fun _ _ _ => tAsg (tVar i) (gName j)) (fun _ _ _ _ => False) D) D σ H
section
variable {K : PySem.W.Frag} {σ : L2.St} {H : Hp} {D : Ends} {E : XK} {C : Addr} {f : Str}
theorem k_raiseP (h : E (.ref C) none H) : tRaiseP C E D σ H := h
theorem heap_made {H : Hp} {a d : Addr} {o1 o2 o3 o4 : HO} (na : H a = none) (ne : d ≠ a) : upd (L2.del (upd (upd (upd H a o1) d o2) a o3) a) d o4 = upd H d o4 := by
  funext b
  by_cases h1 : b = d
  · rw [h1, upd_same, upd_same]
  · rw [upd_ne h1, upd_ne h1]
    by_cases h2 : b = a
    · rw [h2, L2.del_same, na]
    · rw [L2.del_ne h2, upd_ne h2, upd_ne h1, upd_ne h2]
theorem exo_ne_exd {a d C : Addr} {fs : List (Str × V)} : True := trivial
theorem k_raiseO {ta : TA} {v : V} (hta : ∀ (R : List V → Hp → Prop), R [v] H → ta σ H R) (h : ∀ d, H d = none → E (.ref C) (some d) (upd H d (.xd [(f, v)]))) : tRaiseO C (spInit C f) ta E D σ H := by
  refine hta _ ⟨(by show 1 ≤ 1000; decide), fun a na => ?_⟩
  refine ⟨.ref a, v, rfl, a, rfl, upd_same, fun dx ndx ne => ⟨rfl, dx, [(f, v)], upd_same, ?_, ?_, ?_⟩⟩
  · rw [upd_ne ne, upd_same]
  · rw [upd_ne ne] at ndx; exact ndx
  · rw [heap_made na ne]
    rw [upd_ne ne] at ndx
    exact h dx ndx
theorem k_try {i j : Nat} {tb : WX → TS} (h : tb (wKept K (.ref C) i (fun _ _ _ => tAsg (tVar i) (gName j)) (fun _ _ _ _ => False) D) D σ H) : tTryK K (.ref C) i j tb D σ H := h
theorem k_callS {sp : Sp} {W : WX} {tr : TA} {Q : VK} (h : tr σ H fun vs H1 => sp vs H1 Q (WE W σ)) : tCallS sp (WE W) tr σ H Q := h
/-- the exception is one of the clause's -/
theorem k_caught {c : Value} {i j : Nat} {cls : Value} {d : Option Addr} {nx : L2.St → Hp → Prop} {rt : VK} {bk ct : L2.St → Hp → Prop} (hi : i < σ.length) (hc : PySem.W.exmOne K cls c = some true)
    (h : ∀ a, H a = none → nx (((σ.set i (some (.ref a))).set j (some (.ref a))).set i none) (upd H a (ExV cls d a))) : wKept K c i (fun _ _ _ => tAsg (tVar i) (gName j)) (fun _ _ _ _ => False) ⟨nx, rt, bk, ct⟩ cls d σ H :=
  ⟨true, hc, fun _ a na => ⟨.ref a, by rw [List.getElem?_set_self hi], h a na⟩, fun z => Bool.noConfusion z⟩
theorem k_isXone {xs : List V} {Q : VK} {a D : Addr} {c : V} {cv : Value} {b : Bool} (k : KeptAt H a D) (e : ExK K D) (kc : ClsV c cv) (h1 : PySem.W.kitOne K (.ref D) cv = some b) (h : Q (.bl b) H) : rIsA K [.ref a, c] H Q := .inr (.inr (.inl ⟨a, D, c, cv, b, rfl, k, e, kc, h1, h⟩))
theorem k_isXtup {Q : VK} {a D tp : Addr} {cs : List V} {us : List Value} {b : Bool} (k : KeptAt H a D) (e : ExK K D) (hT : H tp = some (.tup cs)) (kc : Paired ClsV cs us) (h1 : PySem.W.kitAny K (.ref D) us = some b) (h : Q (.bl b) H) : rIsA K [.ref a, .ref tp] H Q := .inr (.inr (.inr ⟨a, D, tp, cs, us, b, rfl, k, e, hT, kc, h1, h⟩))
theorem k_isNone {Q : VK} {c : V} {cv : Value} {b : Bool} (kc : ClsV c cv) (h1 : PySem.W.kitOne K (.type "NoneType") cv = some b) (h : Q (.bl b) H) : rIsA K [.non, c] H Q := .inl ⟨_, _, _, _, b, rfl, kc, .base .non, h1, h⟩
theorem k_isOne {Q : VK} {xs : List V} (h : rIsi K xs H Q) : rIsA K xs H Q := .inl h
theorem k_xat {n : Str} {te : TE} {Q : VK} (h : te σ H fun x H1 => ∃ (a C dd : Addr) (fs : List (Str × V)) (v : V), x = .ref a ∧ H1 a = some (ExV (.ref C) (some dd) a) ∧ XfC K C ∧ PySem.W.findIn K (.ref C) n = some none ∧ H1 dd = some (.xd fs) ∧ fs.lookup n = some v ∧ Q v H1) : tXat K n te σ H Q := h
theorem exV_kept {a : Addr} {D : Addr} {d : Option Addr} {H : Hp} (h : H a = some (ExV (.ref D) d a)) (hd : d = none ∨ ∃ dd fs, d = some dd ∧ H dd = some (.xd fs)) : KeptAt H a D := ⟨d, h, hd⟩
end
section
variable {K : PySem.W.Frag} {σ : L2.St} {H : Hp} {D : Ends} {E : XK} {C : Addr} {f : Str} {Q : VK} {te : TE} {tr : TA}
instance {i j : Nat} {tb : WX → TS} : Stp (tTryK K (.ref C) i j tb D σ H) (tb (wKept K (.ref C) i (fun _ _ _ => tAsg (tVar i) (gName j)) (fun _ _ _ _ => False) D) D σ H) := ⟨k_try⟩
instance {sp : Sp} {W : WX} : Stp (tCallS sp (WE W) tr σ H Q) (tr σ H fun vs H1 => sp vs H1 Q (WE W σ)) := ⟨k_callS⟩
instance {n : Str} : Stp (tXat K n te σ H Q) (te σ H fun x H1 => ∃ (a C dd : Addr) (fs : List (Str × V)) (v : V), x = .ref a ∧ H1 a = some (ExV (.ref C) (some dd) a) ∧ XfC K C ∧ PySem.W.findIn K (.ref C) n = some none ∧ H1 dd = some (.xd fs) ∧ fs.lookup n = some v ∧ Q v H1) := ⟨k_xat⟩
instance : Stp (tRaiseP C E D σ H) (E (.ref C) none H) := ⟨k_raiseP⟩
/-- what follows a caught exception is shown once -/
theorem tryjoin {i j : Nat} {tb : WX → TS} (G : Value → Option Addr → L2.St → Hp → Prop) (rest : ∀ cls d σ' H', G cls d σ' H' → wKept K (.ref C) i (fun _ _ _ => tAsg (tVar i) (gName j)) (fun _ _ _ _ => False) D cls d σ' H')
    (h : (∀ cls d σ' H', G cls d σ' H' → wKept K (.ref C) i (fun _ _ _ => tAsg (tVar i) (gName j)) (fun _ _ _ _ => False) D cls d σ' H') → tTryK K (.ref C) i j tb D σ H) : tTryK K (.ref C) i j tb D σ H := h rest
end
section
variable {P : Program} {w : World} {K : PySem.W.Frag} {mg : Str → Option Value} {base : Heap}
/-- such an __init__ keeps its promise; msg, f: its texts -/
theorem init_reads {C B : Addr} {f : Str} {msg : V} {v0 v1 : V} {H : Hp} {Q : VK} (O : OexC K C) (hno : PySem.W.findIn K (.ref C) f = some none) (h : prInit C f v0 v1 H Q) :
    tSeq (tDrop (tVeI K (tCons (tVar 0) (tCons (tC msg) tNil)))) (tOst K f (tVar 0) (tVar 1)) { nx := fun _ H' => Q .non H', rt := Q } [some v0, some v1] H := by
  obtain ⟨a, rfl, ea, q⟩ := h
  refine ⟨_, rfl, a, C, [msg], rfl, (by show 1 ≤ 1000; decide), O, ea, ?_⟩
  exact ⟨_, rfl, _, rfl, a, C, rfl, O, hno, .inl ⟨ea, fun dx nd ne => q dx nd ne⟩⟩
end
end Cm

namespace Cm
open PySem PySem.Spec PyProof.Rows L2

/-! ### how many unlike ints -/
def unl (ns : List Int) : Nat := (PyProof.Rows.firstMet (fun i => ns.getD i 0) ns.length).length
theorem unl_le (ns : List Int) : unl ns ≤ ns.length := PyProof.Rows.firstMet_length_le _ _
def tLenU (K : PySem.W.Frag) (ta : TE) : TE := fun σ H Q => ta σ H fun x H1 => ∃ (l : Addr) (ns : List Int), x = .ref l ∧ SqL K H1 l (ns.map V.int) ∧ ns.length ≤ 4000 ∧ Q (.int (unl ns : Nat)) H1
theorem pe_lenU {X : Cx} {a : Expr} {ta : TE} {p p2 q pos : Pos} (cm : X.calm = true) (gl : Gl X "len") (ml : X.mg "len" = none) (gs : Gl X "set") (ms : X.mg "set" = none) (pa : PE X a ta)
    (se : starEach [a] X.env = (false, eval a X.env) :: starEach [] X.env := by rfl) : PE X (.Call (.Name "len" p) [.Call (.Name "set" p2) [a] [] q] [] pos) (tLenU X.K ta) := by
  constructor
  intro pins s σ H Q I h
  refine Call_ (ld_blt I gl ml boot_len (PyProof.Rows.callWith_builtin1 (PyProof.Rows.args_cons ?_ rfl) rfl rfl))
  refine Call_ (ld_blt I gs ms boot_set (PyProof.Rows.callWith_type1 (PyProof.Rows.args_cons (thn (pa.run pins s σ H _ I h) fun v s1 ⟨x, H1, J, rx, qx⟩ => PyProof.Rows.args_nil ?_) se) se rfl))
  obtain ⟨l, ns, rfl, hq, hl, qx⟩ := qx
  cases rx
  obtain ⟨its, rv, pl, hz⟩ := J.list hq
  have sz1 : its.toArray.size = ns.length := by rw [List.size_toArray, ← rv.length, List.length_map]
  refine call_set_list (J.ok.hd cm) pl.isList (by simpa using RZ.intsAre_vals rv) (by rw [sz1]; unfold scanBound; omega) fun h' tk hS hk => PyProof.Rows.args_nil ?_
  rw [sz1] at hS
  obtain ⟨o, es, ep, t, ho, hex, hd, _, _, _, hf, hn⟩ := hS
  have J2 : Inv X pins σ H1 { s1 with heap := h', toks := tk } := J.kept fun b o e => hk b o (Heap.lt_size e) e
  have hu := unl_le ns
  exact call_len_set ho hex hd hf (by rw [hn]; unfold unl at hu; omega) ⟨.int (unl ns : Nat), H1, J2.tok _, ⟨_, by rw [hn]; rfl⟩, qx⟩

section
variable {K : PySem.W.Frag} {σ : L2.St} {H1 : Hp} {g : TG} {tt : TT} {te : TE} {vs : List Nat}
/-- over a tuple, new objects may be made -/
theorem lc_growT {QD : Addr → Hp → Prop} {α : Type} {a : Addr} {xs : List V} (hs : SqT K H1 a xs) (ps : List α) (hl : xs.length = ps.length) (hz : ps.length ≤ 50000) (f : α → Option V)
    (step : ∀ (i : Nat) x p H', xs[i]? = some x → ps[i]? = some p → Same H1 H' → ∀ (R : V → Hp → Prop) (R0 : Hp → Prop), (∀ y H'', f p = some y → Same H' H'' → R y H'') → (∀ H'', f p = none → Same H' H'' → R0 H'') →
      g x (wipe σ vs) H' fun σ2 H2 => wipe σ2 vs = wipe σ vs ∧ tt σ2 H2 fun b H3 => if b = true then te σ2 H3 R else R0 H3)
    (h : ∀ D H', H1 D = none → Same H1 H' → H' D = some (.lst (ps.filterMap f)) → QD D H') :
    ∃ a', V.ref a = .ref a' ∧ (∃ xs, SqT K H1 a' xs) ∧ ∀ D, H1 D = none → ∃ W : Nat → Nat → Hp → Prop, (∃ m, W 0 m (upd H1 D (.lst []))) ∧ ∀ i m H, W i m H →
      ((Itt K a').stop i H ∧ QD D H) ∨ ((Itt K a').go i H ∧ ∃ Nx : Hp → Prop, (∀ H', Nx H' → ∃ m', m' < m ∧ W (i + 1) m' H') ∧ ∀ x H', (Itt K a').yld i H x H' → g x (wipe σ vs) H' fun σ2 H2 => wipe σ2 vs = wipe σ vs ∧ tt σ2 H2 fun b H3 =>
        if b = true then te σ2 H3 fun y H4 => ∃ acc, H4 D = some (.lst acc) ∧ acc.length < sizeLine ∧ Nx (upd H4 D (.lst (acc ++ [y]))) else Nx H3) := by
  refine ⟨a, rfl, ⟨xs, hs⟩, fun D nD => lc_tup (xs := xs) (fun i H => Same H1 H ∧ H D = some (.lst ((ps.take i).filterMap f))) ⟨same_new nD, by rw [upd_same]; simp⟩ (fun i H _ e => same_seqT e.1 hs) ?_ ?_⟩
  · rintro i x H hx ⟨sm, hD⟩
    have hi : i < xs.length := (List.getElem?_eq_some_iff.mp hx).1
    obtain ⟨p, hp⟩ : ∃ p, ps[i]? = some p := ⟨ps[i]'(by omega), List.getElem?_eq_getElem (by omega)⟩
    have tk := take_filterMap (f := f) hp
    refine step i x p H hx hp sm _ _ (fun y H'' hy s2 => ⟨_, s2 _ _ hD, szl ?_, same_mut (sm.trans s2) nD, ?_⟩) (fun H'' hn s2 => ⟨sm.trans s2, ?_⟩)
    · have := List.length_filterMap_le f (ps.take i)
      rw [List.length_take] at this
      omega
    · rw [upd_same, tk, hy]; rfl
    · rw [tk, hn, s2 _ _ hD]; simp
  · rintro H ⟨sm, hD⟩
    rw [hl, List.take_length] at hD
    exact h D H nD sm hD
end
theorem k_ixN {K : PySem.W.Frag} {H : Hp} {Q : VK} {p : Addr} {ns : List Int} {i : Nat} {x : Int} (hs : SqL K H p (ns.map V.int)) (hx : ns[i]? = some x) (h : Q (.int x) H) : rIxL K (.ref p) (.int i) H Q := k_ixL hs (atI_nat (by rw [List.getElem?_map, hx]; rfl)) h
theorem fm_map {α : Type} (f : α → V) (l : List α) : l.filterMap (fun x => some (f x)) = l.map f := by
  rw [show (fun x => some (f x)) = some ∘ f from rfl, List.filterMap_eq_map]

/-- what follows a statement is shown once, and lies out of sight meanwhile -/
theorem seqO {s1 s2 : TS} {σ : L2.St} {H : Hp} {nx bk ct : L2.St → Hp → Prop} {rt : VK} (G : L2.St → Hp → Prop) (main : ∀ σ H, G σ H → s2 ⟨nx, rt, bk, ct⟩ σ H) (h : ∀ nx' : L2.St → Hp → Prop, (∀ σ H, G σ H → nx' σ H) → s1 ⟨nx', rt, bk, ct⟩ σ H) : tSeq s1 s2 ⟨nx, rt, bk, ct⟩ σ H := h _ main
/-- the last statement of a block -/
theorem lastO {s1 : TS} {σ : L2.St} {H : Hp} {nx bk ct : L2.St → Hp → Prop} {rt : VK} (G : L2.St → Hp → Prop) (main : ∀ σ H, G σ H → nx σ H) (h : ∀ nx' : L2.St → Hp → Prop, (∀ σ H, G σ H → nx' σ H) → s1 ⟨nx', rt, bk, ct⟩ σ H) : s1 ⟨nx, rt, bk, ct⟩ σ H := h _ main

/-! ### texts -/
def rStrInt : List V → Hp → VK → Prop := fun xs H Q => ∃ i : Int, xs = [.int i] ∧ i.natAbs.log2 < 1920 ∧ Q (.str (toString i)) H
theorem q_strI {X : Cx} : CallR X (.type "str") rStrInt := call_str_int
def xAddS : R2 := fun x y H Q => ∃ i j, x = .str i ∧ y = .str j ∧ i.length + j.length ≤ sizeLine ∧ Q (.str (i ++ j)) H
def rJoin (K : PySem.W.Frag) : V → List V → Hp → VK → Prop := fun x xs H Q => ∃ a p, ∃ ys : List Str, x = .str a ∧ xs = [.ref p] ∧ (SqL K H p (ys.map V.str) ∨ SqT K H p (ys.map V.str)) ∧ (ys.map (·.length)).sum + ys.length * a.length ≤ 16777216 ∧ Q (.str (Txt.join a ys)) H
/-- the signs of a text -/
abbrev sg (s : Str) : List Nat := TL.tl s
def mkS (l : List Nat) : Str := ⟨l.toArray⟩
theorem sg_mkS (l : List Nat) : sg (mkS l) = l := rfl
theorem mkS_sg (s : Str) : mkS (sg s) = s := TL.ext_tl rfl
theorem mkS_inj {l m : List Nat} : mkS l = mkS m ↔ l = m := ⟨fun h => by have := congrArg sg h; rwa [sg_mkS, sg_mkS] at this, fun h => by rw [h]⟩
/-- the signs of a whole number -/
def nu (i : Int) : List Nat := sg (Str.ofString (toString i))
section
variable {K : PySem.W.Frag} {σ : L2.St} {H : Hp} {Q : VK} {to te : TE}
instance {r : V → List V → Hp → VK → Prop} : Stp (tM1 r to te σ H Q) (to σ H fun x H1 => (∃ a, x = .str a) ∧ te σ H1 fun y H2 => r x [y] H2 Q) := ⟨fun h => h⟩
instance {r : V → List V → Hp → VK → Prop} : Stp (tM0 r to σ H Q) (to σ H fun x H1 => (∃ a, x = .str a) ∧ r x [] H1 Q) := ⟨fun h => h⟩
instance {s : Str} {R : Prop} : Stp ((∃ a, V.str s = .str a) ∧ R) R := ⟨fun h => ⟨⟨s, rfl⟩, h⟩⟩
instance : Stp (tLenU K te σ H Q) (te σ H fun x H1 => ∃ (l : Addr) (ns : List Int), x = .ref l ∧ SqL K H1 l (ns.map V.int) ∧ ns.length ≤ 4000 ∧ Q (.int (unl ns : Nat)) H1) := ⟨fun h => h⟩
theorem k_lenU {l : Addr} {ns : List Int} (hs : SqL K H l (ns.map V.int)) (hl : ns.length ≤ 4000) (h : Q (.int (unl ns : Nat)) H) : ∃ (l' : Addr) (ns : List Int), V.ref l = .ref l' ∧ SqL K H l' (ns.map V.int) ∧ ns.length ≤ 4000 ∧ Q (.int (unl ns : Nat)) H := ⟨l, ns, rfl, hs, hl, h⟩
/-- a number of at most thirty figures -/
def Num30 (i : Int) : Prop := 0 ≤ i ∧ i < 10 ^ 30
theorem log_lt {n : Nat} (h : n < 2 ^ 1900) : n.log2 < 1920 := by
  by_cases c : n = 0
  · subst c; decide
  · have := (Nat.log2_lt c (k := 1900)).mpr h
    omega
theorem k_strI {i : Int} (h0 : i.natAbs < 2 ^ 1900) (h : Q (.str (mkS (nu i))) H) : rStrInt [.int i] H Q := ⟨i, rfl, log_lt h0, by unfold nu at h; rw [mkS_sg] at h; exact h⟩
theorem len_sg (s : Str) : s.length = (sg s).length := TL.len_tl s
theorem k_addS {s t : Str} (hz : (sg s).length + (sg t).length ≤ 100000) (h : Q (.str (mkS (sg s ++ sg t))) H) : xAddS (.str s) (.str t) H Q := ⟨s, t, rfl, rfl, by rw [len_sg, len_sg]; exact sz hz, by
  have e : s ++ t = mkS (sg s ++ sg t) := TL.ext_tl (TL.tl_append s t)
  rw [e]; exact h⟩
theorem k_join {s : Str} {p : Addr} {ys : List Str} (hp : SqL K H p (ys.map V.str)) (hz : (ys.map (·.length)).sum + ys.length * s.length ≤ 16777216) (h : Q (.str (mkS (TL.joinL (sg s) (ys.map sg)))) H) : rJoin K (.str s) [.ref p] H Q :=
  ⟨s, p, ys, rfl, rfl, .inl hp, hz, by
    have e : Txt.join s ys = mkS (TL.joinL (sg s) (ys.map sg)) := TL.ext_tl (by rw [TL.join_eq]; exact TL.tl_join s ys)
    rw [e]; exact h⟩
theorem k_isiS {s : Str} (h : Q (.bl true) H) : rIsi K [.str s, .ty "str"] H Q := k_isi (.base (.str s)) (by decide +kernel) h
end
/-! ### more of texts -/
def g_tokS (mg : Str → Option Value) (x : Str) : Tok := match mg x with
  | some (.str _ t) => t
  | _ => default
theorem tok_mkS {mg : Str → Option Value} {x n : Str} {t : Tok} (h : mg x = some (.str n t)) : mg x = some (.str n (g_tokS mg x)) := by
  unfold g_tokS
  rw [h]
theorem q_isiT {X : Cx} : CallR X (.builtin "isinstance") (rIsiT X.K) := call_isiT
def rLenStr : List V → Hp → VK → Prop := fun xs H Q => ∃ z : Str, xs = [.str z] ∧ z.length ≤ sizeLine ∧ Q (.int z.length) H
theorem q_lenS {X : Cx} : CallR X (.builtin "len") rLenStr := call_len_str
def xInS : R2 := fun x y H Q => ∃ i j, x = .str i ∧ y = .str j ∧ Q (.bl (!(Builtin.Str.occurrences j i 0 j.length 1).isEmpty)) H
def xNotInS : R2 := fun x y H Q => ∃ i j, x = .str i ∧ y = .str j ∧ Q (.bl (!(!(Builtin.Str.occurrences j i 0 j.length 1).isEmpty))) H
def rFind : V → List V → Hp → VK → Prop := fun x xs H Q => ∃ a b, x = .str a ∧ xs = [.str b] ∧ Q (.int (Txt.find a b)) H
def rSplit : V → List V → Hp → VK → Prop := fun x xs H Q => ∃ a b, x = .str a ∧ xs = [.str b] ∧ (b.length == 0) = false ∧ a.length + 2 ≤ sizeLine ∧ rNewStrs (Txt.split a b) H Q
section
variable {K : PySem.W.Frag} {σ : L2.St} {H : Hp} {Q : VK} {te : TE}
instance {R : It → Hp → Prop} : Stp (iStr te σ H R) (te σ H fun v H1 => ∃ x, v = .str x ∧ R (Its x) H1) := ⟨fun h => h⟩
theorem k_lenS {l : List Nat} (hl : l.length ≤ 100000) (h : Q (.int (l.length : Nat)) H) : rLenStr [.str (mkS l)] H Q := ⟨_, rfl, by rw [len_sg, sg_mkS]; exact sz hl, by rw [len_sg, sg_mkS]; exact h⟩
theorem k_notInS {l : List Nat} {c : Nat} (h : Q (.bl (!decide (c ∈ l))) H) : xNotInS (.str ⟨#[c]⟩) (.str (mkS l)) H Q := ⟨_, _, rfl, rfl, by
  rw [StrLaws.found_one]; exact h⟩
theorem k_inS {l : List Nat} {c : Nat} (h : Q (.bl (decide (c ∈ l))) H) : xInS (.str ⟨#[c]⟩) (.str (mkS l)) H Q := ⟨_, _, rfl, rfl, by
  rw [StrLaws.found_one]; exact h⟩
theorem k_split {l : List Nat} {s : Str} {ps : List (List Nat)} (hl : l.length ≤ 99000) (hs : s.length ≠ 0) (hp : Txt.split (mkS l) s = ps.map mkS) (h : ∀ p H', H p = none → Same H H' → H' p = some (.lst (ps.map fun q => V.str (mkS q))) → Q (.ref p) H') : rSplit (.str (mkS l)) [.str s] H Q :=
  ⟨_, _, rfl, rfl, by simpa using hs, by rw [len_sg, sg_mkS]; exact sz (by omega), fun p np => h p _ np (same_new np) (by rw [upd_same, hp, List.map_map]; rfl)⟩
theorem k_ixS {l : List Nat} {i : Nat} {c : Nat} (hl : l.length ≤ 100000) (hc : l[i]? = some c) (h : Q (.str ⟨#[c]⟩) H) : rIxS (.str (mkS l)) (.int i) H Q := ⟨_, _, c, rfl, rfl, by rw [len_sg, sg_mkS]; exact sz hl, atI_nat hc, h⟩
end
theorem split_one {s : Nat} {ps : List (List Nat)} (hs : s < 256) (hne : ps ≠ []) (hp : ∀ p ∈ ps, s ∉ p) : Txt.split (mkS (TL.joinL [s] ps)) ⟨#[s]⟩ = ps.map mkS := by
  have e : mkS (TL.joinL [s] ps) = Txt.join ⟨#[s]⟩ (ps.map mkS) := TL.ext_tl (by
    rw [TL.join_eq, TL.tl_join, List.map_map]
    show TL.joinL [s] ps = TL.joinL [s] (ps.map (TL.tl ∘ mkS))
    rw [show (TL.tl ∘ mkS) = id from rfl, List.map_id])
  rw [e]
  refine TL.split_join (s := s) (S := []) rfl (by simp [hs]) (by simpa using hne) fun p h => ?_
  obtain ⟨q, hq, rfl⟩ := List.mem_map.mp h
  exact hp q hq
/-- rows, each with its end, and what stands behind the last end -/
theorem rows_join (rs : List (List Nat)) (e : Nat) (z : List Nat) : (rs.map fun r => r ++ [e]).flatten ++ z = TL.joinL [e] (rs ++ [z]) := by
  induction rs with
  | nil => rfl
  | cons r t ih =>
    have : TL.joinL [e] (r :: (t ++ [z])) = r ++ ([e] ++ TL.joinL [e] (t ++ [z])) := by
      cases t <;> rfl
    rw [List.cons_append, this, ← ih]
    simp
theorem sg_str (s : String) : sg (Str.ofString s) = s.toList.map Char.toNat := TL.tl_ofString s
theorem nu_nat (n : Nat) : nu (n : Int) = TL.numL n := TL.tl_num n
theorem nu_len {i : Int} (h : 0 ≤ i) {k : Nat} (k0 : 0 < k) (h1 : i < 10 ^ k) : (nu i).length ≤ k := by
  obtain ⟨n, rfl⟩ := Int.eq_ofNat_of_zero_le h
  rw [nu_nat]
  unfold TL.numL
  rw [List.length_map]
  refine (Nat.length_toDigits_le_iff (by decide) k0).mpr ?_
  have : ((n : Nat) : Int) < ((10 ^ k : Nat) : Int) := by rw [Int.natCast_pow]; exact h1
  exact Int.ofNat_lt.mp this
/-- signs behind one another -/
theorem joinL_nil (ps : List (List Nat)) : TL.joinL [] ps = ps.flatten := by
  induction ps with
  | nil => rfl
  | cons p r ih => cases r with
    | nil => simp [TL.joinL]
    | cons q r => show p ++ ([] ++ TL.joinL [] (q :: r)) = _; rw [ih]; simp
theorem joinL_cons (S p : List Nat) (r : List (List Nat)) : TL.joinL S (p :: r) = p ++ (r.map fun q => S ++ q).flatten := by
  induction r generalizing p with
  | nil => simp [TL.joinL]
  | cons q r ih => show p ++ (S ++ TL.joinL S (q :: r)) = _; rw [ih]; simp
theorem sum_le {l : List Nat} {b : Nat} (h : ∀ x ∈ l, x ≤ b) : l.sum ≤ l.length * b := by
  induction l with
  | nil => simp
  | cons x r ih =>
    have h1 := ih fun y hy => h y (List.mem_cons_of_mem _ hy)
    have h2 := h x List.mem_cons_self
    rw [List.sum_cons, List.length_cons, Nat.add_mul]
    omega
theorem flat_le {l : List (List Nat)} {b : Nat} (h : ∀ x ∈ l, x.length ≤ b) : l.flatten.length ≤ l.length * b := by
  rw [List.length_flatten]
  have := sum_le (l := l.map List.length) (b := b) fun x hx => by
    obtain ⟨y, hy, rfl⟩ := List.mem_map.mp hx
    exact h y hy
  rw [List.length_map] at this
  exact this
end Cm

namespace Cm
open PySem PySem.Spec PyProof.Rows L2

/-! ### max(d.values()) -/
def tMaxVals (td : TE) : TE := fun σ H Q => td σ H fun x H1 => ∃ (a : Addr) (kvs : List (Key × V)) (is : List Int), x = V.ref a ∧ H1 a = some (.dK kvs) ∧ kvs.map (·.2) = is.map V.int ∧ is ≠ [] ∧ ∀ m, m ∈ is → (∀ j ∈ is, j ≤ m) → Q (.int m) H1
theorem pe_maxVals {X : Cx} {o : Expr} {p pos apos mpos : Pos} {td : TE} (hc : X.calm = true) (hg : Gl X "max") (hm : X.mg "max" = none) (hd : PE X o td) (hbase : attributeBase o "values" X.env (eval o X.env) = eval o X.env := by rfl) (hline : (apos.endLine == mpos.line) = true := by rfl)
    (hse : starEach [Expr.Call (.Attribute o "values" apos) [] [] mpos] X.env = [(false, eval (Expr.Call (.Attribute o "values" apos) [] [] mpos) X.env)] := by rfl) :
    PE X (.Call (.Name "max" p) [.Call (.Attribute o "values" apos) [] [] mpos] [] pos) (tMaxVals td) := by
  constructor
  intro pins s σ H Q I h
  refine wpAny_Call_Name_kw (ld_blt I hg hm (u := .builtin "max") (by first | rfl | decide +kernel) ?_ (by first | decide +kernel | decide) (by first | decide +kernel | decide))
  rw [hse]
  refine PySem.callWith_builtin1 (wpAny_Call_method0_late hbase hline (thn (hd.run pins s σ H _ I h) ?_))
  rintro v s1 ⟨x, H1, I1, r1, a, kvs, is, rfl, ha, hv, hne, q⟩
  obtain rfl : v = Value.ref a := r1
  obtain ⟨_, hsys, vs, rel, dof⟩ := dk_of I1.hok ha
  obtain ⟨ep, dat⟩ := dof.dictAt
  obtain ⟨ob, es, ho, ex, hdat, hko, hpr, hnd⟩ := id dat
  have lv : vs.length = is.length := by
    have e1 : kvs.length = is.length := by simpa using congrArg List.length hv
    rw [← e1]; exact (KV.length rel).symm
  have l0 : 0 < is.length := List.length_pos_iff.mpr hne
  have vals : ∀ (i : Nat) (v : Value), (∃ k, vs[i]? = some (k, v)) → ∃ t, v = Value.int (is.getD i 0) t := by
    rintro i v ⟨k, hk⟩
    obtain ⟨x, h1, h2⟩ := KV.at' rel hk
    have e1 : (is.map V.int)[i]? = some x := by rw [← hv, List.getElem?_map, h1] <;> rfl
    rw [List.getElem?_map] at e1
    obtain ⟨j, hj, rfl⟩ := Option.map_eq_some_iff.mp e1
    obtain ⟨t, e3⟩ := h2
    exact ⟨t, by rw [e3, List.getD_eq_getElem?_getD, hj] <;> rfl⟩
  refine ⟨"dict", "dict.values", F.plainAttrs_dict, F.slot_dict_values, F.type_dict_values, ⟨ob, ho, ex.1⟩, fun b e => by cases e; exact ⟨ob, ho, ex.2.1⟩, Calls.callWith_builtin rfl (PySem.evalArgs_none ?_)⟩
  refine call_meetsIn F.slot_dict_values ⟨ob, ho, ex.1⟩ F.entry_dict_values (F.args_dict_values_1 _) (meets_dict_values (mixKind X.prog X.w) a hsys) ⟨⟨vs, dof⟩, ?_⟩
  have up : ∀ b u, s1.heap.get? b = some u → (s1.heap.push { cls := .type "dict_values", data := .fields #[.ref a] }).get? b = some u := fun b u e => Heap.get?_push_of_some _ e
  have dat1 := dat.keep up
  have alt : a < s1.heap.objs.size := Heap.lt_size ho
  have sz : (s1.heap.push { cls := .type "dict_values", data := .fields #[.ref a] }).objs.size = s1.heap.objs.size + 1 := Heap.size_push _ _
  refine call_max_walk (wpAny_pyIter_values (v := s1.heap.objs.size) (d := a) ⟨_, Heap.get?_push_size _ rfl, rfl, rfl⟩ dat1 ?_)
  refine ⟨_, _, _, _, _, _, _, rfl, Walks.dictValues (knd := mixKind X.prog X.w) (A := X.A.in1) (I.ok.hd hc) (s1.heap.push { cls := .type "dict_values", data := .fields #[.ref a] }).objs.size a (by rw [sz]; exact Nat.ne_of_lt (Nat.lt_succ_of_lt alt)) vs ep,
    ⟨⟨_, Heap.get?_push_size _ rfl, rfl, rfl⟩, dat1.keep fun b u e => Heap.get?_push_of_some _ e⟩, ?_, by omega, CmpOf.ints_gt (fun i => is.getD i 0) vals, ?_⟩
  · intro b hb
    show b < ((s1.heap.push _).push _).objs.size
    rw [Heap.size_push, Heap.size_push]
    rw [sz] at hb
    rcases List.mem_cons.mp hb with e | hb
    · rw [e]; exact Nat.lt_succ_self _
    · rw [show b = a from List.mem_singleton.mp hb]
      exact Nat.lt_succ_of_lt (Nat.lt_succ_of_lt alt)
  · intro v h' tk hP hk
    obtain ⟨t, rfl⟩ := vals _ v hP
    obtain ⟨b1, b2⟩ := argBest_gt (fun i => is.getD i 0) (vs.length - 1)
    refine ⟨.int _, H1, I1.kept (t' := tk) fun b u e => hk b u (fun hmem => ?_) (Heap.get?_push_of_some _ (up b u e)), ⟨t, rfl⟩, q _ ?_ ?_⟩
    · have e1 := List.mem_singleton.mp hmem
      have e2 := Heap.lt_size e
      rw [sz] at e1
      rw [e1] at e2
      exact Nat.lt_irrefl _ (Nat.lt_of_lt_of_le e2 (Nat.le_succ _))
    · have hb : argBest (fun i j => decide (is.getD i 0 > is.getD j 0)) (vs.length - 1) < is.length := by omega
      rw [List.getD_eq_getElem?_getD, List.getElem?_eq_getElem hb]
      exact List.getElem_mem hb
    · intro j hj
      obtain ⟨i, hi, rfl⟩ := List.mem_iff_getElem.mp hj
      have e2 : is.getD i 0 = is[i] := by rw [List.getD_eq_getElem?_getD, List.getElem?_eq_getElem hi] <;> rfl
      rw [← e2]
      exact b2 i (by omega)

/-! ### fields and methods of an instance -/
section
variable {K : PySem.W.Frag} {σ : L2.St} {H : Hp} {Q : VK} {ta tv : TE} {t : TA} {f m : Str} {a C dx : Addr} {fs : List (Str × V)}
/-- x.f is read -/
def gF (K : PySem.W.Frag) (f : Str) (x : V) (H : Hp) (Q : VK) : Prop := ∃ a C dx fs v, x = .ref a ∧ H a = some (.ins C dx fs) ∧ Cls K C ∧ NoAttr K C f ∧ fs.lookup f = some v ∧ Q v H
instance : Stp (tFld K ta f σ H Q) (ta σ H fun x H1 => gF K f x H1 Q) := ⟨id⟩
theorem k_gF {v : V} (e : H a = some (.ins C dx fs)) (c : Cls K C) (n : NoAttr K C f) (l : fs.lookup f = some v) (h : Q v H) : gF K f (.ref a) H Q := ⟨a, C, dx, fs, v, rfl, e, c, n, l, h⟩
/-- x.f = y is written -/
def pF (K : PySem.W.Frag) (f : Str) (x y : V) (H : Hp) (N : Hp → Prop) : Prop := ∃ a C dx fs, x = .ref a ∧ H a = some (.ins C dx fs) ∧ Cls K C ∧ NoAttr K C f ∧ fs.length < 1000 ∧ N (upd H a (.ins C dx (putF f y fs)))
instance {nx bk ct : L2.St → Hp → Prop} {rt : VK} : Stp (sFld K ta tv f ⟨nx, rt, bk, ct⟩ σ H) (tv σ H fun y H1 => ta σ H1 fun x H2 => pF K f x y H2 (nx σ)) := ⟨id⟩
theorem k_pF {y : V} {N : Hp → Prop} (e : H a = some (.ins C dx fs)) (c : Cls K C) (n : NoAttr K C f) (l : fs.length < 1000) (h : N (upd H a (.ins C dx (putF f y fs)))) : pF K f (.ref a) y H N := ⟨a, C, dx, fs, rfl, e, c, n, l, h⟩
/-- x.m is a method's call -/
def mF (C : Addr) (m : Str) (x : V) (H : Hp) (P : Prop) : Prop := ∃ a dx fs, x = .ref a ∧ H a = some (.ins C dx fs) ∧ fs.lookup m = none ∧ P
instance {sp : Sp} {E : XK} : Stp (tMeth C m sp [] E ta t σ H Q) (ta σ H fun x H1 => mF C m x H1 (t σ H1 fun vs H2 => sp (x :: vs) H2 Q E)) := ⟨fun h => by
  unfold tMeth
  simp only [List.append_nil]
  exact h⟩
theorem k_mF {P : Prop} (e : H a = some (.ins C dx fs)) (l : fs.lookup m = none) (h : P) : mF C m (.ref a) H P := ⟨a, dx, fs, rfl, e, l, h⟩
/-- a new instance -/
def newI (C : Addr) (sp : Sp) (E : XK) (vs : List V) (H : Hp) (Q : VK) : Prop := ∀ x dx, H x = none → H dx = none → dx ≠ x → sp (.ref x :: vs) (upd (upd H dx (.own x)) x (.ins C dx [])) (fun v H2 => v = .non ∧ Q (.ref x) H2) E
instance {sp : Sp} {E : XK} : Stp (tMake C sp [] E t σ H Q) (t σ H fun vs H1 => newI C sp E vs H1 Q) := ⟨fun h => by
  unfold tMake
  simp only [List.append_nil]
  exact h⟩
end

/-! ### methods and makings that may raise, in a try -/
section
variable {X : Cx} {CX : CXT} {k : Nat} {f C : Addr} {fd : FuncData} {ps : List Str} {sp : Sp} {E : L2.St → XK} {x m : Str} {p pos apos : Pos} {e o : Expr} {es : List Expr} {ta : TE} {t : TA}
def tMtS (C : Addr) (m : Str) (sp : Sp) (E : L2.St → XK) (ta : TE) (t : TA) : TE := fun σ H Q => ta σ H fun x H1 => ∃ a dx fs, x = .ref a ∧ H1 a = some (.ins C dx fs) ∧ fs.lookup m = none ∧ t σ H1 fun vs H2 => sp (x :: vs) H2 Q (E σ)
theorem pe_mtS {pl : Sem Bool} (he : PE X o ta) (c : Cls X.K C) (hm : Meth X.K C m f) (F : FnOk X.prog X.w X.K X.mg X.base CX k f fd ps sp) (hr : Room k X.A) (hb : Binds X.K fd ps []) (hx : ∀ σ, PassesAt CX X σ (E σ)) (ha : PA X (e :: es) t)
    (hst : starEach (e :: es) X.env = (false, eval e X.env) :: starEach es X.env := by rfl) (hpl : (backTo pos (starEach es X.env)).any (·.1) = false := by rfl)
    (ht : eval (.Call (.Attribute o m apos) (e :: es) [] pos) X.env = (do
      let ov ← eval o X.env
      standAt apos.atName
      let (f, first) ← holding [ov] (getMethod ov m pl)
      callWith pos f first (backTo pos (starEach (e :: es) X.env)) (backToKw pos (keywordEach [] X.env))) := by rfl) :
    PE X (.Call (.Attribute o m apos) (e :: es) [] pos) (tMtS C m sp E ta t) := by
  refine ⟨fun pins s σ H Q I h => ?_⟩
  refine PySem.W.methodCall_KW (pl := pl) (thn (he.run pins s σ H _ I h) fun u s1 ⟨x, H1, I1, rx, a, dx, fs, ex, ea, l, q⟩ => ?_) ht
  subst ex
  obtain rfl : u = Value.ref a := rx
  refine getmeth_ok I1 ea c hm l ?_
  refine PySem.W.callWith_K (first := [.ref a]) (h₀ := X.base) I.ok.mod.kin hm.kp (thn (ha.run pos pins s1 σ H1 _ I1 q) fun us s2 ⟨vs, H2, I2, r, q2⟩ => ⟨I2.kIn, ?_⟩) hst hpl
  exact run_fnS (us := .ref a :: us) (vs := .ref a :: vs) F hr hb (hx σ) I2 (.cons rfl r) q2
def tMakeS (C : Addr) (sp : Sp) (E : L2.St → XK) (t : TA) : TE := fun σ H Q => t σ H fun vs H1 => ∀ x dx, H1 x = none → H1 dx = none → dx ≠ x → sp (.ref x :: vs) (upd (upd H1 dx (.own x)) x (.ins C dx [])) (fun v H2 => v = .non ∧ Q (.ref x) H2) (E σ)
theorem pe_makeS (M : Mk X.K C f) (F : FnOk X.prog X.w X.K X.mg X.base CX k f fd ps sp) (hr : Room (k + 1) X.A) (hg : Gl X x) (hm : X.mg x = some (.ref C)) (hb : Binds X.K fd ps []) (hx : ∀ σ, PassesAt CX X σ (E σ))
    (ha : PA X (e :: es) t) (hdb : (x == ("__debug__" : Str)) = false := by decide) (he : starEach (e :: es) X.env = (false, eval e X.env) :: starEach es X.env := by rfl) (hpl : (backTo pos (starEach es X.env)).any (·.1) = false := by rfl) :
    PE X (.Call (.Name x p) (e :: es) [] pos) (tMakeS C sp E t) := by
  refine ⟨fun pins s σ H Q I h => ?_⟩
  refine wpAny_Call_Name_kw (ld_glob I hg hm ?_ hdb)
  refine PySem.W.callWith_K (h₀ := X.base) I.ok.mod.kin M.kp (thn (ha.run pos pins s σ H _ I h) fun us s1 ⟨vs, H1, I1, r, q⟩ => ⟨I1.kIn, ?_⟩) he hpl
  have hq := q (s1.heap.objs.size + 1) s1.heap.objs.size (I1.hok.fresh (Nat.le_succ _)) (I1.hok.fresh (Nat.le_refl _)) (Nat.ne_of_lt (Nat.lt_succ_self _))
  have I2 := Inv.made (C := C) I1
  have r2 : Vals (V.ref (s1.heap.objs.size + 1) :: vs) (Value.ref (s1.heap.objs.size + 1) :: us) := .cons rfl r
  have hl : (Value.ref (s1.heap.objs.size + 1) :: us ++ []).length = ps.length := by
    have e := r2.length
    rw [F.len _ _ _ _ hq] at e
    rw [List.append_nil]
    exact e.symm
  have b := hb _ (Value.ref (s1.heap.objs.size + 1) :: us) I2.kIn hl
  rw [List.append_nil] at b
  refine wpAny_call (make_map (f := f) I1.kIn M.makes M.init (beq_iff_eq.mp M.fn) (codeAny_mono (F.run _ X.stack _ _ ⟨Value.ref (s1.heap.objs.size + 1) :: us, []⟩ (Value.ref (s1.heap.objs.size + 1) :: us) _ _ (E σ) (hr.make C us [])
    (I2.env0.make C us []) b r2 hq) fun r s' hq' => ?_))
  cases r with
  | error e => exact hx σ pins _ _ e s' I2 hq'
  | ok fl =>
    cases fl with
    | ret u =>
      obtain ⟨v, H', I3, rv, ev, q3⟩ := I2.after hq'
      subst ev
      exact ⟨rv, ⟨V.ref (s1.heap.objs.size + 1), H', I3, rfl, q3⟩⟩
    | next => exact False.elim hq'
    | brk => exact False.elim hq'
    | cont => exact False.elim hq'
end
section
variable {σ : L2.St} {H : Hp} {Q : VK} {ta : TE} {t : TA} {m : Str} {C : Addr}
instance {sp : Sp} {E : L2.St → XK} : Stp (tMtS C m sp E ta t σ H Q) (ta σ H fun x H1 => mF C m x H1 (t σ H1 fun vs H2 => sp (x :: vs) H2 Q (E σ))) := ⟨id⟩
instance {sp : Sp} {E : L2.St → XK} : Stp (tMakeS C sp E t σ H Q) (t σ H fun vs H1 => newI C sp (E σ) vs H1 Q) := ⟨id⟩
end
/-! ### a comprehension over a range whose items are new things, each by itself -/
section
variable {K : PySem.W.Frag} {σ : L2.St} {H1 : Hp} {Q : VK} {g : TG} {tt : TT} {te : TE} {vs : List Nat}
theorem lc_rowsR {QD : Addr → Hp → Prop} {lo : Int} {n : Nat} (hz : n ≤ 50000) (F : Nat → HO)
    (step : ∀ (i : Nat) H', i < n → Same H1 H' → ∀ (R : V → Hp → Prop) (R0 : Hp → Prop), (∀ p H'', H' p = none → Same H' H'' → H'' p = some (F i) → R (.ref p) H'') →
      g (.int (lo + (i : Nat))) (wipe σ vs) H' fun σ2 H2 => wipe σ2 vs = wipe σ vs ∧ tt σ2 H2 fun b H3 => if b = true then te σ2 H3 R else R0 H3)
    (h : ∀ (D : Addr) (rs : List Addr) (H' : Hp), H1 D = none → Same H1 H' → H' D = some (.lst (rs.map V.ref)) → rs.length = n → rs.Nodup → D ∉ rs → (∀ r ∈ rs, H1 r = none) → (∀ (j : Nat) r, rs[j]? = some r → H' r = some (F j)) → QD D H') :
    ∀ D, H1 D = none → ∃ W : Nat → Nat → Hp → Prop, (∃ m, W 0 m (upd H1 D (.lst []))) ∧ ∀ i m H, W i m H →
      ((Itr lo n).stop i H ∧ QD D H) ∨ ((Itr lo n).go i H ∧ ∃ Nx : Hp → Prop, (∀ H', Nx H' → ∃ m', m' < m ∧ W (i + 1) m' H') ∧ ∀ x H', (Itr lo n).yld i H x H' → g x (wipe σ vs) H' fun σ2 H2 => wipe σ2 vs = wipe σ vs ∧ tt σ2 H2 fun b H3 =>
        if b = true then te σ2 H3 fun y H4 => ∃ acc, H4 D = some (.lst acc) ∧ acc.length < sizeLine ∧ Nx (upd H4 D (.lst (acc ++ [y]))) else Nx H3) := by
  refine fun D nD => lc_range (fun i H => Same H1 H ∧ ∃ rs : List Addr, H D = some (.lst (rs.map V.ref)) ∧ rs.length = i ∧ rs.Nodup ∧ D ∉ rs ∧ (∀ r ∈ rs, H1 r = none) ∧ ∀ (j : Nat) r, rs[j]? = some r → H r = some (F j))
    ⟨same_new nD, [], by rw [upd_same]; rfl, rfl, List.nodup_nil, by simp, (fun r z => by cases z), (fun j r z => by simp at z)⟩ ?_ ?_
  · rintro i H hi ⟨sm, rs, hD, lr, nd, dr, fr, at_⟩
    refine step i H hi sm _ _ (fun p H'' np s2 ep => ⟨_, s2 _ _ hD, szl (by simp; omega), same_mut (sm.trans s2) nD, rs ++ [p], ?_, by simp [lr], ?_, ?_, ?_, ?_⟩)
    · rw [upd_same, List.map_append]; rfl
    · rw [List.nodup_append]
      refine ⟨nd, by simp, fun r hr q hq e => ?_⟩
      rw [List.mem_singleton.mp hq] at e
      subst e
      obtain ⟨j, hj⟩ := List.mem_iff_getElem?.mp hr
      rw [at_ j _ hj] at np
      cases np
    · intro z
      rcases List.mem_append.mp z with z | z
      · exact dr z
      · rw [List.mem_singleton.mp z] at hD
        rw [hD] at np
        cases np
    · intro r hr
      rcases List.mem_append.mp hr with hr | hr
      · exact fr r hr
      · rw [List.mem_singleton.mp hr]; exact sm.free np
    · intro j r hr
      have rD : r ≠ D := fun e => by
        rcases List.mem_append.mp (List.mem_of_getElem? hr) with z | z
        · exact dr (e ▸ z)
        · rw [List.mem_singleton.mp z] at e
          rw [e, hD] at np
          cases np
      rw [upd_ne rD]
      by_cases c : j < rs.length
      · rw [List.getElem?_append_left c] at hr
        exact s2 _ _ (at_ j r hr)
      · have hj : j = i := by
          have := (List.getElem?_eq_some_iff.mp hr).1
          simp at this
          omega
        subst hj
        rw [List.getElem?_append_right (by omega), lr, Nat.sub_self] at hr
        cases hr
        exact ep
  · rintro H ⟨sm, rs, hD, lr, nd, dr, fr, at_⟩
    exact h D rs H nD sm hD lr nd dr fr at_
end
/-! ### dicts with whole numbers for keys -/
section
variable {σ : L2.St} {H : Hp} {Q : VK} {td ty tx tv : TE} {p : Addr} {kvs : List (Key × V)} {t : Int} {v z : V} {nx bk ct : L2.St → Hp → Prop} {rt : VK}
def newD (H : Hp) (Q : VK) : Prop := ∀ p, H p = none → Q (.ref p) (upd H p (.dK []))
instance : Stp (tDNewK σ H Q) (newD H Q) := ⟨id⟩
theorem kD (h : ∀ p H', H p = none → Same H H' → H' p = some (.dK []) → Q (.ref p) H') : newD H Q := fun p np => h p _ np (same_new np) upd_same
def aD (x : V) (H : Hp) (R : Addr → Prop) : Prop := ∃ a, x = .ref a ∧ IsD H a ∧ R a
def gD2 (a : Addr) (y z : V) (H : Hp) (Q : VK) : Prop := ∃ o, DGet H a y o ∧ Q (o.getD z) H
instance : Stp (tDGet2 td ty tx σ H Q) (td σ H fun x H1 => aD x H1 fun a => ty σ H1 fun y H2 => tx σ H2 fun z H3 => gD2 a y z H3 Q) := ⟨id⟩
theorem k_aD {R : Addr → Prop} (e : H p = some (.dK kvs)) (h : R p) : aD (.ref p) H R := ⟨p, rfl, .inl ⟨kvs, .inl e⟩, h⟩
theorem k_gD2 (e : H p = some (.dK kvs)) (h : Q ((valV kvs (.inl t)).getD z) H) : gD2 p (.int t) z H Q := ⟨_, DGet.k (k := .inl t) e, h⟩
def pD (x y v : V) (H : Hp) (N : Hp → Prop) : Prop := ∃ a H4, x = .ref a ∧ DPut H a y v H4 ∧ N H4
instance : Stp (sDPut td ty tv ⟨nx, rt, bk, ct⟩ σ H) (tv σ H fun v H1 => td σ H1 fun x H2 => ty σ H2 fun y H3 => pD x y v H3 (nx σ)) := ⟨id⟩
theorem k_pD {N : Hp → Prop} (e : H p = some (.dK kvs)) (l : kvs.length < 100000) (h : N (upd H p (.dK (putK kvs (.inl t) v)))) : pD (.ref p) (.int t) v H N := ⟨p, _, rfl, DPut.k (k := .inl t) e (szl l), h⟩
def gMx (x : V) (H : Hp) (Q : VK) : Prop := ∃ (a : Addr) (kvs : List (Key × V)) (is : List Int), x = V.ref a ∧ H a = some (.dK kvs) ∧ kvs.map (·.2) = is.map V.int ∧ is ≠ [] ∧ ∀ m, m ∈ is → (∀ j ∈ is, j ≤ m) → Q (.int m) H
instance : Stp (tMaxVals td σ H Q) (td σ H fun x H1 => gMx x H1 Q) := ⟨id⟩
theorem k_gMx {is : List Int} (e : H p = some (.dK kvs)) (hv : kvs.map (·.2) = is.map V.int) (ne : is ≠ []) (h : ∀ m, m ∈ is → (∀ j ∈ is, j ≤ m) → Q (.int m) H) : gMx (.ref p) H Q := ⟨p, kvs, is, rfl, e, hv, ne, h⟩
end
/-! ### list.insert -/
def rIns : V → List V → Hp → VK → Prop := fun x vs H Q => ∃ (l : Addr) (xs : List V) (i : Int) (y : V), x = .ref l ∧ vs = [.int i, y] ∧ H l = some (.lst xs) ∧ xs.length < sizeLine ∧ 0 ≤ i ∧ i < 2 ^ 63 ∧ Q .non (upd H l (.lst (xs.take i.toNat ++ [y] ++ xs.drop i.toNat)))
theorem k_ins {H : Hp} {Q : VK} {l : Addr} {xs : List V} {i : Int} {y : V} (e : H l = some (.lst xs)) (hl : xs.length < 100000) (h0 : 0 ≤ i) (h1 : i < 1000000) (h : Q .non (upd H l (.lst (xs.take i.toNat ++ [y] ++ xs.drop i.toNat)))) : rIns (.ref l) [.int i, y] H Q := ⟨l, xs, i, y, rfl, rfl, e, szl hl, h0, by omega, h⟩
/-! ### reads of a dict, loops over its keys -/
section
variable {σ : L2.St} {H : Hp} {Q : VK} {td ty : TE} {p : Addr} {kvs : List (Key × V)} {t : Int} {v : V} {nx bk ct : L2.St → Hp → Prop} {rt : VK}
def gD1 (x y : V) (H : Hp) (Q : VK) : Prop := ∃ a v, x = .ref a ∧ DGet H a y (some v) ∧ Q v H
instance : Stp (tDGet td ty σ H Q) (td σ H fun x H1 => ty σ H1 fun y H2 => gD1 x y H2 Q) := ⟨id⟩
theorem k_gD1 (e : Rd H p (.dK kvs)) (hv : valV kvs (.inl t) = some v) (h : Q v H) : gD1 (.ref p) (.int t) H Q := ⟨p, v, rfl, .inl ⟨kvs, .inl t, e, rfl, hv.symm⟩, h⟩
theorem upd_self {H : Hp} {d : Addr} {u : HO} (h : H d = some u) : upd H d u = H := by
  funext b
  unfold upd
  split
  · rename_i e; rw [e, h]
  · rfl
/-- a for over the keys of a dict of numbers; the heap stays -/
theorem forD {g : TG} {tb : TS} {D : Ends} (hd : H p = some (.dK kvs)) (Pv : Nat → L2.St → Prop) (h0 : Pv 0 σ)
    (htd : ∀ (R : V → Hp → Prop) od, R (.ref p) (upd H p (.frz od (.dK kvs))) → td σ (upd H p (.frz od (.dK kvs))) R)
    (hs : ∀ (od : Obj) (i : Nat) k v σ, kvs[i]? = some (k, v) → Pv i σ → ∀ (N B C : L2.St → Hp → Prop) (rt : VK), (∀ σ', Pv (i + 1) σ' → N σ' (upd H p (.frz od (.dK kvs)))) → (∀ v, D.rt v H → rt v (upd H p (.frz od (.dK kvs)))) →
      g (kV k) σ (upd H p (.frz od (.dK kvs))) fun σ2 H2 => tb ⟨N, rt, B, C⟩ σ2 H2)
    (fin : ∀ σ', Pv kvs.length σ' → D.nx σ' H) : tLock (tFor (iKeys td) g tb) D σ H := by
  refine ⟨p, .dK kvs, hd, trivial, fun od => ?_⟩
  refine htd _ od ⟨p, od, rfl, .inl ⟨kvs, upd_same, ?_⟩⟩
  have back : upd (upd H p (.frz od (.dK kvs))) p (.dK kvs) = H := by rw [upd_upd, upd_self hd]
  refine for_it walk_keys (fun i σ' H' => H' = upd H p (.frz od (.dK kvs)) ∧ Pv i σ') ⟨rfl, h0⟩ (fun i σ' H' _ e => by rw [e.1]; exact upd_same) ?_ ?_
  · rintro i x σ' H' H'' hi ⟨rfl, pv⟩ ⟨rfl, k, v, hkv, rfl⟩
    exact hs od i k v σ' hkv pv _ _ _ _ (fun σ' h => ⟨rfl, h⟩) (fun v h => ⟨upd_same, by rw [back]; exact h⟩)
  · rintro σ' H' ⟨rfl, pv⟩
    exact ⟨upd_same, by rw [back]; exact fin σ' pv⟩
end
/-- a dict of counts -/
structure Cnt (kvs : List (Key × V)) (c : Int → Nat) (m : Nat) : Prop where
  isI : ∃ is : List Int, kvs.map (·.2) = is.map V.int
  val : ∀ t, valV kvs (.inl t) = if c t = 0 then none else some (.int (c t : Nat))
  len : kvs.length ≤ m
theorem Cnt.nil : Cnt [] (fun _ => 0) 0 := ⟨⟨[], rfl⟩, fun t => by rw [valV_nil]; rfl, Nat.le_refl _⟩
theorem putK_lenN (c : List (Key × V)) (k : Key) (x : V) : (putK c k x).length ≤ c.length + 1 := by
  unfold putK
  split
  · rw [List.length_map]; omega
  · rw [List.length_append]; simp
theorem mapK_ints {k : Key} {x : Int} : ∀ (kvs : List (Key × V)) (is : List Int), kvs.map (·.2) = is.map V.int → ∃ is : List Int, (kvs.map fun kv => if kv.1 = k then (kv.1, V.int x) else kv).map (·.2) = is.map V.int
  | [], _, _ => ⟨[], rfl⟩
  | a :: r, [], h => by simp at h
  | a :: r, j :: js, h => by
    simp only [List.map_cons, List.cons.injEq] at h
    obtain ⟨is', h'⟩ := mapK_ints r js h.2
    by_cases c : a.1 = k
    · exact ⟨x :: is', by rw [List.map_cons, List.map_cons, if_pos c, h']; rfl⟩
    · exact ⟨j :: is', by rw [List.map_cons, List.map_cons, if_neg c, h', h.1]; rfl⟩
theorem putK_ints {kvs : List (Key × V)} {k : Key} {x : Int} (h : ∃ is : List Int, kvs.map (·.2) = is.map V.int) : ∃ is : List Int, (putK kvs k (.int x)).map (·.2) = is.map V.int := by
  obtain ⟨is, h⟩ := h
  unfold putK
  split
  · exact mapK_ints kvs is h
  · exact ⟨is ++ [x], by rw [List.map_append, List.map_append, h]; rfl⟩
theorem Cnt.put {kvs : List (Key × V)} {c : Int → Nat} {m : Nat} (h : Cnt kvs c m) (t : Int) {x : Int} (hx : x = ((c t + 1 : Nat) : Int)) : Cnt (putK kvs (.inl t) (.int x)) (fun s => if s = t then c s + 1 else c s) (m + 1) := by
  obtain ⟨h1, h2, h3⟩ := h
  refine ⟨putK_ints h1, fun s => ?_, Nat.le_trans (putK_lenN _ _ _) (by omega)⟩
  rw [valV_put]
  by_cases e : s = t
  · subst e
    rw [if_pos rfl, if_pos rfl, if_neg (by omega), hx]
  · rw [if_neg (fun z => e (by simpa using z)), if_neg e]
    exact h2 s
theorem Cnt.get {kvs : List (Key × V)} {c : Int → Nat} {m : Nat} (h : Cnt kvs c m) (t : Int) : (valV kvs (.inl t)).getD (.int 0) = .int (c t : Nat) := by
  rw [h.val t]
  split
  · rename_i e
    rw [e]; rfl
  · rfl
theorem Cnt.mem {kvs : List (Key × V)} {c : Int → Nat} {m : Nat} (h : Cnt kvs c m) {is : List Int} (hi : kvs.map (·.2) = is.map V.int) {t : Int} (ht : c t ≠ 0) : ((c t : Nat) : Int) ∈ is := by
  have hv := h.val t
  rw [if_neg ht] at hv
  unfold valV at hv
  obtain ⟨kv, hk, e⟩ := Option.map_eq_some_iff.mp hv
  have hm : V.int ((c t : Nat) : Int) ∈ is.map V.int := by
    rw [← hi, ← e]
    exact List.mem_map_of_mem (List.mem_of_find?_eq_some hk)
  obtain ⟨y, hy, e2⟩ := List.mem_map.mp hm
  cases e2
  exact hy
theorem Cnt.ext {kvs : List (Key × V)} {c c' : Int → Nat} {m m' : Nat} (h : Cnt kvs c m) (e : ∀ t, c t = c' t) (l : m ≤ m') : Cnt kvs c' m' := by
  obtain rfl : c = c' := funext e
  exact ⟨h.isI, h.val, Nat.le_trans h.len l⟩
/-! ### a list told by its places -/
theorem getR {n l : Nat} {f : Nat → Int} (h : l < n) : ((List.range n).map f)[l]? = some (f l) := by
  rw [List.getElem?_map, List.getElem?_range h]; rfl
theorem setR {n l : Nat} {f : Nat → Int} {v : Int} : ((List.range n).map f).set l v = (List.range n).map fun j => if j = l then v else f j := by
  refine List.ext_getElem? fun k => ?_
  rw [List.getElem?_set]
  by_cases c : l = k
  · subst c
    rw [if_pos rfl]
    by_cases d : l < n
    · rw [if_pos (by simpa using d), getR d, if_pos rfl]
    · rw [if_neg (by simpa using d), List.getElem?_eq_none (by simpa using d)]
  · rw [if_neg c]
    by_cases d : k < n
    · rw [getR d, getR d, if_neg (fun e => c e.symm)]
    · rw [List.getElem?_eq_none (by simpa using d), List.getElem?_eq_none (by simpa using d)]
/-! ### a range with a step; bits to the right -/
instance {σ : L2.St} {H : Hp} {ta : TA} {R : It → Hp → Prop} : Stp (iRng3 ta σ H R) (ta σ H fun vs H1 => ∃ (i j c : Int) (n : Nat), vs = [.int i, .int j, .int c] ∧ RgC i j c n ∧ R (Itc i c n) H1) := ⟨id⟩
theorem forC {σ : L2.St} {H : Hp} {nx : L2.St → Hp → Prop} {rt : VK} {lo c : Int} {n : Nat} {g : TG} {tb : TS} (Pv : Nat → L2.St → Hp → Prop) (h0 : Pv 0 σ H)
    (hs : ∀ (i : Nat) σ H, i < n → Pv i σ H → g (.int (lo + (i : Nat) * c)) σ H fun σ2 H2 => tb ⟨Pv (i + 1), rt, nx, Pv (i + 1)⟩ σ2 H2) (hd : ∀ σ H, Pv n σ H → nx σ H) :
    ∃ W : Nat → Nat → L2.St → Hp → Prop, (∃ m, W 0 m σ H) ∧ ∀ i m σ H, W i m σ H →
      ((Itc lo c n).stop i H ∧ nx σ H) ∨ ((Itc lo c n).go i H ∧ ∃ N : L2.St → Hp → Prop, (∀ σ' H', N σ' H' → ∃ m', m' < m ∧ W (i + 1) m' σ' H') ∧ ∀ x H', (Itc lo c n).yld i H x H' → g x σ H' fun σ2 H2 => tb ⟨N, rt, nx, N⟩ σ2 H2) :=
  for_rangeC (D := ⟨nx, rt, fun _ _ => False, fun _ _ => False⟩) Pv h0 hs hd
def xShr : R2 := rI (fun _ j => 0 ≤ j) fun i j => .int (i / 2 ^ j.toNat)
theorem k_shr {H : Hp} {Q : VK} {i j : Int} (hc : 0 ≤ j) (h : Q (.int (i / 2 ^ j.toNat)) H) : xShr (.int i) (.int j) H Q := ⟨i, j, rfl, rfl, hc, h⟩
/-! ### dict(d), len(d), k in d -/
def rDictD : List V → Hp → VK → Prop := fun xs H Q => ∃ (a : Addr) (kvs : List (Key × V)), xs = [.ref a] ∧ Rd H a (.dK kvs) ∧ ∀ p, H p = none → Q (.ref p) (upd H p (.dK kvs))
theorem q_dictD {X : Cx} : CallR X (.type "dict") rDictD := call_dictD
def rLenD : List V → Hp → VK → Prop := fun xs H Q => ∃ (a : Addr) (kvs : List (Key × V)), xs = [V.ref a] ∧ H a = some (.dK kvs) ∧ Q (.int kvs.length) H
theorem q_lenD {X : Cx} : CallR X (.builtin "len") rLenD := call_lenD
section
variable {σ : L2.St} {H : Hp} {Q : VK} {td ty : TE} {p : Addr} {kvs : List (Key × V)} {t : Int}
def iD (neg : Bool) (y x : V) (H : Hp) (Q : VK) : Prop := ∃ a o, x = .ref a ∧ DGet H a y o ∧ Q (.bl (if neg then !o.isSome else o.isSome)) H
instance : Stp (tDIn ty td σ H Q) (ty σ H fun y H1 => td σ H1 fun x H2 => iD false y x H2 Q) := ⟨id⟩
instance : Stp (tDNotIn ty td σ H Q) (ty σ H fun y H1 => td σ H1 fun x H2 => iD true y x H2 Q) := ⟨id⟩
theorem k_iD {neg : Bool} (e : H p = some (.dK kvs)) (h : Q (.bl (if neg then !(valV kvs (.inl t)).isSome else (valV kvs (.inl t)).isSome)) H) : iD neg (.int t) (.ref p) H Q := ⟨p, _, rfl, DGet.k (k := .inl t) e, h⟩
theorem k_dictD (e : H p = some (.dK kvs)) (h : ∀ q H', H q = none → Same H H' → H' q = some (.dK kvs) → Q (.ref q) H') : rDictD [.ref p] H Q := ⟨p, kvs, rfl, .inl e, fun q nq => h q _ nq (same_new nq) upd_same⟩
theorem k_lenD (e : H p = some (.dK kvs)) (h : Q (.int kvs.length) H) : rLenD [.ref p] H Q := ⟨p, kvs, rfl, e, h⟩
end
theorem u65 {k : Nat} {A : Around} (r : Room k A) : A.units + 65 < cLine := by have := r.un; omega
end Cm

namespace HT
open PySem PySem.Spec PyProof.Rows
section
variable {prog : Program} {w : World} {A : Around} {E : Value → Shared → Prop} {s : Shared}
/-! ### t[::-1] -/
theorem sliceApplied_rev {sl : Addr} {vs : Value} {n : Nat} {Q : Int × Int × Nat → Shared → Prop} (hs : s.heap.IsSliceOf sl .none .none vs) (ps : IsPart vs (some (-1)))
    (h : Q ((n : Int) - 1, -1, n) s) : wpAny (model prog w) A (Builtin.Slice.sliceApplied (.ref sl) (pure (n : Int))) Q E s := by
  obtain ⟨os, hos, hcs, hds⟩ := id hs
  unfold Builtin.Slice.sliceApplied Builtin.Slice.sliceFields
  refine wpAny_bind (wpAny_bind (wpAny_field hos hds (x := .none) rfl (wpAny_bind (wpAny_field hos hds (x := .none) rfl (wpAny_bind (wpAny_field hos hds (x := vs) rfl (wpAny_pure ?_)))))))
  refine wpAny_bind (slicePart_ ps ?_)
  show wpAny _ _ (if ((-1 : Int) == 0) = true then _ else _) _ _ s
  rw [if_neg (by decide)]
  refine wpAny_bind (slicePart_none (wpAny_bind (slicePart_none (wpAny_bind (wpAny_pure ?_)))))
  show wpAny _ _ (match Builtin.Slice.sliceAdjust none none (-1) (n : Int) with | (lo, hi) => pure (lo, (-1 : Int), Builtin.Slice.slicePlaces lo hi (-1))) _ _ s
  rw [show Builtin.Slice.sliceAdjust none none (-1) (n : Int) = ((n : Int) - 1, -1) by unfold Builtin.Slice.sliceAdjust; simp]
  show wpAny _ _ (pure ((n : Int) - 1, (-1 : Int), Builtin.Slice.slicePlaces ((n : Int) - 1) (-1) (-1))) _ _ s
  have e : Builtin.Slice.slicePlaces ((n : Int) - 1) (-1) (-1) = n := by
    unfold Builtin.Slice.slicePlaces
    rw [if_neg (by decide)]
    split
    · rw [show (- -1 : Int) = 1 by decide, Int.ediv_one]; omega
    · omega
  rw [e]
  exact wpAny_pure h
theorem fm_congr {α β : Type} {f g : α → Option β} : ∀ l : List α, (∀ x ∈ l, f x = g x) → l.filterMap f = l.filterMap g
  | [], _ => rfl
  | a :: r, h => by
    rw [List.filterMap_cons, List.filterMap_cons, h a List.mem_cons_self, fm_congr r fun x hx => h x (List.mem_cons_of_mem _ hx)]
theorem pick_rev (xs : Array Value) : ((List.range xs.size).filterMap fun (m : Nat) => xs[((xs.size : Int) - 1 + (m : Int) * -1).toNat]?).toArray = xs.toList.reverse.toArray := by
  congr 1
  refine List.ext_getElem? fun i => ?_
  have e : (List.range xs.size).filterMap (fun (m : Nat) => xs[((xs.size : Int) - 1 + (m : Int) * -1).toNat]?) = (List.range xs.size).map fun m => xs.toList.getD (xs.size - 1 - m) .none := by
    rw [← List.filterMap_eq_map]
    refine fm_congr _ fun m hm => ?_
    have hm' := List.mem_range.mp hm
    have : ((xs.size : Int) - 1 + (m : Int) * -1).toNat = xs.size - 1 - m := by omega
    rw [this]
    have hl : xs.size - 1 - m < xs.size := by omega
    simp [List.getD_eq_getElem?_getD, hl]
  rw [e, List.getElem?_map]
  by_cases c : i < xs.size
  · rw [List.getElem?_range c, List.getElem?_reverse (by simpa using c)]
    have hl : xs.size - 1 - i < xs.size := by omega
    simp [List.getD_eq_getElem?_getD, hl]
  · rw [List.getElem?_eq_none (by simpa using c), List.getElem?_eq_none (by simpa using c)]
    rfl
theorem getItem_tuple_rev {t sl : Addr} {items : Array Value} {vs : Value} {Q : Value → Shared → Prop} (ht : IsTup s.heap t items) (hs : s.heap.IsSliceOf sl .none .none vs) (ps : IsPart vs (some (-1)))
    (h : Q (.ref s.heap.objs.size) { s with heap := s.heap.push { cls := .type "tuple", data := .seq items.toList.reverse.toArray } })
    (hsz : items.size ≤ sizeLine) : wpAny (model prog w) A (getItem (.ref t) (.ref sl)) Q E s := by
  have htake : sizeOk (.seq items.toList.reverse.toArray) := by
    show items.toList.reverse.toArray.size ≤ sizeLine
    rw [List.size_toArray, List.length_reverse, Array.length_toList]
    exact hsz
  obtain ⟨os, hos, hcs, hds⟩ := id hs
  have hTs : s.TypeIs (.ref sl) "slice" := ⟨os, hos, hcs⟩
  unfold getItem
  try with_reducible refine wpAny_holding ?_
  first | refine wpAny_bind (wpAny_pure ?_) | skip
  refine wpAny_bind (wpAny_sequenceKey ht.typeIs (by decide) ?_)
  refine wpAny_bind (wpAny_callSpecial?_slot (name := Str.ofString "__getitem__") ht.typeIs PyProof.Rows.slot_tuple_getitem
    (wpAny_call_entry PyProof.Rows.slot_tuple_getitem ht.typeIs entry_tuple_getitem ?_ (args_tuple_getitem _ _)))
  show wpAny _ _ (Builtin.Tuple.tupleItemsOf (.ref t) >>= _) _ _ s
  refine wpAny_bind (tupleItemsOf_ ht ?_)
  refine wpAny_bind (wpAny_typeOf hTs ?_)
  rw [if_pos (by decide)]
  refine wpAny_bind (sliceApplied_rev hs ps ?_)
  have hno : ¬ ((((items.size : Int) - 1) == 0 && (-1 : Int) == 1 && items.size == items.size) = true) := by
    intro q
    rw [Bool.and_eq_true, Bool.and_eq_true] at q
    exact absurd q.1.2 (by decide)
  show wpAny _ _ (if (((items.size : Int) - 1) == 0 && (-1 : Int) == 1 && items.size == items.size) = true then _ else _) _ _ s
  rw [if_neg hno, pick_rev]
  first
    | exact wpAny_bind (m := Builtin.Tuple.tupleExact _) (wpAny_newObj_type (wpAny_pure ⟨_, rfl, wpAny_pure h⟩) htake)
    | exact wpAny_bind (m := Builtin.Tuple.tupleExact _) (wpAny_newObj_type (wpAny_bind (wpAny_pure (wpAny_pure ⟨_, rfl, wpAny_pure h⟩))) htake)
/-! ### list(reversed(list)) -/
end
end HT
namespace HT
open PySem PySem.Spec PyProof.Rows L2 RT
section
variable {prog : Program} {w : World} {A : Around} {E : Value → Shared → Prop} {s : Shared}
theorem extend_rev {R : Result → Shared → Prop} {it l S : Addr} {items : Array Value} {c0 : Nat} (hh : A.handled = none) (res : Value) (hit : s.heap.IsRevIter it l ((items.size : Int) - 1)) (hl : s.heap.IsList l items) (hne : l ≠ it) (hn : items.size ≤ sizeLine) (hSi : S ≠ it) (hSl : S ≠ l)
    (hS : s.heap.get? S = some { cls := .type "list", data := .seq #[] c0 })
    (hR : ∀ (h' : Heap) (tk : Nat) (acc : Array Value) (c' : Nat), (∀ b o, b ≠ it → b ≠ S → s.heap.get? b = some o → h'.get? b = some o) → h'.get? S = some { cls := .type "list", dict := none, data := .seq acc c', slots := #[] } → ItemsOf (fun i v => items[items.size - 1 - i]? = some v) acc items.size → R (.ok (.ret res)) { s with heap := h', toks := tk }) :
    wpAny (model prog w) A.in1 (Builtin.List.listExtendWith (.ref S) (.ref it) res)
      (fun fin s' => match fin with | .done f => R (.ok f) s' | .again c' => c'.quiet = true ∧ codeAny (model prog w) A c' R s') (fun e s' => R (.error e) s') s := by
  have W := (Walks.listRev (prog := prog) (w := w) (A := A.in1) hh it l hne items).toS
  have hSf : S ∉ [it, l] := by simp only [List.mem_cons, List.not_mem_nil, or_false, not_or]; exact ⟨hSi, hSl⟩
  have hT : s.TypeIs (.ref it) "list_reverseiterator" := hit.typeIs
  have h1 : Builtin.List.listSameRef (.ref S) (.ref it) = false := by simp [Builtin.List.listSameRef, hSi]
  unfold Builtin.List.listExtendWith
  refine wpAny_bind (wpAny_typeOf hT ?_)
  rw [if_neg (by rw [h1]; decide)]
  refine wpAny_bind (wpAny_pyIter_revIter hit ?_)
  refine wpAny_bind (wpAny_holding ?_)
  unfold Builtin.List.listLengthHint
  refine wpAny_bind (wpAny_specialOf hT nolen_lri ?_)
  show wpAny _ A.in1 (specialOf (Value.ref it) (Str.ofString "__length_hint__") >>= _) _ _ _
  refine wpAny_bind (wpAny_specialOf hT hint_lri ?_)
  generalize hid : ("list_reverseiterator.__length_hint__" : String) = id0
  wp_delta
  rw [show splitId id0 = some ("list_reverseiterator", "__length_hint__") from by subst hid; decide +kernel]
  subst hid
  refine wpAny_bind (wpAny_isInstance (b := true) hT (by rw [isSubtype_type]; kernel_rfl) ?_)
  refine wpAny_pure ?_
  rw [if_neg (by decide)]
  have e0 : ((items.size : Nat) : Int) - 1 - ((0 : Nat) : Int) = (items.size : Int) - 1 := by omega
  refine wpAny_pure ⟨plainId_quiet F.plain_extend_loop _, codeAny_extend_loopS W hn _ hSf res items.size 0 _ _ _ rfl (Nat.zero_le _) ⟨Nat.zero_le _, by rw [e0]; exact hit, hl⟩ hS (ItemsOf.nil _) fun s' acc' c' hm hS' hacc => ?_⟩
  rw [Moved.eq_with hm]
  refine hR s'.heap s'.toks acc' c' (fun b o hb hb2 e => hm.heap b o (fun hmem => ?_) e) hS' hacc
  rcases List.mem_cons.mp hmem with e' | hmem
  · exact hb2 e'
  · exact hb (List.mem_singleton.mp hmem)
theorem list_init_rev {R : Result → Shared → Prop} {it l S : Addr} {items : Array Value} (hh : A.handled = none) (hit : s.heap.IsRevIter it l ((items.size : Int) - 1)) (hl : s.heap.IsList l items) (hne : l ≠ it) (hn : items.size ≤ sizeLine) (hSi : S ≠ it) (hSl : S ≠ l)
    (hS : s.heap.get? S = some { cls := .type "list", data := .seq #[] })
    (hR : ∀ (h' : Heap) (tk : Nat) (acc : Array Value) (c' : Nat), (∀ b o, b ≠ it → b ≠ S → s.heap.get? b = some o → h'.get? b = some o) → h'.get? S = some { cls := .type "list", dict := none, data := .seq acc c', slots := #[] } → ItemsOf (fun i v => items[items.size - 1 - i]? = some v) acc items.size → R (.ok (.ret .none)) { s with heap := h', toks := tk }) :
    wpAny (model prog w) A.in1 (Builtin.«list.__init__» ⟨[.ref S, .ref it], []⟩)
      (fun fin s' => match fin with | .done f => R (.ok f) s' | .again c' => c'.quiet = true ∧ codeAny (model prog w) A c' R s') (fun e s' => R (.error e) s') s := by
  show wpAny _ A.in1 (do let old ← Builtin.List.listItems (.ref S); Builtin.List.listUpdate (.ref S) (fun _ => #[]); letGo old.toList.reverse; Builtin.List.listExtendWith (.ref S) (.ref it) .none) _ _ s
  refine wpAny_bind ?_
  unfold Builtin.List.listItems
  refine wpAny_bind (wpAny_seqItems hS rfl (wpAny_pure ?_))
  show wpAny _ A.in1 (updateSeq S (fun _ => #[]) >>= fun _ => letGo (#[] : Array Value).toList.reverse >>= fun _ => Builtin.List.listExtendWith (.ref S) (.ref it) .none) _ _ s
  refine wpAny_bind (wpAny_updateSeq hS rfl ?_)
  have hS2 := Heap.get?_update_self (Obj.mapSeq (fun _ => (#[] : Array Value))) hS rfl
  have oth : ∀ b o, b ≠ S → s.heap.get? b = some o → (s.heap.update S (Obj.mapSeq (fun _ => (#[] : Array Value)))).get? b = some o :=
    fun b o hb e => (Heap.get?_update_other _ _ (Ne.symm hb)).trans e
  refine wpAny_bind (wpAny_letGo ?_)
  have hl2 : (s.heap.update S (Obj.mapSeq (fun _ => (#[] : Array Value)))).IsList l items := by
    obtain ⟨o, e, r⟩ := hl
    exact ⟨o, oth _ _ (Ne.symm hSl) e, r⟩
  refine extend_rev hh .none (hit.at fun o e => oth _ _ (Ne.symm hSi) e) hl2 hne hn hSi hSl hS2 fun h' tk acc' c' hk hS' hacc => ?_
  exact hR h' tk acc' c' (fun b o hb hb2 e => hk b o hb hb2 (oth b o hb2 e)) hS' hacc
theorem call_list_rev {it l : Addr} {items : Array Value} {Q : Value → Shared → Prop} (hh : A.handled = none) (hit : s.heap.IsRevIter it l ((items.size : Int) - 1)) (hl : s.heap.IsList l items) (hne : l ≠ it) (hn : items.size ≤ sizeLine)
    (hQ : ∀ (h' : Heap) (tk : Nat) (acc : Array Value) (c' : Nat), (∀ b o, b ≠ it → s.heap.get? b = some o → h'.get? b = some o) → h'.get? s.heap.objs.size = some { cls := .type "list", dict := none, data := .seq acc c', slots := #[] } → ItemsOf (fun i v => items[items.size - 1 - i]? = some v) acc items.size →
      Q (.ref s.heap.objs.size) { s with heap := h', toks := tk }) :
    wpAny (model prog w) A (call (.type "list") [.ref it]) Q E s := by
  obtain ⟨oi, hoi, _⟩ := id hit
  obtain ⟨ol, hol, _⟩ := id hl
  have hSi : s.heap.objs.size ≠ it := Nat.ne_of_gt (Heap.lt_size hoi)
  have hSl : s.heap.objs.size ≠ l := Nat.ne_of_gt (Heap.lt_size hol)
  refine callType_codes (Q₁ := fun obj s₁ => obj = .ref s.heap.objs.size ∧ s₁ = { s with heap := s.heap.push { cls := .type "list", data := .seq #[] } }) F.called_list (F.typeCall_list_1 _) F.entry_list_init
    (code_list_new _ ⟨rfl, rfl⟩) fun obj s₁ h₁ => ?_
  obtain ⟨rfl, rfl⟩ := h₁
  have hS : (s.heap.push { cls := .type "list", data := .seq #[] }).get? s.heap.objs.size = some { cls := .type "list", data := .seq #[] } := Heap.get?_push_size _ rfl
  refine ⟨⟨_, hS, rfl⟩, F.args_list_init_2 _ _, list_init_rev (A := A.in1) hh (hit.at fun o e => Heap.get?_push_of_some _ e) (hl.push _) hne hn hSi hSl hS fun h' tk acc' c' hk hS' hacc => ?_⟩
  exact ⟨rfl, hQ h' tk acc' c' (fun b o hb e => hk b o hb (Nat.ne_of_lt (Heap.lt_size e)) (Heap.get?_push_of_some _ e)) hS' hacc⟩
end
end HT
namespace Cm
open PySem PySem.Spec PyProof.Rows L2 RT
section
variable {X : Cx}
def rRevT (K : PySem.W.Frag) (x : V) (H : Hp) (Q : VK) : Prop := ∃ a xs, x = .ref a ∧ SqT K H a xs ∧ ∀ p, H p = none → Q (.ref p) (upd H p (.tup xs.reverse))
def tRevT (K : PySem.W.Frag) (te : TE) : TE := fun σ H Q => te σ H fun x H1 => rRevT K x H1 Q
theorem pe_revT {e : Expr} {te : TE} {k : Nat} {p1 p2 p3 pos : Pos} (he : PE X e te) : PE X (.Subscript e (.Slice none none (some (.UnaryOp .USub (.Constant (.int 1) k p1) p2)) p3) pos) (tRevT X.K te) := by
  refine ⟨fun pins s σ H Q I h => ?_⟩
  refine Subscript_ (thn (he.run pins s σ H _ I h) fun v s1 ⟨x, H1, I1, r1, q1⟩ => ?_)
  obtain ⟨a, xs, ex, hx, q⟩ := q1
  subst ex
  cases r1
  have hst : PO X (some (.UnaryOp .USub (.Constant (.int 1) k p1) p2)) (tPart (tUn (rU fun i => .int (-i)) (tC (.int 1)))) := po_some (pe_un un_neg pe_int)
  refine wpAny_Slice (thn (po_none.run pins s1 σ H1 (fun o H2 => o = none ∧ H2 = H1) I1 ⟨rfl, rfl⟩) fun vl s2 ⟨l, H2, I2, pl, el, e2⟩ => ?_)
  subst el e2
  refine thn (po_none.run pins s2 σ H2 (fun o H3 => o = none ∧ H3 = H2) I2 ⟨rfl, rfl⟩) fun vu s3 ⟨u, H3, I3, pu, eu, e3⟩ => ?_
  subst eu e3
  refine thn (hst.run pins s3 σ H3 (fun o H4 => o = some (-1) ∧ H4 = H3) I3 ⟨1, rfl, -1, rfl, rfl, rfl⟩) fun vs s4 ⟨o, H4, I4, ps, eo, e4⟩ => ?_
  subst eo e4
  have I5 : Inv X pins σ H4 { s4 with heap := s4.heap.push { cls := .type "slice", data := .fields #[vl, vu, vs] } } := I4.kept (t' := s4.toks) fun b ob q => Heap.get?_push_of_some _ q
  obtain ⟨its, r, ht, hz⟩ := I5.tuple hx
  have hlen := r.length
  cases pl
  cases pu
  show wpAny (model X.prog X.w) X.A (subscriptTail e (.Slice none none (some (.UnaryOp .USub (.Constant (.int 1) k p1) p2)) p3) (.ref a) (.ref s4.heap.objs.size)) (EP X pins σ Q) X.xe { s4 with heap := s4.heap.push { cls := .type "slice", data := .fields #[.none, .none, vs] } }
  refine tail_any (ops := [.ref a, .ref s4.heap.objs.size]) ht.typeIs (PyProof.Rows.slot_tuple_getitem.lookup) ?_ (by with_unfolding_all rfl)
  refine HT.getItem_tuple_rev ht (Heap.IsSliceOf.new _ .none .none vs) ps ?_ (by rw [List.size_toArray]; omega)
  refine ⟨.ref _, _, I5.laid (t' := s4.toks) (o := .tup xs.reverse) (fun b ob q => Heap.get?_push_of_some _ q) (Nat.le_refl _) ?_, rfl, q _ (I5.hok.fresh (Nat.le_refl _))⟩
  exact ⟨by rw [List.length_reverse]; exact hz, _, r.reverse, IsTup.new _ _⟩
end
instance {K : PySem.W.Frag} {σ : L2.St} {H : Hp} {Q : VK} {te : TE} : Stp (tRevT K te σ H Q) (te σ H fun x H1 => rRevT K x H1 Q) := ⟨id⟩
theorem k_revT {K : PySem.W.Frag} {H : Hp} {Q : VK} {a : Addr} {xs : List V} (hs : SqT K H a xs) (h : ∀ p H', H p = none → Same H H' → H' p = some (.tup xs.reverse) → Q (.ref p) H') : rRevT K (.ref a) H Q := ⟨a, xs, rfl, hs, fun p np => h p _ np (same_new np) upd_same⟩
/-! ### is, is not of truths -/
def xIsB : R2 := rIsB
def xNotB : R2 := rNotB
instance {a b : Bool} {H : Hp} {Q : VK} : Stp (xIsB (.bl a) (.bl b) H Q) (Q (.bl (decide (a = b))) H) := ⟨fun h => ⟨a, b, rfl, rfl, h⟩⟩
instance {a b : Bool} {H : Hp} {Q : VK} : Stp (xNotB (.bl a) (.bl b) H Q) (Q (.bl (!decide (a = b))) H) := ⟨fun h => ⟨a, b, rfl, rfl, h⟩⟩
/-! ### tuple(xs) of a list -/
def rTupOf (K : PySem.W.Frag) : List V → Hp → VK → Prop := fun xs H Q => ∃ p ys, xs = [.ref p] ∧ ((SqL K H p ys ∧ ∀ l, H l = none → Q (.ref l) (upd H l (.tup ys))) ∨ (SqT K H p ys ∧ Q (.ref p) H))
theorem q_tupOf {X : Cx} : CallR X (.type "tuple") (rTupOf X.K) := call_tuple_of
theorem k_tupOf {K : PySem.W.Frag} {H : Hp} {Q : VK} {p : Addr} {ys : List V} (hs : SqL K H p ys) (h : ∀ l H', H l = none → Same H H' → H' l = some (.tup ys) → Q (.ref l) H') : rTupOf K [.ref p] H Q := ⟨p, ys, rfl, .inl ⟨hs, fun l nl => h l _ nl (same_new nl) upd_same⟩⟩
/-! ### [d[k] for k in d] -/
theorem lc_vals {σ : L2.St} {H : Hp} {Q : VK} {p : Addr} {kvs : List (Key × V)} {i l : Nat} (hd : H p = some (.dK kvs)) (hv0 : (wipe σ [l])[i]? = some (some (.ref p)) ∧ σ[i]? = some (some (.ref p))) (hv : ∀ x : V, ((wipe σ [l]).set l (some x))[i]? = some (some (.ref p))) (hl : ∀ x : V, ((wipe σ [l]).set l (some x))[l]? = some (some x)) (hwp : ∀ x : V, wipe ((wipe σ [l]).set l (some x)) [l] = wipe σ [l])
    (hn : kvs.length ≤ 50000) (nd : ∀ kv ∈ kvs, valV kvs kv.1 = some kv.2) (h : ∀ D H', H D = none → Same H H' → H' D = some (.lst (kvs.map (·.2))) → Q (.ref D) H') :
    tLockE (tLc (iKeys (tVar i)) (gName l) tYes (tDGet (tVar i) (tVar l)) [l]) σ H Q := by
  refine ⟨p, .dK kvs, hd, trivial, fun od => ?_⟩
  refine ⟨_, hv0.2, p, od, rfl, .inl ⟨kvs, upd_same, fun D nD => ?_⟩⟩
  have Dp : D ≠ p := fun z => by rw [z, upd_same] at nD; cases nD
  have nD' : H D = none := by rw [upd_ne Dp] at nD; exact nD
  refine lc_it walk_keys (fun j H' => H' = upd (upd H p (.frz od (.dK kvs))) D (.lst ((kvs.take j).map (·.2)))) (by simp) (fun j H' _ e => by rw [e, upd_ne (fun z => Dp z.symm), upd_same]) ?_ ?_
  · rintro j x H1 H2 hj rfl ⟨rfl, k, v, hk, rfl⟩
    refine ⟨hwp _, ?_⟩
    refine k_yes (iteT ?_)
    refine ⟨_, hv _, _, hl _, p, v, rfl, .inl ⟨kvs, k, .inr ⟨od, by rw [upd_ne (fun z => Dp z.symm), upd_same]⟩, rfl, (nd _ (List.mem_of_getElem? hk)).symm⟩, _, upd_same, szl (by rw [List.length_map, List.length_take]; omega), ?_⟩
    rw [upd_upd, List.take_add_one, hk, List.map_append]
    rfl
  · rintro H1 rfl
    refine ⟨by rw [upd_ne (fun z => Dp z.symm), upd_same], ?_⟩
    refine h D _ nD' (fun b o hb => ?_) ?_
    · by_cases c : b = p
      · rw [c, upd_same, ← hd, ← c, hb]
      · have bD : b ≠ D := fun z => by rw [z, nD'] at hb; cases hb
        rw [upd_ne c, upd_ne bD, upd_ne c]; exact hb
    · rw [upd_ne Dp, upd_same, List.take_length]
/-! ### d.get(k) -/
def gD1N (a : Addr) (y : V) (H : Hp) (Q : VK) : Prop := ∃ o, DGet H a y o ∧ Q (o.getD .non) H
instance {σ : L2.St} {H : Hp} {Q : VK} {td ty : TE} : Stp (tDGet1 td ty σ H Q) (td σ H fun x H1 => aD x H1 fun a => ty σ H1 fun y H2 => gD1N a y H2 Q) := ⟨id⟩
theorem k_gD1N {H : Hp} {Q : VK} {p : Addr} {kvs : List (Key × V)} {t : Int} (e : H p = some (.dK kvs)) (h : Q ((valV kvs (.inl t)).getD .non) H) : gD1N p (.int t) H Q := ⟨_, DGet.k (k := .inl t) e, h⟩
/-! ### list(reversed(xs)) of a list -/
section
variable {X : Cx}
def rLRv (K : PySem.W.Frag) (x : V) (H : Hp) (Q : VK) : Prop := ∃ a xs, x = .ref a ∧ SqL K H a xs ∧ ∀ p, H p = none → Q (.ref p) (upd H p (.lst xs.reverse))
def tLRv (K : PySem.W.Frag) (te : TE) : TE := fun σ H Q => te σ H fun x H1 => rLRv K x H1 Q
theorem pe_lRv {e : Expr} {te : TE} {p p2 pos pos2 : Pos} (hc : X.calm = true) (hg : Gl X "list") (hm : X.mg "list" = none) (hg2 : Gl X "reversed") (hm2 : X.mg "reversed" = none) (he : PE X e te)
    (hs : starEach [e] X.env = (false, eval e X.env) :: starEach [] X.env := by rfl)
    (hs2 : starEach [.Call (.Name "reversed" p2) [e] [] pos2] X.env = (false, eval (.Call (.Name "reversed" p2) [e] [] pos2) X.env) :: starEach [] X.env := by rfl) :
    PE X (.Call (.Name "list" p) [.Call (.Name "reversed" p2) [e] [] pos2] [] pos) (tLRv X.K te) := by
  refine ⟨fun pins s σ H Q I h => ?_⟩
  refine Call_ (ld_blt I hg hm boot_list (PyProof.Rows.callWith_type1 (args_cons (Call_ (ld_blt I hg2 hm2 PyProof.Rows.boot_reversed (PyProof.Rows.callWith_type1 (args_cons (thn (he.run pins s σ H _ I h) fun u s1 ⟨v, H1, I1, r1, q1⟩ => args_nil ?_) hs) hs rfl))) hs2) hs2 rfl))
  obtain ⟨a, xs, ev, hq, q⟩ := q1
  subst ev
  obtain rfl : u = Value.ref a := r1
  obtain ⟨its, rv, p', hz⟩ := I1.list hq
  refine call_reversed_list p'.isList (args_nil ?_)
  have k0 : ∀ b o, s1.heap.get? b = some o → (s1.heap.push (revObj a ((its.toArray.size : Int) - 1))).get? b = some o := fun b o e => Heap.get?_push_of_some _ e
  have I2 : Inv X pins σ H1 { s1 with heap := s1.heap.push (revObj a ((its.toArray.size : Int) - 1)) } := I1.kept (t' := s1.toks) k0
  obtain ⟨f0, f1, f2, f3, f4, f5⟩ := I1.fpOk (H' := H1) (b := s1.heap.objs.size) (Nat.le_refl _) (I1.hok.fresh (Nat.le_refl _))
  have hl := p'.isList
  obtain ⟨ol, hol, _⟩ := id hl
  have hne : a ≠ s1.heap.objs.size := Nat.ne_of_lt (Heap.lt_size hol)
  have hn : its.toArray.size ≤ sizeLine := by rw [List.size_toArray, ← rv.length]; exact hz
  refine HT.call_list_rev (s := { s1 with heap := s1.heap.push (revObj a ((its.toArray.size : Int) - 1)) }) (I1.ok.hd hc) ⟨_, Heap.get?_push_size _ rfl, rfl, rfl⟩ (hl.push _) hne hn fun h' tk acc c' hk hS' hi => ?_
  refine ⟨.ref _, upd H1 _ (.lst xs.reverse), I2.turnedNew (t' := tk) (ch := [s1.heap.objs.size]) (fun b o hb e => hk b o (fun z => hb (by rw [z]; exact List.mem_singleton.mpr rfl)) e) (fun b hb => by rw [List.mem_singleton.mp hb]; exact ⟨f0, f1, f2, f3, f4, f5⟩) (Nat.le_refl _) (show ObjOk X.prog X.w _ _ _ (.lst xs.reverse) from ⟨by rw [List.length_reverse]; exact hz, acc.toList, c', vals_rev rv hi, by rw [Array.toArray_toList]; exact hS'⟩), rfl, q _ (I2.hok.fresh (Nat.le_refl _))⟩
instance {K : PySem.W.Frag} {σ : L2.St} {H : Hp} {Q : VK} {te : TE} : Stp (tLRv K te σ H Q) (te σ H fun x H1 => rLRv K x H1 Q) := ⟨id⟩
theorem k_lRv {K : PySem.W.Frag} {H : Hp} {Q : VK} {a : Addr} {xs : List V} (hs : SqL K H a xs) (h : ∀ p H', H p = none → Same H H' → H' p = some (.lst xs.reverse) → Q (.ref p) H') : rLRv K (.ref a) H Q := ⟨a, xs, rfl, hs, fun p np => h p _ np (same_new np) upd_same⟩
end
/-! ### xs + ys of any two lists -/
section
variable {X : Cx}
def rCatS (K : PySem.W.Frag) : R2 := fun x y H Q => ∃ l b xs zs, x = .ref l ∧ y = .ref b ∧ SqL K H l xs ∧ SqL K H b zs ∧ xs.length + zs.length ≤ sizeLine ∧ ∀ p, H p = none → Q (.ref p) (upd H p (.lst (xs ++ zs)))
theorem op_catS : OpR X (binaryOp .Add) (rCatS X.K) := by
  intro pins s σ H x y v u Q I rx ry h
  obtain ⟨l, b, xs, zs, rfl, rfl, hH, hB, hz, q⟩ := h
  cases rx
  cases ry
  obtain ⟨its, r, p1, _⟩ := I.list hH
  obtain ⟨its2, r2, p2, _⟩ := I.list hB
  have l1 := r.length
  have l2 := r2.length
  obtain ⟨⟨cls, dd, data, sl⟩, ho, hc, n, hd⟩ := p1.isList
  obtain ⟨⟨cls2, dd2, data2, sl2⟩, ho2, hc2, n2, hd2⟩ := p2.isList
  simp only at hc hd hc2 hd2
  subst hc hd hc2 hd2
  have e : its.toArray ++ its2.toArray = (its ++ its2).toArray := by simp
  refine concat_meets ⟨_, ho, rfl⟩ ⟨_, ho2, rfl⟩ noFill_list_add seq_list_add PySem.F.slot_list_add PySem.F.entry_list_add (PySem.F.args_list_add_2 _ _) (list_addW l b its.toArray its2.toArray n n2 dd dd2 sl sl2 (by simp only [List.size_toArray]; omega)) ⟨ho, ho2, ?_⟩
  rw [e]
  exact ⟨.ref _, _, I.lnew (t' := s.toks) (r.append r2) (by rw [List.length_append]; exact hz), rfl, q _ I.fresh⟩
theorem k_catS {K : PySem.W.Frag} {H : Hp} {Q : VK} {l b : Addr} {xs zs : List V} (hl : SqL K H l xs) (hb : SqL K H b zs) (hz : xs.length + zs.length ≤ 100000) (h : ∀ p H', H p = none → Same H H' → H' p = some (.lst (xs ++ zs)) → Q (.ref p) H') : rCatS K (.ref l) (.ref b) H Q := ⟨l, b, xs, zs, rfl, rfl, hl, hb, sz hz, fun p np => h p _ np (same_new np) upd_same⟩
end
/-! ### xs.count(k) of a list of tuples and whole numbers -/
def isK (k : Int) : V → Bool
  | .int i => decide (i = k)
  | _ => false
def isKU (k : Int) : Value → Bool
  | .int i _ => decide (i = k)
  | _ => false
theorem isK_rel {k : Int} {v : V} {u : Value} (r : RelV v u) (h : (∃ p, v = .ref p) ∨ ∃ i, v = .int i) : isKU k u = isK k v := by
  rcases h with ⟨p, rfl⟩ | ⟨i, rfl⟩
  · cases r; rfl
  · obtain ⟨t, rfl⟩ := r; rfl
theorem isK_cnt {k : Int} : ∀ {vs : List V} {us : List Value}, Vals vs us → (∀ v ∈ vs, (∃ p, v = .ref p) ∨ ∃ i, v = .int i) → us.countP (isKU k) = vs.countP (isK k)
  | _, _, .nil, _ => rfl
  | v :: vs, u :: us, .cons r rs, h => by
    rw [List.countP_cons, List.countP_cons, isK_rel r (h v List.mem_cons_self), isK_cnt rs fun x hx => h x (List.mem_cons_of_mem _ hx)]
def rCntD (K : PySem.W.Frag) : V → List V → Hp → VK → Prop := fun x xs H Q => ∃ (a : Addr) (ys : List V) (ds : List PyData) (k : Int), x = V.ref a ∧ xs = [.int k] ∧ SqL K H a ys ∧ DpAll K H ys ds ∧ PyData.canLayAll0 ds = true ∧ (∀ d ∈ ds, (∃ es, d = .tuple es) ∨ ∃ i, d = .int i) ∧ Q (.int (ys.countP (isK k) : Nat)) H
theorem lay_mem : ∀ {ds : List PyData}, PyData.canLayAll0 ds = true → ∀ d ∈ ds, d.canLay0 = true
  | [], _, d, h => by cases h
  | a :: r, h, d, hd => by
    have h' : (a.canLay0 && PyData.canLayAll0 r) = true := h
    rw [Bool.and_eq_true] at h'
    rcases List.mem_cons.mp hd with rfl | hd
    · exact h'.1
    · exact lay_mem h'.2 d hd
theorem vals_data {K : PySem.W.Frag} {H : Hp} : ∀ {vs : List V} {us : List Value} {ds : List PyData}, Vals vs us → DpAll K H vs ds → ∀ u ∈ us, ∃ v d, RelV v u ∧ Dp K H v d ∧ d ∈ ds
  | _, _, _, .nil, _, u, hu => by cases hu
  | _, _, _, .cons r rs, .cons h hs, u, hu => by
    rcases List.mem_cons.mp hu with rfl | hu
    · exact ⟨_, _, r, h, List.mem_cons_self⟩
    · obtain ⟨v, d, h1, h2, h3⟩ := vals_data rs hs u hu
      exact ⟨v, d, h1, h2, List.mem_cons_of_mem _ h3⟩
theorem data_kind {K : PySem.W.Frag} {H : Hp} {v : V} {d : PyData} (h : Dp K H v d) (k : (∃ es, d = .tuple es) ∨ ∃ i, d = .int i) : (∃ p, v = .ref p) ∨ ∃ i, v = .int i := by
  rcases k with ⟨es, rfl⟩ | ⟨i, rfl⟩
  · obtain ⟨a, _, e, _⟩ := dp_tup h; exact .inl ⟨a, e⟩
  · exact .inr ⟨i, dp_int h⟩
theorem mt_lcountD {X : Cx} (hu : X.A.units + 64 < cLine) : MtR X "list.count" (rCntD X.K) := by
  intro pins s σ H x xs v us Q I rx rxs h
  obtain ⟨a, ys, ds, k, rfl, rfl, hs, dys, lay, kd, q⟩ := h
  cases rx
  cases rxs with
  | cons ry rt =>
    rename_i uy ut
    cases rt
    obtain ⟨t, rfl⟩ := ry
    obtain ⟨its, rv, ⟨⟨cls, dd, data, sl⟩, n, ho, hc, hdn, hd⟩, hlen⟩ := I.list hs
    simp only at hc hd
    subst hc hd
    refine call_meets PySem.F.slot_list_count ⟨_, ho, rfl⟩ PySem.F.entry_list_count (PySem.F.args_list_count_2 _ _)
      (SeqAt.list_countAt a its.toArray n dd sl (.int k t) (isKU k)) ⟨ho, fun u' hu' => ?_, ?_⟩
    · obtain ⟨w, d, r1, r2, r3⟩ := vals_data rv dys u' (by simpa using hu')
      obtain ⟨as, rd⟩ := Dp.reads I d w u' r2 r1
      have eq := SeqAt.eqAt_reads d (.int k) X.A.in1 s u' (.int k t) as _ rd (Reads.int k t) (lay_mem lay d r3) rfl (by
        have : min d.depth (PyData.int k).depth ≤ 0 := Nat.min_le_right _ _
        have e : X.A.in1.units = X.A.units + 1 := rfl
        rw [e]; omega)
      have e : PyData.eqv d (.int k) = isKU k u' := by
        rw [isK_rel r1 (data_kind r2 (kd d r3))]
        rcases kd d r3 with ⟨es, rfl⟩ | ⟨i, rfl⟩
        · obtain ⟨p, _, rfl, _⟩ := dp_tup r2; rfl
        · cases dp_int r2
          show (i == k) = decide (i = k)
          by_cases c : i = k
          · rw [c, decide_eq_true rfl]; simp
          · rw [decide_eq_false c]; simpa using c
      rw [e] at eq
      exact eq
    · have ec : its.toArray.toList.countP (isKU k) = ys.countP (isK k) := isK_cnt rv fun v hv => by
        obtain ⟨i, hi, e⟩ := List.mem_iff_getElem.mp hv
        obtain ⟨d, hd, dd⟩ := dpa_get dys (show ys[i]? = some v by rw [List.getElem?_eq_getElem hi, e])
        exact data_kind dd (kd d (List.mem_of_getElem? hd))
      refine ⟨.int (ys.countP (isK k) : Nat), H, I.tok _, ⟨s.toks, ?_⟩, q⟩
      show Value.int ((its.toArray.toList.countP (isKU k) : Nat) : Int) s.toks = Value.int ((ys.countP (isK k) : Nat) : Int) s.toks
      rw [ec]
end Cm
namespace HT
open PySem PySem.Spec PyProof.Rows L2
/-! ### a set of whole numbers made of a list, its table in order -/
/-- the set at S holds just the first i numbers -/
def Grown (w : World) (val : Nat → Int) (S : Addr) (i : Nat) (h : Heap) : Prop := SetR w h S (fun k => (firstMet val i).any (· == k)) (firstMet val i).length
section
variable {prog : Program} {w : World} {A : Around} {E : Value → Shared → Prop} {s : Shared}
theorem Grown.next {val : Nat → Int} {S : Addr} {i : Nat} {tk : Tok} {Q : Bool → Shared → Prop} (g : Grown w val S i s.heap) (room : i + 1 < scanBound) (h : ∀ b h', Heap.SameBut S s.heap h' → Grown w val S (i + 1) h' → Q b { s with heap := h' }) :
    wpAny (model prog w) A (setAddHashed S (.int (val i) tk) ((intKind prog w).hash (val i))) Q E s :=
  setR_add_hashed g (Nat.lt_of_le_of_lt (Nat.add_le_add_right (firstMet_length_le val i) 1) room) fun h' sb r => h _ h' sb (by
    unfold Grown
    rw [firstMet_succ, step_length]
    exact r.congr fun k => step_any _ _ k)
theorem grow_all {I : Addr} {fp wr : List Addr} {G : Array GenState → Array GenState → Prop} {n : Nat} {P : Nat → Value → Prop} {St : Nat → Shared → Prop} {R : Result → Shared → Prop} {S : Addr} {val : Nat → Int} {s0 : Shared}
    (W : WalksS prog w A.in1 I fp wr G n P St) (out : S ∉ fp) (hin : ∀ i v, P i v → ∃ t, v = .int (val i) t) (room : n + 1 < scanBound)
    (fin : ∀ z, Moved (S :: wr) G s0 z → Grown w val S n z.heap → R (.ok (.ret .none)) z) :
    ∀ (left i : Nat) (z : Shared), i + left = n → St i z → Moved (S :: wr) G s0 z → Grown w val S i z.heap → codeAny (model prog w) A (.builtin "set.update.loop" ⟨[.ref S, .ref I], []⟩) R z := by
  have away : S ∉ wr := fun y => out (W.sub _ y)
  have wider : ∀ b ∈ wr, b ∈ S :: wr := fun _ y => List.mem_cons_of_mem _ y
  intro left
  induction left with
  | zero =>
    rintro i z e st mv g
    obtain rfl : i = n := e
    refine codeAny_builtin F.entry_set_update_loop ?_
    rw [Around.under_plainId F.plain_set_update_loop _]
    exact wpAny_bind (W.done z _ _ st fun z' m => wpAny_pure (fin z' (Moved.trans W.gtrans mv (m.mono wider)) (g.at fun o y => m.heap S _ away y)))
  | succ left ih =>
    rintro i z e st mv g
    refine codeAny_builtin F.entry_set_update_loop ?_
    rw [Around.under_plainId F.plain_set_update_loop _]
    refine wpAny_bind (W.item i z _ _ (by omega) st fun v z' pv st' m => ?_)
    obtain ⟨t, rfl⟩ := hin i v pv
    have g' : Grown w val S i z'.heap := g.at fun o y => m.heap S _ away y
    refine wpAny_bind (wpAny_holding (m := setAdd S (.int (val i) t)) ?_)
    unfold setAdd
    refine wpAny_holding (wpAny_bind ((intKind prog w).pyHash (k := val i) (intKind_is _ _ _ _) ?_))
    refine Grown.next (s := { z' with toks := z'.toks + 1 }) g' (by omega) fun _ h' sb g2 => ?_
    have keep : ∀ b o, b ≠ S → z'.heap.get? b = some o → h'.get? b = some o := fun b o hb y => by rw [sb.2 b hb]; exact y
    refine wpAny_pure ⟨plainId_quiet F.plain_set_update_loop _, ih (i + 1) _ (by omega) (W.frame _ z' _ _ st' (Nat.le_succ _) fun b hb o y => keep b o (fun c => out (c ▸ hb)) y) ?_ g2⟩
    exact Moved.trans W.gtrans mv ((m.mono wider).then_heap (Nat.le_succ _) fun b o hb y => keep b o (fun c => hb (c ▸ List.mem_cons_self)) y)
/-- the new set, before anything is in it -/
def bareSet (w : World) : Obj := { cls := .type "set", dict := none, data := .set #[] 0 (.fresh 0 0 (!w.params.followText "set-order")) }
theorem new_bare (x : Value) {Q : Value → Shared → Prop} (h : Q (.ref s.heap.objs.size) { s with heap := s.heap.push (bareSet w) }) :
    codeAny (model prog w) A (.call (.builtin "set.__new__") ⟨[.type "set", x], []⟩) (wants Q E) s := by
  refine codeAny_of_tree ?_
  show wpAny _ A.in1 (checkBuiltinCall "set.__new__" ⟨[.type "set", x], []⟩ >>= fun _ => again (.builtin "set.__new__" ⟨[.type "set", x], []⟩)) _ _ s
  refine wpAny_bind (wpAny_of_eq (F.newCall_set_1 x) (wpAny_pure ⟨plainId_quiet F.plain_set_new _, codeAny_builtin F.entry_set_new ?_⟩))
  rw [Around.under_plainId F.plain_set_new _]
  have sub := sub_set_self
  unfold Builtin.«set.__new__» Builtin.Frozenset.newClass
  obtain ⟨hp, g, d, tk, os⟩ := s
  dsimp only
  wp_walk
  exact wpAny_askSetting (wpAny_pure (by dsimp only; simp only [newObj]; exact wpAny_bind (wpAny_alloc (wpAny_pure (wpAny_pure h)))))
/-- set.__init__ of a bare set and a list of whole numbers -/
theorem init_bare {l : Addr} {items : Array Value} {ns : List Int} {R : Result → Shared → Prop} {S : Addr} (hh : A.handled = none) (hS : s.heap.get? S = some (bareSet w)) (hl : s.heap.IsList l items) (hi : IntsAre items.toList ns) (room : items.size + 1 < scanBound)
    (fin : ∀ (h' : Heap) (tk : Nat), Grown w (fun i => ns.getD i 0) S items.size h' → (∀ b o, b ≠ S → s.heap.get? b = some o → h'.get? b = some o) → R (.ok (.ret .none)) { s with heap := h', toks := tk }) :
    wpAny (model prog w) A.in1 (Builtin.«set.__init__» ⟨[.ref S, .ref l], []⟩)
      (fun f s' => match f with | .done f => R (.ok f) s' | .again c => c.quiet = true ∧ codeAny (model prog w) A c R s') (fun e s' => R (.error e) s') s := by
  obtain ⟨⟨cl, dc, dt, so⟩, hol, hcl, nl, hdl⟩ := id hl
  simp only at hcl hdl
  subst hcl hdl
  have noSet := F.sub_list_set
  have noFrozen := F.sub_list_frozenset
  have noDict : (Value.type "list" == Value.type "dict") = false := by decide
  unfold bareSet at hS
  unfold Builtin.«set.__init__» noKeywords Builtin.Frozenset.updateFrom
  generalize eI : pyIter = walkIt
  wp_walk
  subst eI
  refine wpAny_pyIter_list hl ?_
  refine wpAny_bind (wpAny_runValue ?_)
  have lt1 : l < s.heap.objs.size := Heap.lt_size hol
  have ltS : S < s.heap.objs.size := Heap.lt_size hS
  have neS : l ≠ S := fun z => by
    rw [z, hS] at hol
    simp at hol
  have old : ∀ b o, s.heap.get? b = some o → (s.heap.push { cls := .type "list_iterator", data := .fields #[.ref l, .int 0 0] }).get? b = some o := fun b o y => Heap.get?_push_of_some _ y
  refine grow_all (s0 := { s with heap := s.heap.push { cls := .type "list_iterator", data := .fields #[.ref l, .int 0 0] } }) (val := fun i => ns.getD i 0) ((Walks.list (prog := prog) (w := w) (A := A.in1.in1) hh s.heap.objs.size l (Nat.ne_of_lt lt1) items).toS) ?_ (fun i v y => IntsAre.int_at hi i v (by rw [Array.getElem?_toList]; exact y)) room (fun z m g => ?_) items.size 0 _ (by omega) ⟨⟨_, Heap.get?_push_size _ rfl, rfl, rfl⟩, hl.push _⟩ (Moved.refl fun _ => rfl) ?_
  · simp only [List.mem_cons, List.not_mem_nil, or_false, not_or]
    exact ⟨Nat.ne_of_lt ltS, fun z => neS z.symm⟩
  · have ez := Moved.eq_with m
    rw [ez]
    refine wpAny_pure ?_
    show wpAny _ _ (ret Value.none) _ _ _
    refine wpAny_pure (fin z.heap z.toks g fun b o hb y => m.heap b o (fun hm => ?_) (old b o y))
    rcases List.mem_cons.mp hm with hm | hm
    · exact hb hm
    · have e : b = s.heap.objs.size := by simpa using hm
      exact Nat.lt_irrefl _ (e ▸ Heap.lt_size y)
  · have g0 : SetR w (s.heap.push { cls := .type "list_iterator", data := .fields #[.ref l, .int 0 0] }) S (fun _ => false) 0 :=
      ⟨_, #[], 0, _, old _ _ hS, ⟨rfl, rfl, rfl⟩, rfl, (fun e he => by simp at he), (by simp), (fun k => by simp), (by decide), (by rfl), rfl, List.Pairwise.nil, by
        show _ ∨ (!w.params.followText "set-order") = true
        cases w.params.followText "set-order"
        · exact .inr rfl
        · exact .inl rfl⟩
    exact g0
/-- set(xs) of whole numbers, with what sorted needs -/
theorem set_of_ints {l : Addr} {items : Array Value} {ns : List Int} {Q : Value → Shared → Prop} (hh : A.handled = none) (hl : s.heap.IsList l items) (hi : IntsAre items.toList ns) (room : items.size + 1 < scanBound)
    (fin : ∀ (h' : Heap) (tk : Nat), Grown w (fun i => ns.getD i 0) s.heap.objs.size items.size h' → (∀ b o, s.heap.get? b = some o → h'.get? b = some o) → Q (.ref s.heap.objs.size) { s with heap := h', toks := tk }) :
    wpAny (model prog w) A (call (.type "set") [.ref l]) Q E s := by
  have T := F.called_set
  obtain ⟨c, tl, mro⟩ := T.mro
  have made := T.made
  have sub := T.sub
  have known := T.init.lookup
  have nt := T.notType
  have cc := T.canCreate
  have tc := F.typeCall_set_1 (.ref l)
  refine wpAny_call (codeAny_of_tree ?_)
  show wpAny _ _ (callAny (.type "set") _) _ _ _
  refine wpAny_pure ⟨Code.quiet_builtin _ (by decide +kernel), codeAny_builtin F.entry_type_call ?_⟩
  rw [Around.under_plain (weight_type_call_type "set" [.ref l] []) rfl]
  repeat (any_goals (first | assumption | wp_step))
  refine codeAny_mono (new_bare (w := w) (.ref l) (E := E) (Q := fun v z => v = .ref s.heap.objs.size ∧ z = { s with heap := s.heap.push (bareSet w) }) ⟨rfl, rfl⟩) fun r z hr => ?_
  cases r with
  | error e => exact hr
  | ok f =>
    cases f with
    | ret v =>
      obtain ⟨rfl, rfl⟩ := hr
      have hS : (s.heap.push (bareSet w)).get? s.heap.objs.size = some (bareSet w) := Heap.get?_push_size _ rfl
      have bind := T.init.bind (.ref s.heap.objs.size)
      have sub2 : isSubtype (bareSet w).cls (Value.type "set") = pure true := sub
      have known2 := known
      have ty : Shared.TypeIs { s with heap := s.heap.push (bareSet w) } (.ref s.heap.objs.size) "set" := ⟨_, hS, rfl⟩
      repeat (any_goals (first | assumption | wp_step))
      refine codeAny_mono (codeAny_call_builtin (R := wants (fun r z => r = .none ∧ ∃ h' tk, z = { s with heap := h', toks := tk } ∧ Grown w (fun i => ns.getD i 0) s.heap.objs.size items.size h' ∧ ∀ b o, s.heap.get? b = some o → h'.get? b = some o) E) T.init.plain F.entry_set_init (check_set_init_1 ty ?_)) fun r2 z2 h2 => ?_
      · refine init_bare (s := { s with heap := s.heap.push (bareSet w) }) (R := _) (S := s.heap.objs.size) (by simp [hh]) hS (hl.push _) hi room fun h' tk g k => ⟨rfl, h', tk, rfl, g, fun b o y => k b o (Nat.ne_of_lt (Heap.lt_size y)) (Heap.get?_push_of_some _ y)⟩
      · cases r2 with
        | error e => exact h2
        | ok f2 =>
          cases f2 with
          | ret v2 =>
            obtain ⟨rfl, h', tk, rfl, g, k⟩ := h2
            repeat (any_goals (first | assumption | wp_step))
            exact fin h' tk g k
          | _ => exact h2.elim
    | _ => exact hr.elim
end
end HT
namespace Cm
open PySem PySem.Spec PyProof.Rows L2
/-! ### sorted(set(xs)) of whole numbers -/
def rSrtU (K : PySem.W.Frag) (x : V) (H1 : Hp) (Q : VK) : Prop := ∃ (l : Addr) (ns : List Int), x = .ref l ∧ SqL K H1 l (ns.map V.int) ∧ (ns.length ≤ 1000 ∧ unl ns ≤ 60) ∧ ∀ (ms : List Int) (p : Addr), ms.Pairwise (· < ·) → (∀ k, k ∈ ms ↔ k ∈ ns) → H1 p = none → Q (.ref p) (upd H1 p (.lst (ms.map V.int)))
def tSrtU (K : PySem.W.Frag) (ta : TE) : TE := fun σ H Q => ta σ H fun x H1 => rSrtU K x H1 Q
theorem met_mem {ns : List Int} (k : Int) : (PyProof.Rows.firstMet (fun i => ns.getD i 0) ns.length).any (· == k) = true ↔ k ∈ ns := by
  rw [firstMet_any]
  have e : (List.range ns.length).map (fun i => ns.getD i 0) = ns := by
    refine List.ext_getElem? fun i => ?_
    rw [List.getElem?_map]
    by_cases c : i < ns.length
    · rw [List.getElem?_range c, List.getElem?_eq_getElem c]
      simp [List.getD_eq_getElem?_getD, c]
    · rw [List.getElem?_eq_none (by simpa using c), List.getElem?_eq_none (by simpa using c)]; rfl
  rw [e, List.any_eq_true]
  constructor
  · rintro ⟨x, hx, h⟩; rw [← eq_of_beq h]; exact hx
  · intro h; exact ⟨k, h, beq_self_eq_true k⟩
theorem pe_srtU {X : Cx} {a : Expr} {ta : TE} {p p2 q pos : Pos} (cm : X.calm = true) (gl : Gl X "sorted") (ml : X.mg "sorted" = none) (gs : Gl X "set") (ms : X.mg "set" = none) (pa : PE X a ta)
    (se : starEach [a] X.env = (false, eval a X.env) :: starEach [] X.env := by rfl) : PE X (.Call (.Name "sorted" p) [.Call (.Name "set" p2) [a] [] q] [] pos) (tSrtU X.K ta) := by
  constructor
  intro pins s σ H Q I h
  refine Call_ (ld_blt I gl ml boot_sorted (PyProof.Rows.callWith_builtin1 (PyProof.Rows.args_cons ?_ rfl) rfl rfl))
  refine Call_ (ld_blt I gs ms boot_set (PyProof.Rows.callWith_type1 (PyProof.Rows.args_cons (thn (pa.run pins s σ H _ I h) fun v s1 ⟨x, H1, J, rx, qx⟩ => PyProof.Rows.args_nil ?_) se) se rfl))
  obtain ⟨l, ns, rfl, hq, ⟨hl, few⟩, qx⟩ := qx
  cases rx
  obtain ⟨its, rv, pl, hz⟩ := J.list hq
  have size : its.toArray.size = ns.length := by rw [List.size_toArray, ← rv.length, List.length_map]
  unfold unl at few
  refine HT.set_of_ints (J.ok.hd cm) pl.isList (by simpa using RZ.intsAre_vals rv) (by rw [size]; unfold scanBound; omega) fun h' tk g k => PyProof.Rows.args_nil ?_
  rw [size] at g
  have J2 : Inv X pins σ H1 { s1 with heap := h', toks := tk } := J.kept k
  have g2 : SetR X.w ({ s1 with heap := h', toks := tk } : Shared).heap s1.heap.objs.size _ _ := g
  generalize s1.heap.objs.size = sa at g2 ⊢
  generalize ({ s1 with heap := h', toks := tk } : Shared) = s2 at J2 g2 ⊢
  refine sorted_set g2 (J2.ok.hd cm) (by omega) fun s3 p out c ms keep gens os hp hg hin hs hm len => ?_
  have fresh : H1 p = none := J2.hok.fresh hp
  have es : s3 = { s2 with heap := s3.heap, gens := s3.gens, drawn := s3.drawn, toks := s3.toks } := by
    cases s3
    cases s2
    cases os
    rfl
  rw [es]
  have line : (ms.map V.int).length ≤ sizeLine := by
    rw [List.length_map, len]
    exact sz (by omega)
  have J3 : Inv X pins σ (upd H1 p (.lst (ms.map V.int))) { s2 with heap := s3.heap, gens := s3.gens, drawn := s3.drawn, toks := s3.toks } :=
    J2.call (ch := []) (Un.laid keep hp fresh) (J2.hok.laid keep hp ⟨line, out.toList, c, vals_of_ints hin, hg⟩) (by rw [gens]; exact J2.bare) (fun _ z => nomatch z)
  exact ⟨.ref p, _, J3, rfl, qx ms p hs (fun k => (hm k).trans (met_mem k)) fresh⟩
instance {K : PySem.W.Frag} {σ : L2.St} {H : Hp} {Q : VK} {te : TE} : Stp (tSrtU K te σ H Q) (te σ H fun x H1 => rSrtU K x H1 Q) := ⟨id⟩
theorem k_srtU {K : PySem.W.Frag} {H : Hp} {Q : VK} {l : Addr} {ns : List Int} (hs : SqL K H l (ns.map V.int)) (hl : ns.length ≤ 1000) (hu : unl ns ≤ 60) (h : ∀ (ms : List Int) (p : Addr) H', ms.Pairwise (· < ·) → (∀ k, k ∈ ms ↔ k ∈ ns) → H p = none → Same H H' → H' p = some (.lst (ms.map V.int)) → Q (.ref p) H') : rSrtU K (.ref l) H Q := ⟨l, ns, rfl, hs, ⟨hl, hu⟩, fun ms p a b c => h ms p _ a b c (same_new c) upd_same⟩
end Cm
namespace Cm
open PySem PySem.Spec PyProof.Rows L2
/-! ### x (not) in range(..) -/
theorem rg_has (o : Addr) (p q st x : Int) (k1 k2 k3 k4 : Tok) :
    Meets (Builtin.«range.__contains__» ⟨[.ref o, .int x k4], []⟩) (fun _ W z => z.heap.get? o = some { cls := .type "range", data := .fields #[.int p k1, .int q k2, .int st k3], dict := none, slots := #[] } ∧ W (.ok (.ret (.bool (Builtin.Range.rangePlace? p q st x).isSome))) z) :=
  .of_wp fun prog w A W z hz => by
    obtain ⟨hp, gg, dd, kk, ss⟩ := z
    obtain ⟨there, hz⟩ := hz
    wp_walk
    exact ⟨_, rfl, hz⟩
def RgV (vs : List V) (a b c : Int) : Prop := (vs = [.int b] ∧ a = 0 ∧ c = 1) ∨ (vs = [.int a, .int b, .int c] ∧ 0 < c ∧ c < 1073741824)
def inRgB (neg : Bool) (a b c i : Int) : Bool := if neg then !(Builtin.Range.rangePlace? a b c i).isSome else (Builtin.Range.rangePlace? a b c i).isSome
def tInRg (neg : Bool) (ta : TE) (tA : TA) : TE := fun σ H Q => ta σ H fun x H1 => tA σ H1 fun vs H2 => ∃ i a b c, x = .int i ∧ RgV vs a b c ∧ Q (.bl (inRgB neg a b c i)) H2
def rgOp : Bool → CmpOp
  | true => .NotIn
  | false => .In
theorem cmp_rg {X : Cx} {neg : Bool} {pins : List (Addr × Obj)} {s : Shared} {σ : L2.St} {H : Hp} {Q : VK} {o : Addr} {p q st x : Int} {k1 k2 k3 k4 : Tok} (J : Inv X pins σ H s) (ho : s.heap.get? o = some { cls := .type "range", data := .fields #[.int p k1, .int q k2, .int st k3] })
    (h : Q (.bl (inRgB neg p q st x)) H) : wpAny (model X.prog X.w) X.A (compareOp (rgOp neg) (.int x k4) (.ref o)) (EP X pins σ Q) X.xe s := by
  have go : ∀ {R : Bool → Shared → Prop}, R (Builtin.Range.rangePlace? p q st x).isSome s → wpAny (model X.prog X.w) X.A (contains (Value.ref o) (Value.int x k4)) R X.xe s := fun h =>
    wpAny_contains_slot (T := "range") ⟨_, ho, rfl⟩ F.slot_range_contains (call_meets F.slot_range_contains ⟨_, ho, rfl⟩ F.entry_range_contains (F.args_range_contains_2 _ _) (rg_has o p q st x k1 k2 k3 k4) ⟨ho, wpAny_truthy_bool h⟩)
  cases neg with
  | false =>
    show wpAny _ _ (do return Value.bool (← contains (Value.ref o) (Value.int x k4))) _ _ s
    exact wpAny_bind (go (wpAny_pure ⟨.bl _, H, J, rfl, h⟩))
  | true =>
    show wpAny _ _ (do return Value.bool (!(← contains (Value.ref o) (Value.int x k4)))) _ _ s
    exact wpAny_bind (go (wpAny_pure ⟨.bl _, H, J, rfl, h⟩))
theorem pc_inRg {X : Cx} {neg : Bool} {a b : Expr} {rest : List Expr} {ta : TE} {tA : TA} {p pos : Pos} (hg : Gl X "range") (hm : X.mg "range" = none) (pa : PE X a ta) (pA : PA X (b :: rest) tA)
    (he : starEach (b :: rest) X.env = (false, eval b X.env) :: starEach rest X.env) (hpl : (backTo pos (starEach rest X.env)).any (·.1) = false) : PC X (rgOp neg) a (.Call (.Name "range" p) (b :: rest) [] pos) (tInRg neg ta tA) := by
  refine ⟨fun pins s σ H Q I h => ?_⟩
  refine thn (pa.run pins s σ H _ I h) fun v s1 ⟨x, H1, I1, rx, q1⟩ => ?_
  refine Call_ (ld_blt I1 hg hm boot_range (PyProof.Rows.callWith_type1 (thn (pA.run pos pins s1 σ H1 _ I1 q1) fun us s2 ⟨vs, H2, I2, rs, q2⟩ => ?_) he hpl))
  obtain ⟨i, lo, hi, st, rfl, hv, q⟩ := q2
  obtain ⟨k, rfl⟩ := rx
  rcases hv with ⟨rfl, rfl, rfl⟩ | ⟨rfl, c0, c1⟩
  · cases rs with | cons r1 rr =>
    cases rr
    obtain ⟨t1, rfl⟩ := r1
    refine call_range_1 ?_
    exact cmp_rg (I2.kept fun b o e => Heap.get?_push_of_some _ e) (Heap.get?_push_size _ rfl) q
  · cases rs with | cons r1 rr =>
    cases rr with | cons r2 rr =>
    cases rr with | cons r3 rr =>
    cases rr
    obtain ⟨t1, rfl⟩ := r1
    obtain ⟨t2, rfl⟩ := r2
    obtain ⟨t3, rfl⟩ := r3
    refine call_range_3 (by omega) ?_ (.inl (PyProof.noPylong_small (by omega)))
    exact cmp_rg (I2.kept fun b o e => Heap.get?_push_of_some _ e) (Heap.get?_push_size _ rfl) q
def iRgIn (neg : Bool) (x : V) (vs : List V) (H : Hp) (Q : VK) : Prop := ∃ i a b c, x = .int i ∧ RgV vs a b c ∧ Q (.bl (inRgB neg a b c i)) H
instance {σ : L2.St} {H : Hp} {Q : VK} {neg : Bool} {ta : TE} {tA : TA} : Stp (tInRg neg ta tA σ H Q) (ta σ H fun x H1 => tA σ H1 fun vs H2 => iRgIn neg x vs H2 Q) := ⟨id⟩
theorem place_has (a b c i : Int) (hc : 0 < c) : (Builtin.Range.rangePlace? a b c i).isSome = decide (a ≤ i ∧ i < b ∧ (i - a) % c = 0) := by
  unfold Builtin.Range.rangePlace?
  rw [if_pos hc]
  by_cases h1 : a ≤ i <;> by_cases h2 : i < b <;> by_cases h3 : (i - a) % c = 0 <;> simp [h1, h2, h3]
theorem k_inRg1 {neg : Bool} {H : Hp} {Q : VK} {i n : Int} (h : Q (.bl (if neg then !decide (0 ≤ i ∧ i < n) else decide (0 ≤ i ∧ i < n))) H) : iRgIn neg (.int i) [.int n] H Q := ⟨i, 0, n, 1, rfl, .inl ⟨rfl, rfl, rfl⟩, by
  have e : decide (0 ≤ i ∧ i < n ∧ (i - 0) % 1 = 0) = decide (0 ≤ i ∧ i < n) := by rw [decide_eq_decide]; constructor <;> omega
  unfold inRgB
  rw [place_has 0 n 1 i (by decide), e]
  exact h⟩
theorem k_inRg3 {neg : Bool} {H : Hp} {Q : VK} {i a b c : Int} (hc : 0 < c) (hc2 : c < 1073741824) (h : Q (.bl (if neg then !decide (a ≤ i ∧ i < b ∧ (i - a) % c = 0) else decide (a ≤ i ∧ i < b ∧ (i - a) % c = 0))) H) : iRgIn neg (.int i) [.int a, .int b, .int c] H Q := ⟨i, a, b, c, rfl, .inr ⟨rfl, hc, hc2⟩, by
  unfold inRgB
  rw [place_has a b c i hc]
  exact h⟩
end Cm

namespace Cm
open PySem PySem.Spec PyProof.Rows L2
/-! ### sorted(xs), xs a list of data -/
def byD (z : V × PyData) : PyData := z.2
def srtD (xs : List V) (ds : List PyData) : List (V × PyData) := (xs.zip ds).mergeSort (PySem.W.dataLe false byD)
def rSortD (K : PySem.W.Frag) : List V → Hp → VK → Prop := fun vs H Q => ∃ (a : Addr) (xs : List V) (ds : List PyData), vs = [V.ref a] ∧ SqL K H a xs ∧ DpAll K H xs ds ∧ PySem.W.AllAlike ds ∧ PySem.W.Sortable ds ∧ (∀ d ∈ ds, d.depth ≤ 62) ∧
  ∀ p, H p = none → Q (.ref p) (upd H p (.lst ((srtD xs ds).map Prod.fst)))
section
variable {X : Cx} {pins : List (Addr × Obj)} {σ : L2.St} {H : Hp} {s : Shared}
theorem zip_snd : ∀ {xs : List V} {ds : List PyData}, DpAll X.K H xs ds → (xs.zip ds).map byD = ds
  | _, _, .nil => rfl
  | _, _, .cons _ t => by rw [List.zip_cons_cons, List.map_cons, zip_snd t]; rfl
theorem zip_is (I : Inv X pins σ H s) : ∀ {xs : List V} {ds : List PyData} {us : List Value}, DpAll X.K H xs ds → Vals xs us → PySem.W.EachIs (fun v (z : V × PyData) => RelV z.1 v) us (xs.zip ds) ∧ PySem.W.EachIs (fun v (z : V × PyData) => ∃ as, Reads s.heap v (byD z) as) us (xs.zip ds)
  | _, _, _, .nil, .nil => ⟨.nil, .nil⟩
  | _, _, _, .cons h t, .cons r rt => by
    obtain ⟨h1, h2⟩ := zip_is I t rt
    exact ⟨.cons r h1, .cons (Dp.reads I _ _ _ h r) h2⟩
theorem is_vals : ∀ {us : List Value} {zs : List (V × PyData)}, PySem.W.EachIs (fun v (z : V × PyData) => RelV z.1 v) us zs → Vals (zs.map Prod.fst) us
  | _, _, .nil => .nil
  | _, _, .cons r t => .cons r (is_vals t)
theorem cr_sortD (hu : X.A.units + 64 < cLine) : CallR X (.builtin "sorted") (rSortD X.K) := by
  intro pins s σ H vs us Q I r h
  obtain ⟨a, xs, ds, rfl, hs, hd, al, so, dep, q⟩ := h
  obtain ⟨its, rv, hl, hz⟩ := I.list hs
  rw [Vals.ref1 r]
  obtain ⟨e, er⟩ := zip_is I hd rv
  have zs := zip_snd hd
  have lz : (xs.zip ds).length = xs.length := by
    rw [List.length_zip, dpa_len hd, Nat.min_self]
  refine PySem.W.sorted_data hl.isList e er (by rw [zs]; exact al) (by rw [zs]; exact so) (by rw [lz]; exact hz) (fun z hz' => ?_) (fun out lo eo => ?_)
  · have : byD z ∈ ds := by rw [← zs]; exact List.mem_map_of_mem hz'
    have := dep _ this
    omega
  · obtain ⟨ep, at1⟩ := PyProof.Rows.sortedAll_at s.heap its out.toArray
    refine ⟨.ref _, upd H (s.heap.objs.size + 1) (.lst ((srtD xs ds).map Prod.fst)), I.laid (t' := s.toks) (fun _ _ => PyProof.Rows.sortedAll_old) (Nat.le_succ _) ⟨?_, out, ep, is_vals eo, at1⟩, rfl, q _ (I.hok.fresh (Nat.le_succ _))⟩
    rw [List.length_map, srtD, List.length_mergeSort, lz]
    exact hz
end
end Cm
namespace HT
open PySem PySem.Spec PyProof.Rows L2
/-! ### x in d.values() -/
theorem ent_ci : entryFor table "proto.contains_iter" = some Builtin.«proto.contains_iter» := entryFor_of_tree (by kernel_rfl)
theorem pl_ci : plainId "proto.contains_iter" = true := by decide +kernel
theorem lk_vals : typeLookup (.type "dict_values") "__contains__" = pure none := by rfl
section
variable {prog : Program} {w : World} {A : Around} {E : Value → Shared → Prop} {s : Shared}
theorem seek_all {I : Addr} {fp wr : List Addr} {n : Nat} {P : Nat → Value → Prop} {St : Nat → Heap → Prop} {R : Result → Shared → Prop} {val : Nat → Int} {x : Int} {tk : Tok}
    (W : Walks prog w A.in1 I fp wr n P St) (hin : ∀ i v, P i v → ∃ t, v = .int (val i) t) :
    ∀ (left i : Nat) (z : Shared), i + left = n → St i z.heap → (∀ b h' k, (b = true ↔ ∃ j, i ≤ j ∧ j < n ∧ val j = x) → (∀ c o, c ∉ wr → z.heap.get? c = some o → h'.get? c = some o) → R (.ok (.ret (.bool b))) { z with heap := h', toks := k }) →
      codeAny (model prog w) A (.builtin "proto.contains_iter" ⟨[.ref I, .int x tk], []⟩) R z := by
  intro left
  induction left with
  | zero =>
    intro i z e st fin
    obtain rfl : i = n := e
    refine codeAny_builtin ent_ci ?_
    rw [Around.under_plainId pl_ci _]
    refine wpAny_bind (W.done z _ _ st fun h' k kp => ?_)
    refine wpAny_bind (wpAny_rule (wpAny_pure ?_))
    exact fin false h' k ⟨(fun y => by cases y), fun ⟨j, h1, h2, _⟩ => by omega⟩ kp
  | succ left ih =>
    intro i z e st fin
    refine codeAny_builtin ent_ci ?_
    rw [Around.under_plainId pl_ci _]
    refine wpAny_bind (W.item i z _ _ (by omega) st fun v h' k pv st' kp => ?_)
    obtain ⟨t, rfl⟩ := hin i v pv
    refine wpAny_bind (wpAny_eqBool_int ?_)
    by_cases c : val i = x
    · rw [show (val i == x) = true by rw [c]; simp, if_pos rfl]
      refine wpAny_bind (wpAny_rule (wpAny_pure ?_))
      exact fin true h' k ⟨fun _ => ⟨i, Nat.le_refl _, by omega, c⟩, fun _ => rfl⟩ kp
    · rw [show (val i == x) = false by simpa using c, if_neg (by decide)]
      refine wpAny_pure ⟨plainId_quiet pl_ci _, ih (i + 1) { z with heap := h', toks := k } (by omega) st' fun b h2 k2 hb kp2 => ?_⟩
      refine fin b h2 k2 (hb.trans ⟨fun ⟨j, h1, h2, h3⟩ => ⟨j, by omega, h2, h3⟩, fun ⟨j, h1, h2, h3⟩ => ⟨j, ?_, h2, h3⟩⟩) fun c o hc y => kp2 c o hc (kp c o hc y)
      by_cases e : j = i
      · exact absurd (e ▸ h3) c
      · omega
theorem in_view {K : Type} [DecidableEq K] {knd : PySem.KeyKind prog w K} {v d : Addr} {kvs : List (K × Value)} {ep : Nat} {is : List Int} {x : Int} {tk : Tok} {Q : Bool → Shared → Prop} (hh : A.handled = none) (hv : s.heap.IsValuesView v d) (hm : s.heap.DictAt knd d kvs ep)
    (vals : ∀ (i : Nat) (u : Value), (∃ k, kvs[i]? = some (k, u)) → ∃ t, u = Value.int (is.getD i 0) t) (ln : kvs.length = is.length)
    (fin : ∀ b h' k, (b = true ↔ x ∈ is) → (∀ c o, s.heap.get? c = some o → h'.get? c = some o) → Q b { s with heap := h', toks := k }) : wpAny (model prog w) A (contains (.ref v) (.int x tk)) Q E s := by
  have ty : s.TypeIs (.ref v) "dict_values" := hv.typeIs
  unfold contains
  refine wpAny_holding ?_
  rw [stdlibNamesSay?_of_typeIs ty]
  refine wpAny_bind (wpAny_specialOf ty lk_vals ?_)
  rw [if_neg (by decide)]
  refine wpAny_bind (wpAny_callSpecialUnlessNone?_none ty lk_vals ?_)
  refine wpAny_bind (wpAny_rule ?_)
  refine wpAny_bind (wpAny_tryCatch (wpAny_pyIter_values hv hm ?_))
  have dlt : d < s.heap.objs.size := by
    obtain ⟨o, es, ho, _⟩ := hm
    exact Heap.lt_size ho
  have up : ∀ b u, s.heap.get? b = some u → (s.heap.push { cls := .type "dict_valueiterator", data := .fields #[.ref d, .int 0 0, .int kvs.length 0, .int ep 0] }).get? b = some u := fun b u e => Heap.get?_push_of_some _ e
  refine wpAny_bind (wpAny_runValue (seek_all (val := fun i => is.getD i 0) (Walks.dictValues (knd := knd) (A := A.in1) hh s.heap.objs.size d (Nat.ne_of_lt dlt) kvs ep) vals kvs.length 0 _ (by omega) ⟨⟨_, Heap.get?_push_size _ rfl, rfl, rfl⟩, hm.keep up⟩ (fun b h' k hb kp => ?_)))
  refine wpAny_pure (fin b h' k (hb.trans ?_) fun c o y => kp c o (fun hc => ?_) (up c o y))
  · rw [List.mem_iff_getElem]
    constructor
    · rintro ⟨j, _, h2, h3⟩
      have hj : j < is.length := by omega
      refine ⟨j, hj, ?_⟩
      rw [← h3, List.getD_eq_getElem?_getD, List.getElem?_eq_getElem hj]; rfl
    · rintro ⟨j, hj, e⟩
      refine ⟨j, Nat.zero_le _, by omega, ?_⟩
      show is.getD j 0 = x
      rw [← e, List.getD_eq_getElem?_getD, List.getElem?_eq_getElem hj]; rfl
  · have e1 : c = s.heap.objs.size := List.mem_singleton.mp hc
    exact Nat.lt_irrefl _ (e1 ▸ Heap.lt_size y)
end
end HT
namespace Cm
open PySem PySem.Spec PyProof.Rows L2
def iInV (neg : Bool) (x y : V) (H : Hp) (Q : VK) : Prop := ∃ (i : Int) (a : Addr) (kvs : List (Key × V)) (is : List Int), x = .int i ∧ y = .ref a ∧ H a = some (.dK kvs) ∧ kvs.map (·.2) = is.map V.int ∧ Q (.bl (if neg then !decide (i ∈ is) else decide (i ∈ is))) H
def tInV (neg : Bool) (ta td : TE) : TE := fun σ H Q => ta σ H fun x H1 => td σ H1 fun y H2 => iInV neg x y H2 Q
instance {σ : L2.St} {H : Hp} {Q : VK} {neg : Bool} {ta td : TE} : Stp (tInV neg ta td σ H Q) (ta σ H fun x H1 => td σ H1 fun y H2 => iInV neg x y H2 Q) := ⟨id⟩
theorem pc_inVals {X : Cx} {neg : Bool} {a o : Expr} {apos mpos : Pos} {ta td : TE} (hc : X.calm = true) (pa : PE X a ta) (hd : PE X o td) (hbase : attributeBase o "values" X.env (eval o X.env) = eval o X.env := by rfl) (hline : (apos.endLine == mpos.line) = true := by rfl) :
    PC X (rgOp neg) a (.Call (.Attribute o "values" apos) [] [] mpos) (tInV neg ta td) := by
  refine ⟨fun pins s σ H Q I h => ?_⟩
  refine thn (pa.run pins s σ H _ I h) fun w0 s0 ⟨x, H0, I0, r0, q0⟩ => ?_
  refine wpAny_Call_method0_late hbase hline (thn (hd.run pins s0 σ H0 _ I0 q0) ?_)
  rintro v s1 ⟨y, H1, I1, r1, i, d, kvs, is, rfl, rfl, ha, hv, q⟩
  obtain rfl : v = Value.ref d := r1
  obtain ⟨tk, rfl⟩ := r0
  obtain ⟨_, hsys, vs, rel, dof⟩ := dk_of I1.hok ha
  obtain ⟨ep, dat⟩ := dof.dictAt
  obtain ⟨ob, es, ho, ex, hdat, hko, hpr, hnd⟩ := id dat
  have lv : vs.length = is.length := by
    have e1 : kvs.length = is.length := by simpa using congrArg List.length hv
    rw [← e1]; exact (KV.length rel).symm
  have vals : ∀ (i : Nat) (v : Value), (∃ k, vs[i]? = some (k, v)) → ∃ t, v = Value.int (is.getD i 0) t := by
    rintro j v ⟨k, hk⟩
    obtain ⟨z, h1, h2⟩ := KV.at' rel hk
    have e1 : (is.map V.int)[j]? = some z := by rw [← hv, List.getElem?_map, h1] <;> rfl
    rw [List.getElem?_map] at e1
    obtain ⟨m, hm, rfl⟩ := Option.map_eq_some_iff.mp e1
    obtain ⟨t, e3⟩ := h2
    exact ⟨t, by rw [e3, List.getD_eq_getElem?_getD, hm] <;> rfl⟩
  refine ⟨"dict", "dict.values", F.plainAttrs_dict, F.slot_dict_values, F.type_dict_values, ⟨ob, ho, ex.1⟩, fun b e => by cases e; exact ⟨ob, ho, ex.2.1⟩, Calls.callWith_builtin rfl (PySem.evalArgs_none ?_)⟩
  refine call_meetsIn F.slot_dict_values ⟨ob, ho, ex.1⟩ F.entry_dict_values (F.args_dict_values_1 _) (meets_dict_values (mixKind X.prog X.w) d hsys) ⟨⟨vs, dof⟩, ?_⟩
  have up : ∀ b u, s1.heap.get? b = some u → (s1.heap.push { cls := .type "dict_values", data := .fields #[.ref d] }).get? b = some u := fun b u e => Heap.get?_push_of_some _ e
  have go : ∀ {R : Bool → Shared → Prop}, (∀ b h' k, (b = true ↔ i ∈ is) → (∀ c o, (s1.heap.push { cls := .type "dict_values", data := .fields #[.ref d] }).get? c = some o → h'.get? c = some o) → R b { s1 with heap := h', toks := k }) → wpAny (model X.prog X.w) X.A (contains (.ref s1.heap.objs.size) (.int i tk)) R X.xe { s1 with heap := s1.heap.push { cls := .type "dict_values", data := .fields #[.ref d] } } := fun fin =>
    HT.in_view (I.ok.hd hc) (v := s1.heap.objs.size) (d := d) ⟨_, Heap.get?_push_size _ rfl, rfl, rfl⟩ (dat.keep up) vals lv fin
  have keep : ∀ {h' : Heap} {k : Nat}, (∀ c o, (s1.heap.push { cls := .type "dict_values", data := .fields #[.ref d] }).get? c = some o → h'.get? c = some o) → Inv X pins σ H1 { s1 with heap := h', toks := k } := fun {h' k} kp => I1.kept (t' := k) fun b u e => kp b u (up b u e)
  cases neg with
  | false =>
    show wpAny _ _ (do return Value.bool (← contains (Value.ref s1.heap.objs.size) (Value.int i tk))) _ _ _
    refine wpAny_bind (go fun b h' k hb kp => wpAny_pure ⟨.bl b, H1, keep kp, rfl, ?_⟩)
    have e : b = decide (i ∈ is) := by rw [Bool.eq_iff_iff, hb, decide_eq_true_eq]
    rw [e]; exact q
  | true =>
    show wpAny _ _ (do return Value.bool (!(← contains (Value.ref s1.heap.objs.size) (Value.int i tk)))) _ _ _
    refine wpAny_bind (go fun b h' k hb kp => wpAny_pure ⟨.bl !b, H1, keep kp, rfl, ?_⟩)
    have e : b = decide (i ∈ is) := by rw [Bool.eq_iff_iff, hb, decide_eq_true_eq]
    rw [e]; exact q
theorem k_inV {neg : Bool} {H : Hp} {Q : VK} {i : Int} {a : Addr} {kvs : List (Key × V)} {is : List Int} (e : H a = some (.dK kvs)) (hv : kvs.map (·.2) = is.map V.int) (h : Q (.bl (if neg then !decide (i ∈ is) else decide (i ∈ is))) H) : iInV neg (.int i) (.ref a) H Q := ⟨i, a, kvs, is, rfl, rfl, e, hv, h⟩
theorem k_nInV {H : Hp} {Q : VK} {i : Int} {a : Addr} {kvs : List (Key × V)} {is : List Int} (e : H a = some (.dK kvs)) (hv : kvs.map (·.2) = is.map V.int) (h : Q (.bl (!decide (i ∈ is))) H) : iInV true (.int i) (.ref a) H Q := k_inV e hv h
end Cm
namespace HT
open PySem PySem.Spec PyProof.Rows L2
/-! ### sum(lists, start) -/
def lsO (vs : List Value) (e : Nat) : Obj := { cls := .type "list", data := .seq vs.toArray e }
/-- the first i rows behind a start -/
def rowsTo (start : List Value) (row : Nat → List Value) : Nat → List Value
  | 0 => start
  | i + 1 => rowsTo start row i ++ row i
theorem rowsTo_len {start : List Value} {row : Nat → List Value} : ∀ {i n : Nat}, i ≤ n → (rowsTo start row i).length ≤ (rowsTo start row n).length
  | i, 0, h => by
    obtain rfl : i = 0 := by omega
    exact Nat.le_refl _
  | i, n + 1, h => by
    by_cases c : i = n + 1
    · rw [c]; exact Nat.le_refl _
    · have := rowsTo_len (start := start) (row := row) (show i ≤ n by omega)
      rw [rowsTo, List.length_append]
      omega
theorem a2_sum (a b : Value) : argsOk "sum" ⟨[a, b], []⟩ := by unfold argsOk; kernel_rfl
section
variable {prog : Program} {w : World} {A : Around} {E : Value → Shared → Prop} {s : Shared}
theorem cat_all {I : Addr} {fp wr : List Addr} {n : Nat} {P : Nat → Value → Prop} {St : Nat → Heap → Prop} {R : Result → Shared → Prop} {cs : Nat → Addr} {start : List Value} {row : Nat → List Value} {S : Addr} {h0 : Heap}
    (W : Walks prog w A.in1 I fp wr n P St) (hin : ∀ i v, P i v → v = .ref (cs i)) (hS : S ∉ fp) (hw : ∀ i h, St i h → ∀ b ∈ wr, b < h.objs.size) (rows : ∀ i, i < n → cs i ∉ wr ∧ cs i ≠ S ∧ ∃ e, h0.get? (cs i) = some (lsO (row i) e)) (room : (rowsTo start row n).length ≤ sizeLine) :
    ∀ (left i : Nat) (z : Shared) (T : Addr) (c e : Nat), i + left = n → St i z.heap → (∀ b o, b ∉ wr → b ≠ S → h0.get? b = some o → z.heap.get? b = some o) → z.heap.get? S = some { cls := .type "list", dict := none, data := .seq #[.ref T] c, slots := #[] } → T ∉ wr → T ≠ S → z.heap.get? T = some (lsO (rowsTo start row i) e) →
      (∀ T' h' k e', (left = 0 → T' = T) → (0 < left → ∀ q ∈ wr, q < T') → (∀ b o, b ∉ wr → b ≠ S → z.heap.get? b = some o → h'.get? b = some o) → h'.get? T' = some (lsO (rowsTo start row n) e') → R (.ok (.ret (.ref T'))) { z with heap := h', toks := k }) →
      codeAny (model prog w) A (.builtin "sum.loop" ⟨[.ref I, .ref S, rawInt 2, rawInt 0], []⟩) R z := by
  have hSw : S ∉ wr := fun h => hS (W.sub _ h)
  intro left
  induction left with
  | zero =>
    intro i z T c e hi st kp0 hz Tw TS eT fin
    obtain rfl : i = n := hi
    refine codeAny_builtin F.entry_sum_loop ?_
    rw [Around.under_plainId F.plain_sum_loop _]
    show wpAny _ A.in1 (seqItems? (.ref S) >>= _) _ _ z
    refine wpAny_bind (wpAny_seqItems hz rfl ?_)
    show wpAny _ A.in1 (tryCatch (pyNext (.ref I)) _ >>= _) _ _ z
    refine wpAny_bind (wpAny_tryCatch (W.done z _ _ st fun h' k kp => ?_))
    exact wpAny_pure (fin T h' k e (fun _ => rfl) (fun y => by omega) (fun b o hb _ y => kp b o hb y) (kp T _ Tw eT))
  | succ left ih =>
    intro i z T c e hi st kp0 hz Tw TS eT fin
    obtain ⟨cw, cS, e1, ec⟩ := rows i (by omega)
    refine codeAny_builtin F.entry_sum_loop ?_
    rw [Around.under_plainId F.plain_sum_loop _]
    show wpAny _ A.in1 (seqItems? (.ref S) >>= _) _ _ z
    refine wpAny_bind (wpAny_seqItems hz rfl ?_)
    show wpAny _ A.in1 (tryCatch (pyNext (.ref I)) _ >>= _) _ _ z
    refine wpAny_bind (wpAny_tryCatch (W.item i z _ _ (by omega) st fun v h' k pv st' kp => ?_))
    obtain rfl := hin i v pv
    have eS := kp S _ hSw hz
    have eT' := kp T _ Tw eT
    have ecz := kp (cs i) _ cw (kp0 (cs i) _ cw cS ec)
    have big : (rowsTo start row i).length + (row i).length ≤ sizeLine := by
      have := rowsTo_len (start := start) (row := row) (show i + 1 ≤ n by omega)
      rw [rowsTo, List.length_append] at this
      omega
    show wpAny _ A.in1 ((holding [Value.ref (cs i)] (binaryOp .Add (.ref T) (.ref (cs i)))).attempt >>= _) _ _ _
    refine wpAny_bind (wpAny_attempt (wpAny_holding (PySem.P.add_list eT' ecz ?_ (by rw [List.size_toArray, List.size_toArray]; exact big))))
    have ep : (rowsTo start row i).toArray ++ (row i).toArray = (rowsTo start row (i + 1)).toArray := by simp [rowsTo]
    rw [ep]
    have nS : S ≠ h'.objs.size := Nat.ne_of_lt (Heap.lt_size eS)
    have up : ∀ b o, h'.get? b = some o → (h'.push (lsO (rowsTo start row (i + 1)) 0)).get? b = some o := fun b o y => Heap.get?_push_of_some _ y
    have ePS := up S _ eS
    show wpAny _ A.in1 (updateSeq S (fun _ => #[.ref h'.objs.size]) >>= _) _ _ _
    refine wpAny_bind (wpAny_updateSeq ePS rfl ?_)
    have eS2 := Heap.get?_update_self (Obj.mapSeq fun _ => #[Value.ref h'.objs.size]) ePS rfl
    refine wpAny_bind (wpAny_letGo ?_)
    have keep2 : ∀ b o, b ≠ S → h'.get? b = some o → (((h'.push (lsO (rowsTo start row (i + 1)) 0)).update S (Obj.mapSeq fun _ => #[Value.ref h'.objs.size])).update S (Obj.mapSeq fun _ => #[Value.ref h'.objs.size])).get? b = some o := fun b o hb y =>
      (Heap.get?_update_other _ _ (Ne.symm hb)).trans ((Heap.get?_update_other _ _ (Ne.symm hb)).trans (up b o y))
    have eT2 : (((h'.push (lsO (rowsTo start row (i + 1)) 0)).update S (Obj.mapSeq fun _ => #[Value.ref h'.objs.size])).update S (Obj.mapSeq fun _ => #[Value.ref h'.objs.size])).get? h'.objs.size = some (lsO (rowsTo start row (i + 1)) 0) :=
      (Heap.get?_update_other _ _ nS).trans ((Heap.get?_update_other _ _ nS).trans (Heap.get?_push_size _ rfl))
    have big2 : ∀ b, b < h'.objs.size → b < (((h'.push (lsO (rowsTo start row (i + 1)) 0)).update S (Obj.mapSeq fun _ => #[Value.ref h'.objs.size])).update S (Obj.mapSeq fun _ => #[Value.ref h'.objs.size])).objs.size := fun b hb => by
      rw [Heap.size_update, Heap.size_update, Heap.size_push]
      omega
    refine wpAny_bind (wpAny_updateSeq eS2 rfl (wpAny_pure ⟨plainId_quiet F.plain_sum_loop _, ih (i + 1) _ h'.objs.size _ 0 (by omega) (W.frame _ _ _ st' fun b hb o y => keep2 b o (fun c => hS (c ▸ hb)) y) (fun b o hb hb2 y => keep2 b o hb2 (kp b o hb (kp0 b o hb hb2 y))) (Heap.get?_update_self _ eS2 rfl) ?_ (Ne.symm nS) eT2 fun T' h2 k2 e' h3 h4 h5 h6 => ?_⟩))
    · exact fun y => Nat.lt_irrefl _ (hw _ _ st' _ y)
    · refine fin T' h2 k2 e' (fun y => by omega) (fun _ q hq => ?_) (fun b o hb hb2 y => h5 b o hb hb2 (keep2 b o hb2 (kp b o hb y))) h6
      by_cases c0 : left = 0
      · rw [h3 c0]
        exact hw _ _ st' q hq
      · exact h4 (by omega) q hq
theorem nl_str : isSubtype (.type "list") (.type "str") = pure false := by rw [isSubtype_type]; kernel_rfl
theorem nl_bytes : isSubtype (.type "list") (.type "bytes") = pure false := by rw [isSubtype_type]; kernel_rfl
theorem nl_barr : isSubtype (.type "list") (.type "bytearray") = pure false := by rw [isSubtype_type]; kernel_rfl
theorem call_sumL {l b : Addr} {items : Array Value} {cs : Nat → Addr} {start : List Value} {row : Nat → List Value} {Q : Value → Shared → Prop} (hh : A.handled = none) (hl : s.heap.IsList l items) (hb : ∃ e, s.heap.get? b = some (lsO start e)) (hin : ∀ (i : Nat) v, items[i]? = some v → v = .ref (cs i)) (rows : ∀ i, i < items.size → ∃ e, s.heap.get? (cs i) = some (lsO (row i) e)) (room : (rowsTo start row items.size).length ≤ sizeLine)
    (fin : ∀ T h' k e', (items.size = 0 → T = b) → (0 < items.size → s.heap.objs.size ≤ T) → (∀ c o, s.heap.get? c = some o → h'.get? c = some o) → h'.get? T = some (lsO (rowsTo start row items.size) e') → Q (.ref T) { s with heap := h', toks := k }) :
    wpAny (model prog w) A (call (.builtin "sum") [.ref l, .ref b]) Q E s := by
  obtain ⟨eb, hb⟩ := hb
  refine call_function_tree F.kind_sum F.plain_sum F.entry_sum (a2_sum _ _) ?_
  unfold Builtin.«sum»
  simp only [List.length_cons, List.length_nil]
  rw [if_neg (by decide)]
  refine wpAny_bind (wpAny_of_eq (show Builtin.Builtins.bindParams "sum" ["start"] 0 ⟨[.ref b], []⟩ = pure [some (.ref b)] from rfl) ?_)
  refine wpAny_bind (wpAny_pyIter_list hl ?_)
  have lt : ∀ {c o}, s.heap.get? c = some o → c < s.heap.objs.size := fun e => Heap.lt_size e
  have up : ∀ c o, s.heap.get? c = some o → (s.heap.push { cls := .type "list_iterator", data := .fields #[.ref l, .int 0 0] }).get? c = some o := fun c o y => Heap.get?_push_of_some _ y
  have ty : ({ s with heap := s.heap.push { cls := .type "list_iterator", data := .fields #[.ref l, .int 0 0] } } : Shared).TypeIs (.ref b) "list" := ⟨_, up b _ hb, rfl⟩
  refine wpAny_bind (wpAny_pure ?_)
  simp only [List.forIn_cons, List.forIn_nil]
  refine wpAny_bind (wpAny_bind (wpAny_bind (wpAny_isInstance (T := "list") (b := false) ty nl_str ?_)))
  simp only [Bool.false_eq_true, if_false]
  refine wpAny_pure (wpAny_bind (wpAny_bind (wpAny_isInstance (T := "list") (b := false) ty nl_bytes ?_)))
  simp only [Bool.false_eq_true, if_false]
  refine wpAny_pure (wpAny_bind (wpAny_bind (wpAny_isInstance (T := "list") (b := false) ty nl_barr ?_)))
  simp only [Bool.false_eq_true, if_false]
  refine wpAny_pure (wpAny_pure ?_)
  refine wpAny_bind (wpAny_newObj_type ?_)
  obtain ⟨ol, hol, _⟩ := id hl
  have ltl := lt hol
  have sz : (s.heap.push { cls := .type "list_iterator", data := .fields #[.ref l, .int 0 0] }).objs.size = s.heap.objs.size + 1 := Heap.size_push _ _
  refine wpAny_pure ⟨plainId_quiet F.plain_sum_loop _, ?_⟩
  have up2 : ∀ c o, s.heap.get? c = some o → ((s.heap.push { cls := .type "list_iterator", data := .fields #[.ref l, .int 0 0] }).push { cls := .type "list", data := .seq #[.ref b] }).get? c = some o := fun c o y => Heap.get?_push_of_some _ (up c o y)
  have ne0 : ∀ {c : Addr}, c < s.heap.objs.size → c ∉ [s.heap.objs.size] := fun h hc => Nat.ne_of_lt h (List.mem_singleton.mp hc)
  have ne1 : ∀ {c : Addr}, c < s.heap.objs.size → c ≠ s.heap.objs.size + 1 := fun h => Nat.ne_of_lt (Nat.lt_succ_of_lt h)
  refine cat_all (h0 := s.heap) (start := start) (row := row) (Walks.list (prog := prog) (w := w) (A := A.in1) hh s.heap.objs.size l (Nat.ne_of_lt ltl) items) hin ?_ ?_ (fun i hi => ?_) room items.size 0 _ b 0 eb (by omega) ⟨⟨_, Heap.get?_push_of_some _ (Heap.get?_push_size _ rfl), rfl, rfl⟩, (hl.push _).push _⟩ (fun c o _ _ y => up2 c o y) (Heap.get?_push_size _ rfl) ?_ ?_ (up2 b _ hb) (fun T h' k e' h3 h4 h5 h6 => ?_)
  · simp only [List.mem_cons, List.not_mem_nil, or_false, not_or]
    constructor
    · show (s.heap.push _).objs.size ≠ _
      rw [sz]
      exact Nat.succ_ne_self _
    · show (s.heap.push _).objs.size ≠ _
      rw [sz]
      exact (ne1 ltl).symm
  · intro i h st c hc
    rw [show c = s.heap.objs.size from List.mem_singleton.mp hc]
    obtain ⟨⟨o, ho, _⟩, _⟩ := st
    exact Heap.lt_size ho
  · obtain ⟨e, he⟩ := rows i hi
    refine ⟨ne0 (lt he), ?_, e, he⟩
    show cs i ≠ (s.heap.push _).objs.size
    rw [sz]
    exact ne1 (lt he)
  · exact ne0 (lt hb)
  · show b ≠ (s.heap.push _).objs.size
    rw [sz]
    exact ne1 (lt hb)
  · refine fin T h' k e' h3 (fun hp => Nat.le_of_lt (h4 hp _ (List.mem_singleton.mpr rfl))) (fun c o y => ?_) h6
    · refine h5 c o (ne0 (lt y)) ?_ (up2 c o y)
      show c ≠ (s.heap.push _).objs.size
      rw [sz]
      exact ne1 (lt y)
end
end HT
namespace Cm
open PySem PySem.Spec PyProof.Rows L2
def rSumL (K : PySem.W.Frag) : List V → Hp → VK → Prop := fun vs H Q => ∃ (a b : Addr) (cs : List Addr) (rows : List (List V)) (st : List V), vs = [V.ref a, V.ref b] ∧ SqL K H a (cs.map V.ref) ∧ H b = some (.lst st) ∧ cs.length = rows.length ∧ (∀ (i : Nat) c r, cs[i]? = some c → rows[i]? = some r → H c = some (.lst r)) ∧ (st ++ rows.flatten).length ≤ 100000 ∧
  (rows = [] → Q (.ref b) H) ∧ (rows ≠ [] → ∀ p, H p = none → Q (.ref p) (upd H p (.lst (st ++ rows.flatten))))
theorem vals_at {xs : List V} {us : List Value} (h : Vals xs us) : ∀ {i : Nat} {u : Value}, us[i]? = some u → ∃ x, xs[i]? = some x ∧ RelV x u := by
  induction h with
  | nil => intro i u e; simp at e
  | cons r t ih =>
    intro i u e
    cases i with
    | zero =>
      simp only [List.getElem?_cons_zero, Option.some.injEq] at e
      subst e
      exact ⟨_, rfl, r⟩
    | succ i => exact ih (by simpa using e)
theorem rows_vals {st : List V} {rows : List (List V)} {start : List Value} {row : Nat → List Value} (h0 : Vals st start) (hr : ∀ i, i < rows.length → Vals (rows.getD i []) (row i)) : ∀ i, i ≤ rows.length → Vals (st ++ (rows.take i).flatten) (HT.rowsTo start row i)
  | 0, _ => by
    show Vals (st ++ (rows.take 0).flatten) start
    simpa using h0
  | i + 1, h => by
    have ih := rows_vals h0 hr i (by omega)
    have e : rows.take (i + 1) = rows.take i ++ [rows.getD i []] := by
      rw [List.take_add_one, List.getD_eq_getElem?_getD, List.getElem?_eq_getElem (show i < rows.length by omega)]; rfl
    rw [e, List.flatten_append, ← List.append_assoc]
    show Vals _ (HT.rowsTo start row i ++ row i)
    simpa using ih.append (hr i (by omega))
open Classical in
theorem cr_sumL {X : Cx} (hc : X.calm = true) : CallR X (.builtin "sum") (rSumL X.K) := by
  intro pins s σ H vs us Q I r h
  obtain ⟨a, b, cs, rows, st, rfl, hs, hb, hl, hrow, hz, q0, q1⟩ := h
  obtain ⟨its, rv, isl, _⟩ := I.list hs
  obtain ⟨z1, start, e1, r1, l1, g1⟩ := I.lstM hb
  obtain ⟨u1, u2, rfl, ra, rb⟩ := vals2 r
  obtain rfl : u1 = Value.ref a := ra
  obtain rfl : u2 = Value.ref b := rb
  have ln : its.toArray.size = rows.length := by rw [List.size_toArray, ← rv.length, List.length_map, hl]
  have each : ∀ i, i < rows.length → ∃ vsi e, Vals (rows.getD i []) vsi ∧ s.heap.get? (cs.getD i 0) = some (HT.lsO vsi e) := fun i hi => by
    have hc' : cs[i]? = some (cs.getD i 0) := by rw [List.getD_eq_getElem?_getD, List.getElem?_eq_getElem (by omega)]; rfl
    have hr' : rows[i]? = some (rows.getD i []) := by rw [List.getD_eq_getElem?_getD, List.getElem?_eq_getElem hi]; rfl
    obtain ⟨_, its', n', r', _, g'⟩ := I.lstM (hrow i _ _ hc' hr')
    exact ⟨its', n', r', g'⟩
  let row : Nat → List Value := fun i => if h : i < rows.length then (each i h).choose else []
  have hrv : ∀ i, (h : i < rows.length) → Vals (rows.getD i []) (row i) ∧ ∃ e, s.heap.get? (cs.getD i 0) = some (HT.lsO (row i) e) := fun i h => by
    have := (each i h).choose_spec
    have er : row i = (each i h).choose := dif_pos h
    rw [er]
    obtain ⟨e, p1, p2⟩ := this
    exact ⟨p1, e, p2⟩
  have rvs := rows_vals r1 (fun i h => (hrv i h).1)
  have full := rvs rows.length (Nat.le_refl _)
  rw [List.take_length] at full
  have line : (st ++ rows.flatten).length ≤ sizeLine := sz hz
  refine HT.call_sumL (I.ok.hd hc) (cs := fun i => cs.getD i 0) (start := start) (row := row) isl.isList ⟨e1, g1⟩ (fun i v hv => ?_) (fun i hi => (hrv i (by omega)).2) (by rw [ln, ← full.length]; exact line) (fun T h' k e' t0 t1 kp eT => ?_)
  · obtain ⟨x, hx, rx⟩ := vals_at rv (by simpa using hv)
    rw [List.getElem?_map] at hx
    obtain ⟨c, hc', rfl⟩ := Option.map_eq_some_iff.mp hx
    rw [List.getD_eq_getElem?_getD, hc']
    exact rx
  · rw [ln] at eT t0 t1
    by_cases c : rows = []
    · rw [t0 (by rw [c]; rfl)]
      exact ⟨.ref b, H, I.kept kp, rfl, q0 c⟩
    · have lp : 0 < rows.length := List.length_pos_iff.mpr c
      have ge : s.heap.objs.size ≤ T := t1 lp
      exact ⟨.ref T, upd H T (.lst (st ++ rows.flatten)), I.laid kp ge ⟨line, _, e', full, eT⟩, rfl, q1 c T (I.hok.fresh ge)⟩
end Cm
namespace Cm
open PySem PySem.Spec PyProof.Rows L2
theorem k_sumL {K : PySem.W.Frag} {H : Hp} {Q : VK} {a b : Addr} {cs : List Addr} {rows : List (List V)} {st : List V} (hs : SqL K H a (cs.map V.ref)) (hb : H b = some (.lst st)) (hl : cs.length = rows.length) (hr : ∀ (i : Nat) c r, cs[i]? = some c → rows[i]? = some r → H c = some (.lst r)) (hz : (st ++ rows.flatten).length ≤ 100000)
    (h : ∀ p H', (p = b ∨ H p = none) → Same H H' → H' p = some (.lst (st ++ rows.flatten)) → Q (.ref p) H') : rSumL K [.ref a, .ref b] H Q :=
  ⟨a, b, cs, rows, st, rfl, hs, hb, hl, hr, hz, fun e => h b H (.inl rfl) (Same.refl _) (by rw [e]; simpa using hb), fun _ p np => h p _ (.inr np) (same_new np) upd_same⟩
end Cm
namespace Cm
open PySem PySem.Spec PyProof.Rows L2
/-! ### an own exception made as a value -/
theorem pe_of_mk {X : Cx} {e : Expr} {t : L2.St → Hp → XK → Prop} (he : PMk X e t) : PE X e (fun σ H Q => t σ H fun cls d H' => ∀ a, H' a = none → Q (.ref a) (upd H' a (ExV cls d a))) :=
  ⟨fun pins s σ H Q I h => wpAny_mono (he pins s σ H _ I h) (fun u s1 hu => by
    obtain ⟨a, oe, vs, sI, H', cls, d, rfl, J, k, hne, ha, hz, hd, h1, na, os, ag, r, q⟩ := hu
    exact ⟨.ref a, upd H' a (ExV cls d a), J.call' (ch := []) os (Un.laidN k hne na) (J.hok.laidN k na (exV_ok ha hz hd)) ag (fun b z => absurd z (by simp)), rfl, q a na⟩) fun _ _ x => x⟩
/-- C(e), C with an __init__ that keeps sp, as a value -/
def tMkV (C : Addr) (sp : Sp) (ta : TA) : TE := fun σ H Q => tMkO C sp [] ta σ H fun cls d H' => ∀ a, H' a = none → Q (.ref a) (upd H' a (ExV cls d a))
theorem k_mkV {C : Addr} {f : Str} {ta : TA} {v : V} {σ : L2.St} {H : Hp} {Q : VK} (hta : ∀ (R : List V → Hp → Prop), R [v] H → ta σ H R) (h : ∀ d a, H d = none → (upd H d (.xd [(f, v)])) a = none → Q (.ref a) (upd (upd H d (.xd [(f, v)])) a (ExV (.ref C) (some d) a))) : tMkV C (spInit C f) ta σ H Q :=
  k_raiseO (E := fun cls d H' => ∀ a, H' a = none → Q (.ref a) (upd H' a (ExV cls d a))) (D := ⟨fun _ _ => False, fun _ _ => False, fun _ _ => False, fun _ _ => False⟩) hta fun d nd a na => h d a nd na
end Cm
namespace Cm
open PySem PySem.Spec PyProof.Rows L2
/-! ### xs[::2] of a list -/
def evV {α : Type} : List α → List α
  | [] => []
  | [a] => [a]
  | a :: _ :: r => a :: evV r
theorem evV_len {α : Type} : ∀ l : List α, (evV l).length = (l.length + 1) / 2
  | [] => by show 0 = (0 + 1) / 2; rfl
  | [_] => by show 1 = (0 + 1 + 1) / 2; rfl
  | _ :: _ :: r => by show (evV r).length + 1 = (r.length + 1 + 1 + 1) / 2; rw [evV_len r]; omega
theorem evV_get {α : Type} : ∀ (l : List α) (i : Nat), (evV l)[i]? = l[2 * i]?
  | [], i => by simp [evV]
  | [a], 0 => rfl
  | [a], i + 1 => by simp [evV, show 2 * (i + 1) = 2 * i + 1 + 1 by omega]
  | a :: b :: r, 0 => rfl
  | a :: b :: r, i + 1 => by
    show (evV r)[i]? = (a :: b :: r)[2 * (i + 1)]?
    rw [evV_get r i, show 2 * (i + 1) = 2 * i + 1 + 1 by omega, List.getElem?_cons_succ, List.getElem?_cons_succ]
theorem evV_map {α β : Type} (f : α → β) : ∀ l : List α, (evV l).map f = evV (l.map f)
  | [] => rfl
  | [_] => rfl
  | a :: b :: r => by show f a :: (evV r).map f = f a :: evV (r.map f); rw [evV_map f r]
theorem evV_vals : ∀ {xs : List V} {us : List Value}, Vals xs us → Vals (evV xs) (evV us)
  | _, _, .nil => .nil
  | _, _, .cons h .nil => .cons h .nil
  | _, _, .cons h (.cons _ t) => .cons h (evV_vals t)
theorem evV_fm {α : Type} (l : List α) : ∀ k, k ≤ (evV l).length → (List.range k).filterMap (fun m => l[2 * m]?) = (evV l).take k
  | 0, _ => by simp
  | k + 1, h => by
    have ih := evV_fm l k (by omega)
    rw [List.range_succ, List.filterMap_append, ih, List.take_add_one, evV_get]
    have : 2 * k < l.length := by rw [evV_len] at h; omega
    rw [List.getElem?_eq_getElem this]
    simp [List.getElem?_eq_getElem this]
theorem pick_ev (items : Array Value) : slicePick items none none (some 2) = (evV items.toList).toArray := by
  unfold slicePick
  have e : sliceBounds none none (some 2) items.size = ((0 : Int), (items.size : Int), 2) := by
    simp [sliceBounds]
  rw [e]
  show ((sliceRange (0 : Int) (items.size : Int) 2).filterMap (items[·]?)).toArray = _
  congr 1
  unfold sliceRange
  have hc : (if (2 : Int) > 0 then (if (0 : Int) < (items.size : Int) then ((items.size : Int) - 0 + 2 - 1) / 2 else 0) else (if (0 : Int) > (items.size : Int) then ((0 : Int) - (items.size : Int) - 2 - 1) / (-2) else 0)).toNat = (evV items.toList).length := by
    rw [evV_len, Array.length_toList, if_pos (by decide)]
    split <;> omega
  show List.filterMap (fun x => items[x]?) (List.map (fun (k : Nat) => ((0 : Int) + 2 * (k : Int)).toNat) (List.range (if (2 : Int) > 0 then (if (0 : Int) < (items.size : Int) then ((items.size : Int) - 0 + 2 - 1) / 2 else 0) else (if (0 : Int) > (items.size : Int) then ((0 : Int) - (items.size : Int) - 2 - 1) / (-2) else 0)).toNat)) = _
  rw [hc, List.filterMap_map]
  have hf : ((fun x => items[x]?) ∘ fun (k : Nat) => ((0 : Int) + 2 * (k : Int)).toNat) = fun m : Nat => items.toList[2 * m]? := by
    funext m
    show items[((0 : Int) + 2 * (m : Int)).toNat]? = _
    rw [show ((0 : Int) + 2 * (m : Int)).toNat = 2 * m by omega, Array.getElem?_toList]
  rw [hf, evV_fm _ _ (Nat.le_refl _), List.take_length]
def rEvL (K : PySem.W.Frag) (x : V) (H : Hp) (Q : VK) : Prop := ∃ a xs, x = .ref a ∧ SqL K H a xs ∧ ∀ p, H p = none → Q (.ref p) (upd H p (.lst (evV xs)))
def tEvL (K : PySem.W.Frag) (te : TE) : TE := fun σ H Q => te σ H fun x H1 => rEvL K x H1 Q
section
variable {X : Cx}
theorem pe_evL {e : Expr} {te : TE} {k : Nat} {p1 p3 pos : Pos} (he : PE X e te) : PE X (.Subscript e (.Slice none none (some (.Constant (.int 2) k p1)) p3) pos) (tEvL X.K te) := by
  refine ⟨fun pins s σ H Q I h => ?_⟩
  refine Subscript_ (thn (he.run pins s σ H _ I h) fun v s1 ⟨x, H1, I1, r1, q1⟩ => ?_)
  obtain ⟨a, xs, ex, hx, q⟩ := q1
  subst ex
  cases r1
  have hst : PO X (some (.Constant (.int 2) k p1)) (tPart (tC (.int 2))) := po_some pe_int
  refine wpAny_Slice (thn (po_none.run pins s1 σ H1 (fun o H2 => o = none ∧ H2 = H1) I1 ⟨rfl, rfl⟩) fun vl s2 ⟨l, H2, I2, pl, el, e2⟩ => ?_)
  subst el e2
  refine thn (po_none.run pins s2 σ H2 (fun o H3 => o = none ∧ H3 = H2) I2 ⟨rfl, rfl⟩) fun vu s3 ⟨u, H3, I3, pu, eu, e3⟩ => ?_
  subst eu e3
  refine thn (hst.run pins s3 σ H3 (fun o H4 => o = some 2 ∧ H4 = H3) I3 ⟨2, rfl, rfl, rfl⟩) fun vs s4 ⟨o, H4, I4, ps, eo, e4⟩ => ?_
  subst eo e4
  have I5 : Inv X pins σ H4 { s4 with heap := s4.heap.push { cls := .type "slice", data := .fields #[vl, vu, vs] } } := I4.kept (t' := s4.toks) fun b ob q => Heap.get?_push_of_some _ q
  obtain ⟨its, r, ht, hz⟩ := I5.list hx
  have hlen := r.length
  show wpAny (model X.prog X.w) X.A (subscriptTail e (.Slice none none (some (.Constant (.int 2) k p1)) p3) (.ref a) (.ref s4.heap.objs.size)) (EP X pins σ Q) X.xe { s4 with heap := s4.heap.push { cls := .type "slice", data := .fields #[vl, vu, vs] } }
  refine tail_any (ops := [.ref a, .ref s4.heap.objs.size]) ht.isList.typeIs (PySem.slot_list_getitem.lookup) ?_ (by with_unfolding_all rfl)
  refine wpAny_getItem_list_slice ht.isList (Heap.IsSliceOf.new _ vl vu vs) pl pu ps (by decide) ?_ (by rw [List.size_toArray]; omega)
  rw [pick_ev]
  refine ⟨.ref _, _, I5.laid (t' := s4.toks) (o := .lst (evV xs)) (fun b ob q => Heap.get?_push_of_some _ q) (Nat.le_refl _) ?_, rfl, q _ (I5.hok.fresh (Nat.le_refl _))⟩
  exact ⟨by rw [evV_len]; omega, _, 0, evV_vals r, Heap.get?_push_size _ rfl⟩
end
instance {K : PySem.W.Frag} {σ : L2.St} {H : Hp} {Q : VK} {te : TE} : Stp (tEvL K te σ H Q) (te σ H fun x H1 => rEvL K x H1 Q) := ⟨id⟩
theorem k_evL {K : PySem.W.Frag} {H : Hp} {Q : VK} {a : Addr} {xs : List V} (hs : SqL K H a xs) (h : ∀ p H', H p = none → Same H H' → H' p = some (.lst (evV xs)) → Q (.ref p) H') : rEvL K (.ref a) H Q := ⟨a, xs, rfl, hs, fun p np => h p _ np (same_new np) upd_same⟩
end Cm

namespace Pf
open PySem PySem.Spec PyProof.Rows L2 Cm
local macro_rules | `(tactic| wtm_at "smh") => `(tactic| with_reducible first
  | assumption
  | (refine Same.trans ?_ (by assumption); wtm_at "smx")
  | (refine Same.trans ?_ (hid_mono (by assumption)); wtm_at "smx"))
local macro_rules | `(tactic| wtm_at "smx") => `(tactic| with_reducible first
  | exact Same.refl _
  | assumption
  | exact hid_same _ _
  | (refine Same.trans ?_ (by assumption); wtm_at "smx")
  | (refine Same.trans ?_ (hid_mono (by assumption)); wtm_at "smx")
  | (apply hid_back; wtm_at "smh"))
local macro_rules | `(tactic| wtm_at "sm") => `(tactic| wtm_at "smx")
local macro_rules | `(tactic| wtm_at "at") => `(tactic| with_reducible first
  | assumption
  | exact upd_same
  | (refine at_same (by assumption) ?_; wtm_at "smx"))
local macro_rules | `(tactic| wtm_at "le") => `(tactic| with_reducible first
  | assumption
  | (refine Le.same (by assumption) ?_; wtm_at "smx"))
local macro_rules | `(tactic| wtm_at "dp") => `(tactic| with_reducible first
  | assumption
  | exact .int _
  | exact .str _
  | exact .bl _
  | (refine dp_same ?_ (by assumption); wtm_at "smx")
  | (refine dpa_same ?_ (by assumption); wtm_at "smx")
  | (refine dpI_at (by assumption) ?_; wtm_at "smx")
  | (refine dpP_at (by assumption) ?_; wtm_at "smx"))
local macro_rules | `(tactic| wtm_at "sq") => `(tactic| with_reducible first
  | assumption
  | exact sl (by assumption)
  | exact stp (by assumption)
  | (refine sl_at (by assumption) ?_; wtm_at "smx")
  | (refine st_at (by assumption) ?_; wtm_at "smx")
  | (refine Same.seq ?_ (by assumption); wtm_at "smx")
  | (refine same_seqT ?_ (by assumption); wtm_at "smx")
  | ((show SqL _ (upd _ _ _) _ _); exact sl upd_same)
  | ((show SqT _ (upd _ _ _) _ _); exact stp upd_same))
local macro_rules | `(tactic| wtm_at "cI") => `(tactic| first
  | (refine Or.inl ⟨?_, ?_⟩ <;> omega)
  | (refine Or.inr ⟨?_, ?_⟩ <;> omega)
  | (refine ⟨?_, ?_⟩ <;> omega)
  | decide)
local macro_rules | `(tactic| wtm_at "pf") => `(tactic| first | omega | decide)
local macro_rules | `(tactic| wtm_at "s2") => `(tactic| with_reducible first
  | ((show ite _ _ _); first
    | refine k_itDT (by with_unfolding_all wtm_at "pf") ?_
    | refine k_itDF (by with_unfolding_all wtm_at "pf") ?_
    | refine k_itNT (by with_unfolding_all wtm_at "pf") ?_
    | refine k_itNF (by with_unfolding_all wtm_at "pf") ?_)
  | ((show rLenX _ _ _ _); first
    | refine k_len0 (by assumption) ?_
    | refine k_lenI (by wtm_at "sq") ?_
    | refine k_len (by wtm_at "sq") ?_)
  | ((show gTup _ _ _ _ _ _ _); refine k_gtup (by wtm_at "sq") (by with_unfolding_all rfl) ?_)
  | ((show rIxT _ (V.ref _) (V.int _) _ _); refine k_ixT (by wtm_at "sq") (by with_unfolding_all rfl) ?_)
  | ((show wipe _ _ = wipe _ _ ∧ _); refine k_wipe (by with_unfolding_all rfl) ?_)
  | ((show rIn _ _ _ _ _ _); first
    | refine k_inI (by wtm_at "sq") ?_
    | refine k_notInI (by wtm_at "sq") ?_)
  | ((show rIsi _ _ _ _); refine k_isiL (by wtm_at "sq") ?_)
  | ((show xMod _ _ _ _); refine k_mod (by with_unfolding_all first | decide | omega) ?_)
  | ((show xMul _ _ _ _); refine k_mul (by with_unfolding_all wtm_at "cI") ?_)
  | ((show xDiv _ _ _ _); refine k_div (by with_unfolding_all wtm_at "cI") ?_)
  | ((show xPow _ _ _ _); refine k_pow (by with_unfolding_all exact ⟨by decide, by decide, by decide⟩) ?_)
  | ((show rMinT _ _ _ _); refine k_minT (by wtm_at "sq") ?_)
  | ((show rMaxT _ _ _ _); refine k_maxT (by wtm_at "sq") ?_)
  | ((show ∃ j' : Int, [V.int _] = [.int j'] ∧ _); refine k_rj1 (by with_unfolding_all omega) (by with_unfolding_all omega) ?_)
  | ((show ∃ i' j' : Int, [V.int _, V.int _] = [.int i', .int j'] ∧ _); refine k_rj2 (by with_unfolding_all omega) ?_))
local macro_rules | `(tactic| wtm_at "s1") => `(tactic| first
  | refine go ?_
  | wtm_at "s2")
local macro_rules | `(tactic| wtm_at "s") => `(tactic| repeat wtm_at "s1")
def topS (i : Nat) : Stmt := PySem.Challenge.pw_tiehues_k46_whole_trees_cut_and_starred.main.body.getD i (.Pass ⟨0, 0, 0, 0⟩)
abbrev s_is_tree : Stmt := topS 10
theorem sc_is_tree : FnScope ["parents", "k"] ["parents"] (defScope s_is_tree) := ⟨rfl, rfl, rfl, by decide +kernel, rfl, by decide +kernel, by decide +kernel⟩
abbrev s_look_net : Stmt := topS 11
theorem sc_look_net : FnScope ["net", "kind", "size", "right"] ["net"] (defScope s_look_net) := ⟨rfl, rfl, rfl, by decide +kernel, rfl, by decide +kernel, by decide +kernel⟩
abbrev s_must_be_kind : Stmt := topS 12
theorem sc_must_be_kind : FnScope ["net", "kind"] ["net", "kind"] (defScope s_must_be_kind) := ⟨rfl, rfl, rfl, by decide +kernel, rfl, by decide +kernel, by decide +kernel⟩
abbrev s_places_of : Stmt := topS 13
theorem sc_places_of : FnScope ["net"] ["net"] (defScope s_places_of) := ⟨rfl, rfl, rfl, by decide +kernel, rfl, by decide +kernel, by decide +kernel⟩
abbrev s_ties_many : Stmt := topS 14
theorem sc_ties_many : FnScope ["net"] ["net"] (defScope s_ties_many) := ⟨rfl, rfl, rfl, by decide +kernel, rfl, by decide +kernel, by decide +kernel⟩
abbrev s_is_way : Stmt := topS 15
theorem sc_is_way : FnScope ["net", "way", "a", "b"] ["net", "way"] (defScope s_is_way) := ⟨rfl, rfl, rfl, by decide +kernel, rfl, by decide +kernel, by decide +kernel⟩
abbrev s_ties_on : Stmt := topS 16
theorem sc_ties_on : FnScope ["net", "way", "a", "b", "found"] ["net", "way"] (defScope s_ties_on) := ⟨rfl, rfl, rfl, by decide +kernel, rfl, by decide +kernel, by decide +kernel⟩
abbrev s_must_be_ways : Stmt := topS 17
theorem sc_must_be_ways : FnScope ["net", "ways", "k"] ["net", "ways"] (defScope s_must_be_ways) := ⟨rfl, rfl, rfl, by decide +kernel, rfl, by decide +kernel, by decide +kernel⟩
abbrev s_look_ways : Stmt := topS 18
theorem sc_look_ways : FnScope ["net", "ways"] ["net", "ways"] (defScope s_look_ways) := ⟨rfl, rfl, rfl, by decide +kernel, rfl, by decide +kernel, by decide +kernel⟩
abbrev s_counted : Stmt := topS 19
theorem sc_counted : FnScope ["net", "ways", "found", "way", "tie"] ["net", "ways"] (defScope s_counted) := ⟨rfl, rfl, rfl, by decide +kernel, rfl, by decide +kernel, by decide +kernel⟩
abbrev s_loads : Stmt := topS 20
theorem sc_loads : FnScope ["net", "ways"] ["net", "ways"] (defScope s_loads) := ⟨rfl, rfl, rfl, by decide +kernel, rfl, by decide +kernel, by decide +kernel⟩
abbrev s_load : Stmt := topS 21
theorem sc_load : FnScope ["net", "ways"] ["net", "ways"] (defScope s_load) := ⟨rfl, rfl, rfl, by decide +kernel, rfl, by decide +kernel, by decide +kernel⟩
abbrev s_have_common : Stmt := topS 23
theorem sc_have_common : FnScope ["one", "other", "thing"] ["one", "other"] (defScope s_have_common) := ⟨rfl, rfl, rfl, by decide +kernel, rfl, by decide +kernel, by decide +kernel⟩
abbrev s_meetings : Stmt := topS 24
theorem sc_meetings : FnScope ["net", "ways", "ties", "found", "one", "way", "k"] ["net", "ways"] (defScope s_meetings) := ⟨rfl, rfl, rfl, by decide +kernel, rfl, by decide +kernel, by decide +kernel⟩
abbrev s_look_few : Stmt := topS 25
theorem sc_look_few : FnScope ["net", "ways", "most"] ["net", "ways", "most"] (defScope s_look_few) := ⟨rfl, rfl, rfl, by decide +kernel, rfl, by decide +kernel, by decide +kernel⟩
abbrev s_options : Stmt := topS 26
theorem sc_options : FnScope ["h", "given", "k"] ["h", "given"] (defScope s_options) := ⟨rfl, rfl, rfl, by decide +kernel, rfl, by decide +kernel, by decide +kernel⟩
abbrev s_is_stuck : Stmt := topS 27
theorem sc_is_stuck : FnScope ["meets", "given", "k", "hue", "other"] ["meets", "given", "k", "hue"] (defScope s_is_stuck) := ⟨rfl, rfl, rfl, by decide +kernel, rfl, by decide +kernel, by decide +kernel⟩
abbrev s_with_hue : Stmt := topS 28
theorem sc_with_hue : FnScope ["given", "k", "hue", "more"] ["given", "k", "hue"] (defScope s_with_hue) := ⟨rfl, rfl, rfl, by decide +kernel, rfl, by decide +kernel, by decide +kernel⟩
abbrev s_hardest_way : Stmt := topS 29
theorem sc_hardest_way : FnScope ["meets", "given", "best", "most", "k", "near", "other"] ["meets", "given"] (defScope s_hardest_way) := ⟨rfl, rfl, rfl, by decide +kernel, rfl, by decide +kernel, by decide +kernel⟩
abbrev s_gone_into : Stmt := topS 30
theorem sc_gone_into : FnScope ["meets", "h", "given", "k", "children", "hue", "more"] ["meets", "h", "given"] (defScope s_gone_into) := ⟨rfl, rfl, rfl, by decide +kernel, rfl, by decide +kernel, by decide +kernel⟩
abbrev s_must_be_crossing : Stmt := topS 35
theorem sc_must_be_crossing : FnScope ["crossing", "many", "pairs", "s", "t"] ["crossing"] (defScope s_must_be_crossing) := ⟨rfl, rfl, rfl, by decide +kernel, rfl, by decide +kernel, by decide +kernel⟩
abbrev s_load_at : Stmt := topS 36
theorem sc_load_at : FnScope ["crossing", "many", "pairs", "tie", "pair"] ["crossing"] (defScope s_load_at) := ⟨rfl, rfl, rfl, by decide +kernel, rfl, by decide +kernel, by decide +kernel⟩
abbrev s_bound_of : Stmt := topS 37
theorem sc_bound_of : FnScope ["crossing", "lot", "within", "half", "s", "t"] ["crossing", "lot"] (defScope s_bound_of) := ⟨rfl, rfl, rfl, by decide +kernel, rfl, by decide +kernel, by decide +kernel⟩
abbrev s_lots_of : Stmt := topS 38
theorem sc_lots_of : FnScope ["many", "size", "least", "found", "tie", "rest"] ["many", "size", "least"] (defScope s_lots_of) := ⟨rfl, rfl, rfl, by decide +kernel, rfl, by decide +kernel, by decide +kernel⟩
abbrev s_best_lot : Stmt := topS 39
theorem sc_best_lot : FnScope ["crossing", "best", "size", "lot"] ["crossing"] (defScope s_best_lot) := ⟨rfl, rfl, rfl, by decide +kernel, rfl, by decide +kernel, by decide +kernel⟩
abbrev s_ties_at : Stmt := topS 41
theorem sc_ties_at : FnScope ["net", "place", "parents", "k"] ["net", "place"] (defScope s_ties_at) := ⟨rfl, rfl, rfl, by decide +kernel, rfl, by decide +kernel, by decide +kernel⟩
abbrev s_crossing_of : Stmt := topS 42
theorem sc_crossing_of : FnScope ["net", "ways", "place", "here", "pairs", "numbers", "k", "some", "tie"] ["net", "ways", "place"] (defScope s_crossing_of) := ⟨rfl, rfl, rfl, by decide +kernel, rfl, by decide +kernel, by decide +kernel⟩
abbrev s_crossing_at : Stmt := topS 43
theorem sc_crossing_at : FnScope ["net", "ways", "place"] ["net", "ways", "place"] (defScope s_crossing_at) := ⟨rfl, rfl, rfl, by decide +kernel, rfl, by decide +kernel, by decide +kernel⟩
abbrev s_lot_paper : Stmt := topS 46
theorem sc_lot_paper : FnScope ["net", "ways", "h", "place", "crossing", "bound", "lot"] ["net", "ways", "h"] (defScope s_lot_paper) := ⟨rfl, rfl, rfl, by decide +kernel, rfl, by decide +kernel, by decide +kernel⟩
abbrev s_paper_of : Stmt := topS 47
theorem sc_paper_of : FnScope ["net", "ways", "h", "case", "counts", "lot"] ["net", "ways", "h", "case"] (defScope s_paper_of) := ⟨rfl, rfl, rfl, by decide +kernel, rfl, by decide +kernel, by decide +kernel⟩
abbrev s_fewest : Stmt := topS 48
theorem sc_fewest : FnScope ["net", "ways", "meets", "h", "case", "told", "k"] ["net", "ways"] (defScope s_fewest) := ⟨rfl, rfl, rfl, by decide +kernel, rfl, by decide +kernel, by decide +kernel⟩
abbrev s_law_mix : Stmt := topS 50
theorem sc_law_mix : FnScope ["_law_number", "_law_k", "_law_mixed"] ["_law_number", "_law_k"] (defScope s_law_mix) := ⟨rfl, rfl, rfl, by decide +kernel, rfl, by decide +kernel, by decide +kernel⟩
abbrev s_law_left : Stmt := topS 51
theorem sc_law_left : FnScope ["_law_cell"] ["_law_cell"] (defScope s_law_left) := ⟨rfl, rfl, rfl, by decide +kernel, rfl, by decide +kernel, by decide +kernel⟩
abbrev s_law_draw : Stmt := topS 52
theorem sc_law_draw : FnScope ["_law_left_here", "_law_base", "_law_mixed", "_law_digit"] ["_law_left_here", "_law_base"] (defScope s_law_draw) := ⟨rfl, rfl, rfl, by decide +kernel, rfl, by decide +kernel, by decide +kernel⟩
abbrev s_law_way : Stmt := topS 53
theorem sc_law_way : FnScope ["_law_left_here", "_law_many", "_law_a", "_law_b"] ["_law_left_here", "_law_many"] (defScope s_law_way) := ⟨rfl, rfl, rfl, by decide +kernel, rfl, by decide +kernel, by decide +kernel⟩
abbrev s_law_ways : Stmt := topS 54
theorem sc_law_ways : FnScope ["_law_left_here", "_law_many", "_law_ways_here", "_law_k"] ["_law_left_here", "_law_many"] (defScope s_law_ways) := ⟨rfl, rfl, rfl, by decide +kernel, rfl, by decide +kernel, by decide +kernel⟩
abbrev s_law_least : Stmt := topS 55
theorem sc_law_least : FnScope ["_law_net", "_law_ways_here", "_law_handed"] ["_law_net", "_law_ways_here"] (defScope s_law_least) := ⟨rfl, rfl, rfl, by decide +kernel, rfl, by decide +kernel, by decide +kernel⟩
abbrev s_law_side : Stmt := topS 56
theorem sc_law_side : FnScope ["_law_parents", "_law_ways_here", "_law_keep", "_law_hang", "_law_names", "_law_place", "_law_far", "_law_found", "_law_some", "_law_a", "_law_b"] ["_law_parents", "_law_ways_here", "_law_keep", "_law_hang"] (defScope s_law_side) := ⟨rfl, rfl, rfl, by decide +kernel, rfl, by decide +kernel, by decide +kernel⟩
abbrev s_law_within : Stmt := topS 57
theorem sc_law_within : FnScope ["_law_parents", "_law_cut", "_law_found", "_law_place"] ["_law_parents", "_law_cut"] (defScope s_law_within) := ⟨rfl, rfl, rfl, by decide +kernel, rfl, by decide +kernel, by decide +kernel⟩
abbrev s_law_of_halves : Stmt := topS 58
theorem sc_law_of_halves : FnScope ["_law_parents", "_law_ways_here", "_law_cut", "_law_within_here", "_law_outside", "_law_one", "_law_some", "_law_other", "_law_more", "_law_place"] ["_law_parents", "_law_ways_here", "_law_cut"] (defScope s_law_of_halves) := ⟨rfl, rfl, rfl, by decide +kernel, rfl, by decide +kernel, by decide +kernel⟩
abbrev s_law_star : Stmt := topS 59
theorem sc_law_star : FnScope ["_law_net", "_law_ways_here", "_law_place", "_law_crossing", "_law_numbers", "_law_some", "_law_s", "_law_t"] ["_law_net", "_law_ways_here", "_law_place"] (defScope s_law_star) := ⟨rfl, rfl, rfl, by decide +kernel, rfl, by decide +kernel, by decide +kernel⟩
abbrev s_law_from : Stmt := topS 60
theorem sc_law_from : FnScope ["_law_parents", "_law_ways_here", "_law_first", "_law_order", "_law_hung", "_law_at", "_law_place", "_law_near", "_law_other", "_law_k", "_law_a", "_law_b"] ["_law_parents", "_law_ways_here", "_law_first"] (defScope s_law_from) := ⟨rfl, rfl, rfl, by decide +kernel, rfl, by decide +kernel, by decide +kernel⟩
abbrev s_law_heads : Stmt := topS 61
theorem sc_law_heads : FnScope ["_law_net", "_law_ways_here"] ["_law_net", "_law_ways_here"] (defScope s_law_heads) := ⟨rfl, rfl, rfl, by decide +kernel, rfl, by decide +kernel, by decide +kernel⟩
abbrev s_law_line : Stmt := topS 62
theorem sc_law_line : FnScope ["_law_left_here", "_law_many", "_law_ways_here", "_law_line_here", "_law_tree"] ["_law_left_here"] (defScope s_law_line) := ⟨rfl, rfl, rfl, by decide +kernel, rfl, by decide +kernel, by decide +kernel⟩
abbrev s_law : Stmt := topS 63
theorem sc_law : FnScope ["_law_script", "_law_cell", "_law_left_here", "_law_parents", "_law_net", "_law_ways_here", "_law_heads_here", "_law_stars", "_law_other", "_law_others", "_law_k", "_law_place", "_law_star_here", "_law_some"] ["_law_script"] (defScope s_law) := ⟨rfl, rfl, rfl, by decide +kernel, rfl, by decide +kernel, by decide +kernel⟩
structure Ad where
  a_is_tree : Addr
  d_is_tree : FuncData
  a_look_net : Addr
  d_look_net : FuncData
  a_must_be_kind : Addr
  d_must_be_kind : FuncData
  a_places_of : Addr
  d_places_of : FuncData
  a_ties_many : Addr
  d_ties_many : FuncData
  a_is_way : Addr
  d_is_way : FuncData
  a_ties_on : Addr
  d_ties_on : FuncData
  a_must_be_ways : Addr
  d_must_be_ways : FuncData
  a_look_ways : Addr
  d_look_ways : FuncData
  a_counted : Addr
  d_counted : FuncData
  a_loads : Addr
  d_loads : FuncData
  a_load : Addr
  d_load : FuncData
  a_have_common : Addr
  d_have_common : FuncData
  a_meetings : Addr
  d_meetings : FuncData
  a_look_few : Addr
  d_look_few : FuncData
  a_options : Addr
  d_options : FuncData
  a_is_stuck : Addr
  d_is_stuck : FuncData
  a_with_hue : Addr
  d_with_hue : FuncData
  a_hardest_way : Addr
  d_hardest_way : FuncData
  a_gone_into : Addr
  d_gone_into : FuncData
  a_must_be_crossing : Addr
  d_must_be_crossing : FuncData
  a_load_at : Addr
  d_load_at : FuncData
  a_bound_of : Addr
  d_bound_of : FuncData
  a_lots_of : Addr
  d_lots_of : FuncData
  a_best_lot : Addr
  d_best_lot : FuncData
  a_ties_at : Addr
  d_ties_at : FuncData
  a_crossing_of : Addr
  d_crossing_of : FuncData
  a_crossing_at : Addr
  d_crossing_at : FuncData
  a_lot_paper : Addr
  d_lot_paper : FuncData
  a_paper_of : Addr
  d_paper_of : FuncData
  a_fewest : Addr
  d_fewest : FuncData
  a_law_mix : Addr
  d_law_mix : FuncData
  a_law_left : Addr
  d_law_left : FuncData
  a_law_draw : Addr
  d_law_draw : FuncData
  a_law_way : Addr
  d_law_way : FuncData
  a_law_ways : Addr
  d_law_ways : FuncData
  a_law_least : Addr
  d_law_least : FuncData
  a_law_side : Addr
  d_law_side : FuncData
  a_law_within : Addr
  d_law_within : FuncData
  a_law_of_halves : Addr
  d_law_of_halves : FuncData
  a_law_star : Addr
  d_law_star : FuncData
  a_law_from : Addr
  d_law_from : FuncData
  a_law_heads : Addr
  d_law_heads : FuncData
  a_law_line : Addr
  d_law_line : FuncData
  a_law : Addr
  d_law : FuncData
structure Txt (K : PySem.W.Frag) (mg : Str → Option Value) (A : Ad) : Prop where
  g_is_tree : mg "is_tree" = some (.ref A.a_is_tree)
  F_is_tree : Fun K "is_tree" "is_tree" s_is_tree A.a_is_tree A.d_is_tree
  b_is_tree : Binds K A.d_is_tree ["parents"] []
  g_look_net : mg "look_net" = some (.ref A.a_look_net)
  F_look_net : Fun K "look_net" "look_net" s_look_net A.a_look_net A.d_look_net
  b_look_net : Binds K A.d_look_net ["net"] []
  g_must_be_kind : mg "must_be_kind" = some (.ref A.a_must_be_kind)
  F_must_be_kind : Fun K "must_be_kind" "must_be_kind" s_must_be_kind A.a_must_be_kind A.d_must_be_kind
  b_must_be_kind : Binds K A.d_must_be_kind ["net", "kind"] []
  g_places_of : mg "places_of" = some (.ref A.a_places_of)
  F_places_of : Fun K "places_of" "places_of" s_places_of A.a_places_of A.d_places_of
  b_places_of : Binds K A.d_places_of ["net"] []
  g_ties_many : mg "ties_many" = some (.ref A.a_ties_many)
  F_ties_many : Fun K "ties_many" "ties_many" s_ties_many A.a_ties_many A.d_ties_many
  b_ties_many : Binds K A.d_ties_many ["net"] []
  g_is_way : mg "is_way" = some (.ref A.a_is_way)
  F_is_way : Fun K "is_way" "is_way" s_is_way A.a_is_way A.d_is_way
  b_is_way : Binds K A.d_is_way ["net", "way"] []
  g_ties_on : mg "ties_on" = some (.ref A.a_ties_on)
  F_ties_on : Fun K "ties_on" "ties_on" s_ties_on A.a_ties_on A.d_ties_on
  b_ties_on : Binds K A.d_ties_on ["net", "way"] []
  g_must_be_ways : mg "must_be_ways" = some (.ref A.a_must_be_ways)
  F_must_be_ways : Fun K "must_be_ways" "must_be_ways" s_must_be_ways A.a_must_be_ways A.d_must_be_ways
  b_must_be_ways : Binds K A.d_must_be_ways ["net", "ways"] []
  g_look_ways : mg "look_ways" = some (.ref A.a_look_ways)
  F_look_ways : Fun K "look_ways" "look_ways" s_look_ways A.a_look_ways A.d_look_ways
  b_look_ways : Binds K A.d_look_ways ["net", "ways"] []
  g_counted : mg "counted" = some (.ref A.a_counted)
  F_counted : Fun K "counted" "counted" s_counted A.a_counted A.d_counted
  b_counted : Binds K A.d_counted ["net", "ways"] []
  g_loads : mg "loads" = some (.ref A.a_loads)
  F_loads : Fun K "loads" "loads" s_loads A.a_loads A.d_loads
  b_loads : Binds K A.d_loads ["net", "ways"] []
  g_load : mg "load" = some (.ref A.a_load)
  F_load : Fun K "load" "load" s_load A.a_load A.d_load
  b_load : Binds K A.d_load ["net", "ways"] []
  g_have_common : mg "have_common" = some (.ref A.a_have_common)
  F_have_common : Fun K "have_common" "have_common" s_have_common A.a_have_common A.d_have_common
  b_have_common : Binds K A.d_have_common ["one", "other"] []
  g_meetings : mg "meetings" = some (.ref A.a_meetings)
  F_meetings : Fun K "meetings" "meetings" s_meetings A.a_meetings A.d_meetings
  b_meetings : Binds K A.d_meetings ["net", "ways"] []
  g_look_few : mg "look_few" = some (.ref A.a_look_few)
  F_look_few : Fun K "look_few" "look_few" s_look_few A.a_look_few A.d_look_few
  b_look_few : Binds K A.d_look_few ["net", "ways", "most"] []
  g_options : mg "options" = some (.ref A.a_options)
  F_options : Fun K "options" "options" s_options A.a_options A.d_options
  b_options : Binds K A.d_options ["h", "given"] []
  g_is_stuck : mg "is_stuck" = some (.ref A.a_is_stuck)
  F_is_stuck : Fun K "is_stuck" "is_stuck" s_is_stuck A.a_is_stuck A.d_is_stuck
  b_is_stuck : Binds K A.d_is_stuck ["meets", "given", "k", "hue"] []
  g_with_hue : mg "with_hue" = some (.ref A.a_with_hue)
  F_with_hue : Fun K "with_hue" "with_hue" s_with_hue A.a_with_hue A.d_with_hue
  b_with_hue : Binds K A.d_with_hue ["given", "k", "hue"] []
  g_hardest_way : mg "hardest_way" = some (.ref A.a_hardest_way)
  F_hardest_way : Fun K "hardest_way" "hardest_way" s_hardest_way A.a_hardest_way A.d_hardest_way
  b_hardest_way : Binds K A.d_hardest_way ["meets", "given"] []
  g_gone_into : mg "gone_into" = some (.ref A.a_gone_into)
  F_gone_into : Fun K "gone_into" "gone_into" s_gone_into A.a_gone_into A.d_gone_into
  b_gone_into : Binds K A.d_gone_into ["meets", "h", "given"] []
  g_must_be_crossing : mg "must_be_crossing" = some (.ref A.a_must_be_crossing)
  F_must_be_crossing : Fun K "must_be_crossing" "must_be_crossing" s_must_be_crossing A.a_must_be_crossing A.d_must_be_crossing
  b_must_be_crossing : Binds K A.d_must_be_crossing ["crossing"] []
  g_load_at : mg "load_at" = some (.ref A.a_load_at)
  F_load_at : Fun K "load_at" "load_at" s_load_at A.a_load_at A.d_load_at
  b_load_at : Binds K A.d_load_at ["crossing"] []
  g_bound_of : mg "bound_of" = some (.ref A.a_bound_of)
  F_bound_of : Fun K "bound_of" "bound_of" s_bound_of A.a_bound_of A.d_bound_of
  b_bound_of : Binds K A.d_bound_of ["crossing", "lot"] []
  g_lots_of : mg "lots_of" = some (.ref A.a_lots_of)
  F_lots_of : Fun K "lots_of" "lots_of" s_lots_of A.a_lots_of A.d_lots_of
  b_lots_of : Binds K A.d_lots_of ["many", "size", "least"] []
  g_best_lot : mg "best_lot" = some (.ref A.a_best_lot)
  F_best_lot : Fun K "best_lot" "best_lot" s_best_lot A.a_best_lot A.d_best_lot
  b_best_lot : Binds K A.d_best_lot ["crossing"] []
  g_ties_at : mg "ties_at" = some (.ref A.a_ties_at)
  F_ties_at : Fun K "ties_at" "ties_at" s_ties_at A.a_ties_at A.d_ties_at
  b_ties_at : Binds K A.d_ties_at ["net", "place"] []
  g_crossing_of : mg "crossing_of" = some (.ref A.a_crossing_of)
  F_crossing_of : Fun K "crossing_of" "crossing_of" s_crossing_of A.a_crossing_of A.d_crossing_of
  b_crossing_of : Binds K A.d_crossing_of ["net", "ways", "place"] []
  g_crossing_at : mg "crossing_at" = some (.ref A.a_crossing_at)
  F_crossing_at : Fun K "crossing_at" "crossing_at" s_crossing_at A.a_crossing_at A.d_crossing_at
  b_crossing_at : Binds K A.d_crossing_at ["net", "ways", "place"] []
  g_lot_paper : mg "lot_paper" = some (.ref A.a_lot_paper)
  F_lot_paper : Fun K "lot_paper" "lot_paper" s_lot_paper A.a_lot_paper A.d_lot_paper
  b_lot_paper : Binds K A.d_lot_paper ["net", "ways", "h"] []
  g_paper_of : mg "paper_of" = some (.ref A.a_paper_of)
  F_paper_of : Fun K "paper_of" "paper_of" s_paper_of A.a_paper_of A.d_paper_of
  b_paper_of : Binds K A.d_paper_of ["net", "ways", "h", "case"] []
  g_fewest : mg "fewest" = some (.ref A.a_fewest)
  F_fewest : Fun K "fewest" "fewest" s_fewest A.a_fewest A.d_fewest
  b_fewest : Binds K A.d_fewest ["net", "ways"] []
  g_law_mix : mg "_law_mix" = some (.ref A.a_law_mix)
  F_law_mix : Fun K "_law_mix" "_law_mix" s_law_mix A.a_law_mix A.d_law_mix
  b_law_mix : Binds K A.d_law_mix ["_law_number", "_law_k"] []
  g_law_left : mg "_law_left" = some (.ref A.a_law_left)
  F_law_left : Fun K "_law_left" "_law_left" s_law_left A.a_law_left A.d_law_left
  b_law_left : Binds K A.d_law_left ["_law_cell"] []
  g_law_draw : mg "_law_draw" = some (.ref A.a_law_draw)
  F_law_draw : Fun K "_law_draw" "_law_draw" s_law_draw A.a_law_draw A.d_law_draw
  b_law_draw : Binds K A.d_law_draw ["_law_left_here", "_law_base"] []
  g_law_way : mg "_law_way" = some (.ref A.a_law_way)
  F_law_way : Fun K "_law_way" "_law_way" s_law_way A.a_law_way A.d_law_way
  b_law_way : Binds K A.d_law_way ["_law_left_here", "_law_many"] []
  g_law_ways : mg "_law_ways" = some (.ref A.a_law_ways)
  F_law_ways : Fun K "_law_ways" "_law_ways" s_law_ways A.a_law_ways A.d_law_ways
  b_law_ways : Binds K A.d_law_ways ["_law_left_here", "_law_many"] []
  g_law_least : mg "_law_least" = some (.ref A.a_law_least)
  F_law_least : Fun K "_law_least" "_law_least" s_law_least A.a_law_least A.d_law_least
  b_law_least : Binds K A.d_law_least ["_law_net", "_law_ways_here"] []
  g_law_side : mg "_law_side" = some (.ref A.a_law_side)
  F_law_side : Fun K "_law_side" "_law_side" s_law_side A.a_law_side A.d_law_side
  b_law_side : Binds K A.d_law_side ["_law_parents", "_law_ways_here", "_law_keep", "_law_hang"] []
  g_law_within : mg "_law_within" = some (.ref A.a_law_within)
  F_law_within : Fun K "_law_within" "_law_within" s_law_within A.a_law_within A.d_law_within
  b_law_within : Binds K A.d_law_within ["_law_parents", "_law_cut"] []
  g_law_of_halves : mg "_law_of_halves" = some (.ref A.a_law_of_halves)
  F_law_of_halves : Fun K "_law_of_halves" "_law_of_halves" s_law_of_halves A.a_law_of_halves A.d_law_of_halves
  b_law_of_halves : Binds K A.d_law_of_halves ["_law_parents", "_law_ways_here", "_law_cut"] []
  g_law_star : mg "_law_star" = some (.ref A.a_law_star)
  F_law_star : Fun K "_law_star" "_law_star" s_law_star A.a_law_star A.d_law_star
  b_law_star : Binds K A.d_law_star ["_law_net", "_law_ways_here", "_law_place"] []
  g_law_from : mg "_law_from" = some (.ref A.a_law_from)
  F_law_from : Fun K "_law_from" "_law_from" s_law_from A.a_law_from A.d_law_from
  b_law_from : Binds K A.d_law_from ["_law_parents", "_law_ways_here", "_law_first"] []
  g_law_heads : mg "_law_heads" = some (.ref A.a_law_heads)
  F_law_heads : Fun K "_law_heads" "_law_heads" s_law_heads A.a_law_heads A.d_law_heads
  b_law_heads : Binds K A.d_law_heads ["_law_net", "_law_ways_here"] []
  g_law_line : mg "_law_line" = some (.ref A.a_law_line)
  F_law_line : Fun K "_law_line" "_law_line" s_law_line A.a_law_line A.d_law_line
  b_law_line : Binds K A.d_law_line ["_law_left_here"] []
  g_law : mg "law" = some (.ref A.a_law)
  F_law : Fun K "law" "law" s_law A.a_law A.d_law
  b_law : Binds K A.d_law ["_law_script"] []
  c_MOST_PLACES : mg "MOST_PLACES" = some (.int 60 (g_tok mg "MOST_PLACES"))
  c_MOST_TIES : mg "MOST_TIES" = some (.int 60 (g_tok mg "MOST_TIES"))
  c_MOST_PAIRS : mg "MOST_PAIRS" = some (.int 60 (g_tok mg "MOST_PAIRS"))
  c_MOST_LOTS : mg "MOST_LOTS" = some (.int 12 (g_tok mg "MOST_LOTS"))
  c_MOST : mg "MOST" = some (.int 12 (g_tok mg "MOST"))
  z_dict : mg "dict" = none
  z_int : mg "int" = none
  z_isinstance : mg "isinstance" = none
  z_len : mg "len" = none
  z_list : mg "list" = none
  z_max : mg "max" = none
  z_min : mg "min" = none
  z_range : mg "range" = none
  z_set : mg "set" = none
  z_sorted : mg "sorted" = none
/-! ### nets -/
inductive Net where
  | line (n : Int)
  | ring (n : Int)
  | tree (ps : List Int)
def Net.kind : Net → Str
  | .line _ => Str.ofString "line"
  | .ring _ => Str.ofString "ring"
  | .tree _ => Str.ofString "tree"
def Net.size : Net → PyData
  | .line n => .int n
  | .ring n => .int n
  | .tree ps => dInts ps
abbrev Net.d (N : Net) : PyData := .tuple [.str N.kind, N.size]
def TreeOk (ps : List Int) : Prop := 1 ≤ ps.length ∧ ps.length < 60 ∧ ∀ k : Nat, k < ps.length → 0 ≤ ps.getD k 0 ∧ ps.getD k 0 ≤ k
def Net.ok : Net → Prop
  | .line n => 2 ≤ n ∧ n ≤ 60
  | .ring n => 3 ≤ n ∧ n ≤ 60
  | .tree ps => TreeOk ps
def Net.places : Net → Int
  | .line n => n
  | .ring n => n
  | .tree ps => ps.length + 1
theorem net_str {s t : Str} (h : decide (V.str s = V.str t) = true) : s = t := V.str.inj (of_decide_eq_true h)
/-- a net's tuple -/
theorem dp_net {K : PySem.W.Frag} {H : Hp} {v : V} {N : Net} (h : Dp K H v N.d) : ∃ a y, v = .ref a ∧ SqT K H a [.str N.kind, y] ∧ Dp K H y N.size := by
  obtain ⟨a, x, y, rfl, hs, hx, hy⟩ := dp_tup2 h
  obtain rfl := dp_str hx
  exact ⟨a, y, rfl, hs, hy⟩
theorem k_eqS {s t : Str} {H : Hp} {Q : VK} (h : Q (.bl (decide (s = t))) H) : rEq (.str s) (.str t) H Q := ⟨rfl, by
  have e : decide (V.str s = V.str t) = decide (s = t) := by
    by_cases c : s = t
    · rw [decide_eq_true c, decide_eq_true (by rw [c])]
    · rw [decide_eq_false c, decide_eq_false (fun z => c (V.str.inj z))]
  rw [e]; exact h⟩
theorem k_neS {s t : Str} {H : Hp} {Q : VK} (h : Q (.bl (!decide (s = t))) H) : rNe (.str s) (.str t) H Q := ⟨rfl, by
  have e : decide (V.str s = V.str t) = decide (s = t) := by
    by_cases c : s = t
    · rw [decide_eq_true c, decide_eq_true (by rw [c])]
    · rw [decide_eq_false c, decide_eq_false (fun z => c (V.str.inj z))]
  rw [e]; exact h⟩
theorem s_lt : decide (Str.ofString "line" = Str.ofString "tree") = false := by decide +kernel
theorem s_rt : decide (Str.ofString "ring" = Str.ofString "tree") = false := by decide +kernel
theorem s_lr : decide (Str.ofString "line" = Str.ofString "ring") = false := by decide +kernel
theorem s_rl : decide (Str.ofString "ring" = Str.ofString "line") = false := by decide +kernel
theorem s_tl : decide (Str.ofString "tree" = Str.ofString "line") = false := by decide +kernel
theorem s_tr : decide (Str.ofString "tree" = Str.ofString "ring") = false := by decide +kernel
theorem s_same (s : Str) : decide (s = s) = true := decide_eq_true rfl
/-- how far t lies up from a on a ring of n -/
def up (n a t : Int) : Int := if a ≤ t then t - a else t - a + n
/-- x lies in the part of the tree that hangs by k -/
def below (ps : List Int) (k : Nat) : Nat → Bool
  | 0 => decide (k = 0)
  | x + 1 => decide (k = x + 1) || (decide (k < x + 1) && if h : (ps.getD x 0).toNat < x + 1 then below ps k (ps.getD x 0).toNat else false)
termination_by x => x
decreasing_by exact h
def OnTie : Net → Int → Int → Int → Prop
  | .line _, a, b, t => min a b ≤ t ∧ t < max a b
  | .ring n, a, b, t => 0 ≤ t ∧ t < n ∧ up n a t < up n a b
  | .tree ps, a, b, t => 0 ≤ t ∧ t < ps.length ∧ below ps (t.toNat + 1) a.toNat ≠ below ps (t.toNat + 1) b.toNat
def Net.far : Net → Int → Int → List Int → Prop
  | .line _, a, b, ns => (ns.length : Int) = max a b - min a b
  | .ring n, a, b, ns => (ns.length : Int) = up n a b
  | .tree _, _, _, ns => ns.length < 120
def isWay (N : Net) (a b : Int) : Prop := a ≠ b ∧ 0 ≤ a ∧ 0 ≤ b ∧ a < N.places ∧ b < N.places
instance (N : Net) (a b : Int) : Decidable (isWay N a b) := by unfold isWay; infer_instance
structure TiesOf (N : Net) (a b : Int) (ns : List Int) : Prop where
  srt : ns.Pairwise (· < ·)
  mem : ∀ t, t ∈ ns ↔ OnTie N a b t
  far : N.far a b ns

variable {P : Program} {w : World} {K : PySem.W.Frag} {mg : Str → Option Value} {base : Heap} {A : Ad}
def pr_is_tree (K : PySem.W.Frag) (v0 : V) (H : Hp) (Q : VK) (_ : XK) : Prop := ∃ ps, Dp K H v0 (dInts ps) ∧ ps.length ≤ 10000 ∧ ∀ b, (b = true ↔ TreeOk ps) → Q (.bl b) H
def t_is_tree (K : PySem.W.Frag) : TS :=
  (tSeq (tIfS (tOr (tTest (tOp xLt (tCB (rLenX K) (tCons (tVar 0) tNil)) (tC (.int 1)))) (tTest (tOp xGe (tCB (rLenX K) (tCons (tVar 0) tNil)) (tC (.int 60))))) (tRet (tC (.bl false))) tNext)
    (tSeq (tFor (iRng1 (tCons (tCB (rLenX K) (tCons (tVar 0) tNil)) tNil)) (gName 1)
      (tIfS (tOr (tTest (tOp xLt (tOp (rIxL K) (tVar 0) (tVar 1)) (tC (.int 0)))) (tTest (tOp xGt (tOp (rIxL K) (tVar 0) (tVar 1)) (tVar 1)))) (tRet (tC (.bl false))) tNext))
    (tRet (tC (.bl true)))))
theorem pure_is_tree {v0 : V} {H : Hp} {Q : VK} {E : XK} (h : pr_is_tree K v0 H Q E) : t_is_tree K ⟨fun _ H' => Q .non H', Q, fun _ _ => False, fun _ _ => False⟩ [some v0, none] H := by
  obtain ⟨ps, hp, hz, q⟩ := h
  obtain ⟨a, rfl, ha⟩ := dp_ints hp
  unfold t_is_tree
  wtm_at "s"
  refine k_it (fun c1 => ?_) (fun c1 => ?_)
  · wtm_at "s"
    exact q _ (ff_iff fun z => absurd z.1 (by omega))
  wtm_at "s"
  refine k_it (fun c2 => ?_) (fun c2 => ?_)
  · wtm_at "s"
    exact q _ (ff_iff fun z => absurd z.2.1 (by omega))
  wtm_at "s"
  refine forR (fun i σ' H' => H' = H ∧ (∃ k, σ' = [some (.ref a), k]) ∧ ∀ k : Nat, k < i → 0 ≤ ps.getD k 0 ∧ ps.getD k 0 ≤ k) ⟨rfl, ⟨none, rfl⟩, fun k hk => absurd hk (by omega)⟩ ?_ ?_
  · rintro i σ' H' hi ⟨rfl, ⟨k, rfl⟩, hk⟩
    wtm_at "s"
    refine k_ixI ha (by omega) (by omega) ?_
    wtm_at "s"
    rw [show (0 + (i : Int)).toNat = i by omega]
    refine k_it (fun c3 => ?_) (fun c3 => ?_)
    · wtm_at "s"
      exact q _ (ff_iff fun z => absurd (z.2.2 i (by omega)).1 (by omega))
    wtm_at "s"
    refine k_ixI ha (by omega) (by omega) ?_
    wtm_at "s"
    rw [show (0 + (i : Int)).toNat = i by omega]
    refine k_it (fun c4 => ?_) (fun c4 => ?_)
    · wtm_at "s"
      exact q _ (ff_iff fun z => absurd (z.2.2 i (by omega)).2 (by omega))
    wtm_at "s"
    refine ⟨rfl, ⟨_, rfl⟩, fun k hk' => ?_⟩
    by_cases e : k = i
    · subst e; omega
    · exact hk k (by omega)
  · rintro σ' H' ⟨rfl, ⟨k, rfl⟩, hk⟩
    wtm_at "s"
    exact q _ (tt_iff ⟨by omega, by omega, fun k h => hk k (by omega)⟩)
abbrev sp_is_tree (K : PySem.W.Frag) : Sp := fun vs H Q E => ∃ v0, vs = [v0] ∧ pr_is_tree K v0 H Q E
theorem ok_is_tree (T : Txt K mg A) : FnOk P w K mg base CX0 1 A.a_is_tree A.d_is_tree ["parents"] (sp_is_tree K) := by
  refine T.F_is_tree.ok sc_is_tree (fun vs H Q E h => by obtain ⟨v0, rfl, _⟩ := h; rfl) (fun cdv A0 outer s H vs Q E hr h => ?_)
  obtain ⟨v0, rfl, h⟩ := h
  exact ⟨t_is_tree K, (pss_cons (ps_if (PW.pt (pw_or (pt_cmpR op_lt (pe_callB q_len (by rfl) T.z_len (by decide +kernel) (pa_cons (pv 0) pa_nil)) pe_int (nomark _)) (pw_or1 (pt_cmpR op_ge (pe_callB q_len (by rfl) T.z_len (by decide +kernel) (pa_cons (pv 0) pa_nil)) (pe_glob (v := .int 60) (by rfl) T.c_MOST_PLACES ⟨_, rfl⟩) (nomark _))))) (pss_one (ps_ret pe_bl)) pss_nil)
      (pss_cons (ps_for PassesOwn.never rfl (pi_range1 (by rfl) T.z_range (pa_cons (pe_callB q_len (by rfl) T.z_len (by decide +kernel) (pa_cons (pv 0) pa_nil)) pa_nil)) (pg_name (i := 1) sc_is_tree.nd rfl (Or.inl rfl))
      (pss_one (ps_if (PW.pt (pw_or (pt_cmpR op_lt (pe_ix ix_list (pv 0) (pv 1) (fun _ _ => rfl)) pe_int (nomark _)) (pw_or1 (pt_cmpR op_gt (pe_ix ix_list (pv 0) (pv 1) (fun _ _ => rfl)) (pv 1) (nomark _))))) (pss_one (ps_ret pe_bl)) pss_nil)))
      (pss_one (ps_ret pe_bl)))), pure_is_tree h⟩
def pr_look_net (K : PySem.W.Frag) (v0 : V) (H : Hp) (Q : VK) (_ : XK) : Prop := ∃ N : Net, Dp K H v0 N.d ∧ N.ok ∧ Q .non H
def t_look_net (K : PySem.W.Frag) : TS :=
  (tSeq (tAsg (tVar 0) (gTup K 2 (gCons (gName 1) (gCons (gName 2) gNil))))
    (tSeq (tIfS (tTest (tOp rEq (tVar 1) (tC (.str (Str.ofString "tree"))))) (tAsg (tAndV (tCB (rIsi K) (tCons (tVar 2) (tCons (tC (.ty "list")) tNil))) (tCall (sp_is_tree K) [] E0 (tCons (tVar 2) tNil))) (gName 3)) (tIfS (tOr (tTest (tOp rEq (tVar 1) (tC (.str (Str.ofString "line"))))) (tTest (tOp rEq (tVar 1) (tC (.str (Str.ofString "ring")))))) (tAsg (tAndV (tNotV (tCB (rIsi K) (tCons (tVar 2) (tCons (tC (.ty "list")) tNil)))) (tAndV (tOp xGe (tVar 2) (tOp xAdd (tC (.int 2)) (tCB rIntOf (tCons (tOp rEq (tVar 1) (tC (.str (Str.ofString "ring")))) tNil)))) (tOp xLe (tVar 2) (tC (.int 60))))) (gName 3)) (tAsg (tC (.bl false)) (gName 3))))
    (tIfS (tNot (tB (tVar 3))) tNever tNext)))
theorem pure_look_net {v0 : V} {H : Hp} {Q : VK} {E : XK} (h : pr_look_net K v0 H Q E) : t_look_net K ⟨fun _ H' => Q .non H', Q, fun _ _ => False, fun _ _ => False⟩ [some v0, none, none, none] H := by
  obtain ⟨N, hd, ok, q⟩ := h
  obtain ⟨a, y, rfl, hs, hy⟩ := dp_net hd
  unfold t_look_net
  cases N with
  | line n =>
    obtain rfl := dp_int hy
    obtain ⟨o1, o2⟩ := ok
    wtm_at "s"
    refine k_eqS ?_
    rw [show Net.kind (.line n) = Str.ofString "line" from rfl, s_lt]
    wtm_at "s"
    refine k_eqS ?_
    rw [s_same]
    wtm_at "s"
    refine k_eqS ?_
    rw [s_lr]
    wtm_at "s"
    have e1 : decide (2 + (if false = true then 1 else 0) ≤ n) = true := by simp; omega
    rw [e1]
    wtm_at "s"
    exact q
  | ring n =>
    obtain rfl := dp_int hy
    obtain ⟨o1, o2⟩ := ok
    wtm_at "s"
    refine k_eqS ?_
    rw [show Net.kind (.ring n) = Str.ofString "ring" from rfl, s_rt]
    wtm_at "s"
    refine k_eqS ?_
    rw [s_rl]
    wtm_at "s"
    refine k_eqS ?_
    rw [s_same]
    wtm_at "s"
    refine k_eqS ?_
    rw [s_same]
    wtm_at "s"
    exact q
  | tree ps =>
    obtain ⟨b, rfl, hb⟩ := dp_ints hy
    wtm_at "s"
    refine k_eqS ?_
    rw [show Net.kind (.tree ps) = Str.ofString "tree" from rfl, s_same]
    wtm_at "s"
    refine ⟨_, rfl, ps, hy, by have := ok.2.1; omega, fun r hr => ?_⟩
    obtain rfl := hr.mpr ok
    wtm_at "s"
    exact q
abbrev sp_look_net (K : PySem.W.Frag) : Sp := fun vs H Q E => ∃ v0, vs = [v0] ∧ pr_look_net K v0 H Q E
theorem ok_look_net (T : Txt K mg A) : FnOk P w K mg base CX0 2 A.a_look_net A.d_look_net ["net"] (sp_look_net K) := by
  refine T.F_look_net.ok sc_look_net (fun vs H Q E h => by obtain ⟨v0, rfl, _⟩ := h; rfl) (fun cdv A0 outer s H vs Q E hr h => ?_)
  obtain ⟨v0, rfl, h⟩ := h
  exact ⟨t_look_net K, (pss_cons (ps_asg (pv 0) (pg_tup (by rfl) (pgs_cons (pg_name (i := 1) sc_look_net.nd rfl (Or.inl rfl)) (pgs_cons (pg_name (i := 2) sc_look_net.nd rfl (Or.inl rfl)) pgs_nil))))
      (pss_cons (ps_if (pt_cmpR op_eq (pv 1) pe_str (nomark _)) (pss_one (ps_set (i := 3) sc_look_net.nd rfl (Or.inl rfl) (pe_and (pe_callB q_isi (by rfl) T.z_isinstance (by decide +kernel) (pa_cons (pv 2) (pa_cons (pe_bltn (v := .ty "list") (by rfl) T.z_list (by decide +kernel) rfl) pa_nil))) (pe_one (pe_call (ok_is_tree T) (hr.mono (by decide)) (by rfl) T.g_is_tree T.F_is_tree.kp T.b_is_tree .nil pass0 (pa_cons (pv 2) pa_nil)))))) (pss_one (ps_if (PW.pt (pw_or (pt_cmpR op_eq (pv 1) pe_str (nomark _)) (pw_or1 (pt_cmpR op_eq (pv 1) pe_str (nomark _))))) (pss_one (ps_set (i := 3) sc_look_net.nd rfl (Or.inl rfl) (pe_and (pe_not (pe_callB q_isi (by rfl) T.z_isinstance (by decide +kernel) (pa_cons (pv 2) (pa_cons (pe_bltn (v := .ty "list") (by rfl) T.z_list (by decide +kernel) rfl) pa_nil)))) (pe_and (pe_cmpR op_ge (pv 2) (pe_op op_add pe_int (pe_callTy q_intB (by rfl) T.z_int (by decide +kernel) (pa_cons (pe_cmpR op_eq (pv 1) pe_str (nomark _)) pa_nil))) (nomark _)) (pe_one (pe_cmpR op_le (pv 2) (pe_glob (v := .int 60) (by rfl) T.c_MOST_PLACES ⟨_, rfl⟩) (nomark _))))))) (pss_one (ps_set (i := 3) sc_look_net.nd rfl (Or.inl rfl) pe_bl)))))
      (pss_one (ps_if (pt_not (pt_val (pv 3))) (pss_one ps_never) pss_nil)))), pure_look_net h⟩
def pr_must_be_kind (K : PySem.W.Frag) (v0 v1 : V) (H : Hp) (Q : VK) (_ : XK) : Prop := ∃ N : Net, Dp K H v0 N.d ∧ N.ok ∧ v1 = .str N.kind ∧ Q .non H
def t_must_be_kind (K : PySem.W.Frag) : TS :=
  (tSeq (tDrop (tCall (sp_look_net K) [] E0 (tCons (tVar 0) tNil)))
    (tIfS (tTest (tOp rNe (tOp (rIxT K) (tVar 0) (tC (.int 0))) (tVar 1))) tNever tNext))
theorem pure_must_be_kind {v0 v1 : V} {H : Hp} {Q : VK} {E : XK} (h : pr_must_be_kind K v0 v1 H Q E) : t_must_be_kind K ⟨fun _ H' => Q .non H', Q, fun _ _ => False, fun _ _ => False⟩ [some v0, some v1] H := by
  obtain ⟨N, hd, ok, rfl, q⟩ := h
  obtain ⟨a, y, rfl, hs, hy⟩ := dp_net hd
  unfold t_must_be_kind
  wtm_at "s"
  refine ⟨_, rfl, N, hd, ok, ?_⟩
  wtm_at "s"
  refine k_neS ?_
  rw [s_same]
  wtm_at "s"
  exact q
abbrev sp_must_be_kind (K : PySem.W.Frag) : Sp := fun vs H Q E => ∃ v0 v1, vs = [v0, v1] ∧ pr_must_be_kind K v0 v1 H Q E
theorem ok_must_be_kind (T : Txt K mg A) : FnOk P w K mg base CX0 3 A.a_must_be_kind A.d_must_be_kind ["net", "kind"] (sp_must_be_kind K) := by
  refine T.F_must_be_kind.ok sc_must_be_kind (fun vs H Q E h => by obtain ⟨v0, v1, rfl, _⟩ := h; rfl) (fun cdv A0 outer s H vs Q E hr h => ?_)
  obtain ⟨v0, v1, rfl, h⟩ := h
  exact ⟨t_must_be_kind K, (pss_cons (ps_expr (pe_call (ok_look_net T) (hr.mono (by decide)) (by rfl) T.g_look_net T.F_look_net.kp T.b_look_net .nil pass0 (pa_cons (pv 0) pa_nil)))
      (pss_one (ps_if (pt_cmpR op_ne (pe_ix ix_tup (pv 0) pe_int (fun _ _ => rfl)) (pv 1) (nomark _)) (pss_one ps_never) pss_nil))), pure_must_be_kind h⟩


def pr_places_of (K : PySem.W.Frag) (v0 : V) (H : Hp) (Q : VK) (_ : XK) : Prop := ∃ N : Net, Dp K H v0 N.d ∧ Q (.int N.places) H
def t_places_of (K : PySem.W.Frag) : TS :=
  (tSeq (tIfS (tTest (tOp rEq (tOp (rIxT K) (tVar 0) (tC (.int 0))) (tC (.str (Str.ofString "tree"))))) (tRet (tOp xAdd (tCB (rLenX K) (tCons (tOp (rIxT K) (tVar 0) (tC (.int 1))) tNil)) (tC (.int 1)))) tNext)
    (tRet (tOp (rIxT K) (tVar 0) (tC (.int 1)))))
theorem pure_places_of {v0 : V} {H : Hp} {Q : VK} {E : XK} (h : pr_places_of K v0 H Q E) : t_places_of K ⟨fun _ H' => Q .non H', Q, fun _ _ => False, fun _ _ => False⟩ [some v0] H := by
  obtain ⟨N, hd, q⟩ := h
  obtain ⟨a, y, rfl, hs, hy⟩ := dp_net hd
  unfold t_places_of
  wtm_at "s"
  refine k_eqS ?_
  cases N with
  | line n =>
    obtain rfl := dp_int hy
    rw [show Net.kind (.line n) = Str.ofString "line" from rfl, s_lt]
    wtm_at "s"
    exact q
  | ring n =>
    obtain rfl := dp_int hy
    rw [show Net.kind (.ring n) = Str.ofString "ring" from rfl, s_rt]
    wtm_at "s"
    exact q
  | tree ps =>
    obtain ⟨b, rfl, hb⟩ := dp_ints hy
    rw [show Net.kind (.tree ps) = Str.ofString "tree" from rfl, s_same]
    wtm_at "s"
    exact q
abbrev sp_places_of (K : PySem.W.Frag) : Sp := fun vs H Q E => ∃ v0, vs = [v0] ∧ pr_places_of K v0 H Q E
theorem ok_places_of (T : Txt K mg A) : FnOk P w K mg base CX0 1 A.a_places_of A.d_places_of ["net"] (sp_places_of K) := by
  refine T.F_places_of.ok sc_places_of (fun vs H Q E h => by obtain ⟨v0, rfl, _⟩ := h; rfl) (fun cdv A0 outer s H vs Q E hr h => ?_)
  obtain ⟨v0, rfl, h⟩ := h
  exact ⟨t_places_of K, (pss_cons (ps_if (pt_cmpR op_eq (pe_ix ix_tup (pv 0) pe_int (fun _ _ => rfl)) pe_str (nomark _)) (pss_one (ps_ret (pe_op op_add (pe_callB q_len (by rfl) T.z_len (by decide +kernel) (pa_cons (pe_ix ix_tup (pv 0) pe_int (fun _ _ => rfl)) pa_nil)) pe_int))) pss_nil)
      (pss_one (ps_ret (pe_ix ix_tup (pv 0) pe_int (fun _ _ => rfl))))), pure_places_of h⟩
def pr_is_way (K : PySem.W.Frag) (v0 v1 : V) (H : Hp) (Q : VK) (_ : XK) : Prop := ∃ (N : Net) (a b : Int), Dp K H v0 N.d ∧ Dp K H v1 (dPair (a, b)) ∧ Q (.bl (decide (isWay N a b))) H
def t_is_way (K : PySem.W.Frag) : TS :=
  (tSeq (tAsg (tVar 1) (gTup K 2 (gCons (gName 2) (gCons (gName 3) gNil))))
    (tRet (tAndV (tOp rNe (tVar 2) (tVar 3)) (tAndV (tOp xGe (tCB rMin2 (tCons (tVar 2) (tCons (tVar 3) tNil))) (tC (.int 0))) (tOp xLt (tCB rMax2 (tCons (tVar 2) (tCons (tVar 3) tNil))) (tCall (sp_places_of K) [] E0 (tCons (tVar 0) tNil)))))))
theorem pure_is_way {v0 v1 : V} {H : Hp} {Q : VK} {E : XK} (h : pr_is_way K v0 v1 H Q E) : t_is_way K ⟨fun _ H' => Q .non H', Q, fun _ _ => False, fun _ _ => False⟩ [some v0, some v1, none, none] H := by
  obtain ⟨N, a, b, hd, hw, q⟩ := h
  obtain ⟨p, rfl, hp⟩ := dp_pair hw
  have kk : ∀ r : Bool, (r = true ↔ isWay N a b) → Q (.bl r) H := fun r hr => by
    have : r = decide (isWay N a b) := by
      by_cases c : isWay N a b
      · rw [decide_eq_true c]; exact hr.mpr c
      · rw [decide_eq_false c]
        cases r with
        | false => rfl
        | true => exact absurd (hr.mp rfl) c
    rw [this]; exact q
  unfold t_is_way
  wtm_at "s"
  refine k_itn (fun c1 => ?_) (fun c1 => ?_)
  · wtm_at "s"
    refine k_it (fun c2 => ?_) (fun c2 => ?_)
    · wtm_at "s"
      refine ⟨_, rfl, N, hd, ?_⟩
      wtm_at "s"
      refine kk _ ?_
      simp only [decide_eq_true_eq, isWay]
      constructor
      · intro z
        split at z <;> split at c2 <;> omega
      · intro z
        split <;> omega
    · wtm_at "s"
      refine kk _ (ff_iff fun z => c2 ?_)
      obtain ⟨z1, z2, z3, z4, z5⟩ := z
      split <;> omega
  · wtm_at "s"
    exact kk _ (ff_iff fun z => z.1 c1)
abbrev sp_is_way (K : PySem.W.Frag) : Sp := fun vs H Q E => ∃ v0 v1, vs = [v0, v1] ∧ pr_is_way K v0 v1 H Q E
theorem ok_is_way (T : Txt K mg A) : FnOk P w K mg base CX0 2 A.a_is_way A.d_is_way ["net", "way"] (sp_is_way K) := by
  refine T.F_is_way.ok sc_is_way (fun vs H Q E h => by obtain ⟨v0, v1, rfl, _⟩ := h; rfl) (fun cdv A0 outer s H vs Q E hr h => ?_)
  obtain ⟨v0, v1, rfl, h⟩ := h
  exact ⟨t_is_way K, (pss_cons (ps_asg (pv 1) (pg_tup (by rfl) (pgs_cons (pg_name (i := 2) sc_is_way.nd rfl (Or.inl rfl)) (pgs_cons (pg_name (i := 3) sc_is_way.nd rfl (Or.inl rfl)) pgs_nil))))
      (pss_one (ps_ret (pe_and (pe_cmpR op_ne (pv 2) (pv 3) (nomark _)) (pe_and (pe_cmpR op_ge (pe_callB (q_min2 (by rfl)) (by rfl) T.z_min (by decide +kernel) (pa_cons (pv 2) (pa_cons (pv 3) pa_nil))) pe_int (nomark _)) (pe_one (pe_cmpR op_lt (pe_callB (q_max2 (by rfl)) (by rfl) T.z_max (by decide +kernel) (pa_cons (pv 2) (pa_cons (pv 3) pa_nil))) (pe_call (ok_places_of T) (hr.mono (by decide)) (by rfl) T.g_places_of T.F_places_of.kp T.b_places_of .nil pass0 (pa_cons (pv 0) pa_nil)) (nomark _)))))))), pure_is_way h⟩


theorem below_lt {ps : List Int} {k : Nat} : ∀ x, x < k → below ps k x = false
  | 0, h => by unfold below; exact decide_eq_false (by omega)
  | x + 1, h => by
    unfold below
    rw [decide_eq_false (show ¬ k = x + 1 by omega), decide_eq_false (show ¬ k < x + 1 by omega)]; rfl
theorem below_self {ps : List Int} (k : Nat) : below ps k k = true := by
  cases k with
  | zero => unfold below; rfl
  | succ x => unfold below; rw [decide_eq_true rfl]; rfl
theorem below_step {ps : List Int} (h : TreeOk ps) {k x : Nat} (hx : x < ps.length) (hk : k ≠ x + 1) : below ps k (x + 1) = below ps k (ps.getD x 0).toNat := by
  have hp := h.2.2 x hx
  have hlt : (ps.getD x 0).toNat < x + 1 := by omega
  rw [below, decide_eq_false hk, Bool.false_or, dif_pos hlt]
  by_cases c : k < x + 1
  · rw [decide_eq_true c, Bool.true_and]
  · rw [decide_eq_false c, Bool.false_and, below_lt _ (by omega)]
theorem ring_step {n a b t : Int} (a0 : 0 ≤ a) (a1 : a < n) (b0 : 0 ≤ b) (b1 : b < n) (ne : a ≠ b) (t0 : 0 ≤ t) (t1 : t < n) :
    (up n a t < up n a b ↔ t = a ∨ up n ((a + 1) % n) t < up n ((a + 1) % n) b) ∧ (t = a → ¬ up n ((a + 1) % n) t < up n ((a + 1) % n) b) := by
  have e : (a + 1) % n = if a + 1 = n then 0 else a + 1 := by
    split
    · rename_i h; rw [h]; exact Int.emod_self
    · exact Int.emod_eq_of_lt (by omega) (by omega)
  rw [e]
  unfold up
  constructor
  · constructor
    · intro h; repeat' split at h
      all_goals repeat' split
      all_goals omega
    · intro h; repeat' split at h
      all_goals repeat' split
      all_goals omega
  · intro h; subst h
    repeat' split
    all_goals omega
theorem ring_far {n a b : Int} (a0 : 0 ≤ a) (a1 : a < n) (b0 : 0 ≤ b) (b1 : b < n) (ne : a ≠ b) : up n ((a + 1) % n) b = up n a b - 1 ∧ 0 ≤ (a + 1) % n ∧ (a + 1) % n < n ∧ 0 < up n a b ∧ up n a b < n := by
  have e : (a + 1) % n = if a + 1 = n then 0 else a + 1 := by
    split
    · rename_i h; rw [h]; exact Int.emod_self
    · exact Int.emod_eq_of_lt (by omega) (by omega)
  rw [e]
  unfold up
  refine ⟨?_, ?_, ?_, ?_, ?_⟩ <;> repeat' split
  all_goals omega
theorem up_self (n a : Int) : up n a a = 0 := by unfold up; split <;> omega
theorem up_nonneg {n a b : Int} (a0 : 0 ≤ a) (a1 : a < n) (b0 : 0 ≤ b) (b1 : b < n) : 0 ≤ up n a b := by unfold up; split <;> omega
/-- the greater end climbs -/
theorem tree_step {ps : List Int} (h : TreeOk ps) {x y t : Int} (x0 : 0 ≤ x) (x1 : x < ps.length + 1) (y0 : 0 ≤ y) (yx : y < x) (t0 : 0 ≤ t) :
    (below ps (t.toNat + 1) x.toNat ≠ below ps (t.toNat + 1) y.toNat ↔ t = x - 1 ∨ below ps (t.toNat + 1) (ps.getD (x - 1).toNat 0).toNat ≠ below ps (t.toNat + 1) y.toNat) ∧
    (t = x - 1 → ¬ below ps (t.toNat + 1) (ps.getD (x - 1).toNat 0).toNat ≠ below ps (t.toNat + 1) y.toNat) := by
  have hp := h.2.2 (x - 1).toNat (by omega)
  by_cases c : t = x - 1
  · subst c
    have e1 : (x - 1).toNat + 1 = x.toNat := by omega
    rw [e1, below_self, below_lt y.toNat (by omega), below_lt (ps.getD (x - 1).toNat 0).toNat (by omega)]
    simp
  · have e1 : x.toNat = (x - 1).toNat + 1 := by omega
    have := below_step h (k := t.toNat + 1) (x := (x - 1).toNat) (by omega) (by omega)
    rw [e1, this]
    simp [c]
theorem srt_of {fs ns : List Int} (nd : fs.Nodup) (pm : ns.Perm fs) (srt : ns.Pairwise (· ≤ ·)) : ns.Pairwise (· < ·) := by
  have := srt.and (pm.nodup_iff.mpr nd)
  exact this.imp fun ⟨a, b⟩ => by omega
def pr_ties_on (K : PySem.W.Frag) (v0 v1 : V) (H : Hp) (Q : VK) (_ : XK) : Prop := ∃ (N : Net) (a b : Int), Dp K H v0 N.d ∧ Dp K H v1 (dPair (a, b)) ∧ N.ok ∧ isWay N a b ∧ ∀ p ns H', H p = none → Same H H' → H' p = some (.lst (List.map V.int ns)) → TiesOf N a b ns → Q (.ref p) H'
def t_ties_on (K : PySem.W.Frag) : TS :=
  (tSeq (tAsg (tVar 1) (gTup K 2 (gCons (gName 2) (gCons (gName 3) gNil))))
    (tSeq (tAsg (tLst tNil) (gName 4))
    (tSeq (tIfS (tTest (tOp rEq (tOp (rIxT K) (tVar 0) (tC (.int 0))) (tC (.str (Str.ofString "line"))))) (tRet (tLstRg (tRg2 (tCB rMin2 (tCons (tVar 2) (tCons (tVar 3) tNil))) (tCB rMax2 (tCons (tVar 2) (tCons (tVar 3) tNil)))))) tNext)
    (tSeq (tWhile (tTest (tOp rNe (tVar 2) (tVar 3)))
      (tIfS (tTest (tOp rEq (tOp (rIxT K) (tVar 0) (tC (.int 0))) (tC (.str (Str.ofString "ring"))))) (tSeq (tDrop (tBM K "list" rAppend (tVar 4) (tCons (tVar 2) tNil)))
    (tAsg (tOp xMod (tOp xAdd (tVar 2) (tC (.int 1))) (tOp (rIxT K) (tVar 0) (tC (.int 1)))) (gName 2))) (tIfS (tTest (tOp xGt (tVar 2) (tVar 3))) (tSeq (tDrop (tBM K "list" rAppend (tVar 4) (tCons (tOp xSub (tVar 2) (tC (.int 1))) tNil)))
    (tAsg (tOp (rIxL K) (tOp (rIxT K) (tVar 0) (tC (.int 1))) (tOp xSub (tVar 2) (tC (.int 1)))) (gName 2))) (tSeq (tDrop (tBM K "list" rAppend (tVar 4) (tCons (tOp xSub (tVar 3) (tC (.int 1))) tNil)))
    (tAsg (tOp (rIxL K) (tOp (rIxT K) (tVar 0) (tC (.int 1))) (tOp xSub (tVar 3) (tC (.int 1)))) (gName 3))))))
    (tRet (tCB (rSortedI K) (tCons (tVar 4) tNil)))))))
def Net.far2 (N : Net) (a b a' b' : Int) (fs : List Int) (m : Nat) : Prop := match N with
  | .line _ => True
  | .ring n => (m : Int) = up n a' b' ∧ (fs.length : Int) + m = up n a b
  | .tree _ => (m : Int) = a' + b' ∧ (fs.length : Int) + m ≤ a + b
theorem pure_ties_on {v0 v1 : V} {H : Hp} {Q : VK} {E : XK} (h : pr_ties_on K v0 v1 H Q E) : t_ties_on K ⟨fun _ H' => Q .non H', Q, fun _ _ => False, fun _ _ => False⟩ [some v0, some v1, none, none, none] H := by
  obtain ⟨N, a, b, hd, hw, ok, ⟨w1, w2, w3, w4, w5⟩, q⟩ := h
  obtain ⟨c, y, rfl, hs, hy⟩ := dp_net hd
  obtain ⟨p, rfl, hp⟩ := dp_pair hw
  unfold t_ties_on
  wtm_at "s"
  refine ⟨sz (by simp), fun fo nfo => ?_⟩
  have s1 := same_new (o := .lst []) nfo
  have e1 : upd H fo (.lst []) fo = some (.lst (List.map V.int [])) := upd_same
  generalize upd H fo (.lst []) = H1 at s1 e1 ⊢
  wtm_at "s"
  refine k_eqS ?_
  have loop : ∀ (nx : L2.St → Hp → Prop) (bk ct : L2.St → Hp → Prop), (match N with | .line _ => False | _ => True) → ∀ (W : Nat → L2.St → Hp → Prop), True := fun _ _ _ _ _ => trivial
  cases N with
  | line n =>
    obtain rfl := dp_int hy
    rw [show Net.kind (.line n) = Str.ofString "line" from rfl, s_same]
    obtain ⟨o1, o2⟩ := ok
    have w4' : a < n := w4
    have w5' : b < n := w5
    wtm_at "s"
    have hmn : (if b < a then b else a) = min a b := by split <;> omega
    have hmx : (if b > a then b else a) = max a b := by split <;> omega
    rw [hmn, hmx]
    refine ⟨.of_le (by omega) (by omega) (by omega) (by omega), fun l nl => ?_⟩
    refine q l ((List.range (max a b - min a b).toNat).map fun i => min a b + (i : Nat)) _ (s1.free nl) (s1.trans (same_new nl)) (by rw [upd_same, rg_ints]) ⟨?_, fun t => ?_, ?_⟩
    · exact List.pairwise_map.mpr (List.pairwise_lt_range.imp fun h => by omega)
    · show _ ↔ min a b ≤ t ∧ t < max a b
      rw [List.mem_map]
      constructor
      · rintro ⟨i, hi, rfl⟩
        have := List.mem_range.mp hi
        omega
      · intro h
        exact ⟨(t - min a b).toNat, List.mem_range.mpr (by omega), by omega⟩
    · show ((List.map _ _).length : Int) = max a b - min a b
      rw [List.length_map, List.length_range]
      omega
  | ring n =>
    obtain rfl := dp_int hy
    rw [show Net.kind (.ring n) = Str.ofString "ring" from rfl] at hs ⊢
    rw [s_rl]
    obtain ⟨o1, o2⟩ := ok
    have w4' : a < n := w4
    have w5' : b < n := w5
    have u0 := up_nonneg w2 w4' w3 w5'
    wtm_at "s"
    refine ⟨fun m σ' H' => ∃ a' fs, σ' = [some (.ref c), some (.ref p), some (.int a'), some (.int b), some (.ref fo)] ∧ Same H H' ∧ H' fo = some (.lst (List.map V.int fs)) ∧ 0 ≤ a' ∧ a' < n ∧ fs.Nodup ∧ (m : Int) = up n a' b ∧ (fs.length : Int) + m = up n a b ∧
      (∀ t, OnTie (.ring n) a b t ↔ t ∈ fs ∨ OnTie (.ring n) a' b t) ∧ (∀ t, t ∈ fs → ¬ OnTie (.ring n) a' b t),
      ⟨(up n a b).toNat, a, [], rfl, s1, e1, w2, w4', List.nodup_nil, by omega, by simp; omega, fun t => by simp, fun t z => by cases z⟩, ?_⟩
    rintro m σ' H' ⟨a', fs, rfl, sm, hf, a0, a1, nd, hm, hfl, ht, hn⟩
    wtm_at "s"
    refine k_itn (fun c1 => ?_) (fun c1 => ?_)
    · obtain ⟨f1, f2, f3, f4, f5⟩ := ring_far a0 a1 w3 w5' c1
      have uab : up n a b < n := by unfold up; split <;> omega
      refine ⟨fun σ' H' => ∃ fs', σ' = [some (.ref c), some (.ref p), some (.int ((a' + 1) % n)), some (.int b), some (.ref fo)] ∧ Same H H' ∧ H' fo = some (.lst (List.map V.int fs')) ∧ fs'.Nodup ∧ (fs'.length : Int) + (m - 1 : Nat) = up n a b ∧
        (∀ t, OnTie (.ring n) a b t ↔ t ∈ fs' ∨ OnTie (.ring n) ((a' + 1) % n) b t) ∧ (∀ t, t ∈ fs' → ¬ OnTie (.ring n) ((a' + 1) % n) b t), fun σ' H' ⟨fs', e, g1, g2, g3, g4, g5, g6⟩ => ⟨m - 1, by omega, _, fs', e, g1, g2, f2, f3, g3, by omega, g4, g5, g6⟩, ?_⟩
      have hs' : SqT K H' c [.str (Str.ofString "ring"), .int n] := same_seqT sm hs
      wtm_at "s"
      refine k_eqS ?_
      rw [s_same]
      wtm_at "s"
      refine k_tyL (sl hf) ?_
      wtm_at "s"
      refine k_append hf (by rw [List.length_map]; omega) ?_
      have hs2 : SqT K (upd H' fo (.lst (List.map V.int fs ++ [.int a']))) c [.str (Str.ofString "ring"), .int n] := same_seqT (same_mut sm nfo) hs
      wtm_at "s"
      refine ⟨fs ++ [a'], rfl, same_mut sm nfo, by rw [upd_same, List.map_append]; rfl, ?_, ?_, fun t => ?_, fun t z => ?_⟩
      · refine List.nodup_append.mpr ⟨nd, by simp, fun x hx y hy e => ?_⟩
        have : y = a' := by simpa using hy
        subst this; subst e
        exact hn x hx ⟨a0, a1, by rw [up_self]; exact f4⟩
      · rw [List.length_append]; show ((fs.length + 1 : Nat) : Int) + _ = _; omega
      · rw [ht t, List.mem_append]
        show t ∈ fs ∨ (0 ≤ t ∧ t < n ∧ up n a' t < up n a' b) ↔ (t ∈ fs ∨ t ∈ [a']) ∨ (0 ≤ t ∧ t < n ∧ _)
        by_cases r : 0 ≤ t ∧ t < n
        · have st := (ring_step a0 a1 w3 w5' c1 r.1 r.2).1
          simp only [r.1, r.2, true_and, List.mem_singleton, st, or_assoc]
        · have : t ≠ a' := fun e => r (by omega)
          constructor
          · rintro (h | h)
            · exact .inl (.inl h)
            · exact absurd ⟨h.1, h.2.1⟩ r
          · rintro ((h | h) | h)
            · exact .inl h
            · exact absurd (by simpa using h) this
            · exact absurd ⟨h.1, h.2.1⟩ r
      · rcases List.mem_append.mp z with z | z
        · intro o
          obtain ⟨o1, o2, o3⟩ := o
          exact hn t z ⟨o1, o2, (ring_step a0 a1 w3 w5' c1 o1 o2).1.mpr (.inr o3)⟩
        · have e : t = a' := by simpa using z
          intro o
          obtain ⟨o1, o2, o3⟩ := o
          exact (ring_step a0 a1 w3 w5' c1 o1 o2).2 e o3
    · subst c1
      rw [up_self] at hm
      wtm_at "s"
      refine k_sortedI (sl hf) (fun ns l pm srt nl => ?_)
      refine q l ns _ (sm.free nl) (sm.trans (same_new nl)) upd_same ⟨srt_of nd pm srt, fun t => ?_, ?_⟩
      · rw [pm.mem_iff, ht t]
        constructor
        · exact .inl
        · rintro (h | h)
          · exact h
          · obtain ⟨_, _, h⟩ := h
            rw [up_self] at h
            have := up_nonneg a0 a1 (b := t) (by assumption) (by assumption)
            omega
      · show (ns.length : Int) = up n a a'
        rw [pm.length_eq]; omega
  | tree ps =>
    obtain ⟨d, rfl, hdl⟩ := dp_ints hy
    rw [show Net.kind (.tree ps) = Str.ofString "tree" from rfl] at hs ⊢
    rw [s_tl]
    have w4' : a < ps.length + 1 := w4
    have w5' : b < ps.length + 1 := w5
    have l60 := ok.2.1
    wtm_at "s"
    refine ⟨fun m σ' H' => ∃ a' b' fs, σ' = [some (.ref c), some (.ref p), some (.int a'), some (.int b'), some (.ref fo)] ∧ Same H H' ∧ H' fo = some (.lst (List.map V.int fs)) ∧ 0 ≤ a' ∧ a' < ps.length + 1 ∧ 0 ≤ b' ∧ b' < ps.length + 1 ∧ fs.Nodup ∧ (m : Int) = a' + b' ∧ (fs.length : Int) + m ≤ a + b ∧
      (∀ t, OnTie (.tree ps) a b t ↔ t ∈ fs ∨ OnTie (.tree ps) a' b' t) ∧ (∀ t, t ∈ fs → ¬ OnTie (.tree ps) a' b' t),
      ⟨(a + b).toNat, a, b, [], rfl, s1, e1, w2, w4', w3, w5', List.nodup_nil, by omega, by simp; omega, fun t => by simp, fun t z => by cases z⟩, ?_⟩
    rintro m σ' H' ⟨a', b', fs, rfl, sm, hf, a0, a1, b0, b1, nd, hm, hfl, ht, hn⟩
    wtm_at "s"
    refine k_itn (fun c1 => ?_) (fun c1 => ?_)
    · refine ⟨fun σ' H' => ∃ m' a2 b2 fs', m' < m ∧ σ' = [some (.ref c), some (.ref p), some (.int a2), some (.int b2), some (.ref fo)] ∧ Same H H' ∧ H' fo = some (.lst (List.map V.int fs')) ∧ 0 ≤ a2 ∧ a2 < ps.length + 1 ∧ 0 ≤ b2 ∧ b2 < ps.length + 1 ∧ fs'.Nodup ∧ (m' : Int) = a2 + b2 ∧ (fs'.length : Int) + m' ≤ a + b ∧
        (∀ t, OnTie (.tree ps) a b t ↔ t ∈ fs' ∨ OnTie (.tree ps) a2 b2 t) ∧ (∀ t, t ∈ fs' → ¬ OnTie (.tree ps) a2 b2 t), fun σ' H' ⟨m', a2, b2, fs', l, r⟩ => ⟨m', l, a2, b2, fs', r⟩, ?_⟩
      have hs' : SqT K H' c [.str (Str.ofString "tree"), .ref d] := same_seqT sm hs
      wtm_at "s"
      refine k_eqS ?_
      rw [s_tr]
      wtm_at "s"
      refine k_it (fun c2 => ?_) (fun c2 => ?_)
      · have hpa := ok.2.2 (a' - 1).toNat (by omega)
        wtm_at "s"
        refine k_tyL (sl hf) ?_
        wtm_at "s"
        refine k_append hf (by rw [List.length_map]; omega) ?_
        have sm2 : Same H (upd H' fo (.lst (List.map V.int fs ++ [.int (a' - 1)]))) := same_mut sm nfo
        have hs2 : SqT K (upd H' fo (.lst (List.map V.int fs ++ [.int (a' - 1)]))) c [.str (Str.ofString "tree"), .ref d] := same_seqT sm2 hs
        wtm_at "s"
        refine k_ixI (sm2.seq hdl) (by omega) (by omega) ?_
        wtm_at "s"
        refine ⟨(ps.getD (a' - 1).toNat 0 + b').toNat, _, _, fs ++ [a' - 1], by omega, rfl, sm2, by rw [upd_same, List.map_append]; rfl, by omega, by omega, b0, b1, ?_, by omega, ?_, fun t => ?_, fun t z => ?_⟩
        · refine List.nodup_append.mpr ⟨nd, by simp, fun x hx y hy e => ?_⟩
          have : y = a' - 1 := by simpa using hy
          subst this; subst e
          exact hn _ hx ⟨by omega, by omega, (tree_step ok a0 a1 b0 c2 (by omega)).1.mpr (.inl rfl)⟩
        · rw [List.length_append]; show ((fs.length + 1 : Nat) : Int) + _ ≤ _; omega
        · rw [ht t, List.mem_append]
          show t ∈ fs ∨ (0 ≤ t ∧ t < ps.length ∧ _) ↔ (t ∈ fs ∨ t ∈ [a' - 1]) ∨ (0 ≤ t ∧ t < ps.length ∧ _)
          by_cases r : 0 ≤ t ∧ t < ps.length
          · have st := (tree_step ok a0 a1 b0 c2 r.1).1
            simp only [r.1, r.2, true_and, List.mem_singleton, st, or_assoc]
          · have : t ≠ a' - 1 := fun e => r (by omega)
            constructor
            · rintro (h | h)
              · exact .inl (.inl h)
              · exact absurd ⟨h.1, h.2.1⟩ r
            · rintro ((h | h) | h)
              · exact .inl h
              · exact absurd (by simpa using h) this
              · exact absurd ⟨h.1, h.2.1⟩ r
        · rcases List.mem_append.mp z with z | z
          · rintro ⟨o1, o2, o3⟩
            exact hn t z ⟨o1, o2, (tree_step ok a0 a1 b0 c2 o1).1.mpr (.inr o3)⟩
          · have e : t = a' - 1 := by simpa using z
            rintro ⟨o1, o2, o3⟩
            exact (tree_step ok a0 a1 b0 c2 o1).2 e o3
      · have c3 : a' < b' := by omega
        have hpb := ok.2.2 (b' - 1).toNat (by omega)
        have sym : ∀ u v t, OnTie (.tree ps) u v t ↔ OnTie (.tree ps) v u t := fun u v t => by
          show (_ ∧ _ ∧ _ ≠ _) ↔ (_ ∧ _ ∧ _ ≠ _)
          constructor
          · rintro ⟨x1, x2, x3⟩; exact ⟨x1, x2, x3.symm⟩
          · rintro ⟨x1, x2, x3⟩; exact ⟨x1, x2, x3.symm⟩
        wtm_at "s"
        refine k_tyL (sl hf) ?_
        wtm_at "s"
        refine k_append hf (by rw [List.length_map]; omega) ?_
        have sm2 : Same H (upd H' fo (.lst (List.map V.int fs ++ [.int (b' - 1)]))) := same_mut sm nfo
        have hs2 : SqT K (upd H' fo (.lst (List.map V.int fs ++ [.int (b' - 1)]))) c [.str (Str.ofString "tree"), .ref d] := same_seqT sm2 hs
        wtm_at "s"
        refine k_ixI (sm2.seq hdl) (by omega) (by omega) ?_
        wtm_at "s"
        refine ⟨(a' + ps.getD (b' - 1).toNat 0).toNat, _, _, fs ++ [b' - 1], by omega, rfl, sm2, by rw [upd_same, List.map_append]; rfl, a0, a1, by omega, by omega, ?_, by omega, ?_, fun t => ?_, fun t z => ?_⟩
        · refine List.nodup_append.mpr ⟨nd, by simp, fun x hx y hy e => ?_⟩
          have : y = b' - 1 := by simpa using hy
          subst this; subst e
          exact hn _ hx ((sym _ _ _).mpr ⟨by omega, by omega, (tree_step ok b0 b1 a0 c3 (by omega)).1.mpr (.inl rfl)⟩)
        · rw [List.length_append]; show ((fs.length + 1 : Nat) : Int) + _ ≤ _; omega
        · rw [ht t, List.mem_append, sym a' b', sym a' (ps.getD (b' - 1).toNat 0)]
          show t ∈ fs ∨ (0 ≤ t ∧ t < ps.length ∧ _) ↔ (t ∈ fs ∨ t ∈ [b' - 1]) ∨ (0 ≤ t ∧ t < ps.length ∧ _)
          by_cases r : 0 ≤ t ∧ t < ps.length
          · have st := (tree_step ok b0 b1 a0 c3 r.1).1
            simp only [r.1, r.2, true_and, List.mem_singleton, st, or_assoc]
          · have : t ≠ b' - 1 := fun e => r (by omega)
            constructor
            · rintro (h | h)
              · exact .inl (.inl h)
              · exact absurd ⟨h.1, h.2.1⟩ r
            · rintro ((h | h) | h)
              · exact .inl h
              · exact absurd (by simpa using h) this
              · exact absurd ⟨h.1, h.2.1⟩ r
        · rw [sym]
          rcases List.mem_append.mp z with z | z
          · rintro ⟨o1, o2, o3⟩
            exact hn t z ((sym _ _ _).mpr ⟨o1, o2, (tree_step ok b0 b1 a0 c3 o1).1.mpr (.inr o3)⟩)
          · have e : t = b' - 1 := by simpa using z
            rintro ⟨o1, o2, o3⟩
            exact (tree_step ok b0 b1 a0 c3 o1).2 e o3
    · subst c1
      wtm_at "s"
      refine k_sortedI (sl hf) (fun ns l pm srt nl => ?_)
      refine q l ns _ (sm.free nl) (sm.trans (same_new nl)) upd_same ⟨srt_of nd pm srt, fun t => ?_, ?_⟩
      · rw [pm.mem_iff, ht t]
        constructor
        · exact .inl
        · rintro (h | h)
          · exact h
          · exact absurd rfl h.2.2
      · show ns.length < 120
        rw [pm.length_eq]; omega
abbrev sp_ties_on (K : PySem.W.Frag) : Sp := fun vs H Q E => ∃ v0 v1, vs = [v0, v1] ∧ pr_ties_on K v0 v1 H Q E
theorem ok_ties_on (T : Txt K mg A) : FnOk P w K mg base CX0 1 A.a_ties_on A.d_ties_on ["net", "way"] (sp_ties_on K) := by
  refine T.F_ties_on.ok sc_ties_on (fun vs H Q E h => by obtain ⟨v0, v1, rfl, _⟩ := h; rfl) (fun cdv A0 outer s H vs Q E hr h => ?_)
  obtain ⟨v0, v1, rfl, h⟩ := h
  exact ⟨t_ties_on K, (pss_cons (ps_asg (pv 1) (pg_tup (by rfl) (pgs_cons (pg_name (i := 2) sc_ties_on.nd rfl (Or.inl rfl)) (pgs_cons (pg_name (i := 3) sc_ties_on.nd rfl (Or.inl rfl)) pgs_nil))))
      (pss_cons (ps_set (i := 4) sc_ties_on.nd rfl (Or.inl rfl) (pe_lst pa_nil))
      (pss_cons (ps_if (pt_cmpR op_eq (pe_ix ix_tup (pv 0) pe_int (fun _ _ => rfl)) pe_str (nomark _)) (pss_one (ps_ret (pe_listRg (by rfl) (by rfl) T.z_list (prg_2 (by rfl) T.z_range (pe_callB (q_min2 (by rfl)) (by rfl) T.z_min (by decide +kernel) (pa_cons (pv 2) (pa_cons (pv 3) pa_nil))) (pe_callB (q_max2 (by rfl)) (by rfl) T.z_max (by decide +kernel) (pa_cons (pv 2) (pa_cons (pv 3) pa_nil))))))) pss_nil)
      (pss_cons (ps_while PassesOwn.never (pt_cmpR op_ne (pv 2) (pv 3) (nomark _))
      (pss_one (ps_if (pt_cmpR op_eq (pe_ix ix_tup (pv 0) pe_int (fun _ _ => rfl)) pe_str (nomark _)) (pss_cons (ps_expr (pe_bm PySem.F.plainAttrs_list PySem.F.slot_list_append PySem.F.type_list_append mt_append (pv 4) (pa_cons (pv 2) pa_nil)))
      (pss_one (ps_set (i := 2) sc_ties_on.nd rfl (Or.inl rfl) (pe_op op_mod (pe_op op_add (pv 2) pe_int) (pe_ix ix_tup (pv 0) pe_int (fun _ _ => rfl)))))) (pss_one (ps_if (pt_cmpR op_gt (pv 2) (pv 3) (nomark _)) (pss_cons (ps_expr (pe_bm PySem.F.plainAttrs_list PySem.F.slot_list_append PySem.F.type_list_append mt_append (pv 4) (pa_cons (pe_op op_sub (pv 2) pe_int) pa_nil)))
      (pss_one (ps_set (i := 2) sc_ties_on.nd rfl (Or.inl rfl) (pe_ix ix_list (pe_ix ix_tup (pv 0) pe_int (fun _ _ => rfl)) (pe_op op_sub (pv 2) pe_int) (fun _ _ => rfl))))) (pss_cons (ps_expr (pe_bm PySem.F.plainAttrs_list PySem.F.slot_list_append PySem.F.type_list_append mt_append (pv 4) (pa_cons (pe_op op_sub (pv 3) pe_int) pa_nil)))
      (pss_one (ps_set (i := 3) sc_ties_on.nd rfl (Or.inl rfl) (pe_ix ix_list (pe_ix ix_tup (pv 0) pe_int (fun _ _ => rfl)) (pe_op op_sub (pv 3) pe_int) (fun _ _ => rfl))))))))))
      (pss_one (ps_ret (pe_callB cr_sortedI (by rfl) T.z_sorted (by decide +kernel) (pa_cons (pv 4) pa_nil)))))))), pure_ties_on h⟩


def pr_must_be_ways (K : PySem.W.Frag) (v0 v1 : V) (H : Hp) (Q : VK) (_ : XK) : Prop := ∃ (N : Net) (ws : List (Int × Int)), Dp K H v0 N.d ∧ Dp K H v1 (dPairs ws) ∧ ws.length ≤ 10000 ∧ (∀ w ∈ ws, isWay N w.1 w.2) ∧ Q .non H
def t_must_be_ways (K : PySem.W.Frag) : TS :=
  (tFor (iRng1 (tCons (tCB (rLenX K) (tCons (tVar 1) tNil)) tNil)) (gName 2)
      (tIfS (tNot (tB (tCall (sp_is_way K) [] E0 (tCons (tVar 0) (tCons (tOp (rIxL K) (tVar 1) (tVar 2)) tNil))))) tNever tNext))
theorem pure_must_be_ways {v0 v1 : V} {H : Hp} {Q : VK} {E : XK} (h : pr_must_be_ways K v0 v1 H Q E) : t_must_be_ways K ⟨fun _ H' => Q .non H', Q, fun _ _ => False, fun _ _ => False⟩ [some v0, some v1, none] H := by
  obtain ⟨N, ws, hd, hw, hz, hok, q⟩ := h
  obtain ⟨b, xs, rfl, hb, hxs⟩ := dp_list hw
  have hl := dpa_len hxs
  rw [List.length_map] at hl
  unfold t_must_be_ways
  wtm_at "s"
  rw [hl]
  refine forR (fun i σ' H' => H' = H ∧ ∃ k, σ' = [some v0, some (.ref b), k]) ⟨rfl, none, rfl⟩ ?_ (fun σ' H' ⟨e, _⟩ => e ▸ q)
  rintro i σ' H' hi ⟨rfl, k, rfl⟩
  have hi' : i < xs.length := by omega
  obtain ⟨x, hx⟩ : ∃ x, xs[i]? = some x := ⟨xs[i], List.getElem?_eq_getElem hi'⟩
  obtain ⟨d, hd1, hd2⟩ := dpa_get hxs hx
  rw [List.getElem?_map] at hd1
  obtain ⟨w, hw1, rfl⟩ := Option.map_eq_some_iff.mp hd1
  have wok := hok w (List.mem_of_getElem? hw1)
  wtm_at "s"
  refine k_ixL hb (by rw [Int.zero_add]; exact atI_nat hx) ?_
  wtm_at "s"
  refine ⟨_, _, rfl, N, w.1, w.2, hd, hd2, ?_⟩
  rw [decide_eq_true wok]
  wtm_at "s"
  exact ⟨rfl, _, rfl⟩
abbrev sp_must_be_ways (K : PySem.W.Frag) : Sp := fun vs H Q E => ∃ v0 v1, vs = [v0, v1] ∧ pr_must_be_ways K v0 v1 H Q E
theorem ok_must_be_ways (T : Txt K mg A) : FnOk P w K mg base CX0 3 A.a_must_be_ways A.d_must_be_ways ["net", "ways"] (sp_must_be_ways K) := by
  refine T.F_must_be_ways.ok sc_must_be_ways (fun vs H Q E h => by obtain ⟨v0, v1, rfl, _⟩ := h; rfl) (fun cdv A0 outer s H vs Q E hr h => ?_)
  obtain ⟨v0, v1, rfl, h⟩ := h
  exact ⟨t_must_be_ways K, (pss_one (ps_for PassesOwn.never rfl (pi_range1 (by rfl) T.z_range (pa_cons (pe_callB q_len (by rfl) T.z_len (by decide +kernel) (pa_cons (pv 1) pa_nil)) pa_nil)) (pg_name (i := 2) sc_must_be_ways.nd rfl (Or.inl rfl))
      (pss_one (ps_if (pt_not (pt_val (pe_call (ok_is_way T) (hr.mono (by decide)) (by rfl) T.g_is_way T.F_is_way.kp T.b_is_way .nil pass0 (pa_cons (pv 0) (pa_cons (pe_ix ix_list (pv 1) (pv 2) (fun _ _ => rfl)) pa_nil))))) (pss_one ps_never) pss_nil)))), pure_must_be_ways h⟩
def pr_look_ways (K : PySem.W.Frag) (v0 v1 : V) (H : Hp) (Q : VK) (_ : XK) : Prop := ∃ (N : Net) (ws : List (Int × Int)), Dp K H v0 N.d ∧ N.ok ∧ Dp K H v1 (dPairs ws) ∧ ws.length ≤ 10000 ∧ (∀ w ∈ ws, isWay N w.1 w.2) ∧ Q .non H
def t_look_ways (K : PySem.W.Frag) : TS :=
  (tSeq (tDrop (tCall (sp_look_net K) [] E0 (tCons (tVar 0) tNil)))
    (tDrop (tCall (sp_must_be_ways K) [] E0 (tCons (tVar 0) (tCons (tVar 1) tNil)))))
theorem pure_look_ways {v0 v1 : V} {H : Hp} {Q : VK} {E : XK} (h : pr_look_ways K v0 v1 H Q E) : t_look_ways K ⟨fun _ H' => Q .non H', Q, fun _ _ => False, fun _ _ => False⟩ [some v0, some v1] H := by
  obtain ⟨N, ws, hd, ok, hw, hz, hok, q⟩ := h
  unfold t_look_ways
  wtm_at "s"
  refine ⟨_, rfl, N, hd, ok, ?_⟩
  wtm_at "s"
  exact ⟨_, _, rfl, N, ws, hd, hw, hz, hok, q⟩
abbrev sp_look_ways (K : PySem.W.Frag) : Sp := fun vs H Q E => ∃ v0 v1, vs = [v0, v1] ∧ pr_look_ways K v0 v1 H Q E
theorem ok_look_ways (T : Txt K mg A) : FnOk P w K mg base CX0 4 A.a_look_ways A.d_look_ways ["net", "ways"] (sp_look_ways K) := by
  refine T.F_look_ways.ok sc_look_ways (fun vs H Q E h => by obtain ⟨v0, v1, rfl, _⟩ := h; rfl) (fun cdv A0 outer s H vs Q E hr h => ?_)
  obtain ⟨v0, v1, rfl, h⟩ := h
  exact ⟨t_look_ways K, (pss_cons (ps_expr (pe_call (ok_look_net T) (hr.mono (by decide)) (by rfl) T.g_look_net T.F_look_net.kp T.b_look_net .nil pass0 (pa_cons (pv 0) pa_nil)))
      (pss_one (ps_expr (pe_call (ok_must_be_ways T) (hr.mono (by decide)) (by rfl) T.g_must_be_ways T.F_must_be_ways.kp T.b_must_be_ways .nil pass0 (pa_cons (pv 0) (pa_cons (pv 1) pa_nil)))))), pure_look_ways h⟩
instance (N : Net) (a b t : Int) : Decidable (OnTie N a b t) := by
  cases N <;> unfold OnTie <;> infer_instance
def Net.ties : Net → Nat
  | .line n => (n - 1).toNat
  | .ring n => n.toNat
  | .tree ps => ps.length
/-- how many of the ways lie on a tie -/
def cnt (N : Net) (ws : List (Int × Int)) (t : Int) : Nat := (ws.filter fun w => decide (OnTie N w.1 w.2 t)).length
def loadsOf (N : Net) (ws : List (Int × Int)) : List Int := (List.range N.ties).map fun t => (cnt N ws (t : Nat) : Int)
theorem on_range {N : Net} (ok : N.ok) {a b t : Int} (hw : isWay N a b) (h : OnTie N a b t) : 0 ≤ t ∧ t < N.ties := by
  cases N with
  | line n =>
    obtain ⟨h1, h2⟩ := h
    obtain ⟨w1, w2, w3, w4, w5⟩ := hw
    have w4' : a < n := w4
    have w5' : b < n := w5
    show 0 ≤ t ∧ t < ((n - 1).toNat : Int)
    omega
  | ring n =>
    obtain ⟨h1, h2, _⟩ := h
    have : 3 ≤ n := ok.1
    show 0 ≤ t ∧ t < (n.toNat : Int)
    omega
  | tree ps =>
    obtain ⟨h1, h2, _⟩ := h
    exact ⟨h1, h2⟩
theorem ties_le {N : Net} (ok : N.ok) : N.ties ≤ 60 ∧ 1 ≤ N.ties := by
  cases N with
  | line n => obtain ⟨h1, h2⟩ := ok; show (n - 1).toNat ≤ 60 ∧ 1 ≤ (n - 1).toNat; omega
  | ring n => obtain ⟨h1, h2⟩ := ok; show n.toNat ≤ 60 ∧ 1 ≤ n.toNat; omega
  | tree ps => obtain ⟨h1, h2, _⟩ := ok; show ps.length ≤ 60 ∧ 1 ≤ ps.length; omega
theorem cnt_take {N : Net} {ws : List (Int × Int)} {i : Nat} {w : Int × Int} (h : ws[i]? = some w) (t : Int) : cnt N (ws.take (i + 1)) t = cnt N (ws.take i) t + if OnTie N w.1 w.2 t then 1 else 0 := by
  unfold cnt
  rw [List.take_add_one, h, List.filter_append, List.length_append]
  by_cases c : OnTie N w.1 w.2 t <;> simp [c]


/-! ### types of data -/
def tyD : PyData → String
  | .none => "NoneType"
  | .bool _ => "bool"
  | .int _ => "int"
  | .str _ => "str"
  | .list _ => "list"
  | .tuple _ => "tuple"
  | .dict _ => "dict"
def wholeD : PyData → Bool
  | .int _ => true
  | _ => false
def isD (t : String) (d : PyData) : Bool := decide (tyD d = t)
theorem ty_tup {K : PySem.W.Frag} {H : Hp} {p : Addr} {xs : List V} (h : SqT K H p xs) : ∃ t, t = "tuple" ∧ TyX K H (.ref p) (.type t) := by
  rcases h with (h | ⟨o, h⟩) | ⟨o, its, n, h1, h2, h3⟩
  · exact ⟨_, rfl, .base (.tup h)⟩
  · exact ⟨_, rfl, .fTuple h⟩
  · exact ⟨_, rfl, .kTuple h1 h2⟩
section
variable {K : PySem.W.Frag} {H : Hp} {Q : VK} {v : V} {d : PyData}
theorem dp_ty (h : Dp K H v d) : TyX K H v (.type (tyD d)) := by
  cases h with
  | non => exact .base .non
  | bl b => exact .base (.bl b)
  | int i => exact .base (.int i)
  | str s => exact .base (.str s)
  | lst h _ => exact ty_list h
  | tup h _ => obtain ⟨t, rfl, ty⟩ := ty_tup h; exact ty
theorem dp_tyIn (h : Dp K H v d) : tyD d ∈ ["NoneType", "bool", "int", "str", "list", "tuple"] := by cases h <;> simp [tyD]
theorem kb_tuple : ∀ s ∈ ["NoneType", "bool", "int", "str", "list", "tuple"], kitB s "tuple" = some (decide (s = "tuple")) := by decide +kernel
theorem kb_str : ∀ s ∈ ["NoneType", "bool", "int", "str", "list", "tuple"], kitB s "str" = some (decide (s = "str")) := by decide +kernel
theorem kb_list : ∀ s ∈ ["NoneType", "bool", "int", "str", "list", "tuple"], kitB s "list" = some (decide (s = "list")) := by decide +kernel
theorem kb_bool : ∀ s ∈ ["NoneType", "bool", "int", "str", "list", "tuple"], kitB s "bool" = some (decide (s = "bool")) := by decide +kernel
theorem kb_dict : ∀ s ∈ ["NoneType", "bool", "int", "str", "list", "tuple"], kitB s "dict" = some false := by decide +kernel
theorem kb_int : ∀ s ∈ ["NoneType", "bool", "int", "str", "list", "tuple"], kitB s "int" = some (decide (s = "int") || decide (s = "bool")) := by decide +kernel
theorem k_isiTupD (h : Dp K H v d) (q : Q (.bl (isD "tuple" d)) H) : rIsi K [v, .ty "tuple"] H Q := k_isi (dp_ty h) (kb_tuple _ (dp_tyIn h)) q
theorem k_isiStrD (h : Dp K H v d) (q : Q (.bl (isD "str" d)) H) : rIsi K [v, .ty "str"] H Q := k_isi (dp_ty h) (kb_str _ (dp_tyIn h)) q
theorem k_isiListD (h : Dp K H v d) (q : Q (.bl (isD "list" d)) H) : rIsi K [v, .ty "list"] H Q := k_isi (dp_ty h) (kb_list _ (dp_tyIn h)) q
theorem k_isiDictD (h : Dp K H v d) (q : Q (.bl false) H) : rIsi K [v, .ty "dict"] H Q := k_isi (dp_ty h) (kb_dict _ (dp_tyIn h)) q
theorem k_isiBoolD (h : Dp K H v d) (q : Q (.bl (isD "bool" d)) H) : rIsi K [v, .ty "bool"] H Q := k_isi (dp_ty h) (kb_bool _ (dp_tyIn h)) q
theorem k_isiIntD (h : Dp K H v d) (q : Q (.bl (isD "int" d || isD "bool" d)) H) : rIsi K [v, .ty "int"] H Q := k_isi (dp_ty h) (kb_int _ (dp_tyIn h)) q
end
def turnW (w : Int × Int) (u : Int) : Int × Int := if u = 1 then (w.2, w.1) else w
def turnAll (ws : List (Int × Int)) (us : List Int) : List (Int × Int) := List.zipWith turnW ws us
def TurnOk (ws : List (Int × Int)) (us : List Int) : Prop := us.length = ws.length ∧ ∀ u ∈ us, 0 ≤ u ∧ u ≤ 1
def short (n : Int) (w : Int × Int) : Int := if n < 2 * up n w.1 w.2 then 1 else 0


/-- the numbers below n that P takes -/
def keepI (n : Nat) (P : Nat → Bool) : List Int := ((List.range n).filter P).map fun (i : Nat) => (i : Int)
theorem keepI_fm (n : Nat) (P : Nat → Bool) : (List.range n).filterMap (fun i => if P i = true then some (V.int (0 + (i : Nat))) else none) = List.map V.int (keepI n P) := by
  unfold keepI
  rw [List.map_map]
  induction (List.range n) with
  | nil => rfl
  | cons x r ih =>
    by_cases c : P x = true
    · rw [List.filterMap_cons, if_pos c, List.filter_cons, if_pos c]
      simp only [List.map_cons]
      rw [ih]
      simp
    · rw [List.filterMap_cons, if_neg c, List.filter_cons, if_neg c]
      exact ih
theorem keepI_srt (n : Nat) (P : Nat → Bool) : (keepI n P).Pairwise (· < ·) := by
  unfold keepI
  exact List.pairwise_map.mpr ((List.pairwise_lt_range.filter P).imp fun h => by omega)
theorem keepI_mem {n : Nat} {P : Nat → Bool} {t : Int} : t ∈ keepI n P ↔ 0 ≤ t ∧ t < n ∧ P t.toNat = true := by
  unfold keepI
  rw [List.mem_map]
  constructor
  · rintro ⟨i, hi, rfl⟩
    obtain ⟨h1, h2⟩ := List.mem_filter.mp hi
    have := List.mem_range.mp h1
    exact ⟨by omega, by omega, by rw [Int.toNat_natCast]; exact h2⟩
  · rintro ⟨h0, h1, h2⟩
    exact ⟨t.toNat, List.mem_filter.mpr ⟨List.mem_range.mpr (by omega), h2⟩, by omega⟩
theorem nodup_below : ∀ (n : Nat) (l : List Int), l.Nodup → (∀ x ∈ l, 0 ≤ x ∧ x < n) → l.length ≤ n
  | 0, l, _, h => by
    cases l with
    | nil => simp
    | cons x r => have := h x List.mem_cons_self; omega
  | n + 1, l, nd, h => by
    have e : l.length = l.countP (fun x => decide (x = (n : Int))) + l.countP (fun x => !decide (x = (n : Int))) := by
      have := List.length_eq_countP_add_countP (fun x : Int => decide (x = (n : Int))) (l := l)
      rw [this]
      congr 1
      exact List.countP_congr fun x _ => by simp
    have c1 : l.countP (fun x => decide (x = (n : Int))) ≤ 1 := by
      have := List.nodup_iff_count.mp nd (n : Int)
      rw [List.count_eq_countP] at this
      have e2 : l.countP (fun x => decide (x = (n : Int))) = l.countP (· == (n : Int)) := List.countP_congr fun x _ => by simp
      rw [e2]; exact this
    have c2 := nodup_below n (l.filter fun x => !decide (x = (n : Int))) (nd.filter _) (fun x hx => by
      obtain ⟨h1, h2⟩ := List.mem_filter.mp hx
      have := h x h1
      simp at h2
      omega)
    rw [← List.countP_eq_length_filter] at c2
    omega
theorem firstMet_nd (val : Nat → Int) : ∀ i, (PyProof.Rows.firstMet val i).Nodup ∧ ∀ x ∈ PyProof.Rows.firstMet val i, ∃ j, j < i ∧ x = val j
  | 0 => ⟨List.nodup_nil, fun x z => by cases z⟩
  | i + 1 => by
    obtain ⟨h1, h2⟩ := firstMet_nd val i
    rw [PyProof.Rows.firstMet_succ]
    unfold PyProof.Rows.step_dedup
    split
    · exact ⟨h1, fun x hx => by obtain ⟨j, hj, e⟩ := h2 x hx; exact ⟨j, by omega, e⟩⟩
    · rename_i c
      refine ⟨?_, fun x hx => ?_⟩
      · rw [List.nodup_append]
        refine ⟨h1, by simp, fun x hx y hy e => ?_⟩
        rw [List.mem_singleton.mp hy] at e
        refine c (List.any_eq_true.mpr ⟨x, hx, by simp [e]⟩)
      · rcases List.mem_append.mp hx with hx | hx
        · obtain ⟨j, hj, e⟩ := h2 x hx; exact ⟨j, by omega, e⟩
        · exact ⟨i, by omega, List.mem_singleton.mp hx⟩
theorem unl_below {hs : List Int} {n : Nat} (h : ∀ x ∈ hs, 0 ≤ x ∧ x < n) : unl hs ≤ n := by
  obtain ⟨h1, h2⟩ := firstMet_nd (fun i => hs.getD i 0) hs.length
  refine nodup_below n _ h1 fun x hx => ?_
  obtain ⟨j, hj, rfl⟩ := h2 x hx
  refine h _ ?_
  show hs.getD j 0 ∈ hs
  rw [List.getD_eq_getElem?_getD, List.getElem?_eq_getElem hj]
  exact List.getElem_mem hj
theorem ss_ext : ∀ {xs ys : List Int}, xs.Pairwise (· < ·) → ys.Pairwise (· < ·) → (∀ t, t ∈ xs ↔ t ∈ ys) → xs = ys
  | [], [], _, _, _ => rfl
  | [], y :: ys, _, _, h => by have := (h y).mpr List.mem_cons_self; cases this
  | x :: xs, [], _, _, h => by have := (h x).mp List.mem_cons_self; cases this
  | x :: xs, y :: ys, h1, h2, h => by
    obtain ⟨a1, a2⟩ := List.pairwise_cons.mp h1
    obtain ⟨b1, b2⟩ := List.pairwise_cons.mp h2
    have e : x = y := by
      rcases List.mem_cons.mp ((h x).mp List.mem_cons_self) with e | e
      · exact e
      · rcases List.mem_cons.mp ((h y).mpr List.mem_cons_self) with e' | e'
        · exact e'.symm
        · have := b1 _ e; have := a1 _ e'; omega
    subst e
    congr 1
    refine ss_ext a2 b2 fun t => ?_
    constructor
    · intro ht
      rcases List.mem_cons.mp ((h t).mp (List.mem_cons_of_mem _ ht)) with e | e
      · have := a1 _ ht; omega
      · exact e
    · intro ht
      rcases List.mem_cons.mp ((h t).mpr (List.mem_cons_of_mem _ ht)) with e | e
      · have := b1 _ ht; omega
      · exact e
/-! ### ways that meet -/
def tiesF (N : Net) (w : Int × Int) : List Int := keepI N.ties fun t => decide (OnTie N w.1 w.2 (t : Nat))
theorem tiesF_mem {N : Net} (ok : N.ok) {w : Int × Int} (hw : isWay N w.1 w.2) (t : Int) : t ∈ tiesF N w ↔ OnTie N w.1 w.2 t := by
  unfold tiesF
  rw [keepI_mem]
  constructor
  · rintro ⟨h1, h2, h3⟩
    have := of_decide_eq_true h3
    rwa [Int.toNat_of_nonneg h1] at this
  · intro h
    obtain ⟨h1, h2⟩ := on_range ok hw h
    exact ⟨h1, h2, decide_eq_true (by rw [Int.toNat_of_nonneg h1]; exact h)⟩
theorem tiesF_len (N : Net) (w : Int × Int) : (tiesF N w).length ≤ N.ties := by
  unfold tiesF keepI
  rw [List.length_map]
  have := List.length_filter_le (fun t : Nat => decide (OnTie N w.1 w.2 (t : Nat))) (List.range N.ties)
  rwa [List.length_range] at this
theorem tiesF_of {N : Net} (ok : N.ok) {w : Int × Int} (hw : isWay N w.1 w.2) {ns : List Int} (hs : ns.Pairwise (· < ·)) (hm : ∀ t, t ∈ ns ↔ OnTie N w.1 w.2 t) : ns = tiesF N w :=
  ss_ext hs (keepI_srt _ _) fun t => by rw [hm t, tiesF_mem ok hw t]
def commonB (xs ys : List Int) : Bool := xs.any fun t => decide (t ∈ ys)
theorem common_iff {xs ys : List Int} : commonB xs ys = true ↔ ∃ t, t ∈ xs ∧ t ∈ ys := by
  unfold commonB
  rw [List.any_eq_true]
  constructor
  · rintro ⟨t, h1, h2⟩; exact ⟨t, h1, of_decide_eq_true h2⟩
  · rintro ⟨t, h1, h2⟩; exact ⟨t, h1, decide_eq_true h2⟩
theorem common_comm (xs ys : List Int) : commonB xs ys = commonB ys xs := by
  rw [Bool.eq_iff_iff, common_iff, common_iff]
  constructor <;> rintro ⟨t, h1, h2⟩ <;> exact ⟨t, h2, h1⟩
def meetB (N : Net) (w v : Int × Int) : Bool := commonB (tiesF N w) (tiesF N v)
def meetRow (N : Net) (ws : List (Int × Int)) (i : Nat) : List Int := keepI ws.length fun k => decide (k ≠ i) && meetB N (ws.getD i (0, 0)) (ws.getD k (0, 0))
def meetF (N : Net) (ws : List (Int × Int)) : List (List Int) := (List.range ws.length).map (meetRow N ws)
/-- who meets whom -/
structure Adj (M : List (List Int)) : Prop where
  rng : ∀ (i : Nat), ∀ o ∈ M.getD i [], 0 ≤ o ∧ o < M.length ∧ o ≠ (i : Int)
  sym : ∀ (i j : Nat), i < M.length → j < M.length → ((j : Int) ∈ M.getD i [] ↔ (i : Int) ∈ M.getD j [])
  len : ∀ r ∈ M, r.length ≤ M.length
theorem meetF_len (N : Net) (ws : List (Int × Int)) : (meetF N ws).length = ws.length := by unfold meetF; rw [List.length_map, List.length_range]
theorem meetF_get {N : Net} {ws : List (Int × Int)} {i : Nat} (h : i < ws.length) : (meetF N ws).getD i [] = meetRow N ws i := by
  unfold meetF
  rw [List.getD_eq_getElem?_getD, List.getElem?_map, List.getElem?_range h]; rfl
theorem meetRow_mem {N : Net} {ws : List (Int × Int)} {i j : Nat} : (j : Int) ∈ meetRow N ws i ↔ j < ws.length ∧ j ≠ i ∧ meetB N (ws.getD i (0, 0)) (ws.getD j (0, 0)) = true := by
  unfold meetRow
  rw [keepI_mem]
  simp only [Int.toNat_natCast, Bool.and_eq_true, decide_eq_true_eq]
  constructor
  · rintro ⟨_, h1, h2, h3⟩; exact ⟨by omega, h2, h3⟩
  · rintro ⟨h1, h2, h3⟩; exact ⟨by omega, by omega, h2, h3⟩
theorem meetF_adj (N : Net) (ws : List (Int × Int)) : Adj (meetF N ws) := by
  refine ⟨fun i o ho => ?_, fun i j hi hj => ?_, fun r hr => ?_⟩
  · rw [meetF_len]
    by_cases c : i < ws.length
    · rw [meetF_get c] at ho
      have h0 : 0 ≤ o := (keepI_mem.mp ho).1
      obtain ⟨j, rfl⟩ : ∃ j : Nat, o = j := ⟨o.toNat, by omega⟩
      obtain ⟨h1, h2, _⟩ := meetRow_mem.mp ho
      exact ⟨h0, by omega, by omega⟩
    · rw [List.getD_eq_getElem?_getD, List.getElem?_eq_none (by rw [meetF_len]; omega)] at ho
      cases ho
  · rw [meetF_len] at hi hj
    rw [meetF_get hi, meetF_get hj, meetRow_mem, meetRow_mem]
    unfold meetB
    rw [common_comm]
    constructor
    · rintro ⟨_, h2, h3⟩; exact ⟨hi, fun z => h2 z.symm, h3⟩
    · rintro ⟨_, h2, h3⟩; exact ⟨hj, fun z => h2 z.symm, h3⟩
  · rw [meetF_len]
    obtain ⟨i, _, rfl⟩ := List.mem_map.mp hr
    unfold meetRow keepI
    rw [List.length_map]
    have := List.length_filter_le (fun k => decide (k ≠ i) && meetB N (ws.getD i (0, 0)) (ws.getD k (0, 0))) (List.range ws.length)
    rwa [List.length_range] at this
/-! ### dicts of whole numbers, as lists -/
def lookS (ss : List (Int × Int)) (k : Int) : Option Int := (ss.find? fun p => decide (p.1 = k)).map (·.2)
theorem look_add {ss : List (Int × Int)} {k u j : Int} (h : lookS ss k = none) : lookS (ss ++ [(k, u)]) j = if j = k then some u else lookS ss j := by
  unfold lookS at *
  rw [List.find?_append]
  by_cases c : j = k
  · subst c
    rw [if_pos rfl]
    have : ss.find? (fun p => decide (p.1 = j)) = none := by
      cases z : ss.find? (fun p => decide (p.1 = j)) with
      | none => rfl
      | some x => rw [z] at h; cases h
    rw [this]
    simp
  · rw [if_neg c]
    have : [(k, u)].find? (fun p => decide (p.1 = j)) = none := by
      simp; exact fun z => c z.symm
    rw [this]
    simp
theorem look_nil (k : Int) : lookS [] k = none := rfl
def dS (ss : List (Int × Int)) : List (Key × V) := ss.map fun p => (.inl p.1, .int p.2)
theorem dS_val {ss : List (Int × Int)} {k : Int} : valV (dS ss) (.inl k) = (lookS ss k).map V.int := by
  unfold valV dS lookS
  induction ss with
  | nil => rfl
  | cons p r ih =>
    rw [List.map_cons, List.find?_cons, List.find?_cons]
    by_cases c : p.1 = k
    · simp [c]
    · have c' : (decide (p.1 = k)) = false := decide_eq_false c
      simp only [c']
      have : decide ((Sum.inl p.1 : Key) = Sum.inl k) = false := decide_eq_false fun z => c (by cases z; rfl)
      simp only [this]
      exact ih
theorem dS_put {ss : List (Int × Int)} {k u : Int} (h : lookS ss k = none) : putK (dS ss) (.inl k) (.int u) = dS (ss ++ [(k, u)]) := by
  unfold putK
  have hn : (dS ss).any (fun kv => decide (kv.1 = Sum.inl k)) = false := by
    rw [List.any_eq_false]
    intro x hx z
    unfold dS at hx
    obtain ⟨p, hp, rfl⟩ := List.mem_map.mp hx
    have z' : (Sum.inl p.1 : Key) = Sum.inl k := of_decide_eq_true z
    have e : p.1 = k := by cases z'; rfl
    unfold lookS at h
    cases y : ss.find? (fun p => decide (p.1 = k)) with
    | some a => rw [y] at h; cases h
    | none => exact absurd (decide_eq_true e) (by simpa using List.find?_eq_none.mp y p hp)
  rw [hn]
  unfold dS
  rw [List.map_append]
  rfl
theorem dS_len (ss : List (Int × Int)) : (dS ss).length = ss.length := by unfold dS; simp
theorem countP_lt {α : Type} {p q : α → Bool} : ∀ {l : List α}, (∀ x ∈ l, p x = true → q x = true) → (∃ x ∈ l, q x = true ∧ p x = false) → l.countP p < l.countP q
  | [], _, ⟨x, hx, _⟩ => by cases hx
  | a :: r, h, ⟨x, hx, h1, h2⟩ => by
    rw [List.countP_cons, List.countP_cons]
    have mono : r.countP p ≤ r.countP q := List.countP_mono_left fun y hy => h y (List.mem_cons_of_mem _ hy)
    rcases List.mem_cons.mp hx with rfl | hx
    · rw [h1, h2]; simp; omega
    · have ih := countP_lt (l := r) (fun y hy => h y (List.mem_cons_of_mem _ hy)) ⟨x, hx, h1, h2⟩
      have ha := h a List.mem_cons_self
      cases hp : p a with
      | false => simp; split <;> omega
      | true => rw [ha hp]; simp; omega
/-- numbers below n that are no keys -/
def frN (n : Nat) (ss : List (Int × Int)) : Nat := (List.range n).countP fun i : Nat => (lookS ss (i : Int)).isNone
theorem frN_lt {n : Nat} {ss : List (Int × Int)} {k u : Int} (k0 : 0 ≤ k) (k1 : k < n) (h : lookS ss k = none) : frN n (ss ++ [(k, u)]) < frN n ss := by
  refine countP_lt (fun i _ hi => ?_) ⟨k.toNat, List.mem_range.mpr (by omega), ?_, ?_⟩
  · rw [look_add h] at hi
    split at hi
    · cases hi
    · exact hi
  · rw [Int.toNat_of_nonneg k0, h]; rfl
  · rw [look_add h, Int.toNat_of_nonneg k0, if_pos rfl]; rfl
theorem frN_nil (n : Nat) : frN n [] = n := by
  show (List.range n).countP (fun _ => true) = n
  rw [List.countP_true, List.length_range]
def intD : PyData → Int
  | .int i => i
  | _ => 0
theorem whole_int {d : PyData} (h : wholeD d = true) : d = .int (intD d) := by
  cases d <;> first | rfl | cases h
/-! ### hues of ways that meet; cases -/
def Proper (M : List (List Int)) (h : Int) (f : Nat → Int) : Prop := ∀ i : Nat, i < M.length → (0 ≤ f i ∧ f i < h) ∧ ∀ o ∈ M.getD i [], f o.toNat ≠ f i
def swp (a b x : Int) : Int := if x = a then b else if x = b then a else x
theorem swp_inj {a b x y : Int} (h : swp a b x = swp a b y) : x = y := by
  unfold swp at h
  repeat' split at h
  all_goals omega
theorem Proper.swap {M : List (List Int)} {h a b : Int} {f : Nat → Int} (p : Proper M h f) (ha : 0 ≤ a ∧ a < h) (hb : 0 ≤ b ∧ b < h) : Proper M h fun i => swp a b (f i) := fun i hi => by
  obtain ⟨h1, h2⟩ := p i hi
  refine ⟨?_, fun o ho z => h2 o ho (swp_inj z)⟩
  show 0 ≤ swp a b (f i) ∧ swp a b (f i) < h
  unfold swp
  repeat' split
  all_goals omega
theorem nodup_lenI : ∀ {l m : List Int}, l.Nodup → (∀ x ∈ l, x ∈ m) → l.length ≤ m.length
  | [], m, _, _ => by simp
  | a :: l, m, nd, h => by
    have nd' := List.nodup_cons.mp nd
    have := nodup_lenI (l := l) (m := m.erase a) nd'.2 (fun x hx => (List.mem_erase_of_ne (fun e => nd'.1 (by rw [← e]; exact hx))).mpr (h x (List.mem_cons_of_mem _ hx)))
    rw [List.length_erase_of_mem (h a List.mem_cons_self)] at this
    have := List.length_pos_of_mem (h a List.mem_cons_self)
    simp only [List.length_cons]
    omega
theorem met_allI (val : Nat → Int) : ∀ i j, j < i → val j ∈ PyProof.Rows.firstMet val i
  | 0, j, h => by omega
  | i + 1, j, h => by
    rw [PyProof.Rows.firstMet_succ]
    unfold PyProof.Rows.step_dedup
    by_cases c : j = i
    · subst c
      split
      · rename_i a
        obtain ⟨x, hx, e⟩ := List.any_eq_true.mp a
        have : x = val j := by simpa using e
        rw [← this]; exact hx
      · simp
    · have := met_allI val i j (by omega)
      split
      · exact this
      · exact List.mem_append_left _ this
/-- just the hues below m are used -/
def Can (m : Nat) (hs : List Int) : Prop := (∀ x ∈ hs, 0 ≤ x ∧ x < m) ∧ ∀ c : Nat, c < m → (c : Int) ∈ hs
theorem Can.unl {m : Nat} {hs : List Int} (h : Can m hs) : unl hs = m := by
  have h1 := unl_below h.1
  have h2 : ((List.range m).map fun c : Nat => (c : Int)).length ≤ Cm.unl hs := by
    unfold Cm.unl
    refine nodup_lenI (List.pairwise_map.mpr (List.pairwise_lt_range.imp fun {a b} hab => by omega)) fun x hx => ?_
    obtain ⟨c, hc, rfl⟩ := List.mem_map.mp hx
    obtain ⟨j, hj, e⟩ := List.mem_iff_getElem.mp (h.2 c (List.mem_range.mp hc))
    have := met_allI (fun i => hs.getD i 0) hs.length j hj
    simp only [List.getD_eq_getElem?_getD, List.getElem?_eq_getElem hj, Option.getD_some, e] at this
    exact this
  rw [List.length_map, List.length_range] at h2
  omega
theorem Can.nil : Can 0 [] := ⟨(fun x z => by cases z), fun c z => by omega⟩
theorem Can.app {m : Nat} {hs : List Int} {c : Nat} (h : Can m hs) (hc : c ≤ m) : Can (max m (c + 1)) (hs ++ [(c : Int)]) := by
  refine ⟨fun x hx => ?_, fun e he => ?_⟩
  · rcases List.mem_append.mp hx with hx | hx
    · have := h.1 x hx; omega
    · rw [List.mem_singleton.mp hx]; omega
  · by_cases z : e = c
    · rw [z]; exact List.mem_append_right _ (List.mem_singleton.mpr rfl)
    · exact List.mem_append_left _ (h.2 e (by omega))
/-- a proper giving may be taken to give the next way one of the options -/
theorem pick_opt {M : List (List Int)} {h : Int} {f : Nat → Int} {m k : Nat} (p : Proper M h f) (hk : k < M.length) : ∃ g, Proper M h g ∧ (∀ i, 0 ≤ f i → f i < m → g i = f i) ∧ 0 ≤ g k ∧ g k ≤ m ∧ g k < h := by
  obtain ⟨⟨h1, h2⟩, _⟩ := p k hk
  by_cases c : f k ≤ m
  · exact ⟨f, p, fun _ _ _ => rfl, h1, c, h2⟩
  · have e : swp (f k) (m : Int) (f k) = m := by unfold swp; rw [if_pos rfl]
    refine ⟨fun i => swp (f k) m (f i), p.swap ⟨h1, h2⟩ ⟨by omega, by omega⟩, fun i i0 i1 => ?_, ?_, ?_, ?_⟩
    · show swp (f k) m (f i) = f i
      unfold swp
      rw [if_neg (by omega), if_neg (by omega)]
    · show 0 ≤ swp (f k) m (f k)
      rw [e]; omega
    · show swp (f k) m (f k) ≤ _
      rw [e]; exact Int.le_refl _
    · show swp (f k) m (f k) < h
      rw [e]; omega
def isEmp : PyData → Bool
  | .tuple [] => true
  | _ => false
/-- how many options -/
def optN (h : Int) (gs : List (Int × Int)) : Nat := (min (h - 1) (Cm.unl (gs.map (·.2)) : Nat) + 1).toNat
def stuckB (M : List (List Int)) (gs : List (Int × Int)) (k c : Int) : Bool := (M.getD k.toNat []).any fun o => decide (lookS gs o = some c)
def caseJ (M : List (List Int)) (h : Int) : Nat → List (Int × Int) → PyData → Bool
  | d + 1, gs, .tuple [a, .list cs] =>
    (wholeD a && decide (0 ≤ intD a) && decide (intD a < M.length) && (lookS gs (intD a)).isNone && decide (cs.length = optN h gs)) &&
      (List.range cs.length).all fun i => if stuckB M gs (intD a) (i : Int) then isEmp (cs.getD i .none) else caseJ M h d (gs ++ [(intD a, (i : Int))]) (cs.getD i .none)
  | _, _, _ => false
theorem caseJ_not {M : List (List Int)} {h : Int} {d : Nat} {gs : List (Int × Int)} {D : PyData} (hd : isD "tuple" D = false) : caseJ M h d gs D = false := by
  cases d with
  | zero => rfl
  | succ d => cases D <;> first | rfl | (simp [isD, tyD] at hd)
theorem caseJ_len {M : List (List Int)} {h : Int} {d : Nat} {gs : List (Int × Int)} {ds : List PyData} (hl : ds.length ≠ 2) : caseJ M h d gs (.tuple ds) = false := by
  cases d with
  | zero => rfl
  | succ d =>
    match ds, hl with
    | [], _ => rfl
    | [_], _ => rfl
    | [_, _], h => exact absurd rfl h
    | _ :: b :: _ :: _, _ => cases b <;> rfl
theorem caseJ_list {M : List (List Int)} {h : Int} {d : Nat} {gs : List (Int × Int)} {a b : PyData} (hl : isD "list" b = false) : caseJ M h d gs (.tuple [a, b]) = false := by
  cases d with
  | zero => rfl
  | succ d => cases b <;> first | rfl | (simp [isD, tyD] at hl)
/-- a right case: no proper giving -/
theorem case_bars {M : List (List Int)} {h : Int} (A : Adj M) : ∀ {d : Nat} {gs : List (Int × Int)} {D : PyData} {m : Nat} {f : Nat → Int}, caseJ M h d gs D = true → Can m (gs.map (·.2)) → Proper M h f → (∀ k u, 0 ≤ k → lookS gs k = some u → f k.toNat = u) → False
  | 0, gs, D, m, f, hc, _, _, _ => by cases hc
  | d + 1, gs, D, m, f, hc, can, p, ag => by
    match D, hc with
    | .tuple [a, .list cs], hc =>
      unfold caseJ at hc
      simp only [Bool.and_eq_true, decide_eq_true_eq] at hc
      obtain ⟨⟨⟨⟨⟨_, k0⟩, k1⟩, kn⟩, hl⟩, all⟩ := hc
      have kn' : lookS gs (intD a) = none := Option.isNone_iff_eq_none.mp kn
      obtain ⟨k, hk⟩ : ∃ k : Nat, intD a = (k : Int) := ⟨(intD a).toNat, by omega⟩
      rw [hk] at k0 k1 kn' all
      obtain ⟨g, pg, fix, g0, g1, g2⟩ := pick_opt (m := m) p (show k < M.length by omega)
      have agg : ∀ j u, 0 ≤ j → lookS gs j = some u → g j.toNat = u := fun j u j0 hj => by
        have e := ag j u j0 hj
        have hu : u ∈ gs.map (·.2) := by
          unfold lookS at hj
          obtain ⟨q, hq, e2⟩ := Option.map_eq_some_iff.mp hj
          exact List.mem_map.mpr ⟨q, List.mem_of_find?_eq_some hq, e2⟩
        have := can.1 u hu
        rw [fix _ (by omega) (by omega), e]
      have cl : (g k).toNat < cs.length := by
        rw [hl]
        unfold optN
        rw [can.unl]
        omega
      have := List.all_eq_true.mp all _ (List.mem_range.mpr cl)
      obtain ⟨c, hcg⟩ : ∃ c : Nat, g k = (c : Int) := ⟨(g k).toNat, by omega⟩
      rw [hcg, Int.toNat_natCast] at this
      cases st : stuckB M gs (k : Int) (c : Int) with
      | true =>
        unfold stuckB at st
        obtain ⟨o, ho, e⟩ := List.any_eq_true.mp st
        rw [Int.toNat_natCast] at ho
        have e := of_decide_eq_true e
        have r := A.rng k o ho
        have := agg o _ r.1 e
        exact (pg k (by omega)).2 o ho (by rw [this, hcg])
      | false =>
        rw [st] at this
        simp only [Bool.false_eq_true, if_false] at this
        refine case_bars A this (m := max m (c + 1)) (f := g) (by rw [List.map_append]; exact can.app (by omega)) pg (fun j u j0 hj => ?_)
        rw [look_add kn'] at hj
        split at hj
        · rename_i e
          cases hj
          rw [e, Int.toNat_natCast, hcg]
        · exact agg j u j0 hj
/-! ### hues by trying, way by way -/
def blockedB (M : List (List Int)) (hs : List Int) (c : Int) : Bool := (M.getD hs.length []).any fun o => decide (o < hs.length) && decide (hs.getD o.toNat 0 = c)
def enoughF (M : List (List Int)) (h : Int) : Nat → List Int → Bool
  | 0, _ => true
  | d + 1, hs => (List.range (min h ((Cm.unl hs : Nat) + 1)).toNat).any fun c => !blockedB M hs (c : Int) && enoughF M h d (hs ++ [(c : Int)])
theorem getD_app {hs : List Int} {c : Int} {i : Nat} (h : i < hs.length) : (hs ++ [c]).getD i 0 = hs.getD i 0 := by
  rw [List.getD_eq_getElem?_getD, List.getD_eq_getElem?_getD, List.getElem?_append_left h]
theorem getD_new {hs : List Int} {c : Int} : (hs ++ [c]).getD hs.length 0 = c := by
  rw [List.getD_eq_getElem?_getD, List.getElem?_append_right (Nat.le_refl _), Nat.sub_self]; rfl
theorem enough_col {M : List (List Int)} {h : Int} (A : Adj M) : ∀ {d : Nat} {hs : List Int}, enoughF M h d hs = true → hs.length + d = M.length → (∀ x ∈ hs, 0 ≤ x ∧ x < h) → (∀ i : Nat, i < hs.length → ∀ o ∈ M.getD i [], o < (i : Int) → hs.getD o.toNat 0 ≠ hs.getD i 0) → ∃ f, Proper M h f
  | 0, hs, _, hl, hr, hp => by
    refine ⟨fun i => hs.getD i 0, fun i hi => ⟨hr _ ?_, fun o ho => ?_⟩⟩
    · show hs.getD i 0 ∈ hs
      rw [List.getD_eq_getElem?_getD, List.getElem?_eq_getElem (by omega)]
      exact List.getElem_mem _
    · have r := A.rng i o ho
      by_cases c : o < (i : Int)
      · exact hp i (by omega) o ho c
      · obtain ⟨j, rfl⟩ : ∃ j : Nat, o = (j : Int) := ⟨o.toNat, by omega⟩
        have s := (A.sym i j hi (by omega)).mp ho
        have := hp j (by omega) i s (by omega)
        rw [Int.toNat_natCast] at this ⊢
        exact fun z => this z.symm
  | d + 1, hs, he, hl, hr, hp => by
    unfold enoughF at he
    obtain ⟨c, hc, he⟩ := List.any_eq_true.mp he
    have hc := List.mem_range.mp hc
    simp only [Bool.and_eq_true, Bool.not_eq_true'] at he
    refine enough_col A he.2 (by simp; omega) (fun x hx => ?_) (fun i hi o ho hoi => ?_)
    · rcases List.mem_append.mp hx with hx | hx
      · exact hr x hx
      · rw [List.mem_singleton.mp hx]; omega
    · have r := A.rng i o ho
      rw [List.length_append, List.length_singleton] at hi
      by_cases z : i < hs.length
      · rw [getD_app (by omega), getD_app z]
        exact hp i z o ho hoi
      · obtain rfl : i = hs.length := by omega
        rw [getD_app (by omega), getD_new]
        intro e
        have bl : blockedB M hs (c : Int) = true := by
          unfold blockedB
          exact List.any_eq_true.mpr ⟨o, ho, by rw [decide_eq_true hoi, decide_eq_true e]; rfl⟩
        rw [he.1] at bl
        cases bl
theorem col_enough {M : List (List Int)} {h : Int} (A : Adj M) : ∀ {d : Nat} {hs : List Int} {m : Nat} {f : Nat → Int}, Proper M h f → hs.length + d = M.length → Can m hs → (∀ i : Nat, i < hs.length → f i = hs.getD i 0) → enoughF M h d hs = true
  | 0, _, _, _, _, _, _, _ => rfl
  | d + 1, hs, m, f, p, hl, can, ag => by
    obtain ⟨g, pg, fix, g0, g1, g2⟩ := pick_opt (m := m) p (show hs.length < M.length by omega)
    obtain ⟨c, hcg⟩ : ∃ c : Nat, g hs.length = (c : Int) := ⟨(g hs.length).toNat, by omega⟩
    have mem : ∀ i : Nat, i < hs.length → hs.getD i 0 ∈ hs := fun i hi => by
      rw [List.getD_eq_getElem?_getD, List.getElem?_eq_getElem hi]
      exact List.getElem_mem _
    have agg : ∀ i : Nat, i < hs.length → g i = hs.getD i 0 := fun i hi => by
      have := can.1 _ (mem i hi)
      rw [fix i (by rw [ag i hi]; omega) (by rw [ag i hi]; omega), ag i hi]
    unfold enoughF
    refine List.any_eq_true.mpr ⟨c, List.mem_range.mpr (by rw [can.unl]; omega), ?_⟩
    have nb : blockedB M hs (c : Int) = false := by
      cases z : blockedB M hs (c : Int) with
      | false => rfl
      | true =>
        exfalso
        unfold blockedB at z
        obtain ⟨o, ho, e⟩ := List.any_eq_true.mp z
        simp only [Bool.and_eq_true, decide_eq_true_eq] at e
        have r := A.rng _ o ho
        exact (pg hs.length (by omega)).2 o ho (by rw [agg _ (by omega), e.2, hcg])
    rw [nb, col_enough A (hs := hs ++ [(c : Int)]) (m := max m (c + 1)) pg (by simp; omega) (can.app (by omega)) (fun i hi => ?_)]
    · rfl
    · rw [List.length_append, List.length_singleton] at hi
      by_cases z : i < hs.length
      · rw [getD_app z, agg i z]
      · obtain rfl : i = hs.length := by omega
        rw [getD_new, hcg]
/-- as many hues as ways are enough -/
theorem col_all {M : List (List Int)} (A : Adj M) {h : Int} (hh : (M.length : Int) ≤ h) : Proper M h fun i => (i : Int) := fun i hi => ⟨⟨by show (0 : Int) ≤ (i : Int); omega, by show (i : Int) < h; omega⟩, fun o ho => by
  have := A.rng i o ho
  show ((o.toNat : Nat) : Int) ≠ (i : Int)
  omega⟩
theorem Proper.more {M : List (List Int)} {h h' : Int} {f : Nat → Int} (p : Proper M h f) (hh : h ≤ h') : Proper M h' f := fun i hi => by
  obtain ⟨⟨a, b⟩, c⟩ := p i hi
  exact ⟨⟨a, by omega⟩, c⟩
theorem atI_nat' {α : Type} {xs : List α} {i : Nat} {x : α} (h : xs[i]? = some x) : atI xs (0 + (i : Nat)) = some x := by rw [Int.zero_add]; exact atI_nat h
theorem forE {K : PySem.W.Frag} {σ : L2.St} {H : Hp} {nx : L2.St → Hp → Prop} {rt : VK} {b : Addr} {xs : List V} {g : TG} {tb : TS} (hs0 : SqL K H b xs) (Pv : Nat → L2.St → Hp → Prop) (h0 : Pv 0 σ H) (hl : ∀ i σ H, Pv i σ H → SqL K H b xs)
    (hs : ∀ (i : Nat) x σ H T H', xs[i]? = some x → Pv i σ H → H T = none → Same H H' → H' T = some (.tup [.int (i : Nat), x]) → g (.ref T) σ H' fun σ2 H2 => tb ⟨Pv (i + 1), rt, nx, Pv (i + 1)⟩ σ2 H2) (hd : ∀ σ H, Pv xs.length σ H → nx σ H) :
    ∃ a xs, [V.ref b] = [.ref a] ∧ SqL K H a xs ∧ ∃ W : Nat → Nat → L2.St → Hp → Prop, (∃ m, W 0 m σ H) ∧ ∀ i m σ H, W i m σ H →
      ((Ite K a).stop i H ∧ nx σ H) ∨ ((Ite K a).go i H ∧ ∃ N : L2.St → Hp → Prop, (∀ σ' H', N σ' H' → ∃ m', m' < m ∧ W (i + 1) m' σ' H') ∧ ∀ x H', (Ite K a).yld i H x H' → g x σ H' fun σ2 H2 => tb ⟨N, rt, nx, N⟩ σ2 H2) := by
  refine ⟨b, xs, rfl, hs0, for_it (D := ⟨nx, rt, fun _ _ => False, fun _ _ => False⟩) walk_enum Pv h0 (fun i σ H _ p => hl i σ H p) ?_ hd⟩
  rintro i y σ H1 H2 hi p ⟨T, x1, x2, rfl, nT, rfl, hx1, hx2⟩
  cases hx1
  exact hs i x2 σ H1 T _ hx2 p nT (same_new nT) upd_same
theorem k_slT {K : PySem.W.Frag} {H : Hp} {Q : VK} {a : Addr} {xs : List V} {lo hi : Option Int} (hs : SqT K H a xs) (hw : ¬ (HT.sIx xs.length 0 lo = 0 ∧ HT.sIx xs.length xs.length hi = xs.length)) (h : ∀ p H', H p = none → Same H H' → H' p = some (.tup (cutV xs lo hi)) → Q (.ref p) H') : rSlT K (.ref a) lo hi H Q := ⟨a, xs, rfl, hs, hw, fun p np => h p _ np (same_new np) upd_same⟩
theorem forT {K : PySem.W.Frag} {σ : L2.St} {H : Hp} {nx : L2.St → Hp → Prop} {rt : VK} {b : Addr} {xs : List V} {g : TG} {tb : TS} (hs0 : SqT K H b xs) (Pv : Nat → L2.St → Hp → Prop) (h0 : Pv 0 σ H) (hl : ∀ i σ H, i ≤ xs.length → Pv i σ H → SqT K H b xs)
    (hs : ∀ (i : Nat) x σ H, xs[i]? = some x → Pv i σ H → g x σ H fun σ2 H2 => tb ⟨Pv (i + 1), rt, nx, Pv (i + 1)⟩ σ2 H2) (hd : ∀ σ H, Pv xs.length σ H → nx σ H) :
    ∃ a, V.ref b = .ref a ∧ (∃ xs, SqT K H a xs) ∧ ∃ W : Nat → Nat → L2.St → Hp → Prop, (∃ m, W 0 m σ H) ∧ ∀ i m σ H, W i m σ H →
      ((Itt K a).stop i H ∧ nx σ H) ∨ ((Itt K a).go i H ∧ ∃ N : L2.St → Hp → Prop, (∀ σ' H', N σ' H' → ∃ m', m' < m ∧ W (i + 1) m' σ' H') ∧ ∀ x H', (Itt K a).yld i H x H' → g x σ H' fun σ2 H2 => tb ⟨N, rt, nx, N⟩ σ2 H2) :=
  ⟨b, rfl, ⟨xs, hs0⟩, for_tup (D := ⟨nx, rt, fun _ _ => False, fun _ _ => False⟩) Pv h0 hl hs hd⟩
theorem dpa3 {K : PySem.W.Frag} {H : Hp} {xs : List V} {ds : List PyData} (h : DpAll K H xs ds) (hl : ds.length = 3) : ∃ x y z a b c, xs = [x, y, z] ∧ ds = [a, b, c] ∧ Dp K H x a ∧ Dp K H y b ∧ Dp K H z c := by
  match ds, hl with
  | [a, b, c], _ =>
    cases h with | cons h1 h => cases h with | cons h2 h => cases h with | cons h3 h =>
      cases h
      exact ⟨_, _, _, _, _, _, rfl, rfl, h1, h2, h3⟩
theorem isD_str {d : PyData} (h : isD "str" d = true) : ∃ s, d = .str s := by
  cases d <;> first | exact ⟨_, rfl⟩ | (simp [isD, tyD] at h)
theorem isD_tup {d : PyData} (h : isD "tuple" d = true) : ∃ s, d = .tuple s := by
  cases d <;> first | exact ⟨_, rfl⟩ | (simp [isD, tyD] at h)
theorem isD_list {d : PyData} (h : isD "list" d = true) : ∃ s, d = .list s := by
  cases d <;> first | exact ⟨_, rfl⟩ | (simp [isD, tyD] at h)
theorem dp_whole {K : PySem.W.Frag} {H : Hp} {v : V} {d : PyData} (h : Dp K H v d) (w : wholeD d = true) : v = .int (intD d) := by
  rw [whole_int w] at h
  exact dp_int h
theorem bcases (b : Bool) : b = true ∨ b = false := by cases b <;> simp
/-! ### going into a case: the hues of all, or a case -/
def nearF (M : List (List Int)) (gs : List (Int × Int)) (k : Nat) : Nat := Cm.unl ((M.getD k []).filterMap (lookS gs))
def hardF (M : List (List Int)) (gs : List (Int × Int)) : Nat → Option Nat × Int
  | 0 => (none, -1)
  | n + 1 => if (lookS gs (n : Int)).isNone && decide ((hardF M gs n).2 < (nearF M gs n : Int)) then (some n, (nearF M gs n : Int)) else hardF M gs n
theorem hardF_ok {M : List (List Int)} {gs : List (Int × Int)} : ∀ {n k : Nat}, (hardF M gs n).1 = some k → k < n ∧ lookS gs (k : Int) = none
  | 0, k, h => by cases h
  | n + 1, k, h => by
    unfold hardF at h
    split at h
    · rename_i c
      rw [Bool.and_eq_true] at c
      cases h
      exact ⟨by omega, Option.isNone_iff_eq_none.mp c.1⟩
    · have := hardF_ok h
      exact ⟨by omega, this.2⟩
theorem hardF_low {M : List (List Int)} {gs : List (Int × Int)} : ∀ {n : Nat}, (hardF M gs n).1 = none → (hardF M gs n).2 = -1
  | 0, _ => rfl
  | n + 1, h => by
    unfold hardF at h ⊢
    split at h
    · cases h
    · rename_i c
      rw [if_neg c]
      exact hardF_low h
theorem hardF_some {M : List (List Int)} {gs : List (Int × Int)} : ∀ {n j : Nat}, j < n → lookS gs (j : Int) = none → (hardF M gs n).1 ≠ none
  | 0, _, h, _ => by omega
  | n + 1, j, hj, hn => fun z => by
    unfold hardF at z
    split at z
    · cases z
    · rename_i c
      by_cases e : j = n
      · subst e
        have := hardF_low z
        exact c (by rw [hn, this, decide_eq_true (by omega)]; rfl)
      · exact hardF_some (by omega) hn z
def hardK (M : List (List Int)) (gs : List (Int × Int)) : Nat := (hardF M gs M.length).1.getD 0
theorem hardK_ok {M : List (List Int)} {gs : List (Int × Int)} (h : ∃ j : Nat, j < M.length ∧ lookS gs (j : Int) = none) : (hardF M gs M.length).1 = some (hardK M gs) ∧ hardK M gs < M.length ∧ lookS gs (hardK M gs : Int) = none := by
  obtain ⟨j, hj, hn⟩ := h
  have := hardF_some (M := M) hj hn
  unfold hardK
  cases e : (hardF M gs M.length).1 with
  | none => exact absurd e this
  | some k => exact ⟨rfl, hardF_ok e⟩
/-- keys in their range -/
def Kin (n : Nat) (gs : List (Int × Int)) : Prop := ∀ p ∈ gs, 0 ≤ p.1 ∧ p.1 < n
theorem Kin.nil {n : Nat} : Kin n [] := fun p hp => nomatch hp
theorem Kin.add {n : Nat} {gs : List (Int × Int)} {k : Nat} {u : Int} (h : Kin n gs) (hk : k < n) : Kin n (gs ++ [((k : Int), u)]) := fun p hp => by
  rcases List.mem_append.mp hp with hp | hp
  · exact h p hp
  · rw [List.mem_singleton.mp hp]; exact ⟨by show (0 : Int) ≤ (k : Int); omega, by show (k : Int) < n; omega⟩
theorem look_some_key {gs : List (Int × Int)} {k u : Int} (h : lookS gs k = some u) : (k, u) ∈ gs := by
  unfold lookS at h
  obtain ⟨p, hp, rfl⟩ := Option.map_eq_some_iff.mp h
  have e := List.find?_some hp
  have m := List.mem_of_find?_eq_some hp
  have : p.1 = k := of_decide_eq_true e
  rw [← this]; exact m
theorem Kin.len {n : Nat} {gs : List (Int × Int)} (h : Kin n gs) (u : (gs.map (·.1)).Nodup) : gs.length ≤ n := by
  have := nodup_lenI (l := gs.map (·.1)) (m := (List.range n).map fun i : Nat => (i : Int)) u (fun x hx => by
    obtain ⟨p, hp, rfl⟩ := List.mem_map.mp hx
    have := h p hp
    exact List.mem_map.mpr ⟨p.1.toNat, List.mem_range.mpr (by omega), by omega⟩)
  rwa [List.length_map, List.length_map, List.length_range] at this
theorem Kin.free {n : Nat} {gs : List (Int × Int)} (hl : gs.length < n) : ∃ j : Nat, j < n ∧ lookS gs (j : Int) = none := by
  refine Classical.byContradiction fun z => ?_
  have all : ∀ j : Nat, j < n → lookS gs (j : Int) ≠ none := fun j hj e => z ⟨j, hj, e⟩
  have := nodup_lenI (l := (List.range n).map fun i : Nat => (i : Int)) (m := gs.map (·.1)) (List.pairwise_map.mpr (List.pairwise_lt_range.imp fun {a b} hab => by omega)) (fun x hx => by
    obtain ⟨j, hj, rfl⟩ := List.mem_map.mp hx
    cases e : lookS gs (j : Int) with
    | none => exact absurd e (all j (List.mem_range.mp hj))
    | some u => exact List.mem_map.mpr ⟨_, look_some_key e, rfl⟩)
  rw [List.length_map, List.length_map, List.length_range] at this
  omega
def appK (cs : List PyData) : List (Int × Int) ⊕ List PyData → List (Int × Int) ⊕ List PyData
  | .inl g => .inl g
  | .inr ds => .inr (cs ++ ds)
theorem appK_app (a b : List PyData) (x : List (Int × Int) ⊕ List PyData) : appK a (appK b x) = appK (a ++ b) x := by
  cases x with
  | inl g => rfl
  | inr ds => show Sum.inr (a ++ (b ++ ds)) = Sum.inr (a ++ b ++ ds); rw [List.append_assoc]
theorem appK_nil (x : List (Int × Int) ⊕ List PyData) : appK [] x = x := by cases x <;> rfl
def kidsF (st : Nat → Bool) (f : Nat → List (Int × Int) ⊕ PyData) : List Nat → List (Int × Int) ⊕ List PyData
  | [] => .inr []
  | i :: r => if st i then appK [.tuple []] (kidsF st f r) else match f i with
    | .inl g => .inl g
    | .inr c => appK [c] (kidsF st f r)
def goF (M : List (List Int)) (h : Int) : Nat → List (Int × Int) → List (Int × Int) ⊕ PyData
  | 0, gs => .inl gs
  | d + 1, gs => if gs.length = M.length then .inl gs else
    match kidsF (fun i => stuckB M gs (hardK M gs : Int) (i : Int)) (fun i => goF M h d (gs ++ [((hardK M gs : Int), (i : Int))])) (List.range (optN h gs)) with
    | .inl g => .inl g
    | .inr cs => .inr (.tuple [.int (hardK M gs : Int), .list cs])
theorem kids_case {st : Nat → Bool} {f : Nat → List (Int × Int) ⊕ PyData} : ∀ {l : List Nat} {cs : List PyData}, kidsF st f l = .inr cs → cs.length = l.length ∧ ∀ j i, l[j]? = some i → if st i then cs.getD j .none = .tuple [] else f i = .inr (cs.getD j .none)
  | [], cs, h => by cases h; exact ⟨rfl, fun j i z => by simp at z⟩
  | a :: r, cs, h => by
    unfold kidsF at h
    have tail : ∀ c, appK [c] (kidsF st f r) = .inr cs → ∃ ds, cs = c :: ds ∧ kidsF st f r = .inr ds := fun c e => by
      cases k : kidsF st f r with
      | inl g => rw [k] at e; cases e
      | inr ds => rw [k] at e; cases e; exact ⟨ds, rfl, rfl⟩
    by_cases c : st a = true
    · rw [if_pos c] at h
      obtain ⟨ds, rfl, hr⟩ := tail _ h
      obtain ⟨h1, h2⟩ := kids_case hr
      refine ⟨by simp [h1], fun j i hj => ?_⟩
      cases j with
      | zero => cases hj; rw [if_pos c]; rfl
      | succ j => exact h2 j i hj
    · rw [if_neg c] at h
      cases e : f a with
      | inl g => rw [e] at h; cases h
      | inr x =>
        rw [e] at h
        obtain ⟨ds, rfl, hr⟩ := tail _ h
        obtain ⟨h1, h2⟩ := kids_case hr
        refine ⟨by simp [h1], fun j i hj => ?_⟩
        cases j with
        | zero => cases hj; rw [if_neg c]; exact e
        | succ j => exact h2 j i hj
theorem kids_dict {st : Nat → Bool} {f : Nat → List (Int × Int) ⊕ PyData} : ∀ {l : List Nat} {g : List (Int × Int)}, kidsF st f l = .inl g → ∃ i ∈ l, st i = false ∧ f i = .inl g
  | [], g, h => by cases h
  | a :: r, g, h => by
    unfold kidsF at h
    have tail : ∀ c, appK [c] (kidsF st f r) = .inl g → kidsF st f r = .inl g := fun c e => by
      cases k : kidsF st f r with
      | inl g' => rw [k] at e; exact e
      | inr ds => rw [k] at e; cases e
    by_cases c : st a = true
    · rw [if_pos c] at h
      obtain ⟨i, h1, h2⟩ := kids_dict (tail _ h)
      exact ⟨i, List.mem_cons_of_mem _ h1, h2⟩
    · rw [if_neg c] at h
      cases e : f a with
      | inl g' => rw [e] at h; exact ⟨a, List.mem_cons_self, by simpa using c, by rw [e]; cases h; rfl⟩
      | inr x =>
        rw [e] at h
        obtain ⟨i, h1, h2⟩ := kids_dict (tail _ h)
        exact ⟨i, List.mem_cons_of_mem _ h1, h2⟩
/-- what is told is right -/
theorem go_case {M : List (List Int)} {h : Int} : ∀ {d : Nat} {gs : List (Int × Int)} {D : PyData}, goF M h d gs = .inr D → (gs.map (·.1)).Nodup → Kin M.length gs → (∀ {g : List (Int × Int)} {k : Nat} {u : Int}, (g.map (·.1)).Nodup → lookS g (k : Int) = none → ((g ++ [((k : Int), u)]).map (·.1)).Nodup) → caseJ M h d gs D = true
  | 0, gs, D, e, _, _, _ => by cases e
  | d + 1, gs, D, e, un, kin, add => by
    unfold goF at e
    split at e
    · cases e
    · rename_i c
      have hl := kin.len un
      obtain ⟨_, k1, kn⟩ := hardK_ok (M := M) (Kin.free (gs := gs) (n := M.length) (by omega))
      cases k : kidsF (fun i => stuckB M gs (hardK M gs : Int) (i : Int)) (fun i => goF M h d (gs ++ [((hardK M gs : Int), (i : Int))])) (List.range (optN h gs)) with
      | inl g => rw [k] at e; cases e
      | inr cs =>
        rw [k] at e
        cases e
        obtain ⟨h1, h2⟩ := kids_case k
        rw [List.length_range] at h1
        unfold caseJ
        rw [show wholeD (.int (hardK M gs : Int)) = true from rfl, show intD (.int (hardK M gs : Int)) = (hardK M gs : Int) from rfl, decide_eq_true (show (0 : Int) ≤ (hardK M gs : Int) by omega), decide_eq_true (show (hardK M gs : Int) < M.length by omega), kn, decide_eq_true h1]
        show (List.range cs.length).all _ = true
        refine List.all_eq_true.mpr fun i hi => ?_
        have hi := List.mem_range.mp hi
        have := h2 i i (List.getElem?_range (by omega))
        cases st : stuckB M gs (hardK M gs : Int) (i : Int) with
        | true => rw [st, if_pos rfl] at this; rw [if_pos rfl, this]; rfl
        | false =>
          rw [st, if_neg (by decide)] at this
          rw [if_neg (by decide)]
          exact go_case this (add un kn) (kin.add k1) add
/-- no two that meet have one hue -/
def PrpS (M : List (List Int)) (h : Int) (gs : List (Int × Int)) : Prop := ∀ (k : Nat) (u : Int), lookS gs (k : Int) = some u → 0 ≤ u ∧ u < h ∧ ∀ o ∈ M.getD k [], lookS gs o ≠ some u
theorem PrpS.nil {M : List (List Int)} {h : Int} : PrpS M h [] := fun k u z => by cases z
theorem PrpS.add {M : List (List Int)} {h : Int} {gs : List (Int × Int)} {k : Nat} {c : Int} (A : Adj M) (p : PrpS M h gs) (hk : k < M.length) (kn : lookS gs (k : Int) = none) (c0 : 0 ≤ c) (c1 : c < h) (st : stuckB M gs (k : Int) c = false) (kin : Kin M.length gs) : PrpS M h (gs ++ [((k : Int), c)]) := by
  have nst : ∀ o ∈ M.getD k [], lookS gs o ≠ some c := fun o ho e => by
    unfold stuckB at st
    rw [Int.toNat_natCast] at st
    have : ((M.getD k []).any fun o => decide (lookS gs o = some c)) = true := List.any_eq_true.mpr ⟨o, ho, decide_eq_true e⟩
    rw [st] at this
    cases this
  intro j u hj
  rw [look_add kn] at hj
  split at hj
  · rename_i e
    cases hj
    have e : j = k := by omega
    subst e
    refine ⟨c0, c1, fun o ho => ?_⟩
    rw [look_add kn, if_neg (by have := A.rng j o ho; omega)]
    exact nst o ho
  · rename_i ne
    obtain ⟨u0, u1, hu⟩ := p j u hj
    refine ⟨u0, u1, fun o ho => ?_⟩
    rw [look_add kn]
    split
    · rename_i e
      intro z
      cases z
      have hjl : j < M.length := by have := (kin _ (look_some_key hj)).2; have : (j : Int) < M.length := this; omega
      rw [e] at ho
      exact nst _ ((A.sym j k hjl hk).mp ho) hj
    · exact hu o ho
/-- hues given to all: they do -/
theorem go_dict {M : List (List Int)} {h : Int} (A : Adj M) (add : ∀ {g : List (Int × Int)} {k : Nat} {u : Int}, (g.map (·.1)).Nodup → lookS g (k : Int) = none → ((g ++ [((k : Int), u)]).map (·.1)).Nodup) : ∀ {d : Nat} {gs g : List (Int × Int)}, goF M h d gs = .inl g → (gs.map (·.1)).Nodup → Kin M.length gs → frN M.length gs < d → PrpS M h gs → g.length = M.length ∧ (g.map (·.1)).Nodup ∧ Kin M.length g ∧ PrpS M h g
  | 0, gs, g, _, _, _, hd, _ => by omega
  | d + 1, gs, g, e, un, kin, hd, p => by
    unfold goF at e
    split at e
    · rename_i c
      cases e
      exact ⟨c, un, kin, p⟩
    · rename_i c
      have hl := kin.len un
      obtain ⟨_, k1, kn⟩ := hardK_ok (M := M) (Kin.free (gs := gs) (n := M.length) (by omega))
      cases k : kidsF (fun i => stuckB M gs (hardK M gs : Int) (i : Int)) (fun i => goF M h d (gs ++ [((hardK M gs : Int), (i : Int))])) (List.range (optN h gs)) with
      | inr cs => rw [k] at e; cases e
      | inl g' =>
        rw [k] at e
        cases e
        obtain ⟨i, hi, st, e⟩ := kids_dict k
        have hi := List.mem_range.mp hi
        have hh : (i : Int) < h := by unfold optN at hi; omega
        exact go_dict A add e (add un kn) (kin.add k1) (by have := frN_lt (u := (i : Int)) (show (0 : Int) ≤ (hardK M gs : Int) by omega) (show (hardK M gs : Int) < (M.length : Nat) by omega) kn; omega) (p.add A k1 kn (by omega) hh st kin)
theorem full_proper {M : List (List Int)} {h : Int} (A : Adj M) {g : List (Int × Int)} (hl : g.length = M.length) (un : (g.map (·.1)).Nodup) (kin : Kin M.length g) (p : PrpS M h g) : Proper M h fun i => (lookS g (i : Int)).getD 0 := by
  have all : ∀ j : Nat, j < M.length → ∃ u, lookS g (j : Int) = some u := fun j hj => by
    cases e : lookS g (j : Int) with
    | some u => exact ⟨u, rfl⟩
    | none =>
      exfalso
      have nk : ((g ++ [((j : Int), (0 : Int))]).map (·.1)).Nodup := by
        rw [List.map_append, List.nodup_append]
        refine ⟨un, by simp, fun a ha b hb z => ?_⟩
        have hb : b = (j : Int) := by simpa using hb
        obtain ⟨q, hq, e2⟩ := List.mem_map.mp ha
        unfold lookS at e
        have := List.find?_eq_none.mp (Option.map_eq_none_iff.mp e) q hq
        exact this (decide_eq_true (by rw [e2, z, hb]))
      have := (kin.add hj).len nk
      rw [List.length_append, List.length_singleton] at this
      omega
  intro i hi
  obtain ⟨u, hu⟩ := all i hi
  obtain ⟨u0, u1, ho⟩ := p i u hu
  refine ⟨?_, fun o hoi => ?_⟩
  · show 0 ≤ (lookS g (i : Int)).getD 0 ∧ (lookS g (i : Int)).getD 0 < h
    rw [hu]; exact ⟨u0, u1⟩
  · show (lookS g ((o.toNat : Nat) : Int)).getD 0 ≠ (lookS g (i : Int)).getD 0
    have r := A.rng i o hoi
    rw [show ((o.toNat : Nat) : Int) = o by omega, hu]
    obtain ⟨v, hv⟩ := all o.toNat (by omega)
    rw [show ((o.toNat : Nat) : Int) = o by omega] at hv
    rw [hv]
    exact fun z => ho o hoi (by rw [hv]; exact congrArg some z)
/-! ### fresh cases: all their lists are unlike -/
mutual
inductive Tr (f : List V → List V) (K : PySem.W.Frag) (H : Hp) : V → PyData → List Addr → Prop
  | emp {p : Addr} : SqT K H p [] → Tr f K H (.ref p) (.tuple []) []
  | mk {p l : Addr} {k : Int} {zs : List V} {cs : List PyData} {L : List Addr} : SqT K H p [.int k, .ref l] → H l = some (.lst (f zs)) → TrA f K H zs cs L → Tr f K H (.ref p) (.tuple [.int k, .list cs]) (l :: L)
inductive TrA (f : List V → List V) (K : PySem.W.Frag) (H : Hp) : List V → List PyData → List Addr → Prop
  | nil : TrA f K H [] [] []
  | cons {z : V} {zs : List V} {c : PyData} {cs : List PyData} {L1 L2 : List Addr} : Tr f K H z c L1 → TrA f K H zs cs L2 → TrA f K H (z :: zs) (c :: cs) (L1 ++ L2)
end
mutual
theorem Tr.same {f : List V → List V} {K : PySem.W.Frag} {H H' : Hp} (s : Same H H') {v : V} {D : PyData} {L : List Addr} : Tr f K H v D L → Tr f K H' v D L
  | .emp h => .emp (same_seqT s h)
  | .mk h1 h2 h3 => .mk (same_seqT s h1) (s _ _ h2) (TrA.same s h3)
theorem TrA.same {f : List V → List V} {K : PySem.W.Frag} {H H' : Hp} (s : Same H H') {v : List V} {D : List PyData} {L : List Addr} : TrA f K H v D L → TrA f K H' v D L
  | .nil => .nil
  | .cons h1 h2 => .cons (Tr.same s h1) (TrA.same s h2)
end
theorem sqT_upd {K : PySem.W.Frag} {H : Hp} {a d : Addr} {xs os : List V} {o : HO} (h : SqT K H a xs) (hd : H d = some (.lst os)) : SqT K (upd H d o) a xs := by
  rcases h with (h | ⟨o', h⟩) | h
  · exact .inl (.inl (by rw [upd_ne (fun z => by rw [z, hd] at h; cases h)]; exact h))
  · exact .inl (.inr ⟨o', by rw [upd_ne (fun z => by rw [z, hd] at h; cases h)]; exact h⟩)
  · exact .inr h
mutual
theorem Tr.upd {f : List V → List V} {K : PySem.W.Frag} {H : Hp} {d : Addr} {os : List V} {o : HO} (hd : H d = some (.lst os)) {v : V} {D : PyData} {L : List Addr} : Tr f K H v D L → d ∉ L → Tr f K (L2.upd H d o) v D L
  | .emp h, _ => .emp (sqT_upd h hd)
  | .mk h1 h2 h3, n => .mk (sqT_upd h1 hd) (by rw [upd_ne (fun z => n (by rw [z]; exact List.mem_cons_self))]; exact h2) (TrA.upd hd h3 fun z => n (List.mem_cons_of_mem _ z))
theorem TrA.upd {f : List V → List V} {K : PySem.W.Frag} {H : Hp} {d : Addr} {os : List V} {o : HO} (hd : H d = some (.lst os)) {v : List V} {D : List PyData} {L : List Addr} : TrA f K H v D L → d ∉ L → TrA f K (L2.upd H d o) v D L
  | .nil, _ => .nil
  | .cons h1 h2, n => .cons (Tr.upd hd h1 fun z => n (List.mem_append_left _ z)) (TrA.upd hd h2 fun z => n (List.mem_append_right _ z))
end
mutual
theorem Tr.dp {K : PySem.W.Frag} {H : Hp} {v : V} {D : PyData} {L : List Addr} : Tr id K H v D L → Dp K H v D
  | .emp h => .tup h .nil
  | .mk h1 h2 h3 => .tup h1 (.cons (.int _) (.cons (.lst (sl h2) (TrA.dp h3)) .nil))
theorem TrA.dp {K : PySem.W.Frag} {H : Hp} {v : List V} {D : List PyData} {L : List Addr} : TrA id K H v D L → DpAll K H v D
  | .nil => .nil
  | .cons h1 h2 => .cons (Tr.dp h1) (TrA.dp h2)
end
mutual
theorem Tr.alive {f : List V → List V} {K : PySem.W.Frag} {H : Hp} {v : V} {D : PyData} {L : List Addr} : Tr f K H v D L → ∀ l ∈ L, ∃ zs, H l = some (.lst zs)
  | .emp _, l, h => by cases h
  | .mk h1 h2 h3, l, h => by
    rcases List.mem_cons.mp h with rfl | h
    · exact ⟨_, h2⟩
    · exact TrA.alive h3 l h
theorem TrA.alive {f : List V → List V} {K : PySem.W.Frag} {H : Hp} {v : List V} {D : List PyData} {L : List Addr} : TrA f K H v D L → ∀ l ∈ L, ∃ zs, H l = some (.lst zs)
  | .nil, l, h => by cases h
  | .cons h1 h2, l, h => by
    rcases List.mem_append.mp h with h | h
    · exact Tr.alive h1 l h
    · exact TrA.alive h2 l h
end
theorem TrA.app {f : List V → List V} {K : PySem.W.Frag} {H : Hp} {z : V} {c : PyData} {L2 : List Addr} (h : Tr f K H z c L2) : ∀ {zs : List V} {cs : List PyData} {L1 : List Addr}, TrA f K H zs cs L1 → TrA f K H (zs ++ [z]) (cs ++ [c]) (L1 ++ L2)
  | _, _, _, .nil => by
    have := TrA.cons h (.nil : TrA f K H [] [] [])
    rw [List.append_nil] at this
    exact this
  | _, _, _, .cons h1 h2 => by
    have := TrA.cons h1 (TrA.app h h2)
    rw [← List.append_assoc] at this
    exact this
theorem TrA.len {f : List V → List V} {K : PySem.W.Frag} {H : Hp} : ∀ {zs : List V} {cs : List PyData} {L : List Addr}, TrA f K H zs cs L → zs.length = cs.length
  | _, _, _, .nil => rfl
  | _, _, _, .cons _ h => by rw [List.length_cons, List.length_cons, TrA.len h]
theorem Tr.tup {f : List V → List V} {K : PySem.W.Frag} {H : Hp} {v : V} {D : PyData} {L : List Addr} (h : Tr f K H v D L) : ∃ p xs, v = .ref p ∧ SqT K H p xs := by
  cases h with
  | emp h => exact ⟨_, _, rfl, h⟩
  | mk h1 h2 h3 => exact ⟨_, _, rfl, h1⟩
/-! frames -/
theorem sqT_hid {K : PySem.W.Frag} {H H' : Hp} {X : List Addr} {p : Addr} {xs : List V} (h : SqT K H p xs) (hx : ∀ x ∈ X, ∃ zs, H x = some (.lst zs)) (s : Same (hid X H) (hid X H')) : SqT K H' p xs := by
  have go : ∀ o, H p = some o → (∀ zs, o ≠ .lst zs) → H' p = some o := fun o e n => by
    have np : p ∉ X := fun z => by
      obtain ⟨zs, hz⟩ := hx p z
      rw [hz] at e
      cases e
      exact n zs rfl
    have := s p o (by rw [hid_ne np]; exact e)
    rw [hid_ne np] at this
    exact this
  rcases h with (h | ⟨o', h⟩) | h
  · exact .inl (.inl (go _ h fun zs z => nomatch z))
  · exact .inl (.inr ⟨o', go _ h fun zs z => nomatch z⟩)
  · exact .inr h
theorem keep_hid {H H' : Hp} {X : List Addr} {p : Addr} {o : HO} (e : H p = some o) (np : p ∉ X) (s : Same (hid X H) (hid X H')) : H' p = some o := by
  have := s p o (by rw [hid_ne np]; exact e)
  rw [hid_ne np] at this
  exact this
mutual
theorem Tr.frame {f : List V → List V} {K : PySem.W.Frag} {H H' : Hp} {X : List Addr} (hx : ∀ x ∈ X, ∃ zs, H x = some (.lst zs)) (s : Same (hid X H) (hid X H')) {v : V} {D : PyData} {L : List Addr} : Tr f K H v D L → (∀ l ∈ L, l ∉ X) → Tr f K H' v D L
  | .emp h, _ => .emp (sqT_hid h hx s)
  | .mk h1 h2 h3, n => .mk (sqT_hid h1 hx s) (keep_hid h2 (n _ List.mem_cons_self) s) (TrA.frame hx s h3 fun l hl => n l (List.mem_cons_of_mem _ hl))
theorem TrA.frame {f : List V → List V} {K : PySem.W.Frag} {H H' : Hp} {X : List Addr} (hx : ∀ x ∈ X, ∃ zs, H x = some (.lst zs)) (s : Same (hid X H) (hid X H')) {v : List V} {D : List PyData} {L : List Addr} : TrA f K H v D L → (∀ l ∈ L, l ∉ X) → TrA f K H' v D L
  | .nil, _ => .nil
  | .cons h1 h2, n => .cons (Tr.frame hx s h1 fun l hl => n l (List.mem_append_left _ hl)) (TrA.frame hx s h2 fun l hl => n l (List.mem_append_right _ hl))
end
/-- a comprehension over a list, each turn gives a new thing of which F tells the data -/
theorem lc_dp {σ : L2.St} {vs : List Nat} {g : TG} {te : TE} {H1 : Hp} {QD : Addr → Hp → Prop} {α : Type} {a : Addr} {xs : List V} (S0 : List Addr) (hS : ∀ b ∈ S0, H1 b ≠ none) (hs : SqL K H1 a xs) (ps : List α) (hl : xs.length = ps.length) (hz : ps.length ≤ 50000) (F : α → PyData)
    (step : ∀ (i : Nat) x p H', xs[i]? = some x → ps[i]? = some p → Same H1 H' → ∀ (R : V → Hp → Prop), (∀ y H'', Same H' H'' → (∀ S : List Addr, (∀ b ∈ S, H' b ≠ none) → Dp K (hid S H'') y (F p)) → R y H'') →
      g x (wipe σ vs) H' fun σ2 H2 => wipe σ2 vs = wipe σ vs ∧ te σ2 H2 R)
    (h : ∀ D ys H', H1 D = none → Same H1 H' → H' D = some (.lst ys) → DpAll K (hid (D :: S0) H') ys (ps.map F) → QD D H') (hg : ∀ x σ' H (q q' : L2.St → Hp → Prop), (∀ s H, q s H → q' s H) → g x σ' H q → g x σ' H q') :
    ∃ a', V.ref a = .ref a' ∧ (∃ xs, SqL K H1 a' xs) ∧ ∀ D, H1 D = none → ∃ W : Nat → Nat → Hp → Prop, (∃ m, W 0 m (upd H1 D (.lst []))) ∧ ∀ i m H, W i m H →
      ((Itl K a').stop i H ∧ QD D H) ∨ ((Itl K a').go i H ∧ ∃ Nx : Hp → Prop, (∀ H', Nx H' → ∃ m', m' < m ∧ W (i + 1) m' H') ∧ ∀ x H', (Itl K a').yld i H x H' → g x (wipe σ vs) H' fun σ2 H2 => wipe σ2 vs = wipe σ vs ∧ tYes σ2 H2 fun b H3 =>
        if b = true then te σ2 H3 fun y H4 => ∃ acc, H4 D = some (.lst acc) ∧ acc.length < sizeLine ∧ Nx (upd H4 D (.lst (acc ++ [y]))) else Nx H3) := by
  refine ⟨a, rfl, ⟨xs, hs⟩, fun D nD => lc_list (xs := xs) (fun i H => Same H1 H ∧ ∃ ys, H D = some (.lst ys) ∧ ys.length = i ∧ DpAll K (hid (D :: S0) H) ys ((ps.take i).map F)) ⟨same_new nD, [], upd_same, rfl, .nil⟩ (fun i H _ e => e.1.seq hs) ?_ ?_⟩
  · rintro i x H hx ⟨sm, ys, hD, hly, hys⟩
    have hi : i < xs.length := (List.getElem?_eq_some_iff.mp hx).1
    obtain ⟨p, hp⟩ : ∃ p, ps[i]? = some p := ⟨ps[i]'(by omega), List.getElem?_eq_getElem (by omega)⟩
    refine hg _ _ _ _ _ (fun s2 H2 hh => ⟨hh.1, k_yes (iteT hh.2)⟩) (step i x p H hx hp sm _ (fun y H'' s2 dy => ⟨ys, s2 _ _ hD, szl (by omega), same_mut (sm.trans s2) nD, ys ++ [y], upd_same, by simp [hly], ?_⟩))
    rw [hid_upd (by simp), List.take_add_one, hp, List.map_append]
    refine dpa_app (dpa_same (hid_mono s2) hys) (.cons (dy _ fun b hb => ?_) .nil)
    rcases List.mem_cons.mp hb with e | hb
    · rw [e, hD]; exact fun z => nomatch z
    · intro z
      exact hS b hb (sm.free z)
  · rintro H ⟨sm, ys, hD, hly, hys⟩
    rw [hl, List.take_length] at hys
    exact h D ys H nD sm hD hys
/-- behind an if: what follows is shown once, and lies behind a letter meanwhile -/
theorem ifjoinO {c : Bool} {σ : L2.St} {H : Hp} {s1 s2 : TS} {nx bk ct : L2.St → Hp → Prop} {rt : VK} (G : L2.St → Hp → Prop) (main : ∀ σ H, G σ H → nx σ H) (h : ∀ nx' : L2.St → Hp → Prop, (∀ σ H, G σ H → nx' σ H) → if c = true then s1 ⟨nx', rt, bk, ct⟩ σ H else s2 ⟨nx', rt, bk, ct⟩ σ H) : if c = true then s1 ⟨nx, rt, bk, ct⟩ σ H else s2 ⟨nx, rt, bk, ct⟩ σ H := h _ main
theorem forZ {K : PySem.W.Frag} {σ : L2.St} {H : Hp} {nx : L2.St → Hp → Prop} {rt : VK} {a b : Addr} {xs ys : List V} {g : TG} {tb : TS} (h1 : SqL K H a xs) (h2 : SqL K H b ys) (hl : xs.length = ys.length) (Pv : Nat → L2.St → Hp → Prop) (h0 : Pv 0 σ H) (hk : ∀ i σ H, Pv i σ H → SqL K H a xs ∧ SqL K H b ys)
    (hs : ∀ (i : Nat) x y σ H T H', xs[i]? = some x → ys[i]? = some y → Pv i σ H → H T = none → Same H H' → H' T = some (.tup [x, y]) → g (.ref T) σ H' fun σ2 H2 => tb ⟨Pv (i + 1), rt, nx, Pv (i + 1)⟩ σ2 H2) (hd : ∀ σ H, Pv xs.length σ H → nx σ H) :
    ∃ a' b' xs' ys', [V.ref a, .ref b] = [.ref a', .ref b'] ∧ SqL K H a' xs' ∧ SqL K H b' ys' ∧ ∃ W : Nat → Nat → L2.St → Hp → Prop, (∃ m, W 0 m σ H) ∧ ∀ i m σ H, W i m σ H →
      ((Itz K a' b').stop i H ∧ nx σ H) ∨ ((Itz K a' b').go i H ∧ ∃ N : L2.St → Hp → Prop, (∀ σ' H', N σ' H' → ∃ m', m' < m ∧ W (i + 1) m' σ' H') ∧ ∀ x H', (Itz K a' b').yld i H x H' → g x σ H' fun σ2 H2 => tb ⟨N, rt, nx, N⟩ σ2 H2) := by
  refine ⟨a, b, xs, ys, rfl, h1, h2, for_it (D := ⟨nx, rt, fun _ _ => False, fun _ _ => False⟩) (walk_zip (n := xs.length) (by omega)) Pv h0 (fun i σ H _ p => hk i σ H p) ?_ hd⟩
  rintro i y σ H1 H2 hi p ⟨T, x1, x2, rfl, nT, rfl, hx1, hx2⟩
  exact hs i x1 x2 σ H1 T _ hx1 hx2 p nT (same_new nT) upd_same


theorem ring_turn {n a b t : Int} (hn : 3 ≤ n) (h : isWay (.ring n) a b) (t0 : 0 ≤ t) (t1 : t < n) : OnTie (.ring n) b a t ↔ ¬ OnTie (.ring n) a b t := by
  obtain ⟨w1, w2, w3, w4, w5⟩ := h
  have w4' : a < n := w4
  have w5' : b < n := w5
  show (0 ≤ t ∧ t < n ∧ up n b t < up n b a) ↔ ¬ (0 ≤ t ∧ t < n ∧ up n a t < up n a b)
  unfold up
  constructor
  · rintro ⟨_, _, z⟩ ⟨_, _, y⟩
    repeat' split at z
    all_goals repeat' split at y
    all_goals omega
  · intro z
    refine ⟨t0, t1, ?_⟩
    have z' : ¬ (if a ≤ t then t - a else t - a + n) < (if a ≤ b then b - a else b - a + n) := fun y => z ⟨t0, t1, y⟩
    repeat' split at z'
    all_goals repeat' split
    all_goals omega
/-! ### ways on a ring, some of them settled: pairs of ties -/
/-- how a way lies on a tie: as it is told (0) or turned (1) -/
def onB (n : Int) (w : Int × Int) (u t : Int) : Bool := decide (OnTie (.ring n) (turnW w u).1 (turnW w u).2 t)
def b2i (b : Bool) : Int := if b then 1 else 0
def wt (n : Int) (w : Int × Int) (o : Option Int) (e f : Int) : Int := match o with
  | some u => b2i (onB n w u e) + b2i (onB n w u f)
  | none => if onB n w 0 e = onB n w 0 f then 0 else 1
def sumTo (n : Int) (ws ss : List (Int × Int)) (e f : Int) : Nat → Int
  | 0 => 0
  | i + 1 => sumTo n ws ss e f i + wt n (ws.getD i (0, 0)) (lookS ss (i : Int)) e f
abbrev sumF (n : Int) (ws ss : List (Int × Int)) (e f : Int) : Int := sumTo n ws ss e f ws.length
inductive Pap where
  | ties (e f : Int)
  | cut (k : Int) (one other : Pap)
def Pap.d : Pap → PyData
  | .ties e f => .tuple [.str (Str.ofString "ties"), .int e, .int f]
  | .cut k a b => .tuple [.int k, a.d, b.d]
def PapOk (n : Int) (ws : List (Int × Int)) (m : Int) : List (Int × Int) → Pap → Prop
  | ss, .ties e f => (0 ≤ e ∧ e < n) ∧ (0 ≤ f ∧ f < n) ∧ 2 * m < sumF n ws ss e f
  | ss, .cut k a b => 0 ≤ k ∧ k < ws.length ∧ lookS ss k = none ∧ PapOk n ws m (ss ++ [(k, 0)]) a ∧ PapOk n ws m (ss ++ [(k, 1)]) b
section
variable {n : Int} {ws : List (Int × Int)}
theorem onB_turn {w : Int × Int} {t : Int} (hn : 3 ≤ n) (hw : isWay (.ring n) w.1 w.2) (t0 : 0 ≤ t) (t1 : t < n) : onB n w 1 t = !onB n w 0 t := by
  have := ring_turn hn hw t0 t1
  unfold onB turnW
  rw [if_pos rfl, if_neg (by decide)]
  by_cases c : OnTie (.ring n) w.1 w.2 t
  · rw [decide_eq_true c, decide_eq_false (fun z => (this.mp z) c)]; rfl
  · rw [decide_eq_false c, decide_eq_true (this.mpr c)]; rfl
/-- how a turning lies on a tie -/
def loadTo (n : Int) (ws : List (Int × Int)) (us : List Int) (e : Int) : Nat → Int
  | 0 => 0
  | i + 1 => loadTo n ws us e i + b2i (onB n (ws.getD i (0, 0)) (us.getD i 0) e)
theorem wt_le {w : Int × Int} {e f u : Int} {o : Option Int} (hn : 3 ≤ n) (hw : isWay (.ring n) w.1 w.2) (e0 : 0 ≤ e ∧ e < n) (f0 : 0 ≤ f ∧ f < n) (hu : u = 0 ∨ u = 1) (ho : ∀ v, o = some v → u = v) : wt n w o e f ≤ b2i (onB n w u e) + b2i (onB n w u f) := by
  cases o with
  | some v => rw [ho v rfl]; exact Int.le_refl _
  | none =>
    have a := onB_turn hn hw e0.1 e0.2
    have b := onB_turn hn hw f0.1 f0.2
    show (if onB n w 0 e = onB n w 0 f then 0 else 1) ≤ _
    rcases hu with rfl | rfl
    · cases onB n w 0 e <;> cases onB n w 0 f <;> simp [b2i]
    · rw [a, b]
      cases onB n w 0 e <;> cases onB n w 0 f <;> simp [b2i]
theorem sum_le {ss : List (Int × Int)} {us : List Int} {e f : Int} (hn : 3 ≤ n) (hw : ∀ w ∈ ws, isWay (.ring n) w.1 w.2) (e0 : 0 ≤ e ∧ e < n) (f0 : 0 ≤ f ∧ f < n) (hu : ∀ i : Nat, us.getD i 0 = 0 ∨ us.getD i 0 = 1) (ag : ∀ (i : Nat) v, i < ws.length → lookS ss (i : Int) = some v → us.getD i 0 = v) : ∀ i, i ≤ ws.length → sumTo n ws ss e f i ≤ loadTo n ws us e i + loadTo n ws us f i
  | 0, _ => by simp [sumTo, loadTo]
  | i + 1, hi => by
    have ih := sum_le hn hw e0 f0 hu ag i (by omega)
    have hm : ws.getD i (0, 0) ∈ ws := by
      rw [List.getD_eq_getElem?_getD, List.getElem?_eq_getElem (by omega)]
      exact List.getElem_mem _
    have := wt_le (o := lookS ss (i : Int)) hn (hw _ hm) e0 f0 (hu i) (fun v hv => ag i v (by omega) hv)
    simp only [sumTo, loadTo]
    omega
/-- a paper bars every turning -/
theorem pap_bars {m : Int} {us : List Int} (hn : 3 ≤ n) (hw : ∀ w ∈ ws, isWay (.ring n) w.1 w.2) (hu : ∀ i : Nat, us.getD i 0 = 0 ∨ us.getD i 0 = 1) : ∀ {p : Pap} {ss : List (Int × Int)}, PapOk n ws m ss p → (∀ (i : Nat) v, i < ws.length → lookS ss (i : Int) = some v → us.getD i 0 = v) → ∃ e, (0 ≤ e ∧ e < n) ∧ m < loadTo n ws us e ws.length
  | .ties e f, ss, h, ag => by
    obtain ⟨e0, f0, h⟩ := h
    have := sum_le hn hw e0 f0 hu ag ws.length (Nat.le_refl _)
    by_cases c : m < loadTo n ws us e ws.length
    · exact ⟨e, e0, c⟩
    · refine ⟨f, f0, ?_⟩
      have h' : 2 * m < sumTo n ws ss e f ws.length := h
      omega
  | .cut k a b, ss, h, ag => by
    obtain ⟨k0, k1, kn, ha, hb⟩ := h
    have hk : us.getD k.toNat 0 = 0 ∨ us.getD k.toNat 0 = 1 := hu _
    rcases hk with hk | hk
    · refine pap_bars hn hw hu ha (fun i v hi hv => ?_)
      rw [look_add kn] at hv
      split at hv
      · rename_i e; cases hv; have e' : i = k.toNat := by omega
        rw [e']; exact hk
      · exact ag i v hi hv
    · refine pap_bars hn hw hu hb (fun i v hi hv => ?_)
      rw [look_add kn] at hv
      split at hv
      · rename_i e; cases hv; have e' : i = k.toNat := by omega
        rw [e']; exact hk
      · exact ag i v hi hv
/-- all settled: the pair e, e tells the load twice -/
theorem sum_all {ss : List (Int × Int)} {us : List Int} {e : Int} (ag : ∀ i : Nat, i < ws.length → lookS ss (i : Int) = some (us.getD i 0)) : ∀ i, i ≤ ws.length → sumTo n ws ss e e i = 2 * loadTo n ws us e i
  | 0, _ => by simp [sumTo, loadTo]
  | i + 1, hi => by
    have ih := sum_all (e := e) ag i (by omega)
    simp only [sumTo, loadTo, ag i (by omega), wt, ih]
    omega
/-- ties with the same mark have the same load -/
theorem load_like {us : List Int} {e t : Int} (hn : 3 ≤ n) (hw : ∀ w ∈ ws, isWay (.ring n) w.1 w.2) (e0 : 0 ≤ e ∧ e < n) (t0 : 0 ≤ t ∧ t < n) (hu : ∀ i : Nat, us.getD i 0 = 0 ∨ us.getD i 0 = 1) (lk : ∀ i : Nat, i < ws.length → onB n (ws.getD i (0, 0)) 0 e = onB n (ws.getD i (0, 0)) 0 t) : ∀ i, i ≤ ws.length → loadTo n ws us e i = loadTo n ws us t i
  | 0, _ => rfl
  | i + 1, hi => by
    have ih := load_like hn hw e0 t0 hu lk i (by omega)
    have hm : ws.getD i (0, 0) ∈ ws := by
      rw [List.getD_eq_getElem?_getD, List.getElem?_eq_getElem (by omega)]
      exact List.getElem_mem _
    have l := lk i (by omega)
    simp only [loadTo, ih]
    rcases hu i with z | z
    · rw [z, l]
    · rw [z, onB_turn hn (hw _ hm) e0.1 e0.2, onB_turn hn (hw _ hm) t0.1 t0.2, l]
theorem load_nonneg {us : List Int} {e : Int} : ∀ i, 0 ≤ loadTo n ws us e i
  | 0 => by simp [loadTo]
  | i + 1 => by
    have := load_nonneg (us := us) (e := e) i
    have b : 0 ≤ b2i (onB n (ws.getD i (0, 0)) (us.getD i 0) e) := by unfold b2i; split <;> omega
    simp only [loadTo]
    omega
end
/-! ### the ways settled from the first one on -/
def ssOf (us : List Int) : List (Int × Int) := (List.range us.length).map fun i : Nat => ((i : Int), us.getD i 0)
theorem ssOf_len (us : List Int) : (ssOf us).length = us.length := by simp [ssOf]
theorem ssOf_app (us : List Int) (u : Int) : ssOf (us ++ [u]) = ssOf us ++ [((us.length : Int), u)] := by
  unfold ssOf
  rw [List.length_append, show [u].length = 1 from rfl, List.range_succ, List.map_append]
  congr 1
  · refine List.map_congr_left fun i hi => ?_
    rw [List.getD_eq_getElem?_getD, List.getElem?_append_left (List.mem_range.mp hi), ← List.getD_eq_getElem?_getD]
  · simp
theorem look_ssOf (us : List Int) : ∀ m, m ≤ us.length → ∀ i : Nat, lookS ((List.range m).map fun i : Nat => ((i : Int), us.getD i 0)) (i : Int) = if i < m then some (us.getD i 0) else none
  | 0, _, i => by simp [lookS]
  | m + 1, hm, i => by
    have ih := look_ssOf us m (by omega)
    rw [List.range_succ, List.map_append]
    have h0 : lookS ((List.range m).map fun i : Nat => ((i : Int), us.getD i 0)) (m : Int) = none := by rw [ih]; simp
    rw [show List.map (fun i : Nat => ((i : Int), us.getD i 0)) [m] = [((m : Int), us.getD m 0)] from rfl, look_add h0, ih]
    by_cases c : i = m
    · subst c; simp
    · rw [if_neg (by omega)]
      by_cases d : i < m
      · rw [if_pos d, if_pos (by omega)]
      · rw [if_neg d, if_neg (by omega)]
theorem look_ss (us : List Int) (i : Nat) : lookS (ssOf us) (i : Int) = if i < us.length then some (us.getD i 0) else none := look_ssOf us us.length (Nat.le_refl _) i
theorem look_neg (us : List Int) {k : Int} (h : k < 0) : lookS (ssOf us) k = none := by
  unfold lookS
  rw [List.find?_eq_none.mpr]
  · rfl
  · intro p hp z
    unfold ssOf at hp
    obtain ⟨i, _, rfl⟩ := List.mem_map.mp hp
    have : (i : Int) = k := of_decide_eq_true z
    omega
def T01 (us : List Int) : Prop := ∀ u ∈ us, u = 0 ∨ u = 1
theorem T01.get {us : List Int} (h : T01 us) (i : Nat) : us.getD i 0 = 0 ∨ us.getD i 0 = 1 := by
  rw [List.getD_eq_getElem?_getD]
  cases c : us[i]? with
  | none => exact .inl rfl
  | some u => exact h u (List.mem_of_getElem? c)
theorem T01.app {us : List Int} {u : Int} (h : T01 us) (hu : u = 0 ∨ u = 1) : T01 (us ++ [u]) := fun v hv => by
  rcases List.mem_append.mp hv with z | z
  · exact h v z
  · rw [List.mem_singleton.mp z]; exact hu
def Pap.dep : Pap → Nat
  | .ties _ _ => 0
  | .cut _ a b => max a.dep b.dep + 1
section
variable {n : Int} {ws : List (Int × Int)} {us : List Int}
theorem load_le {e : Int} : ∀ i, loadTo n ws us e i ≤ i
  | 0 => by simp [loadTo]
  | i + 1 => by
    have := load_le (e := e) i
    have b : b2i (onB n (ws.getD i (0, 0)) (us.getD i 0) e) ≤ 1 := by unfold b2i; split <;> omega
    simp only [loadTo]
    omega
theorem b2i_nonneg (b : Bool) : 0 ≤ b2i b := by cases b <;> decide
theorem load_mono {e : Int} : ∀ {i j : Nat}, i ≤ j → loadTo n ws us e i ≤ loadTo n ws us e j := by
  intro i j h
  induction h with
  | refl => exact Int.le_refl _
  | step h ih =>
    simp only [loadTo]
    exact Int.le_trans ih (by rename_i m; have := b2i_nonneg (onB n (ws.getD m (0, 0)) (us.getD m 0) e); omega)
theorem on_start {w : Int × Int} {u : Int} (hw : isWay (.ring n) w.1 w.2) : ∃ e, (0 ≤ e ∧ e < n) ∧ onB n w u e = true := by
  obtain ⟨h1, h2, h3, h4, h5⟩ := hw
  have h4' : w.1 < n := h4
  have h5' : w.2 < n := h5
  unfold onB turnW
  by_cases c : u = 1
  · rw [if_pos c]
    refine ⟨w.2, ⟨h3, h5'⟩, decide_eq_true ⟨h3, h5', ?_⟩⟩
    unfold up
    rw [if_pos (Int.le_refl _)]
    split <;> omega
  · rw [if_neg c]
    refine ⟨w.1, ⟨h2, h4'⟩, decide_eq_true ⟨h2, h4', ?_⟩⟩
    unfold up
    rw [if_pos (Int.le_refl _)]
    split <;> omega
/-- some tie bears a way -/
theorem load_pos (hw : ∀ w ∈ ws, isWay (.ring n) w.1 w.2) (h0 : 0 < ws.length) : ∃ e, (0 ≤ e ∧ e < n) ∧ 1 ≤ loadTo n ws us e ws.length := by
  obtain ⟨e, he, h1⟩ := on_start (u := us.getD 0 0) (hw (ws.getD 0 (0, 0)) (by rw [List.getD_eq_getElem?_getD, List.getElem?_eq_getElem h0]; exact List.getElem_mem _))
  refine ⟨e, he, ?_⟩
  have h2 : loadTo n ws us e 1 ≤ loadTo n ws us e ws.length := load_mono (by omega)
  have h3 : loadTo n ws us e 1 = 1 := by simp only [loadTo]; rw [h1]; rfl
  omega
/-- the law's count is the load -/
theorem cnt_turn {t : Int} (hl : us.length = ws.length) : ∀ i, i ≤ ws.length → (cnt (.ring n) ((turnAll ws us).take i) t : Int) = loadTo n ws us t i
  | 0, _ => by simp [cnt, loadTo]
  | i + 1, hi => by
    have ih := cnt_turn (t := t) hl i (by omega)
    have hw : (turnAll ws us)[i]? = some (turnW (ws.getD i (0, 0)) (us.getD i 0)) := by
      unfold turnAll
      rw [List.getElem?_zipWith, List.getElem?_eq_getElem (show i < ws.length by omega), List.getElem?_eq_getElem (show i < us.length by omega)]
      simp [List.getD_eq_getElem?_getD, List.getElem?_eq_getElem (show i < ws.length by omega), List.getElem?_eq_getElem (show i < us.length by omega)]
    rw [cnt_take hw]
    simp only [loadTo]
    rw [← ih, Int.natCast_add]
    congr 1
    unfold onB b2i
    by_cases c : OnTie (.ring n) (turnW (ws.getD i (0, 0)) (us.getD i 0)).1 (turnW (ws.getD i (0, 0)) (us.getD i 0)).2 t
    · rw [if_pos c, if_pos (decide_eq_true c)]; rfl
    · rw [if_neg c, if_neg (by simpa using c)]; rfl
theorem cnt_all {t : Int} (hl : us.length = ws.length) : (cnt (.ring n) (turnAll ws us) t : Int) = loadTo n ws us t ws.length := by
  have := cnt_turn (n := n) (t := t) hl ws.length (Nat.le_refl _)
  rwa [List.take_of_length_le (by unfold turnAll; rw [List.length_zipWith]; omega)] at this
/-- what load tells of the turned ways -/
def IsL (n : Int) (ws : List (Int × Int)) (us : List Int) (m : Int) : Prop := (∃ e, (0 ≤ e ∧ e < n) ∧ loadTo n ws us e ws.length = m) ∧ ∀ e, 0 ≤ e → e < n → loadTo n ws us e ws.length ≤ m
theorem isL_of {m : Int} (hn : 3 ≤ n) (hl : us.length = ws.length) (h1 : m ∈ loadsOf (.ring n) (turnAll ws us)) (h2 : ∀ y ∈ loadsOf (.ring n) (turnAll ws us), y ≤ m) : IsL n ws us m := by
  unfold loadsOf at h1 h2
  obtain ⟨t, ht, e⟩ := List.mem_map.mp h1
  have ht' : t < n.toNat := List.mem_range.mp ht
  refine ⟨⟨t, ⟨by omega, by omega⟩, by rw [← cnt_all hl]; exact e⟩, fun e h3 h4 => ?_⟩
  rw [← cnt_all hl]
  have := h2 _ (List.mem_map_of_mem (f := fun t : Nat => (cnt (.ring n) (turnAll ws us) (t : Nat) : Int)) (List.mem_range.mpr (show e.toNat < n.toNat by omega)))
  rwa [Int.toNat_of_nonneg h3] at this
theorem IsL.one {m k : Int} (h : IsL n ws us m) (h' : IsL n ws us k) : m = k := by
  obtain ⟨⟨e, he, a⟩, b⟩ := h
  obtain ⟨⟨f, hf, c⟩, d⟩ := h'
  have := d e he.1 he.2
  have := b f hf.1 hf.2
  omega
/-- a short way on a tie misses the tie half round -/
theorem short_miss {w : Int × Int} {e : Int} (hn : 3 ≤ n) (hw : isWay (.ring n) w.1 w.2) (e0 : 0 ≤ e ∧ e < n) (h : onB n w (short n w) e = true) : onB n w (short n w) ((e + n / 2) % n) = false := by
  obtain ⟨h1, h2, h3, h4, h5⟩ := hw
  have h4' : w.1 < n := h4
  have h5' : w.2 < n := h5
  have em : (e + n / 2) % n = if e + n / 2 < n then e + n / 2 else e + n / 2 - n := by
    split
    · exact Int.emod_eq_of_lt (by omega) (by omega)
    · rw [← Int.sub_emod_right]; exact Int.emod_eq_of_lt (by omega) (by omega)
  rw [em]
  have hh : n / 2 * 2 ≤ n ∧ n < n / 2 * 2 + 2 := by omega
  generalize n / 2 = q at hh ⊢
  unfold onB turnW short at *
  have c0 : n < 2 * up n w.1 w.2 ∨ ¬ n < 2 * up n w.1 w.2 := by omega
  rcases c0 with c0 | c0
  · rw [if_pos c0, if_pos rfl] at h ⊢
    obtain ⟨a1, a2, a3⟩ := of_decide_eq_true h
    refine decide_eq_false ?_
    rintro ⟨b1, b2, b3⟩
    unfold up at c0 a3 b3
    generalize hf : (if e + q < n then e + q else e + q - n) = f at b1 b2 b3
    repeat' split at hf
    all_goals repeat' split at c0
    all_goals repeat' split at a3
    all_goals repeat' split at b3
    all_goals omega
  · rw [if_neg c0, if_neg (show ¬ (0 : Int) = 1 by decide)] at h ⊢
    obtain ⟨a1, a2, a3⟩ := of_decide_eq_true h
    refine decide_eq_false ?_
    rintro ⟨b1, b2, b3⟩
    unfold up at c0 a3 b3
    generalize hf : (if e + q < n then e + q else e + q - n) = f at b1 b2 b3
    repeat' split at hf
    all_goals repeat' split at c0
    all_goals repeat' split at a3
    all_goals repeat' split at b3
    all_goals omega
theorem short_01 (w : Int × Int) : short n w = 0 ∨ short n w = 1 := by unfold short; split <;> simp
theorem short_sum {e : Int} (hn : 3 ≤ n) (hw : ∀ w ∈ ws, isWay (.ring n) w.1 w.2) (e0 : 0 ≤ e ∧ e < n) : ∀ i, i ≤ ws.length → loadTo n ws (ws.map (short n)) e i ≤ sumTo n ws [] e ((e + n / 2) % n) i
  | 0, _ => by simp [sumTo, loadTo]
  | i + 1, hi => by
    have ih := short_sum hn hw e0 i (by omega)
    have f0 : 0 ≤ (e + n / 2) % n ∧ (e + n / 2) % n < n := ⟨Int.emod_nonneg _ (by omega), Int.emod_lt_of_pos _ (by omega)⟩
    have hi' : i < ws.length := by omega
    have hg : ws.getD i (0, 0) = ws[i] := by rw [List.getD_eq_getElem?_getD, List.getElem?_eq_getElem hi']; rfl
    have hs : (ws.map (short n)).getD i 0 = short n ws[i] := by rw [List.getD_eq_getElem?_getD, List.getElem?_map, List.getElem?_eq_getElem hi']; rfl
    have wi := hw _ (List.getElem_mem hi')
    simp only [loadTo, sumTo, hg, hs, look_nil, wt]
    have a := onB_turn hn wi e0.1 e0.2
    have b := onB_turn hn wi f0.1 f0.2
    have key : b2i (onB n ws[i] (short n ws[i]) e) ≤ if onB n ws[i] 0 e = onB n ws[i] 0 ((e + n / 2) % n) then 0 else 1 := by
      cases c : onB n ws[i] (short n ws[i]) e with
      | false => rw [show b2i false = 0 from rfl]; split <;> omega
      | true =>
        have d := short_miss hn wi e0 c
        rw [if_neg]
        · decide
        · rcases short_01 (n := n) ws[i] with z | z
          · rw [z] at c d; rw [c, d]; decide
          · rw [z] at c d
            rw [a] at c
            rw [b] at d
            intro y
            rw [y] at c
            rw [c] at d
            cases d
    omega
/-- the short turning bears at most twice what any does -/
theorem short_twice {m k : Int} (hn : 3 ≤ n) (hw : ∀ w ∈ ws, isWay (.ring n) w.1 w.2) (hu : T01 us) (h : IsL n ws us m) (hs : IsL n ws (ws.map (short n)) k) : k ≤ 2 * m := by
  obtain ⟨⟨e, he, rfl⟩, _⟩ := hs
  have f0 : 0 ≤ (e + n / 2) % n ∧ (e + n / 2) % n < n := ⟨Int.emod_nonneg _ (by omega), Int.emod_lt_of_pos _ (by omega)⟩
  have h1 := short_sum hn hw he ws.length (Nat.le_refl _)
  have h2 := sum_le (ss := []) hn hw he f0 hu.get (fun i v _ z => by cases z) ws.length (Nat.le_refl _)
  have h3 := h.2 e he.1 he.2
  have h4 := h.2 _ f0.1 f0.2
  omega
end
theorem turn_ok {n : Int} : ∀ {ws : List (Int × Int)} {us : List Int}, (∀ w ∈ ws, isWay (.ring n) w.1 w.2) → ∀ w ∈ turnAll ws us, isWay (.ring n) w.1 w.2
  | [], _, _, w, h => by cases h
  | _ :: _, [], _, w, h => by cases h
  | a :: ws, u :: us, hw, w, h => by
    rcases List.mem_cons.mp (show w ∈ turnW a u :: turnAll ws us from h) with rfl | h
    · obtain ⟨h1, h2, h3, h4, h5⟩ := hw a List.mem_cons_self
      unfold turnW
      split
      · exact ⟨fun z => h1 z.symm, h3, h2, h5, h4⟩
      · exact ⟨h1, h2, h3, h4, h5⟩
    · exact turn_ok (fun w hw' => hw w (List.mem_cons_of_mem _ hw')) w h
theorem turn_len {ws : List (Int × Int)} {us : List Int} (h : us.length = ws.length) : (turnAll ws us).length = ws.length := by unfold turnAll; rw [List.length_zipWith]; omega
theorem T01.ok {ws : List (Int × Int)} {us : List Int} (h : T01 us) (hl : us.length = ws.length) : TurnOk ws us := ⟨hl, fun u hu => by rcases h u hu with z | z <;> omega⟩
theorem short_T {n : Int} (ws : List (Int × Int)) : T01 (ws.map (short n)) := fun u hu => by
  obtain ⟨w, _, rfl⟩ := List.mem_map.mp hu
  exact short_01 w
/-- a right paper: no turning bears as little -/
theorem least_of {n m k : Int} {ws : List (Int × Int)} {vs : List Int} {P : Pap} (hn : 3 ≤ n) (hw : ∀ w ∈ ws, isWay (.ring n) w.1 w.2) (hP : PapOk n ws (m - 1) [] P) (tv : T01 vs) (hk : IsL n ws vs k) : m ≤ k := by
  obtain ⟨e, he, h⟩ := pap_bars hn hw tv.get hP (fun i v _ z => by cases z)
  have := hk.2 e he.1 he.2
  omega


/-- ways of one hue do not meet -/
theorem meet_iff {N : Net} (ok : N.ok) {w v : Int × Int} (hw : isWay N w.1 w.2) (hv : isWay N v.1 v.2) : meetB N w v = true ↔ ∃ t, OnTie N w.1 w.2 t ∧ OnTie N v.1 v.2 t := by
  unfold meetB
  rw [common_iff]
  constructor
  · rintro ⟨t, a, b⟩; exact ⟨t, (tiesF_mem ok hw t).mp a, (tiesF_mem ok hv t).mp b⟩
  · rintro ⟨t, a, b⟩; exact ⟨t, (tiesF_mem ok hw t).mpr a, (tiesF_mem ok hv t).mpr b⟩
/-! ### ties and hues from below -/
/-! ### the number of hues that a right paper shows is the least -/
theorem flen_split {α : Type} (p : α → Bool) : ∀ (W : List α), (W.filter p).length + (W.filter fun x => !p x).length = W.length
  | [] => rfl
  | x :: r => by
    have ih := flen_split p r
    rw [List.filter_cons, List.filter_cons]
    cases c : p x with
    | true => simp only [if_true, Bool.not_true, Bool.false_eq_true, if_false, List.length_cons]; omega
    | false => simp only [if_true, Bool.not_false, Bool.false_eq_true, if_false, List.length_cons]; omega
/-- classes of at most k each -/
theorem cls_le {α : Type} (g : α → Int) (k : Nat) : ∀ (f : Nat) (W : List α), (∀ i ∈ W, 0 ≤ g i ∧ g i < f) → (∀ c : Int, (W.filter fun i => decide (g i = c)).length ≤ k) → W.length ≤ f * k
  | 0, W, hr, _ => by
    cases W with
    | nil => simp
    | cons x r => have := hr x List.mem_cons_self; omega
  | f + 1, W, hr, hk => by
    have sp := flen_split (fun i => decide (g i = (f : Int))) W
    have ih := cls_le g k f (W.filter fun x => !decide (g x = (f : Int))) (fun i hi => by
      obtain ⟨h1, h2⟩ := List.mem_filter.mp hi
      have := hr i h1
      have ne : g i ≠ (f : Int) := by simpa using h2
      omega) (fun c => Nat.le_trans (by
        rw [List.filter_filter]
        have e : (W.filter fun i => decide (g i = c) && !decide (g i = (f : Int))) = ((W.filter fun i => decide (g i = c)).filter fun x => !decide (g x = (f : Int))) := by
          rw [List.filter_filter]
          congr 1
          funext x
          rw [Bool.and_comm]
        rw [e]
        exact List.length_filter_le _ _) (hk c))
    have := hk (f : Int)
    rw [Nat.succ_mul]
    omega
theorem idx_filter {α : Type} (d : α) (p : α → Bool) (ws : List α) : (ws.filter p).length = ((List.range ws.length).filter fun i => p (ws.getD i d)).length := by
  have e : ws = (List.range ws.length).map fun i => ws.getD i d := by
    refine List.ext_getElem? fun i => ?_
    rw [List.getElem?_map]
    by_cases c : i < ws.length
    · rw [List.getElem?_range c, List.getElem?_eq_getElem c]
      simp [List.getD_eq_getElem?_getD, c]
    · rw [List.getElem?_eq_none (by omega), List.getElem?_eq_none (by simpa using c)]; rfl
  conv => lhs; rw [e]
  rw [List.filter_map, List.length_map]
  rfl
theorem one_at_most {l : List Nat} (nd : l.Nodup) (h : ∀ a ∈ l, ∀ b ∈ l, a = b) : l.length ≤ 1 := by
  match l, nd with
  | [], _ => simp
  | [_], _ => simp
  | a :: b :: r, nd =>
    have := h a (by simp) b (by simp)
    rw [this] at nd
    exact absurd List.mem_cons_self (List.nodup_cons.mp nd).1
theorem proper_apart {N : Net} {ws : List (Int × Int)} (ok : N.ok) (hok : ∀ w ∈ ws, isWay N w.1 w.2) {h : Int} {g : Nat → Int} (p : Proper (meetF N ws) h g) {i j : Nat} (hi : i < ws.length) (hj : j < ws.length) (hij : i ≠ j) {t : Int} (a : OnTie N (ws.getD i (0, 0)).1 (ws.getD i (0, 0)).2 t) (b : OnTie N (ws.getD j (0, 0)).1 (ws.getD j (0, 0)).2 t) : g i ≠ g j := by
  have wi : isWay N (ws.getD i (0, 0)).1 (ws.getD i (0, 0)).2 := by
    rw [List.getD_eq_getElem?_getD, List.getElem?_eq_getElem hi]; exact hok _ (List.getElem_mem _)
  have wj : isWay N (ws.getD j (0, 0)).1 (ws.getD j (0, 0)).2 := by
    rw [List.getD_eq_getElem?_getD, List.getElem?_eq_getElem hj]; exact hok _ (List.getElem_mem _)
  have hm : meetB N (ws.getD i (0, 0)) (ws.getD j (0, 0)) = true := (meet_iff ok wi wj).mpr ⟨t, a, b⟩
  have := (p i (by rw [meetF_len]; exact hi)).2 (j : Int) (by rw [meetF_get hi]; exact meetRow_mem.mpr ⟨hj, fun z => hij z.symm, hm⟩)
  rw [Int.toNat_natCast] at this
  exact fun z => this z.symm
theorem tie_low {N : Net} {ws : List (Int × Int)} (ok : N.ok) (hok : ∀ w ∈ ws, isWay N w.1 w.2) {f : Nat} {g : Nat → Int} (p : Proper (meetF N ws) f g) (t : Int) : cnt N ws t ≤ f := by
  unfold cnt
  rw [idx_filter (0, 0)]
  have mem : ∀ i ∈ (List.range ws.length).filter (fun i => decide (OnTie N (ws.getD i (0, 0)).1 (ws.getD i (0, 0)).2 t)), i < ws.length ∧ OnTie N (ws.getD i (0, 0)).1 (ws.getD i (0, 0)).2 t := fun i hi => by
    obtain ⟨h1, h2⟩ := List.mem_filter.mp hi
    exact ⟨List.mem_range.mp h1, of_decide_eq_true h2⟩
  have nd : ((List.range ws.length).filter (fun i => decide (OnTie N (ws.getD i (0, 0)).1 (ws.getD i (0, 0)).2 t))).Nodup := List.nodup_range.filter _
  have := cls_le g 1 f _ (fun i hi => (p i (by rw [meetF_len]; exact (mem i hi).1)).1) (fun c => one_at_most (nd.filter _) fun a ha b hb => by
    obtain ⟨a1, a2⟩ := List.mem_filter.mp ha
    obtain ⟨b1, b2⟩ := List.mem_filter.mp hb
    refine Classical.byContradiction fun ne => proper_apart ok hok p (mem a a1).1 (mem b b1).1 ne (mem a a1).2 (mem b b1).2 ?_
    rw [of_decide_eq_true a2, of_decide_eq_true b2])
  rw [Nat.mul_one] at this
  exact this
theorem mlen {N : Net} {ws : List (Int × Int)} : (meetF N ws).length = ws.length := meetF_len N ws
theorem proper_id {N : Net} {ws : List (Int × Int)} : Proper (meetF N ws) (ws.length : Nat) fun i => (i : Int) := fun i hi => by
  rw [mlen] at hi
  refine ⟨⟨Int.natCast_nonneg _, by show (i : Int) < ws.length; omega⟩, fun o ho e => ?_⟩
  have rg := (meetF_adj N ws).rng i o ho
  have e' : ((o.toNat : Nat) : Int) = (i : Int) := e
  omega
/-! ### hues, loads and turnings of lists of ways -/
def Colr (N : Net) (W : List (Int × Int)) (h : Int) : Prop := ∃ L : List ((Int × Int) × Int), L.map (·.1) = W ∧ (∀ x ∈ L, 0 ≤ x.2 ∧ x.2 < h) ∧ L.Pairwise fun x y => meetB N x.1 y.1 = true → x.2 ≠ y.2
theorem meet_comm (N : Net) (w v : Int × Int) : meetB N w v = meetB N v w := common_comm _ _
theorem proper_mk {N : Net} {W : List (Int × Int)} {h : Int} (F : Nat → Int) (rg : ∀ i, i < W.length → 0 ≤ F i ∧ F i < h) (ap : ∀ i j, i < W.length → j < W.length → i ≠ j → meetB N (W.getD i (0, 0)) (W.getD j (0, 0)) = true → F i ≠ F j) : Proper (meetF N W) h F := by
  intro i hi
  rw [meetF_len] at hi
  refine ⟨rg i hi, fun o ho => ?_⟩
  have r := (meetF_adj N W).rng i o ho
  rw [meetF_len] at r
  obtain ⟨j, rfl⟩ : ∃ j : Nat, o = j := ⟨o.toNat, by omega⟩
  rw [meetF_get hi] at ho
  obtain ⟨h1, h2, h3⟩ := meetRow_mem.mp ho
  rw [Int.toNat_natCast]
  exact fun z => ap i j hi h1 (fun y => h2 y.symm) h3 z.symm
theorem pair_apart {N : Net} {L : List ((Int × Int) × Int)} (pw : L.Pairwise fun x y => meetB N x.1 y.1 = true → x.2 ≠ y.2) {i j : Nat} (hi : i < L.length) (hj : j < L.length) (ne : i ≠ j) (hm : meetB N L[i].1 L[j].1 = true) : L[i].2 ≠ L[j].2 := by
  rcases Nat.lt_or_gt_of_ne ne with c | c
  · exact List.pairwise_iff_getElem.mp pw i j hi hj c hm
  · exact fun z => List.pairwise_iff_getElem.mp pw j i hj hi c (by rw [meet_comm]; exact hm) z.symm
theorem colr_iff {N : Net} {W : List (Int × Int)} {h : Int} : Colr N W h ↔ ∃ f, Proper (meetF N W) h f := by
  constructor
  · rintro ⟨L, rfl, rg, pw⟩
    obtain ⟨F, hF⟩ : ∃ F : Nat → Int, ∀ i (hi : i < L.length), F i = L[i].2 := ⟨fun i => (L.map (·.2)).getD i 0, fun i hi => by
      show (L.map (·.2)).getD i 0 = L[i].2
      rw [List.getD_eq_getElem?_getD, List.getElem?_map, List.getElem?_eq_getElem hi]; rfl⟩
    have hl : ∀ i (hi : i < L.length), (L.map (·.1)).getD i (0, 0) = L[i].1 := fun i hi => by
      rw [List.getD_eq_getElem?_getD, List.getElem?_map, List.getElem?_eq_getElem hi]; rfl
    refine ⟨F, proper_mk F (fun i hi => ?_) (fun i j hi hj ne hm => ?_)⟩
    · rw [List.length_map] at hi
      rw [hF i hi]
      exact rg _ (List.getElem_mem hi)
    · rw [List.length_map] at hi hj
      rw [hl i hi, hl j hj] at hm
      rw [hF i hi, hF j hj]
      exact pair_apart pw hi hj ne hm
  · rintro ⟨f, p⟩
    refine ⟨(List.range W.length).map fun i => (W.getD i (0, 0), f i), ?_, fun x hx => ?_, ?_⟩
    · rw [List.map_map]
      apply List.ext_getElem
      · simp
      · intro i h1 h2
        simp [List.getD_eq_getElem?_getD, List.getElem?_eq_getElem h2]
    · obtain ⟨i, hi, rfl⟩ := List.mem_map.mp hx
      exact (p i (by rw [meetF_len]; exact List.mem_range.mp hi)).1
    · refine List.pairwise_map.mpr (List.Pairwise.imp_of_mem (R := fun a b : Nat => a < b) ?_ List.pairwise_lt_range)
      intro i j hi hj hij hm
      have hi := List.mem_range.mp hi
      have hj := List.mem_range.mp hj
      have := (p i (by rw [meetF_len]; exact hi)).2 (j : Int) (by
        rw [meetF_get hi]
        exact meetRow_mem.mpr ⟨hj, by omega, hm⟩)
      rw [Int.toNat_natCast] at this
      exact fun z => this z.symm
theorem Colr.mono {N : Net} {W : List (Int × Int)} {h k : Int} (c : Colr N W h) (hk : h ≤ k) : Colr N W k := by
  obtain ⟨L, e, rg, pw⟩ := c
  exact ⟨L, e, fun x hx => by have := rg x hx; omega, pw⟩
/-- lists of pairs over permuted ways -/
theorem perm_pairs {α β : Type} {W W' : List α} (p : W.Perm W') : ∀ L : List (α × β), L.map (·.1) = W → ∃ L', L'.map (·.1) = W' ∧ L.Perm L' := by
  induction p with
  | nil => intro L e; exact ⟨[], rfl, by rw [List.map_eq_nil_iff.mp e]⟩
  | cons x _ ih =>
    intro L e
    cases L with
    | nil => cases e
    | cons a r =>
      injection e with e1 e2
      obtain ⟨r', h1, h2⟩ := ih r e2
      exact ⟨a :: r', by rw [List.map_cons, h1, ← e1], h2.cons a⟩
  | swap x y l =>
    intro L e
    cases L with
    | nil => cases e
    | cons a r =>
      cases r with
      | nil => injection e with _ e; cases e
      | cons b r =>
        injection e with e1 e2
        injection e2 with e2 e3
        exact ⟨b :: a :: r, by rw [List.map_cons, List.map_cons, e3, ← e1, ← e2], List.Perm.swap b a r⟩
  | trans _ _ ih1 ih2 =>
    intro L e
    obtain ⟨L1, h1, p1⟩ := ih1 L e
    obtain ⟨L2, h2, p2⟩ := ih2 L1 h1
    exact ⟨L2, h2, p1.trans p2⟩
theorem Colr.perm {N : Net} {W W' : List (Int × Int)} {h : Int} (c : Colr N W h) (p : W.Perm W') : Colr N W' h := by
  obtain ⟨L, e, rg, pw⟩ := c
  obtain ⟨L', e', p'⟩ := perm_pairs p L e
  refine ⟨L', e', fun x hx => rg x (p'.mem_iff.mpr hx), (p'.pairwise_iff ?_).mp pw⟩
  intro x y hxy hm z
  exact hxy (by rw [meet_comm]; exact hm) z.symm
theorem sub_pairs {α β : Type} {W W' : List α} (s : W'.Sublist W) : ∀ L : List (α × β), L.map (·.1) = W → ∃ L' : List (α × β), L'.map (·.1) = W' ∧ L'.Sublist L := by
  induction s with
  | slnil => intro L e; exact ⟨[], rfl, List.nil_sublist _⟩
  | cons a _ ih =>
    intro L e
    cases L with
    | nil => cases e
    | cons b r =>
      injection e with e1 e2
      obtain ⟨r', h1, h2⟩ := ih r e2
      exact ⟨r', h1, h2.cons b⟩
  | cons_cons a _ ih =>
    intro L e
    cases L with
    | nil => cases e
    | cons b r =>
      injection e with e1 e2
      obtain ⟨r', h1, h2⟩ := ih r e2
      exact ⟨b :: r', by rw [List.map_cons, h1, ← e1], h2.cons_cons b⟩
theorem Colr.sub {N : Net} {W W' : List (Int × Int)} {h : Int} (c : Colr N W h) (s : W'.Sublist W) : Colr N W' h := by
  obtain ⟨L, e, rg, pw⟩ := c
  obtain ⟨L', e', s'⟩ := sub_pairs s L e
  exact ⟨L', e', fun x hx => rg x (s'.subset hx), List.Pairwise.sublist s' pw⟩
theorem Colr.app {N : Net} {A B : List (Int × Int)} {h k : Int} (a : Colr N A h) (b : Colr N B k) (h0 : 0 ≤ h) (k0 : 0 ≤ k) : Colr N (A ++ B) (h + k) := by
  obtain ⟨L, rfl, rg, pw⟩ := a
  obtain ⟨M, rfl, rm, pm⟩ := b
  refine ⟨L ++ M.map fun x => (x.1, h + x.2), ?_, fun x hx => ?_, ?_⟩
  · rw [List.map_append, List.map_map]; rfl
  · rcases List.mem_append.mp hx with hx | hx
    · have := rg x hx; omega
    · obtain ⟨y, hy, rfl⟩ := List.mem_map.mp hx
      have := rm y hy
      exact ⟨by show 0 ≤ h + y.2; omega, by show h + y.2 < h + k; omega⟩
  · refine List.pairwise_append.mpr ⟨pw, List.pairwise_map.mpr (pm.imp fun hxy hm z => ?_), fun x hx y hy hm z => ?_⟩
    · rename_i x y
      have z : h + x.2 = h + y.2 := z
      exact hxy hm (by omega)
    · obtain ⟨u, hu, rfl⟩ := List.mem_map.mp hy
      have a1 := rg x hx
      have a2 := rm u hu
      have z : x.2 = h + u.2 := z
      omega
theorem Colr.all {N : Net} : ∀ W : List (Int × Int), Colr N W W.length
  | [] => ⟨[], rfl, fun x hx => (nomatch hx), .nil⟩
  | w :: r => by
    have one : Colr N [w] 1 := ⟨[(w, 0)], rfl, fun x hx => by rw [List.mem_singleton.mp hx]; exact ⟨Int.le_refl _, by show (0 : Int) < 1; decide⟩, List.pairwise_singleton _ _⟩
    have := one.app (Colr.all r) (by decide) (by omega)
    rw [List.length_cons, show ((r.length + 1 : Nat) : Int) = 1 + (r.length : Int) by omega]
    exact this
/-! loads -/
def LoadLe (N : Net) (W : List (Int × Int)) (m : Int) : Prop := ∀ t, (cnt N W t : Int) ≤ m
theorem LoadLe.mono {N : Net} {W : List (Int × Int)} {h k : Int} (c : LoadLe N W h) (hk : h ≤ k) : LoadLe N W k := fun t => by have := c t; omega
theorem cnt_perm {N : Net} {W W' : List (Int × Int)} (p : W.Perm W') (t : Int) : cnt N W t = cnt N W' t := by unfold cnt; exact (p.filter _).length_eq
theorem cnt_app {N : Net} (A B : List (Int × Int)) (t : Int) : cnt N (A ++ B) t = cnt N A t + cnt N B t := by unfold cnt; rw [List.filter_append, List.length_append]
theorem cnt_sub {N : Net} {W W' : List (Int × Int)} (s : W'.Sublist W) (t : Int) : cnt N W' t ≤ cnt N W t := by unfold cnt; exact (s.filter _).length_le
theorem cnt_le {N : Net} (W : List (Int × Int)) (t : Int) : cnt N W t ≤ W.length := by unfold cnt; exact List.length_filter_le _ _
theorem Colr.load {N : Net} {W : List (Int × Int)} (ok : N.ok) (hok : ∀ w ∈ W, isWay N w.1 w.2) {h : Nat} (c : Colr N W (h : Nat)) : LoadLe N W (h : Nat) := fun t => by
  obtain ⟨f, p⟩ := colr_iff.mp c
  exact Int.ofNat_le.mpr (tie_low ok hok p t)
/-! turnings -/
inductive TurR : List (Int × Int) → List (Int × Int) → Prop
  | nil : TurR [] []
  | cons {w v : Int × Int} {r s : List (Int × Int)} : (v = w ∨ v = (w.2, w.1)) → TurR r s → TurR (w :: r) (v :: s)
theorem TurR.refl : ∀ W : List (Int × Int), TurR W W
  | [] => .nil
  | _ :: r => .cons (.inl rfl) (TurR.refl r)
theorem TurR.all : ∀ {ws us : List (Int × Int)} , TurR ws us → ∃ ts : List Int, T01 ts ∧ ts.length = ws.length ∧ us = turnAll ws ts
  | _, _, .nil => ⟨[], (fun u hu => by cases hu), rfl, rfl⟩
  | _, _, .cons (w := w) (v := v) h r => by
    obtain ⟨ts, h1, h2, h3⟩ := TurR.all r
    rcases h with h | h
    · refine ⟨0 :: ts, fun u hu => ?_, by simp [h2], ?_⟩
      · rcases List.mem_cons.mp hu with rfl | hu
        · exact .inl rfl
        · exact h1 u hu
      · unfold turnAll at h3 ⊢
        rw [List.zipWith_cons_cons, h3, h]; rfl
    · refine ⟨1 :: ts, fun u hu => ?_, by simp [h2], ?_⟩
      · rcases List.mem_cons.mp hu with rfl | hu
        · exact .inr rfl
        · exact h1 u hu
      · unfold turnAll at h3 ⊢
        rw [List.zipWith_cons_cons, h3, h]; rfl
theorem turR_of : ∀ {ws : List (Int × Int)} {ts : List Int}, T01 ts → ts.length = ws.length → TurR ws (turnAll ws ts)
  | [], [], _, _ => .nil
  | [], _ :: _, _, h => by cases h
  | _ :: _, [], _, h => by cases h
  | w :: r, t :: ts, h, l => by
    have ih := turR_of (ws := r) (ts := ts) (fun u hu => h u (List.mem_cons_of_mem _ hu)) (by simpa using l)
    show TurR (w :: r) (turnW w t :: turnAll r ts)
    refine .cons ?_ ih
    rcases h t List.mem_cons_self with rfl | rfl
    · exact .inl rfl
    · exact .inr rfl
theorem TurR.perm {W W' : List (Int × Int)} (p : W.Perm W') : ∀ {T : List (Int × Int)}, TurR W T → ∃ T', TurR W' T' ∧ T.Perm T' := by
  induction p with
  | nil => intro T h; exact ⟨T, h, List.Perm.refl _⟩
  | cons x _ ih =>
    intro T h
    cases h with
    | cons hv r =>
      obtain ⟨T', h1, h2⟩ := ih r
      exact ⟨_, .cons hv h1, h2.cons _⟩
  | swap x y l =>
    intro T h
    cases h with
    | cons hv r => cases r with
      | cons hv2 r => exact ⟨_, .cons hv2 (.cons hv r), List.Perm.swap _ _ _⟩
  | trans _ _ ih1 ih2 =>
    intro T h
    obtain ⟨T1, h1, p1⟩ := ih1 h
    obtain ⟨T2, h2, p2⟩ := ih2 h1
    exact ⟨T2, h2, p1.trans p2⟩
theorem TurR.sub {W W' : List (Int × Int)} (s : W'.Sublist W) : ∀ {T : List (Int × Int)}, TurR W T → ∃ T', TurR W' T' ∧ T'.Sublist T := by
  induction s with
  | slnil => intro T h; exact ⟨[], .nil, List.nil_sublist _⟩
  | cons a _ ih =>
    intro T h
    cases h with
    | cons hv r =>
      obtain ⟨T', h1, h2⟩ := ih r
      exact ⟨T', h1, h2.cons _⟩
  | cons_cons a _ ih =>
    intro T h
    cases h with
    | cons hv r =>
      obtain ⟨T', h1, h2⟩ := ih r
      exact ⟨_, .cons hv h1, h2.cons_cons _⟩
theorem TurR.app : ∀ {A B S T : List (Int × Int)}, TurR A S → TurR B T → TurR (A ++ B) (S ++ T)
  | _, _, _, _, .nil, h => h
  | _, _, _, _, .cons hv r, h => .cons hv (TurR.app r h)
theorem TurR.ok {n : Int} : ∀ {W T : List (Int × Int)}, TurR W T → (∀ w ∈ W, isWay (.ring n) w.1 w.2) → ∀ w ∈ T, isWay (.ring n) w.1 w.2
  | _, _, .nil, _, w, h => by cases h
  | _, _, .cons (w := w) (v := v) hv r, hok, x, hx => by
    rcases List.mem_cons.mp hx with rfl | hx
    · have := hok w List.mem_cons_self
      rcases hv with rfl | rfl
      · exact this
      · exact ⟨fun z => this.1 z.symm, this.2.2.1, this.2.1, this.2.2.2.2, this.2.2.2.1⟩
    · exact TurR.ok r (fun w hw => hok w (List.mem_cons_of_mem _ hw)) x hx
theorem TurR.comp : ∀ {A B C : List (Int × Int)}, TurR A B → TurR B C → TurR A C
  | _, _, _, .nil, .nil => .nil
  | _, _, _, .cons h1 r1, .cons h2 r2 => .cons (by
    rcases h1 with rfl | rfl
    · exact h2
    · rcases h2 with rfl | rfl
      · exact .inr rfl
      · exact .inl rfl) (TurR.comp r1 r2)
theorem TurR.symm : ∀ {A B : List (Int × Int)}, TurR A B → TurR B A
  | _, _, .nil => .nil
  | _, _, .cons h1 r1 => .cons (by
    rcases h1 with rfl | rfl
    · exact .inl rfl
    · exact .inr rfl) (TurR.symm r1)
/-! the least of a rising property -/
def Least (P : Int → Prop) (h : Int) : Prop := 0 ≤ h ∧ P h ∧ ∀ k : Int, 0 ≤ k → k < h → ¬ P k
theorem Least.le {P : Int → Prop} {h k : Int} (l : Least P h) (k0 : 0 ≤ k) (p : P k) : h ≤ k := by
  refine Classical.byContradiction fun z => l.2.2 k k0 (by omega) p
theorem Least.one {P : Int → Prop} {h k : Int} (l : Least P h) (l' : Least P k) : h = k := by
  have := l.le l'.1 l'.2.1
  have := l'.le l.1 l.2.1
  omega
theorem Least.imp {P R : Int → Prop} {h : Int} (l : Least P h) (e : ∀ k, P k ↔ R k) : Least R h := ⟨l.1, (e h).mp l.2.1, fun k k0 hk r => l.2.2 k k0 hk ((e k).mpr r)⟩
def TurC (n : Int) (ws : List (Int × Int)) (h : Int) : Prop := ∃ W, TurR ws W ∧ Colr (.ring n) W h
def TurL (n : Int) (ws : List (Int × Int)) (m : Int) : Prop := ∃ W, TurR ws W ∧ LoadLe (.ring n) W m
theorem TurC.mono {n : Int} {ws : List (Int × Int)} {h k : Int} (c : TurC n ws h) (hk : h ≤ k) : TurC n ws k := by
  obtain ⟨W, a, b⟩ := c; exact ⟨W, a, b.mono hk⟩
theorem TurL.mono {n : Int} {ws : List (Int × Int)} {h k : Int} (c : TurL n ws h) (hk : h ≤ k) : TurL n ws k := by
  obtain ⟨W, a, b⟩ := c; exact ⟨W, a, b.mono hk⟩
theorem TurC.perm {n : Int} {ws ws' : List (Int × Int)} {h : Int} (c : TurC n ws h) (p : ws.Perm ws') : TurC n ws' h := by
  obtain ⟨W, a, b⟩ := c
  obtain ⟨T, a', p'⟩ := a.perm p
  exact ⟨T, a', b.perm p'⟩
theorem TurL.perm {n : Int} {ws ws' : List (Int × Int)} {h : Int} (c : TurL n ws h) (p : ws.Perm ws') : TurL n ws' h := by
  obtain ⟨W, a, b⟩ := c
  obtain ⟨T, a', p'⟩ := a.perm p
  exact ⟨T, a', fun t => by rw [← cnt_perm p']; exact b t⟩
theorem TurC.sub {n : Int} {ws ws' : List (Int × Int)} {h : Int} (c : TurC n ws h) (s : ws'.Sublist ws) : TurC n ws' h := by
  obtain ⟨W, a, b⟩ := c
  obtain ⟨T, a', s'⟩ := a.sub s
  exact ⟨T, a', b.sub s'⟩
theorem TurL.sub {n : Int} {ws ws' : List (Int × Int)} {h : Int} (c : TurL n ws h) (s : ws'.Sublist ws) : TurL n ws' h := by
  obtain ⟨W, a, b⟩ := c
  obtain ⟨T, a', s'⟩ := a.sub s
  exact ⟨T, a', fun t => by have := cnt_sub (N := .ring n) s' t; have := b t; omega⟩
theorem TurC.app {n : Int} {A B : List (Int × Int)} {h k : Int} (a : TurC n A h) (b : TurC n B k) (h0 : 0 ≤ h) (k0 : 0 ≤ k) : TurC n (A ++ B) (h + k) := by
  obtain ⟨S, a1, a2⟩ := a
  obtain ⟨T, b1, b2⟩ := b
  exact ⟨S ++ T, a1.app b1, a2.app b2 h0 k0⟩
theorem TurL.app {n : Int} {A B : List (Int × Int)} {h k : Int} (a : TurL n A h) (b : TurL n B k) : TurL n (A ++ B) (h + k) := by
  obtain ⟨S, a1, a2⟩ := a
  obtain ⟨T, b1, b2⟩ := b
  exact ⟨S ++ T, a1.app b1, fun t => by rw [cnt_app]; have := a2 t; have := b2 t; omega⟩
theorem TurC.load {n : Int} {ws : List (Int × Int)} (ok : (Net.ring n).ok) (hok : ∀ w ∈ ws, isWay (.ring n) w.1 w.2) {h : Int} (h0 : 0 ≤ h) (c : TurC n ws h) : TurL n ws h := by
  obtain ⟨W, a, b⟩ := c
  obtain ⟨k, rfl⟩ : ∃ k : Nat, h = k := ⟨h.toNat, by omega⟩
  exact ⟨W, a, b.load ok (a.ok hok)⟩


def pr_ties_many (K : PySem.W.Frag) (v0 : V) (H : Hp) (Q : VK) (_ : XK) : Prop := ∃ N : Net, Dp K H v0 N.d ∧ N.ok ∧ Q (.int N.ties) H
def t_ties_many (K : PySem.W.Frag) : TS :=
  (tRet (tOp xSub (tCall (sp_places_of K) [] E0 (tCons (tVar 0) tNil)) (tCB rIntOf (tCons (tOp rNe (tOp (rIxT K) (tVar 0) (tC (.int 0))) (tC (.str (Str.ofString "ring")))) tNil))))
theorem pure_ties_many {v0 : V} {H : Hp} {Q : VK} {E : XK} (h : pr_ties_many K v0 H Q E) : t_ties_many K ⟨fun _ H' => Q .non H', Q, fun _ _ => False, fun _ _ => False⟩ [some v0] H := by
  obtain ⟨N, hd, ok, q⟩ := h
  obtain ⟨a, y, rfl, hs, hy⟩ := dp_net hd
  unfold t_ties_many
  wtm_at "s"
  refine ⟨_, rfl, N, hd, ?_⟩
  wtm_at "s"
  refine k_neS ?_
  cases N with
  | line n =>
    rw [show Net.kind (.line n) = Str.ofString "line" from rfl, s_lr]
    wtm_at "s"
    have : ((Net.line n).ties : Int) = n - 1 := by have := ok.1; show ((n - 1).toNat : Int) = _; omega
    rw [this] at q
    exact q
  | ring n =>
    rw [show Net.kind (.ring n) = Str.ofString "ring" from rfl, s_same]
    wtm_at "s"
    have : ((Net.ring n).ties : Int) = n - 0 := by have := ok.1; show ((n).toNat : Int) = _; omega
    rw [this] at q
    exact q
  | tree ps =>
    rw [show Net.kind (.tree ps) = Str.ofString "tree" from rfl, s_tr]
    wtm_at "s"
    have : ((Net.tree ps).ties : Int) = (ps.length + 1 : Int) - 1 := by show (ps.length : Int) = _; omega
    rw [this] at q
    exact q
abbrev sp_ties_many (K : PySem.W.Frag) : Sp := fun vs H Q E => ∃ v0, vs = [v0] ∧ pr_ties_many K v0 H Q E
theorem ok_ties_many (T : Txt K mg A) : FnOk P w K mg base CX0 2 A.a_ties_many A.d_ties_many ["net"] (sp_ties_many K) := by
  refine T.F_ties_many.ok sc_ties_many (fun vs H Q E h => by obtain ⟨v0, rfl, _⟩ := h; rfl) (fun cdv A0 outer s H vs Q E hr h => ?_)
  obtain ⟨v0, rfl, h⟩ := h
  exact ⟨t_ties_many K, (pss_one (ps_ret (pe_op op_sub (pe_call (ok_places_of T) (hr.mono (by decide)) (by rfl) T.g_places_of T.F_places_of.kp T.b_places_of .nil pass0 (pa_cons (pv 0) pa_nil)) (pe_callTy q_intB (by rfl) T.z_int (by decide +kernel) (pa_cons (pe_cmpR op_ne (pe_ix ix_tup (pv 0) pe_int (fun _ _ => rfl)) pe_str (nomark _)) pa_nil))))), pure_ties_many h⟩
def pr_counted (K : PySem.W.Frag) (v0 v1 : V) (H : Hp) (Q : VK) (_ : XK) : Prop := ∃ (N : Net) (ws : List (Int × Int)), Dp K H v0 N.d ∧ N.ok ∧ Dp K H v1 (dPairs ws) ∧ ws.length ≤ 10000 ∧ (∀ w ∈ ws, isWay N w.1 w.2) ∧
  ∀ p H', H p = none → Same H H' → H' p = some (.lst (List.map V.int (loadsOf N ws))) → Q (.ref p) H'
def t_counted (K : PySem.W.Frag) : TS :=
  (tSeq (tAsg (tOp rRep (tLst (tCons (tC (.int 0)) tNil)) (tCall (sp_ties_many K) [] E0 (tCons (tVar 0) tNil))) (gName 2))
    (tSeq (tFor (iList K (tVar 1)) (gName 3)
      (tFor (iList K (tCall (sp_ties_on K) [] E0 (tCons (tVar 0) (tCons (tVar 3) tNil)))) (gName 4)
      (xAugL K (tVar 2) (tVar 4) (tC (.int 1)))))
    (tRet (tVar 2))))
def fl (n : Nat) (f : Nat → Int) : List Int := (List.range n).map f
theorem fl_len (n : Nat) (f : Nat → Int) : (fl n f).length = n := by unfold fl; simp
theorem fl_get {n : Nat} {f : Nat → Int} {i : Nat} (h : i < n) : (fl n f).getD i 0 = f i := by
  unfold fl
  rw [List.getD_eq_getElem?_getD, List.getElem?_map, List.getElem?_range h]; rfl
theorem fl_set {n : Nat} {f : Nat → Int} {i : Nat} {v : Int} : (fl n f).set i v = fl n fun s => if s = i then v else f s := by
  unfold fl
  apply List.ext_getElem
  · simp
  · intro j h1 h2
    rw [List.getElem_set]
    simp only [List.getElem_map, List.getElem_range]
    by_cases c : i = j
    · rw [if_pos c, if_pos c.symm]
    · rw [if_neg c, if_neg fun e => c e.symm]
theorem fl_congr {n : Nat} {f g : Nat → Int} (h : ∀ i, i < n → f i = g i) : fl n f = fl n g := by
  unfold fl
  exact List.map_congr_left fun i hi => h i (List.mem_range.mp hi)
theorem pure_counted {v0 v1 : V} {H : Hp} {Q : VK} {E : XK} (h : pr_counted K v0 v1 H Q E) : t_counted K ⟨fun _ H' => Q .non H', Q, fun _ _ => False, fun _ _ => False⟩ [some v0, some v1, none, none, none] H := by
  obtain ⟨N, ws, hd, ok, hw, hz, hok, q⟩ := h
  obtain ⟨b, xs, rfl, hb, hxs⟩ := dp_list hw
  have hl := dpa_len hxs
  rw [List.length_map] at hl
  obtain ⟨t0, t1⟩ := ties_le ok
  unfold t_counted
  wtm_at "s"
  refine ⟨sz (by simp), fun z0 nz0 => ?_⟩
  have s1 := same_new (o := .lst [.int 0]) nz0
  have e1 := upd_same (H := H) (a := z0) (o := .lst [.int 0])
  generalize upd H z0 (.lst [.int 0]) = H1 at s1 e1 ⊢
  wtm_at "s"
  refine ⟨_, rfl, N, dp_same s1 hd, ok, ?_⟩
  refine k_rep e1 (by omega) (by omega) (by simp; omega) (fun fo nfo => ?_)
  have s2 := same_new (o := .lst (List.replicate (N.ties : Int).toNat [V.int 0]).flatten) nfo
  have e2 : upd H1 fo (.lst (List.replicate (N.ties : Int).toNat [V.int 0]).flatten) fo = some (.lst (List.map V.int (fl N.ties fun t => (cnt N (ws.take 0) (t : Nat) : Int)))) := by
    rw [upd_same]
    have : ∀ n : Nat, (List.replicate n [V.int 0]).flatten = List.map V.int (fl n fun t => (cnt N (ws.take 0) (t : Nat) : Int)) := fun n => by
      unfold fl
      rw [List.map_map]
      apply List.ext_getElem
      · simp
      · intro i h1 h2
        simp [cnt]
    rw [Int.toNat_natCast, this]
  generalize upd H1 fo (.lst (List.replicate (N.ties : Int).toNat [V.int 0]).flatten) = H2 at s2 e2 ⊢
  have nfo0 : H fo = none := s1.free nfo
  have s02 := s1.trans s2
  wtm_at "s"
  refine forL (s02.seq hb) (fun i σ' H' => Same H H' ∧ H' fo = some (.lst (List.map V.int (fl N.ties fun t => (cnt N (ws.take i) (t : Nat) : Int)))) ∧ ∃ k3 k4, σ' = [some v0, some (.ref b), some (.ref fo), k3, k4]) ⟨s02, e2, none, none, rfl⟩ (fun i σ' H' _ e => e.1.seq hb) ?_ ?_
  · rintro i x σ' H' hx ⟨sm, hf, k3, k4, rfl⟩
    obtain ⟨d, hd1, hd2⟩ := dpa_get hxs hx
    rw [List.getElem?_map] at hd1
    obtain ⟨w, hw1, rfl⟩ := Option.map_eq_some_iff.mp hd1
    have wok := hok w (List.mem_of_getElem? hw1)
    have ct := cnt_take (N := N) hw1
    wtm_at "s"
    refine ⟨_, _, rfl, N, w.1, w.2, dp_same sm hd, dp_same sm hd2, ok, wok, fun tl ns H3 ntl s3 htl tt => ?_⟩
    have ntf : tl ≠ fo := fun e => by rw [e, hf] at ntl; cases ntl
    have inr : ∀ t ∈ ns, 0 ≤ t ∧ t < N.ties := fun t ht => on_range ok wok ((tt.mem t).mp ht)
    refine forL (sl htl) (fun j σ' H' => Same H H' ∧ H' tl = some (.lst (List.map V.int ns)) ∧ H' fo = some (.lst (List.map V.int (fl N.ties fun t => (cnt N (ws.take i) (t : Nat) : Int) + if (t : Int) ∈ ns.take j then 1 else 0))) ∧ ∃ k4, σ' = [some v0, some (.ref b), some (.ref fo), some x, k4])
      ⟨sm.trans s3, htl, by rw [s3 _ _ hf]; simp, k4, rfl⟩ (fun i σ' H' _ e => sl e.2.1) ?_ ?_
    · rintro j y σ' H4 hy ⟨s4, htl4, hf4, k4, rfl⟩
      rw [List.getElem?_map] at hy
      obtain ⟨t, ht, rfl⟩ := Option.map_eq_some_iff.mp hy
      obtain ⟨r0, r1⟩ := inr t (List.mem_of_getElem? ht)
      wtm_at "s"
      refine k_getI (sl hf4) r0 (by rw [fl_len]; exact r1) ?_
      wtm_at "s"
      refine k_setI hf4 r0 (by rw [fl_len]; exact r1) ?_
      rw [fl_get (by omega), fl_set]
      refine ⟨same_mut s4 nfo0, by rw [upd_ne ntf]; exact htl4, ?_, _, rfl⟩
      rw [upd_same]
      congr 3
      refine fl_congr fun s hs => ?_
      have nin : t ∉ ns.take j := fun z => by
        obtain ⟨m, hm, e⟩ := List.mem_take_iff_getElem.mp z
        have lt := List.pairwise_iff_getElem.mp tt.srt m j (by omega) (List.getElem?_eq_some_iff.mp ht).1 (by omega)
        rw [e, (List.getElem?_eq_some_iff.mp ht).2] at lt
        omega
      rw [List.take_add_one, ht]
      by_cases c : s = t.toNat
      · subst c
        have e : ((t.toNat : Nat) : Int) = t := by omega
        rw [if_pos rfl, e, if_neg nin, if_pos (by simp)]
        omega
      · have c' : ¬ (s : Int) = t := fun e => c (by omega)
        rw [if_neg c]
        congr 1
        simp [c']
    · rintro σ' H4 ⟨s4, htl4, hf4, k4, rfl⟩
      refine ⟨s4, ?_, _, _, rfl⟩
      rw [hf4]
      congr 3
      refine fl_congr fun s hs => ?_
      rw [ct, List.length_map, List.take_length]
      by_cases c : OnTie N w.1 w.2 s
      · rw [if_pos c, if_pos ((tt.mem _).mpr c)]; omega
      · rw [if_neg c, if_neg fun z => c ((tt.mem _).mp z)]; omega
  · rintro σ' H' ⟨sm, hf, k3, k4, rfl⟩
    rw [hl, List.take_length] at hf
    wtm_at "s"
    exact q fo H' nfo0 sm hf
abbrev sp_counted (K : PySem.W.Frag) : Sp := fun vs H Q E => ∃ v0 v1, vs = [v0, v1] ∧ pr_counted K v0 v1 H Q E
theorem ok_counted (T : Txt K mg A) : FnOk P w K mg base CX0 3 A.a_counted A.d_counted ["net", "ways"] (sp_counted K) := by
  refine T.F_counted.ok sc_counted (fun vs H Q E h => by obtain ⟨v0, v1, rfl, _⟩ := h; rfl) (fun cdv A0 outer s H vs Q E hr h => ?_)
  obtain ⟨v0, v1, rfl, h⟩ := h
  exact ⟨t_counted K, (pss_cons (ps_set (i := 2) sc_counted.nd rfl (Or.inl rfl) (pe_op op_rep (pe_lst (pa_cons pe_int pa_nil)) (pe_call (ok_ties_many T) (hr.mono (by decide)) (by rfl) T.g_ties_many T.F_ties_many.kp T.b_ties_many .nil pass0 (pa_cons (pv 0) pa_nil))))
      (pss_cons (ps_for PassesOwn.never rfl (pi_list (pv 1)) (pg_name (i := 3) sc_counted.nd rfl (Or.inl rfl))
      (pss_one (ps_for PassesOwn.never rfl (pi_list (pe_call (ok_ties_on T) (hr.mono (by decide)) (by rfl) T.g_ties_on T.F_ties_on.kp T.b_ties_on .nil pass0 (pa_cons (pv 0) (pa_cons (pv 3) pa_nil)))) (pg_name (i := 4) sc_counted.nd rfl (Or.inl rfl))
      (pss_one (q_augL (pv 2) (pv 4) pe_int)))))
      (pss_one (ps_ret (pv 2))))), pure_counted h⟩
def pr_loads (K : PySem.W.Frag) (v0 v1 : V) (H : Hp) (Q : VK) (_ : XK) : Prop := ∃ (N : Net) (ws : List (Int × Int)), Dp K H v0 N.d ∧ N.ok ∧ Dp K H v1 (dPairs ws) ∧ ws.length ≤ 10000 ∧ (∀ w ∈ ws, isWay N w.1 w.2) ∧
  ∀ p H', H p = none → Same H H' → H' p = some (.lst (List.map V.int (loadsOf N ws))) → Q (.ref p) H'
def t_loads (K : PySem.W.Frag) : TS :=
  (tSeq (tDrop (tCall (sp_look_ways K) [] E0 (tCons (tVar 0) (tCons (tVar 1) tNil))))
    (tRet (tCall (sp_counted K) [] E0 (tCons (tVar 0) (tCons (tVar 1) tNil)))))
theorem pure_loads {v0 v1 : V} {H : Hp} {Q : VK} {E : XK} (h : pr_loads K v0 v1 H Q E) : t_loads K ⟨fun _ H' => Q .non H', Q, fun _ _ => False, fun _ _ => False⟩ [some v0, some v1] H := by
  obtain ⟨N, ws, hd, ok, hw, hz, hok, q⟩ := h
  unfold t_loads
  wtm_at "s"
  refine ⟨_, _, rfl, N, ws, hd, ok, hw, hz, hok, ?_⟩
  wtm_at "s"
  exact ⟨_, _, rfl, N, ws, hd, ok, hw, hz, hok, q⟩
abbrev sp_loads (K : PySem.W.Frag) : Sp := fun vs H Q E => ∃ v0 v1, vs = [v0, v1] ∧ pr_loads K v0 v1 H Q E
theorem ok_loads (T : Txt K mg A) : FnOk P w K mg base CX0 5 A.a_loads A.d_loads ["net", "ways"] (sp_loads K) := by
  refine T.F_loads.ok sc_loads (fun vs H Q E h => by obtain ⟨v0, v1, rfl, _⟩ := h; rfl) (fun cdv A0 outer s H vs Q E hr h => ?_)
  obtain ⟨v0, v1, rfl, h⟩ := h
  exact ⟨t_loads K, (pss_cons (ps_expr (pe_call (ok_look_ways T) (hr.mono (by decide)) (by rfl) T.g_look_ways T.F_look_ways.kp T.b_look_ways .nil pass0 (pa_cons (pv 0) (pa_cons (pv 1) pa_nil))))
      (pss_one (ps_ret (pe_call (ok_counted T) (hr.mono (by decide)) (by rfl) T.g_counted T.F_counted.kp T.b_counted .nil pass0 (pa_cons (pv 0) (pa_cons (pv 1) pa_nil)))))), pure_loads h⟩
theorem loads_len (N : Net) (ws : List (Int × Int)) : (loadsOf N ws).length = N.ties := by unfold loadsOf; simp
def pr_load (K : PySem.W.Frag) (v0 v1 : V) (H : Hp) (Q : VK) (_ : XK) : Prop := ∃ (N : Net) (ws : List (Int × Int)), Dp K H v0 N.d ∧ N.ok ∧ Dp K H v1 (dPairs ws) ∧ ws.length ≤ 10000 ∧ (∀ w ∈ ws, isWay N w.1 w.2) ∧
  ∀ m H', Same H H' → m ∈ loadsOf N ws → (∀ y ∈ loadsOf N ws, y ≤ m) → Q (.int m) H'
def t_load (K : PySem.W.Frag) : TS :=
  (tRet (tCB (rMax K) (tCons (tCall (sp_loads K) [] E0 (tCons (tVar 0) (tCons (tVar 1) tNil))) tNil)))
theorem pure_load {v0 v1 : V} {H : Hp} {Q : VK} {E : XK} (h : pr_load K v0 v1 H Q E) : t_load K ⟨fun _ H' => Q .non H', Q, fun _ _ => False, fun _ _ => False⟩ [some v0, some v1] H := by
  obtain ⟨N, ws, hd, ok, hw, hz, hok, q⟩ := h
  unfold t_load
  wtm_at "s"
  refine ⟨_, _, rfl, N, ws, hd, ok, hw, hz, hok, fun p H1 np s1 hp => ?_⟩
  wtm_at "s"
  refine k_max (sl hp) (by rw [loads_len]; have := (ties_le ok).2; omega) (fun m h1 h2 => ?_)
  exact q m H1 s1 h1 h2
abbrev sp_load (K : PySem.W.Frag) : Sp := fun vs H Q E => ∃ v0 v1, vs = [v0, v1] ∧ pr_load K v0 v1 H Q E
theorem ok_load (T : Txt K mg A) : FnOk P w K mg base CX0 6 A.a_load A.d_load ["net", "ways"] (sp_load K) := by
  refine T.F_load.ok sc_load (fun vs H Q E h => by obtain ⟨v0, v1, rfl, _⟩ := h; rfl) (fun cdv A0 outer s H vs Q E hr h => ?_)
  obtain ⟨v0, v1, rfl, h⟩ := h
  exact ⟨t_load K, (pss_one (ps_ret (pe_callB (cr_max (by rfl)) (by rfl) T.z_max (by decide +kernel) (pa_cons (pe_call (ok_loads T) (hr.mono (by decide)) (by rfl) T.g_loads T.F_loads.kp T.b_loads .nil pass0 (pa_cons (pv 0) (pa_cons (pv 1) pa_nil))) pa_nil)))), pure_load h⟩


theorem meet_fmC (xs ys : List Int) : 0 < (xs.filterMap fun t => if t ∈ ys then some (V.int t) else none).length ↔ ∃ t, t ∈ xs ∧ t ∈ ys := by
  rw [List.length_pos_iff_exists_mem]
  constructor
  · rintro ⟨v, hv⟩
    obtain ⟨t, h1, h2⟩ := List.mem_filterMap.mp hv
    by_cases c : t ∈ ys
    · exact ⟨t, h1, c⟩
    · rw [if_neg c] at h2; cases h2
  · rintro ⟨t, h1, h2⟩
    exact ⟨.int t, List.mem_filterMap.mpr ⟨t, h1, by rw [if_pos h2]⟩⟩
def pr_have_common (K : PySem.W.Frag) (v0 v1 : V) (H : Hp) (Q : VK) (_ : XK) : Prop := ∃ (a b : Addr) (xs ys : List Int), v0 = .ref a ∧ v1 = .ref b ∧ SqL K H a (xs.map V.int) ∧ SqL K H b (ys.map V.int) ∧ xs.length ≤ 1000 ∧ ∀ H', Same H H' → Q (.bl (commonB xs ys)) H'
def t_have_common (K : PySem.W.Frag) : TS :=
  (tRet (tOp xGt (tCB (rLenX K) (tCons (tLc (iList K (tVar 0)) (gName 2) (tTest (tOp (rIn K false) (tVar 2) (tVar 1))) (tVar 2) [2]) tNil)) (tC (.int 0))))
theorem pure_have_common {v0 v1 : V} {H : Hp} {Q : VK} {E : XK} (h : pr_have_common K v0 v1 H Q E) : t_have_common K ⟨fun _ H' => Q .non H', Q, fun _ _ => False, fun _ _ => False⟩ [some v0, some v1, none] H := by
  obtain ⟨a, b, xs, ys, rfl, rfl, ha, hb, hz, q⟩ := h
  unfold t_have_common
  wtm_at "s"
  refine lc_pure ha xs (by simp) (by omega) (fun t => if t ∈ ys then some (V.int t) else none) ?_ (fun D H1 nD s1 eD => ?_)
  · intro k z p H' hz hp sm R R0 h1 h2
    rw [List.getElem?_map, hp] at hz
    cases hz
    have hb' := sm.seq hb
    wtm_at "s"
    refine k_it (fun w => ?_) (fun w => ?_)
    · wtm_at "s"
      exact h1 _ (by rw [if_pos w])
    · exact h2 (by rw [if_neg w])
  · wtm_at "s"
    have e : decide ((0 : Int) < ((xs.filterMap fun t => if t ∈ ys then some (V.int t) else none).length : Nat)) = commonB xs ys := by
      cases hc : commonB xs ys with
      | true => exact decide_eq_true (by have := (meet_fmC xs ys).mpr (common_iff.mp hc); omega)
      | false => exact decide_eq_false fun z => by
                   have := common_iff.mpr ((meet_fmC xs ys).mp (by omega))
                   rw [hc] at this; cases this
    rw [e]
    exact q H1 s1
abbrev sp_have_common (K : PySem.W.Frag) : Sp := fun vs H Q E => ∃ v0 v1, vs = [v0, v1] ∧ pr_have_common K v0 v1 H Q E
theorem ok_have_common (T : Txt K mg A) : FnOk P w K mg base CX0 1 A.a_have_common A.d_have_common ["one", "other"] (sp_have_common K) := by
  refine T.F_have_common.ok sc_have_common (fun vs H Q E h => by obtain ⟨v0, v1, rfl, _⟩ := h; rfl) (fun cdv A0 outer s H vs Q E hr h => ?_)
  obtain ⟨v0, v1, rfl, h⟩ := h
  exact ⟨t_have_common K, (pss_one (ps_ret (pe_cmpR op_gt (pe_callB q_len (by rfl) T.z_len (by decide +kernel) (pa_cons (pe_lc (own := [("thing", 2)]) (by rfl) sc_have_common.nd (pi_list (pv 0)) (blkOk_by (own := [("thing", 2)]) (N := ["one", "other", "thing"]) (sc := defScope s_have_common) (by decide +kernel)) (fun _ _ _ _ _ => (pg_name (i := 2) sc_have_common.nd rfl (Or.inl rfl))) (fun _ _ _ _ _ => (pts_one (pt_cmpR op_in_seq (pv 2) (pv 1) (by rfl)))) (fun _ _ _ _ _ => (pv 2))) pa_nil)) pe_int (nomark _)))), pure_have_common h⟩


def pr_meetings (K : PySem.W.Frag) (v0 v1 : V) (H : Hp) (Q : VK) (_ : XK) : Prop := ∃ (N : Net) (ws : List (Int × Int)) (S : List Addr), Dp K H v0 N.d ∧ N.ok ∧ Dp K H v1 (dPairs ws) ∧ ws.length ≤ 100 ∧ (∀ w ∈ ws, isWay N w.1 w.2) ∧ (∀ x ∈ S, H x ≠ none) ∧
  ∀ p H', H p = none → Same H H' → Dp K (hid S H') (.ref p) (.list ((meetF N ws).map dInts)) → Q (.ref p) H'
def t_meetings (K : PySem.W.Frag) : TS :=
  (tSeq (tAsg (tLc (iList K (tVar 1)) (gName 5) tYes (tCall (sp_ties_on K) [] E0 (tCons (tVar 0) (tCons (tVar 5) tNil))) [5]) (gName 2))
    (tSeq (tAsg (tLst tNil) (gName 3))
    (tSeq (tFor (iRng1 (tCons (tCB (rLenX K) (tCons (tVar 1) tNil)) tNil)) (gName 4)
      (tDrop (tBM K "list" rAppend (tVar 3) (tCons (tLc (iRng1 (tCons (tCB (rLenX K) (tCons (tVar 1) tNil)) tNil)) (gName 6) (tAnd (tTest (tOp rNe (tVar 6) (tVar 4))) (tB (tCall (sp_have_common K) [] E0 (tCons (tOp (rIxL K) (tVar 2) (tVar 4)) (tCons (tOp (rIxL K) (tVar 2) (tVar 6)) tNil))))) (tVar 6) [6]) tNil))))
    (tRet (tVar 3)))))
theorem pure_meetings {v0 v1 : V} {H : Hp} {Q : VK} {E : XK} (hh : pr_meetings K v0 v1 H Q E) : t_meetings K ⟨fun _ H' => Q .non H', Q, fun _ _ => False, fun _ _ => False⟩ [some v0, some v1, none, none, none, none, none] H := by
  obtain ⟨N, ws, S, d0, ok, d1, hz, hok, hS, q⟩ := hh
  obtain ⟨b, ys, rfl, hb, dys⟩ := dp_list d1
  have ly : ys.length = ws.length := by rw [dpa_len dys, List.length_map]
  have tl60 := (ties_le ok).1
  have fS : ∀ {H1 : Hp} {p : Addr}, Same H H1 → H1 p = none → p ∉ S := fun s np z => hS _ z (s.free np)
  unfold t_meetings
  wtm_at "s"
  refine lc_dp [] (fun x hx => by cases hx) hb ws ly (by omega) (fun w => dInts (tiesF N w)) ?_ (fun tl zs H1 ntl s1 e1 dz => ?_) (fun x σ' H q q' h hh => h _ _ hh)
  · intro i x w H' hx hw sm R g
    obtain ⟨w', c, hw', rfl, hc⟩ := dpairs_get dys hx
    rw [hw] at hw'
    cases hw'
    have wok := hok w (List.mem_of_getElem? hw)
    wtm_at "s"
    refine ⟨_, _, rfl, N, w.1, w.2, dp_same sm d0, dp_of_pair (same_seqT sm hc), ok, wok, fun p ns H2 np s2 e2 tt => ?_⟩
    refine g _ H2 s2 (fun S' hS' => ?_)
    rw [tiesF_of ok wok tt.srt tt.mem] at e2
    exact dp_of_ints (sl (by rw [hid_ne (fun z => hS' p z np)]; exact e2))
  replace dz := dpa_same (hid_same _ _) dz
  have lz : zs.length = ws.length := by rw [dpa_len dz, List.length_map]
  have row : ∀ (k : Nat), k < ws.length → ∃ c, zs[k]? = some (.ref c) ∧ SqL K H1 c ((tiesF N (ws.getD k (0, 0))).map V.int) := fun k hk => by
    obtain ⟨v, hv, dv⟩ := dpa_get2 dz (i := k) (d := dInts (tiesF N (ws.getD k (0, 0)))) (by rw [List.getElem?_map, List.getElem?_eq_getElem hk, List.getD_eq_getElem?_getD, List.getElem?_eq_getElem hk]; rfl)
    obtain ⟨c, rfl, hc⟩ := dp_ints dv
    exact ⟨c, hv, hc⟩
  wtm_at "s"
  refine kL (by simp) (fun fo H2 nfo s2 e2 => ?_)
  have nf0 : H fo = none := s1.free nfo
  wtm_at "s"
  rw [ly, Int.toNat_natCast]
  refine forR (fun i σ' H' => Same H1 H' ∧ ∃ rs k4 k5 k6, σ' = [some v0, some (.ref b), some (.ref tl), some (.ref fo), k4, k5, k6] ∧ H' fo = some (.lst rs) ∧ rs.length = i ∧ DpAll K (hid (fo :: S) H') rs (((List.range i).map (meetRow N ws)).map dInts)) ⟨s2, [], _, _, _, rfl, e2, rfl, .nil⟩ ?_ ?_
  · rintro i σ' H3 hi ⟨s3, rs, k4, k5, k6, rfl, e3, lr, dr⟩
    have s03 := s1.trans s3
    have hb3 := s03.seq hb
    wtm_at "s"
    refine k_tyL (sl e3) ?_
    wtm_at "s"
    rw [ly, Int.toNat_natCast]
    refine lc_growR (by omega) (fun k => if (decide (k ≠ i) && meetB N (ws.getD i (0, 0)) (ws.getD k (0, 0))) = true then some (.int (0 + (k : Nat))) else none) ?_ (fun D H4 nD s4 eD => ?_)
    · intro k H' hk sm R R0 g1 g2
      obtain ⟨c1, hc1, hs1⟩ := row i hi
      obtain ⟨c2, hc2, hs2⟩ := row k hk
      have s1' := s3.trans sm
      have etl := s1' _ _ e1
      wtm_at "s"
      refine k_itn (fun c => ?_) (fun c => ?_)
      · have ck : k ≠ i := fun z => c (by rw [z])
        wtm_at "s"
        refine k_ixL (sl etl) (atI_nat' hc1) ?_
        wtm_at "s"
        refine k_ixL (sl etl) (atI_nat' hc2) ?_
        wtm_at "s"
        refine ⟨_, _, rfl, c1, c2, _, _, rfl, rfl, s1'.seq hs1, s1'.seq hs2, by have := tiesF_len N (ws.getD i (0, 0)); omega, fun H5 s5 => ?_⟩
        have em : commonB (tiesF N (ws.getD i (0, 0))) (tiesF N (ws.getD k (0, 0))) = meetB N (ws.getD i (0, 0)) (ws.getD k (0, 0)) := rfl
        rw [em]
        cases hm : meetB N (ws.getD i (0, 0)) (ws.getD k (0, 0)) with
        | true =>
          wtm_at "s"
          exact g1 _ H5 (by rw [hm, decide_eq_true ck]; rfl) s5
        | false =>
          wtm_at "s"
          exact g2 H5 (by rw [hm, decide_eq_true ck]; rfl) s5
      · have ck : k = i := by omega
        wtm_at "s"
        exact g2 H' (by rw [decide_eq_false (fun z => z ck)]; rfl) (Same.refl _)
    · rw [keepI_fm] at eD
      have eD' : H4 D = some (.lst ((meetRow N ws i).map V.int)) := eD
      have Dfo : D ≠ fo := fun z => by rw [z, e3] at nD; cases nD
      have DS : D ∉ fo :: S := fun z => by
        rcases List.mem_cons.mp z with z | z
        · exact Dfo z
        · exact fS s03 nD z
      wtm_at "s"
      refine k_append (s4 _ _ e3) (by omega) ?_
      refine ⟨same_mut (s3.trans s4) nfo, rs ++ [.ref D], _, _, _, rfl, upd_same, by simp [lr], ?_⟩
      rw [hid_upd (by simp), List.range_succ, List.map_append, List.map_append]
      exact dpa_app (dpa_same (hid_mono s4) dr) (.cons (dp_of_ints (sl (by rw [hid_ne DS]; exact eD'))) .nil)
  · rintro σ' H3 ⟨s3, rs, k4, k5, k6, rfl, e3, lr, dr⟩
    wtm_at "s"
    refine q fo H3 nf0 (s1.trans s3) (.lst (sl ?_) (dpa_same (hid_sub fun x hx => List.mem_cons_of_mem _ hx) dr))
    rw [hid_ne (fS (Same.refl _) nf0)]; exact e3
abbrev sp_meetings (K : PySem.W.Frag) : Sp := fun vs H Q E => ∃ v0 v1, vs = [v0, v1] ∧ pr_meetings K v0 v1 H Q E
theorem ok_meetings (T : Txt K mg A) : FnOk P w K mg base CX0 2 A.a_meetings A.d_meetings ["net", "ways"] (sp_meetings K) := by
  refine T.F_meetings.ok sc_meetings (fun vs H Q E h => by obtain ⟨v0, v1, rfl, _⟩ := h; rfl) (fun cdv A0 outer s H vs Q E hr h => ?_)
  obtain ⟨v0, v1, rfl, h⟩ := h
  exact ⟨t_meetings K, (pss_cons (ps_set (i := 2) sc_meetings.nd rfl (Or.inr rfl) (pe_lc (own := [("way", 5)]) (by rfl) sc_meetings.nd (pi_list (pv 1)) (blkOk_by (own := [("way", 5)]) (N := ["net", "ways", "ties", "found", "one", "way", "k"]) (sc := defScope s_meetings) (by decide +kernel)) (fun _ _ _ _ _ => (pg_name (i := 5) sc_meetings.nd rfl (Or.inl rfl))) (fun _ _ _ _ _ => pts_nil) (fun _ _ _ _ _ => (pe_call (ok_ties_on T) (hr.mono (by decide)) (by rfl) T.g_ties_on T.F_ties_on.kp T.b_ties_on .nil pass0 (pa_cons (pv 0) (pa_cons (pv 5) pa_nil))))))
      (pss_cons (ps_set (i := 3) sc_meetings.nd rfl (Or.inl rfl) (pe_lst pa_nil))
      (pss_cons (ps_for PassesOwn.never rfl (pi_range1 (by rfl) T.z_range (pa_cons (pe_callB q_len (by rfl) T.z_len (by decide +kernel) (pa_cons (pv 1) pa_nil)) pa_nil)) (pg_name (i := 4) sc_meetings.nd rfl (Or.inr rfl))
      (pss_one (ps_expr (pe_bm PySem.F.plainAttrs_list PySem.F.slot_list_append PySem.F.type_list_append mt_append (pv 3) (pa_cons (pe_lc (own := [("k", 6)]) (by rfl) sc_meetings.nd (pi_range1 (by rfl) T.z_range (pa_cons (pe_callB q_len (by rfl) T.z_len (by decide +kernel) (pa_cons (pv 1) pa_nil)) pa_nil)) (blkOk_by (own := [("k", 6)]) (N := ["net", "ways", "ties", "found", "one", "way", "k"]) (sc := defScope s_meetings) (by decide +kernel)) (fun _ _ _ _ _ => (pg_name (i := 6) sc_meetings.nd rfl (Or.inl rfl))) (fun _ _ _ _ _ => (pts_one (PW.pt (pw_and (pt_cmpR op_ne (pv 6) (pv 4) (nomark _)) (pw_and1 (pt_val (pe_call (ok_have_common T) (hr.mono (by decide)) (by rfl) T.g_have_common T.F_have_common.kp T.b_have_common .nil pass0 (pa_cons (pe_ix ix_list (pv 2) (pv 4) (fun _ _ => rfl)) (pa_cons (pe_ix ix_list (pv 2) (pv 6) (fun _ _ => rfl)) pa_nil))))))))) (fun _ _ _ _ _ => (pv 6))) pa_nil)))))
      (pss_one (ps_ret (pv 3)))))), pure_meetings h⟩


theorem dp_row {K : PySem.W.Frag} {H : Hp} {a : Addr} {xs : List V} {M : List (List Int)} (hs : SqL K H a xs) (dx : DpAll K H xs (M.map dInts)) {k : Nat} (hk : k < M.length) : ∃ c, xs[k]? = some (.ref c) ∧ SqL K H c ((M.getD k []).map V.int) := by
  obtain ⟨v, hv, dv⟩ := dpa_get2 dx (i := k) (d := dInts M[k]) (by rw [List.getElem?_map, List.getElem?_eq_getElem hk]; rfl)
  obtain ⟨c, rfl, hc⟩ := dp_ints dv
  exact ⟨c, hv, by rw [List.getD_eq_getElem?_getD, List.getElem?_eq_getElem hk]; exact hc⟩
/-- no key twice -/
def Uni (gs : List (Int × Int)) : Prop := (gs.map (·.1)).Nodup
theorem look_key {gs : List (Int × Int)} {k : Int} (h : lookS gs k = none) : k ∉ gs.map (·.1) := by
  intro z
  obtain ⟨p, hp, rfl⟩ := List.mem_map.mp z
  unfold lookS at h
  cases c : gs.find? (fun q => decide (q.1 = p.1)) with
  | some q => rw [c] at h; cases h
  | none => exact absurd (decide_eq_true (show p.1 = p.1 from rfl)) (List.find?_eq_none.mp c p hp)
theorem Uni.add {gs : List (Int × Int)} {k u : Int} (h : Uni gs) (hk : lookS gs k = none) : Uni (gs ++ [(k, u)]) := by
  unfold Uni
  rw [List.map_append, List.nodup_append]
  refine ⟨h, by simp, fun a ha b hb e => ?_⟩
  have : b = k := by simpa using hb
  rw [e, this] at ha
  exact look_key hk ha
theorem Uni.nil : Uni [] := List.nodup_nil
theorem Uni.look : ∀ {gs : List (Int × Int)}, Uni gs → ∀ p ∈ gs, lookS gs p.1 = some p.2
  | [], _, p, h => by cases h
  | a :: r, h, p, hp => by
    have h' : a.1 ∉ r.map (·.1) ∧ (r.map (·.1)).Nodup := List.nodup_cons.mp h
    unfold lookS
    rw [List.find?_cons]
    rcases List.mem_cons.mp hp with rfl | hp
    · simp
    · have ne : a.1 ≠ p.1 := fun z => h'.1 (by rw [z]; exact List.mem_map_of_mem hp)
      rw [decide_eq_false ne]
      exact Uni.look h'.2 p hp
theorem Uni.vals {gs : List (Int × Int)} (h : Uni gs) : ∀ kv ∈ dS gs, valV (dS gs) kv.1 = some kv.2 := fun kv hkv => by
  unfold dS at hkv
  obtain ⟨p, hp, rfl⟩ := List.mem_map.mp hkv
  rw [dS_val, h.look p hp]; rfl
theorem dS_snd (gs : List (Int × Int)) : (dS gs).map (·.2) = (gs.map (·.2)).map V.int := by
  unfold dS
  rw [List.map_map, List.map_map]; rfl
def pr_options (K : PySem.W.Frag) (v0 v1 : V) (H : Hp) (Q : VK) (_ : XK) : Prop := ∃ (h : Int) (a : Addr) (gs : List (Int × Int)), v0 = .int h ∧ -1000 ≤ h ∧ h ≤ 100000 ∧ v1 = .ref a ∧ H a = some (.dK (dS gs)) ∧ Uni gs ∧ gs.length ≤ 1000 ∧ ∀ p H', H p = none → Same H H' → H' p = some (.lst ((List.range (optN h gs)).map fun i : Nat => V.int (i : Int))) → Q (.ref p) H'
def t_options (K : PySem.W.Frag) : TS :=
  (tRet (tLstRg (tRg1 (tOp xAdd (tCB rMin2 (tCons (tOp xSub (tVar 0) (tC (.int 1))) (tCons (tLenU K (tLockE (tLc (iKeys (tVar 1)) (gName 2) tYes (tDGet (tVar 1) (tVar 2)) [2]))) tNil))) (tC (.int 1))))))
theorem pure_options {v0 v1 : V} {H : Hp} {Q : VK} {E : XK} (hh : pr_options K v0 v1 H Q E) : t_options K ⟨fun _ H' => Q .non H', Q, fun _ _ => False, fun _ _ => False⟩ [some v0, some v1, none] H := by
  obtain ⟨h, a, gs, rfl, h0, h1, rfl, ha, un, hl, q⟩ := hh
  unfold t_options
  wtm_at "s"
  refine lc_vals ha ⟨rfl, rfl⟩ (fun _ => rfl) (fun _ => rfl) (fun _ => rfl) (by unfold dS; simp; omega) un.vals (fun D H1 nD s1 eD => ?_)
  rw [dS_snd] at eD
  refine ⟨D, _, rfl, sl eD, by simp; omega, ?_⟩
  wtm_at "s"
  have hu := unl_le (gs.map (·.2))
  rw [List.length_map] at hu
  have e : (if ((unl (gs.map (·.2)) : Nat) : Int) < h - 1 then ((unl (gs.map (·.2)) : Nat) : Int) else h - 1) = min (h - 1) ((unl (gs.map (·.2)) : Nat) : Int) := by split <;> omega
  rw [e]
  refine kR (by unfold RgOk; omega) (fun p H2 np s2 e2 => ?_)
  refine q p H2 (s1.free np) (s1.trans s2) ?_
  rw [e2]
  unfold rgV optN
  rw [Int.sub_zero]
  simp only [Int.zero_add]
abbrev sp_options (K : PySem.W.Frag) : Sp := fun vs H Q E => ∃ v0 v1, vs = [v0, v1] ∧ pr_options K v0 v1 H Q E
theorem ok_options (T : Txt K mg A) : FnOk P w K mg base CX0 1 A.a_options A.d_options ["h", "given"] (sp_options K) := by
  refine T.F_options.ok sc_options (fun vs H Q E h => by obtain ⟨v0, v1, rfl, _⟩ := h; rfl) (fun cdv A0 outer s H vs Q E hr h => ?_)
  obtain ⟨v0, v1, rfl, h⟩ := h
  exact ⟨t_options K, (pss_one (ps_ret (pe_listRg (by rfl) (by rfl) T.z_list (prg_1 (by rfl) T.z_range (pe_op op_add (pe_callB (q_min2 (by rfl)) (by rfl) T.z_min (by decide +kernel) (pa_cons (pe_op op_sub (pv 0) pe_int) (pa_cons (pe_lenU (by rfl) (by rfl) T.z_len (by rfl) T.z_set (pe_lock (pe_lc (own := [("k", 2)]) (by rfl) sc_options.nd (pi_keys (pv 1)) (blkOk_by (own := [("k", 2)]) (N := ["h", "given", "k"]) (sc := defScope s_options) (by decide +kernel)) (fun _ _ _ _ _ => (pg_name (i := 2) sc_options.nd rfl (Or.inl rfl))) (fun _ _ _ _ _ => pts_nil) (fun _ _ _ _ _ => (pe_dget (Nat.lt_of_le_of_lt (Nat.add_le_add_left (by decide) _) hr.units) (pv 1) (pv 2) (fun _ _ => rfl)))))) pa_nil))) pe_int))))), pure_options h⟩
theorem inV_bools : ∀ bs : List Bool, inV (.bl true) (bs.map V.bl) = bs.any id
  | [] => rfl
  | b :: r => by
    show (eqV (.bl b) (.bl true) || inV (.bl true) (r.map V.bl)) = (id b || r.any id)
    rw [inV_bools r]
    cases b <;> rfl
theorem flat_bools : ∀ bs : List Bool, (bs.map V.bl).all flatV = true
  | [] => rfl
  | _ :: r => by show (true && (r.map V.bl).all flatV) = true; rw [flat_bools r]; rfl
def pr_is_stuck (K : PySem.W.Frag) (v0 v1 v2 v3 : V) (H : Hp) (Q : VK) (_ : XK) : Prop := ∃ (M : List (List Int)) (a : Addr) (gs : List (Int × Int)) (k c : Int), Dp K H v0 (.list (M.map dInts)) ∧ (∀ r ∈ M, r.length ≤ 1000) ∧ v1 = .ref a ∧ H a = some (.dK (dS gs)) ∧ v2 = .int k ∧ 0 ≤ k ∧ k < M.length ∧ v3 = .int c ∧ ∀ H', Same H H' → Q (.bl (stuckB M gs k c)) H'
def t_is_stuck (K : PySem.W.Frag) : TS :=
  (tRet (tOp (rIn K false) (tC (.bl true)) (tLc (iList K (tOp (rIxL K) (tVar 0) (tVar 2))) (gName 4) tYes (tOp rEq (tDGet1 (tVar 1) (tVar 4)) (tVar 3)) [4])))
theorem pure_is_stuck {v0 v1 v2 v3 : V} {H : Hp} {Q : VK} {E : XK} (hh : pr_is_stuck K v0 v1 v2 v3 H Q E) : t_is_stuck K ⟨fun _ H' => Q .non H', Q, fun _ _ => False, fun _ _ => False⟩ [some v0, some v1, some v2, some v3, none] H := by
  obtain ⟨M, a, gs, k, c, d0, hr, rfl, ha, rfl, k0, k1, rfl, q⟩ := hh
  obtain ⟨b, xs, rfl, hb, dx⟩ := dp_list d0
  obtain ⟨rw', hrw, hrs⟩ := dp_row hb dx (show k.toNat < M.length by omega)
  have hlr : (M.getD k.toNat []).length ≤ 1000 := by
    rw [List.getD_eq_getElem?_getD, List.getElem?_eq_getElem (by omega)]
    exact hr _ (List.getElem_mem _)
  unfold t_is_stuck
  wtm_at "s"
  refine k_ixL hb (show atI xs k = some (.ref rw') by rw [show k = ((k.toNat : Nat) : Int) by omega]; exact atI_nat hrw) ?_
  wtm_at "s"
  refine lc_pure hrs (M.getD k.toNat []) (by simp) (by omega) (fun o => some (.bl (decide (lookS gs o = some c)))) ?_ (fun D H1 nD s1 eD => ?_)
  · intro i x o H' hx ho sm R R0 g1 g2
    rw [List.getElem?_map, ho] at hx
    cases hx
    wtm_at "s"
    refine k_aD (sm _ _ ha) ?_
    wtm_at "s"
    refine k_gD1N (sm _ _ ha) ?_
    rw [dS_val]
    cases hk : lookS gs o with
    | none =>
      simp only [Option.map_none, Option.getD_none]
      refine k_var rfl ⟨rfl, ?_⟩
      exact g1 _ (by rw [hk]; rfl)
    | some u =>
      simp only [Option.map_some, Option.getD_some]
      refine k_var rfl (k_eqI ?_)
      refine g1 _ ?_
      rw [hk]
      by_cases e : u = c
      · rw [decide_eq_true e, decide_eq_true (by rw [e])]
      · rw [decide_eq_false e, decide_eq_false (fun z => e (Option.some.inj z))]
  · have ee : (M.getD k.toNat []).filterMap (fun o => some (V.bl (decide (lookS gs o = some c)))) = ((M.getD k.toNat []).map fun o => decide (lookS gs o = some c)).map V.bl := by
      rw [fm_map, List.map_map]; rfl
    rw [ee] at eD
    refine ⟨D, _, rfl, .inl (sl eD), rfl, flat_bools _, ?_⟩
    rw [if_neg (by decide), inV_bools]
    have es : (((M.getD k.toNat []).map fun o => decide (lookS gs o = some c)).any id) = stuckB M gs k c := by
      unfold stuckB
      rw [List.any_map]; rfl
    rw [es]
    exact q H1 s1
abbrev sp_is_stuck (K : PySem.W.Frag) : Sp := fun vs H Q E => ∃ v0 v1 v2 v3, vs = [v0, v1, v2, v3] ∧ pr_is_stuck K v0 v1 v2 v3 H Q E
theorem ok_is_stuck (T : Txt K mg A) : FnOk P w K mg base CX0 1 A.a_is_stuck A.d_is_stuck ["meets", "given", "k", "hue"] (sp_is_stuck K) := by
  refine T.F_is_stuck.ok sc_is_stuck (fun vs H Q E h => by obtain ⟨v0, v1, v2, v3, rfl, _⟩ := h; rfl) (fun cdv A0 outer s H vs Q E hr h => ?_)
  obtain ⟨v0, v1, v2, v3, rfl, h⟩ := h
  exact ⟨t_is_stuck K, (pss_one (ps_ret (pe_cmpR op_in_seq pe_bl (pe_lc (own := [("other", 4)]) (by rfl) sc_is_stuck.nd (pi_list (pe_ix ix_list (pv 0) (pv 2) (fun _ _ => rfl))) (blkOk_by (own := [("other", 4)]) (N := ["meets", "given", "k", "hue", "other"]) (sc := defScope s_is_stuck) (by decide +kernel)) (fun _ _ _ _ _ => (pg_name (i := 4) sc_is_stuck.nd rfl (Or.inl rfl))) (fun _ _ _ _ _ => pts_nil) (fun _ _ _ _ _ => (pe_cmpR op_eq (pe_dget1 (Nat.lt_of_le_of_lt (Nat.add_le_add_left (by decide) _) hr.units) (pv 1) (pv 4) ⟨rfl, rfl, rfl, rfl⟩) (pv 3) (nomark _)))) (by rfl)))), pure_is_stuck h⟩
def pr_with_hue (K : PySem.W.Frag) (v0 v1 v2 : V) (H : Hp) (Q : VK) (_ : XK) : Prop := ∃ (a : Addr) (ss : List (Int × Int)) (k u : Int), v0 = .ref a ∧ v1 = .int k ∧ v2 = .int u ∧ H a = some (.dK (dS ss)) ∧ lookS ss k = none ∧ ss.length ≤ 1000 ∧
  ∀ p H', H p = none → Same H H' → H' p = some (.dK (dS (ss ++ [(k, u)]))) → Q (.ref p) H'
def t_with_hue (K : PySem.W.Frag) : TS :=
  (tSeq (tAsg (tCB rDictD (tCons (tVar 0) tNil)) (gName 3))
    (tSeq (sDPut (tVar 3) (tVar 1) (tVar 2))
    (tRet (tVar 3))))
theorem pure_with_hue {v0 v1 v2 : V} {H : Hp} {Q : VK} {E : XK} (hh : pr_with_hue K v0 v1 v2 H Q E) : t_with_hue K ⟨fun _ H' => Q .non H', Q, fun _ _ => False, fun _ _ => False⟩ [some v0, some v1, some v2, none] H := by
  obtain ⟨a, ss, k, u, rfl, rfl, rfl, ha, hk, hl, q⟩ := hh
  unfold t_with_hue
  wtm_at "s"
  refine k_dictD ha (fun p H1 np s1 e1 => ?_)
  wtm_at "s"
  refine k_pD e1 (by unfold dS; simp; omega) ?_
  wtm_at "s"
  rw [dS_put hk]
  exact q p _ np (same_mut s1 np) upd_same
abbrev sp_with_hue (K : PySem.W.Frag) : Sp := fun vs H Q E => ∃ v0 v1 v2, vs = [v0, v1, v2] ∧ pr_with_hue K v0 v1 v2 H Q E
theorem ok_with_hue (T : Txt K mg A) : FnOk P w K mg base CX0 1 A.a_with_hue A.d_with_hue ["given", "k", "hue"] (sp_with_hue K) := by
  refine T.F_with_hue.ok sc_with_hue (fun vs H Q E h => by obtain ⟨v0, v1, v2, rfl, _⟩ := h; rfl) (fun cdv A0 outer s H vs Q E hr h => ?_)
  obtain ⟨v0, v1, v2, rfl, h⟩ := h
  exact ⟨t_with_hue K, (pss_cons (ps_set (i := 3) sc_with_hue.nd rfl (Or.inl rfl) (pe_callTy q_dictD (by rfl) T.z_dict (by decide +kernel) (pa_cons (pv 0) pa_nil)))
      (pss_cons (ps_dput (Nat.lt_of_le_of_lt (Nat.add_le_add_left (by decide) _) hr.units) (pv 3) (pv 1) (pv 2) (by rfl))
      (pss_one (ps_ret (pv 3))))), pure_with_hue h⟩
def pr_look_few (K : PySem.W.Frag) (v0 v1 v2 : V) (H : Hp) (Q : VK) (_ : XK) : Prop := ∃ (N : Net) (ws : List (Int × Int)) (m : Int), Dp K H v0 N.d ∧ N.ok ∧ Dp K H v1 (dPairs ws) ∧ ws.length ≤ 10000 ∧ (∀ w ∈ ws, isWay N w.1 w.2) ∧ v2 = .int m ∧ (ws.length : Int) ≤ m ∧ Q .non H
def t_look_few (K : PySem.W.Frag) : TS :=
  (tSeq (tDrop (tCall (sp_look_ways K) [] E0 (tCons (tVar 0) (tCons (tVar 1) tNil))))
    (tIfS (tTest (tOp xGt (tCB (rLenX K) (tCons (tVar 1) tNil)) (tVar 2))) tNever tNext))
theorem pure_look_few {v0 v1 v2 : V} {H : Hp} {Q : VK} {E : XK} (h : pr_look_few K v0 v1 v2 H Q E) : t_look_few K ⟨fun _ H' => Q .non H', Q, fun _ _ => False, fun _ _ => False⟩ [some v0, some v1, some v2] H := by
  obtain ⟨N, ws, m, hd, ok, hw, hz, hok, rfl, hm, q⟩ := h
  obtain ⟨b, ys, rfl, hb, dys⟩ := dp_list hw
  have ly : ys.length = ws.length := by rw [dpa_len dys, List.length_map]
  unfold t_look_few
  wtm_at "s"
  refine ⟨_, _, rfl, N, ws, hd, ok, hw, hz, hok, ?_⟩
  wtm_at "s"
  exact q
abbrev sp_look_few (K : PySem.W.Frag) : Sp := fun vs H Q E => ∃ v0 v1 v2, vs = [v0, v1, v2] ∧ pr_look_few K v0 v1 v2 H Q E
theorem ok_look_few (T : Txt K mg A) : FnOk P w K mg base CX0 5 A.a_look_few A.d_look_few ["net", "ways", "most"] (sp_look_few K) := by
  refine T.F_look_few.ok sc_look_few (fun vs H Q E h => by obtain ⟨v0, v1, v2, rfl, _⟩ := h; rfl) (fun cdv A0 outer s H vs Q E hr h => ?_)
  obtain ⟨v0, v1, v2, rfl, h⟩ := h
  exact ⟨t_look_few K, (pss_cons (ps_expr (pe_call (ok_look_ways T) (hr.mono (by decide)) (by rfl) T.g_look_ways T.F_look_ways.kp T.b_look_ways .nil pass0 (pa_cons (pv 0) (pa_cons (pv 1) pa_nil))))
      (pss_one (ps_if (pt_cmpR op_gt (pe_callB q_len (by rfl) T.z_len (by decide +kernel) (pa_cons (pv 1) pa_nil)) (pv 2) (nomark _)) (pss_one ps_never) pss_nil))), pure_look_few h⟩


/-! ### pairs that meet: chains of two hues, and one and a half times the load -/
def On (p : Int × Int) (v : Int) : Prop := p.1 = v ∨ p.2 = v
instance (p : Int × Int) (v : Int) : Decidable (On p v) := inferInstanceAs (Decidable (_ ∨ _))
/-- hues of the first n pairs: a tie has a hue -/
def Has (n : Nat) (P : Nat → Int × Int) (C : Nat → Int) (v h : Int) : Prop := ∃ k, k < n ∧ C k = h ∧ On (P k) v
def Prp (n : Nat) (P : Nat → Int × Int) (C : Nat → Int) : Prop := ∀ i j, i < n → j < n → i ≠ j → C i = C j → ∀ v, On (P i) v → ¬ On (P j) v
/-- a chain of two hues from a tie on, the one hue first, and the tie at its end -/
inductive Chn (n : Nat) (P : Nat → Int × Int) (C : Nat → Int) : Int → Int → Int → List Nat → Option Int → Prop where
  | stop {v h o : Int} : ¬ Has n P C v h → Chn n P C v h o [] (some v)
  | loop {v h o : Int} {k : Nat} : k < n → C k = h → On (P k) v → (P k).1 = (P k).2 → Chn n P C v h o [k] none
  | step {v h o : Int} {k : Nat} {r : List Nat} {e : Option Int} : k < n → C k = h → On (P k) v → (P k).1 ≠ (P k).2 → Chn n P C ((P k).1 + (P k).2 - v) o h r e → Chn n P C v h o (k :: r) e
section
variable {n : Nat} {P : Nat → Int × Int} {C : Nat → Int}
theorem Prp.one (p : Prp n P C) {i j : Nat} {v : Int} (hi : i < n) (hj : j < n) (e : C i = C j) (a : On (P i) v) (b : On (P j) v) : i = j :=
  Classical.byContradiction fun ne => p i j hi hj ne e v a b
theorem Chn.det (p : Prp n P C) {v h o : Int} {r r' : List Nat} {e e' : Option Int} (a : Chn n P C v h o r e) (b : Chn n P C v h o r' e') : r = r' ∧ e = e' := by
  induction a generalizing r' e' with
  | stop h1 => cases b with
    | stop _ => exact ⟨rfl, rfl⟩
    | loop k1 k2 k3 _ => exact absurd ⟨_, k1, k2, k3⟩ h1
    | step k1 k2 k3 _ _ => exact absurd ⟨_, k1, k2, k3⟩ h1
  | loop k1 k2 k3 k4 => cases b with
    | stop h1 => exact absurd ⟨_, k1, k2, k3⟩ h1
    | loop j1 j2 j3 j4 => exact ⟨by rw [p.one k1 j1 (by rw [k2, j2]) k3 j3], rfl⟩
    | step j1 j2 j3 j4 _ => have := p.one k1 j1 (by rw [k2, j2]) k3 j3; subst this; exact absurd k4 j4
  | step k1 k2 k3 k4 _ ih => cases b with
    | stop h1 => exact absurd ⟨_, k1, k2, k3⟩ h1
    | loop j1 j2 j3 j4 => have := p.one k1 j1 (by rw [k2, j2]) k3 j3; subst this; exact absurd j4 k4
    | step j1 j2 j3 j4 j5 =>
      have := p.one k1 j1 (by rw [k2, j2]) k3 j3
      subst this
      obtain ⟨h1, h2⟩ := ih j5
      exact ⟨by rw [h1], h2⟩
/-- two hues exchanged on some pairs -/
def flp (F : List Nat) (h o : Int) (C : Nat → Int) : Nat → Int := fun k => if k ∈ F then h + o - C k else C k
theorem flp_comm (F : List Nat) (h o : Int) (C : Nat → Int) : flp F o h C = flp F h o C := by
  funext k; unfold flp; split <;> omega
/-- all that clashes does so at v, by the hue h; v has no o -/
structure Alm (n : Nat) (P : Nat → Int × Int) (C : Nat → Int) (v h o : Int) : Prop where
  at_ : ∀ i j, i < n → j < n → i ≠ j → C i = C j → ∀ w, On (P i) w → On (P j) w → w = v ∧ C i = h
  no : ¬ Has n P C v o
theorem other_end {p : Int × Int} {v : Int} (h : On p v) (ne : p.1 ≠ p.2) : On p (p.1 + p.2 - v) ∧ p.1 + p.2 - v ≠ v := by
  unfold On at h ⊢
  rcases h with h | h <;> subst h
  · exact ⟨.inr (by omega), by omega⟩
  · exact ⟨.inl (by omega), by omega⟩
theorem end_of {p : Int × Int} {v w : Int} (h : On p v) (hw : On p w) : w = v ∨ w = p.1 + p.2 - v := by
  unfold On at h hw
  omega
theorem flp_snoc (F : List Nat) (h o : Int) (C : Nat → Int) (k : Nat) : ∀ j, flp (F ++ [k]) h o C j = if j = k then h + o - C j else flp F h o C j := by
  intro j
  unfold flp
  by_cases c : j = k
  · subst c; simp
  · by_cases d : j ∈ F
    · simp [c, d]
    · simp [c, d]
/-- of the pairs at v with the hue h, some flipped, there is but the one that is not flipped -/
theorem two_at {F : List Nat} {v h o : Int} (p : Prp n P C) (hF : ∀ k ∈ F, k < n ∧ (C k = h ∨ C k = o)) {i j : Nat} (hi : i < n) (hj : j < n) (ij : i ≠ j) (ei : flp F h o C i = h) (ej : flp F h o C j = h) (wi : On (P i) v) (wj : On (P j) v) : ∃ k, k < n ∧ k ∉ F ∧ C k = h ∧ On (P k) v ∧ (k = i ∨ k = j) := by
  unfold flp at ei ej
  by_cases ci : i ∈ F
  · by_cases cj : j ∈ F
    · rw [if_pos ci] at ei
      rw [if_pos cj] at ej
      exact absurd wj (p i j hi hj ij (by omega) v wi)
    · rw [if_neg cj] at ej
      exact ⟨j, hj, cj, ej, wj, .inr rfl⟩
  · rw [if_neg ci] at ei
    exact ⟨i, hi, ci, ei, wi, .inl rfl⟩
/-- one step: the pair k, of the hue that is sought, is flipped -/
theorem flip_one {F : List Nat} {v h o : Int} {k : Nat} (p : Prp n P C) (hF : ∀ k ∈ F, k < n ∧ (C k = h ∨ C k = o)) (a : Alm n P (flp F h o C) v h o) (hk : k < n) (hC : C k = h) (hv : On (P k) v) :
    k ∉ F ∧ flp (F ++ [k]) h o C k = o ∧ ∀ i j, i < n → j < n → i ≠ j → flp (F ++ [k]) h o C i = flp (F ++ [k]) h o C j → ∀ w, On (P i) w → On (P j) w → w ≠ v ∧ (i = k ∨ j = k) ∧ flp (F ++ [k]) h o C i = o := by
  have kF : k ∉ F := fun z => a.no ⟨k, hk, by unfold flp; rw [if_pos z, hC]; omega, hv⟩
  have fk' : flp (F ++ [k]) h o C k = o := by rw [flp_snoc, if_pos rfl, hC]; omega
  have fj : ∀ j, j ≠ k → flp (F ++ [k]) h o C j = flp F h o C j := fun j hj => by rw [flp_snoc, if_neg hj]
  refine ⟨kF, fk', fun i j hi hj ij e w wi wj => ?_⟩
  by_cases ci : i = k
  · subst ci
    rw [fk', fj j (fun z => ij z.symm)] at e
    exact ⟨fun z => by subst z; exact a.no ⟨j, hj, e.symm, wj⟩, .inl rfl, fk'⟩
  · by_cases cj : j = k
    · subst cj
      rw [fk', fj i ci] at e
      exact ⟨fun z => by subst z; exact a.no ⟨i, hi, e, wi⟩, .inr rfl, by rw [fj i ci]; exact e⟩
    · rw [fj i ci, fj j cj] at e
      exfalso
      obtain ⟨rfl, eh⟩ := a.at_ i j hi hj ij e w wi wj
      obtain ⟨l, l1, l2, l3, l4, l5⟩ := two_at p hF hi hj ij eh (by rw [← e]; exact eh) wi wj
      have : l = k := p.one l1 hk (by rw [l3, hC]) l4 hv
      rcases l5 with z | z <;> omega
/-- a chain's pairs, flipped, clash nowhere -/
theorem Chn.flip {v h o : Int} {r : List Nat} {e : Option Int} (c : Chn n P C v h o r e) (p : Prp n P C) : h ≠ o → ∀ (F : List Nat), (∀ k ∈ F, k < n ∧ (C k = h ∨ C k = o)) → Alm n P (flp F h o C) v h o → F.Nodup →
    (F ++ r).Nodup ∧ (∀ k ∈ r, k < n ∧ (C k = h ∨ C k = o)) ∧ Prp n P (flp (F ++ r) h o C) := by
  induction c with
  | @stop v h o h1 =>
    intro ho F hF a nd
    refine ⟨by simpa using nd, fun k z => (by cases z), ?_⟩
    rw [List.append_nil]
    intro i j hi hj ij e w wi wj
    obtain ⟨rfl, eh⟩ := a.at_ i j hi hj ij e w wi wj
    obtain ⟨l, l1, l2, l3, l4, l5⟩ := two_at p hF hi hj ij eh (by rw [← e]; exact eh) wi wj
    exact h1 ⟨l, l1, l3, l4⟩
  | @loop v h o k k1 k2 k3 k4 =>
    intro ho F hF a nd
    obtain ⟨kF, fk, cl⟩ := flip_one p hF a k1 k2 k3
    refine ⟨?_, ?_, fun i j hi hj ij e w wi wj => ?_⟩
    · rw [List.nodup_append]
      exact ⟨nd, by simp, fun x hx y hy e => by rw [List.mem_singleton.mp hy] at e; subst e; exact kF hx⟩
    · intro x hx
      rw [List.mem_singleton.mp hx]
      exact ⟨k1, .inl k2⟩
    · obtain ⟨c1, c2, c3⟩ := cl i j hi hj ij e w wi wj
      unfold On at k3
      rcases c2 with rfl | rfl
      · unfold On at wi; omega
      · unfold On at wj; omega
  | @step v h o k r e k1 k2 k3 k4 _ ih =>
    intro ho F hF a nd
    obtain ⟨kF, fk, cl⟩ := flip_one p hF a k1 k2 k3
    obtain ⟨ev, env⟩ := other_end k3 k4
    have nd' : (F ++ [k]).Nodup := by
      rw [List.nodup_append]
      exact ⟨nd, by simp, fun x hx y hy e => by rw [List.mem_singleton.mp hy] at e; subst e; exact kF hx⟩
    have hF' : ∀ j ∈ F ++ [k], j < n ∧ (C j = o ∨ C j = h) := fun j hj => by
      rcases List.mem_append.mp hj with hj | hj
      · exact ⟨(hF j hj).1, (hF j hj).2.symm⟩
      · rw [List.mem_singleton.mp hj]; exact ⟨k1, .inr k2⟩
    have a' : Alm n P (flp (F ++ [k]) o h C) ((P k).1 + (P k).2 - v) o h := by
      rw [flp_comm]
      refine ⟨fun i j hi hj ij e w wi wj => ?_, ?_⟩
      · obtain ⟨c1, c2, c3⟩ := cl i j hi hj ij e w wi wj
        refine ⟨?_, c3⟩
        rcases c2 with rfl | rfl
        · rcases end_of k3 wi with z | z
          · exact absurd z c1
          · exact z
        · rcases end_of k3 wj with z | z
          · exact absurd z c1
          · exact z
      · rintro ⟨j, hj, ej, wj⟩
        by_cases cj : j = k
        · subst cj; rw [fk] at ej; exact ho ej.symm
        · rw [flp_snoc, if_neg cj] at ej
          have fkF : flp F h o C k = h := by unfold flp; rw [if_neg kF, k2]
          exact env (a.at_ j k hj k1 cj (by rw [ej, fkF]) _ wj ev).1
    obtain ⟨g1, g2, g3⟩ := ih (fun z => ho z.symm) (F ++ [k]) hF' a' nd'
    rw [List.append_assoc] at g1 g3
    refine ⟨g1, ?_, by rw [← flp_comm]; exact g3⟩
    intro j hj
    rcases List.mem_cons.mp hj with rfl | hj
    · exact ⟨k1, .inl k2⟩
    · exact ⟨(g2 j hj).1, (g2 j hj).2.symm⟩
theorem Alm.start {v h o : Int} (p : Prp n P C) (no : ¬ Has n P C v o) : Alm n P (flp [] h o C) v h o := by
  have e : flp [] h o C = C := by funext k; unfold flp; rw [if_neg (by simp)]
  rw [e]
  exact ⟨fun i j hi hj ij e w wi wj => absurd wj (p i j hi hj ij e w wi), no⟩
/-- the whole of it: from a tie that lacks the other hue -/
theorem Chn.flip0 {v h o : Int} {r : List Nat} {e : Option Int} (c : Chn n P C v h o r e) (p : Prp n P C) (ho : h ≠ o) (no : ¬ Has n P C v o) : r.Nodup ∧ (∀ k ∈ r, k < n ∧ (C k = h ∨ C k = o)) ∧ Prp n P (flp r h o C) := by
  have := c.flip p ho [] (fun k z => by cases z) (Alm.start p no) List.nodup_nil
  simpa only [List.nil_append] using this
theorem nodup_lt {l : List Nat} (nd : l.Nodup) (h : ∀ k ∈ l, k < n) : l.length ≤ n := by
  have : ∀ (n : Nat) (l : List Nat), l.Nodup → (∀ k ∈ l, k < n) → l.length ≤ n := by
    intro n
    induction n with
    | zero => intro l _ h; cases l with
      | nil => simp
      | cons a r => exact absurd (h a List.mem_cons_self) (by omega)
    | succ n ih =>
      intro l nd h
      by_cases c : n ∈ l
      · have := ih (l.erase n) (nd.erase n) (fun k hk => by
          have h1 := h k (List.mem_of_mem_erase hk)
          have h2 : k ≠ n := fun z => by subst z; exact (List.Nodup.not_mem_erase nd) hk
          omega)
        rw [List.length_erase_of_mem c] at this
        omega
      · have := ih l nd (fun k hk => by
          have h1 := h k hk
          have h2 : k ≠ n := fun z => c (z ▸ hk)
          omega)
        omega
  exact this n l nd h
/-- there is such a chain -/
theorem chn_ex {v h o : Int} (p : Prp n P C) (ho : h ≠ o) (no : ¬ Has n P C v o) : ∃ r e, Chn n P C v h o r e := by
  have key : ∀ (m : Nat) (F : List Nat) (v h o : Int), h ≠ o → F.length + m = n + 1 → (∀ k ∈ F, k < n ∧ (C k = h ∨ C k = o)) → Alm n P (flp F h o C) v h o → F.Nodup → ∃ r e, Chn n P C v h o r e := by
    intro m
    induction m with
    | zero =>
      intro F v h o ho hm hF a nd
      have := nodup_lt nd fun k hk => (hF k hk).1
      omega
    | succ m ih =>
      intro F v h o ho hm hF a nd
      by_cases c : Has n P C v h
      · obtain ⟨k, k1, k2, k3⟩ := c
        by_cases d : (P k).1 = (P k).2
        · exact ⟨_, _, .loop k1 k2 k3 d⟩
        · obtain ⟨kF, fk, cl⟩ := flip_one p hF a k1 k2 k3
          obtain ⟨ev, env⟩ := other_end k3 d
          have nd' : (F ++ [k]).Nodup := by
            rw [List.nodup_append]
            exact ⟨nd, by simp, fun x hx y hy e => by rw [List.mem_singleton.mp hy] at e; subst e; exact kF hx⟩
          have hF' : ∀ j ∈ F ++ [k], j < n ∧ (C j = o ∨ C j = h) := fun j hj => by
            rcases List.mem_append.mp hj with hj | hj
            · exact ⟨(hF j hj).1, (hF j hj).2.symm⟩
            · rw [List.mem_singleton.mp hj]; exact ⟨k1, .inr k2⟩
          have a' : Alm n P (flp (F ++ [k]) o h C) ((P k).1 + (P k).2 - v) o h := by
            rw [flp_comm]
            refine ⟨fun i j hi hj ij e w wi wj => ?_, ?_⟩
            · obtain ⟨c1, c2, c3⟩ := cl i j hi hj ij e w wi wj
              refine ⟨?_, c3⟩
              rcases c2 with rfl | rfl
              · rcases end_of k3 wi with z | z
                · exact absurd z c1
                · exact z
              · rcases end_of k3 wj with z | z
                · exact absurd z c1
                · exact z
            · rintro ⟨j, hj, ej, wj⟩
              by_cases cj : j = k
              · subst cj; rw [fk] at ej; exact ho ej.symm
              · rw [flp_snoc, if_neg cj] at ej
                have fkF : flp F h o C k = h := by unfold flp; rw [if_neg kF, k2]
                exact env (a.at_ j k hj k1 cj (by rw [ej, fkF]) _ wj ev).1
          obtain ⟨r, e, g⟩ := ih (F ++ [k]) _ o h (fun z => ho z.symm) (by simp; omega) hF' a' nd'
          exact ⟨_, _, .step k1 k2 k3 d g⟩
      · exact ⟨_, _, .stop c⟩
  exact key (n + 1) [] v h o ho (by simp) (fun k z => by cases z) (Alm.start p no) List.nodup_nil
/-- a chain that touches a tie by the hue b, where the other hue a is lacking, ends there -/
theorem Chn.touch {v h o : Int} {r : List Nat} {e : Option Int} (c : Chn n P C v h o r e) {a b w : Int} (lack : ¬ Has n P C w a) (ab : (h = a ∧ o = b) ∨ (h = b ∧ o = a)) {j : Nat} (hj : j ∈ r) (jb : C j = b) (jw : On (P j) w) (ne : a ≠ b) : e = some w ∨ (w = v ∧ h = b) := by
  induction c with
  | stop => cases hj
  | @loop v h o k k1 k2 k3 k4 =>
    rw [List.mem_singleton.mp hj] at jb jw
    refine .inr ⟨?_, by omega⟩
    unfold On at k3 jw
    omega
  | @step v h o k r e k1 k2 k3 k4 g ih =>
    rcases List.mem_cons.mp hj with rfl | hj
    · have hb : h = b := by omega
      have oa : o = a := by rcases ab with ⟨z1, z2⟩ | ⟨z1, z2⟩ <;> omega
      rcases end_of k3 jw with z | z
      · exact .inr ⟨z, hb⟩
      · left
        subst z oa
        cases g with
        | stop _ => rfl
        | loop g1 g2 g3 _ => exact absurd ⟨_, g1, g2, g3⟩ lack
        | step g1 g2 g3 _ _ => exact absurd ⟨_, g1, g2, g3⟩ lack
    · rcases ih (ab.symm.imp (fun z => ⟨z.2, z.1⟩) (fun z => ⟨z.2, z.1⟩)) hj with z | ⟨z1, z2⟩
      · exact .inl z
      · exfalso
        have ha : h = a := by rcases ab with ⟨z3, z4⟩ | ⟨z3, z4⟩ <;> omega
        exact lack ⟨k, k1, by rw [k2, ha], by rw [z1]; exact (other_end k3 k4).1⟩
/-- one step of a chain -/
def St (n : Nat) (P : Nat → Int × Int) (C : Nat → Int) (x y : Int × Int × Int) : Prop := ∃ k, k < n ∧ C k = x.2.1 ∧ On (P k) x.1 ∧ (P k).1 ≠ (P k).2 ∧ y = ((P k).1 + (P k).2 - x.1, x.2.2, x.2.1)
inductive Rn (n : Nat) (P : Nat → Int × Int) (C : Nat → Int) : Int × Int × Int → Int × Int × Int → Prop where
  | nil {x : Int × Int × Int} : Rn n P C x x
  | snoc {x y z : Int × Int × Int} : Rn n P C x y → St n P C y z → Rn n P C x z
theorem Rn.cons {x y z : Int × Int × Int} (a : St n P C x y) (b : Rn n P C y z) : Rn n P C x z := by
  induction b with
  | nil => exact .snoc .nil a
  | snoc _ s ih => exact .snoc ih s
theorem Rn.last {x z : Int × Int × Int} (a : Rn n P C x z) : x = z ∨ ∃ y, Rn n P C x y ∧ St n P C y z := by
  cases a with
  | nil => exact .inl rfl
  | snoc q1 q2 => exact .inr ⟨_, q1, q2⟩
theorem Chn.run {v h o : Int} {r : List Nat} {w : Int} {e : Option Int} (c : Chn n P C v h o r e) (he : e = some w) : ∃ x y, Rn n P C (v, h, o) (w, x, y) ∧ ¬ Has n P C w x ∧ ((x = h ∧ y = o) ∨ (x = o ∧ y = h)) := by
  induction c with
  | stop h1 => cases he; exact ⟨_, _, .nil, h1, .inl ⟨rfl, rfl⟩⟩
  | loop => cases he
  | @step v h o k r e k1 k2 k3 k4 g ih =>
    obtain ⟨x, y, g1, g2, g3⟩ := ih he
    exact ⟨x, y, .cons ⟨k, k1, k2, k3, k4, rfl⟩ g1, g2, g3.symm⟩
theorem St.inj (p : Prp n P C) {x y z : Int × Int × Int} (a : St n P C x z) (b : St n P C y z) : x = y := by
  obtain ⟨k, a1, a2, a3, a4, rfl⟩ := a
  obtain ⟨l, b1, b2, b3, b4, e⟩ := b
  obtain ⟨x1, x2, x3⟩ := x
  obtain ⟨y1, y2, y3⟩ := y
  simp only [Prod.mk.injEq] at e
  obtain ⟨e1, e2, e3⟩ := e
  simp only at a2 a3 b2 b3
  subst e2 e3
  have oa := (other_end a3 a4).1
  have ob := (other_end b3 b4).1
  have : k = l := p.one a1 b1 (by rw [a2, b2]) oa (by rw [e1]; exact ob)
  subst this
  have : x1 = y1 := by omega
  subst this
  rfl
/-- what leads to a state that has no predecessor -/
theorem Rn.inj (p : Prp n P C) {x y z : Int × Int × Int} (a : Rn n P C x z) (b : Rn n P C y z) (nx : ∀ u, ¬ St n P C u x) (ny : ∀ u, ¬ St n P C u y) : x = y := by
  induction a generalizing y with
  | nil => cases b with
    | nil => rfl
    | snoc _ s => exact absurd s (nx _)
  | snoc a1 s1 ih => cases b with
    | nil => exact absurd s1 (ny _)
    | snoc b1 s2 =>
      have := St.inj p s1 s2
      subst this
      exact ih b1 ny
theorem no_pre {v h o : Int} (lack : ¬ Has n P C v o) : ∀ u, ¬ St n P C u (v, h, o) := by
  rintro ⟨u1, u2, u3⟩ ⟨k, k1, k2, k3, k4, e⟩
  simp only [Prod.mk.injEq] at e k2 k3
  obtain ⟨e1, e2, e3⟩ := e
  exact lack ⟨k, k1, by rw [k2, e3], by rw [e1]; exact (other_end k3 k4).1⟩
end
section
variable {n : Nat} {P : Nat → Int × Int} {C : Nat → Int}
theorem Prp.congr {C' : Nat → Int} (h : ∀ j, j < n → C' j = C j) (p : Prp n P C) : Prp n P C' := fun i j hi hj ij e v a b => p i j hi hj ij (by rw [← h i hi, ← h j hj]; exact e) v a b
theorem has_congr {C' : Nat → Int} (h : ∀ j, j < n → C' j = C j) {v x : Int} : Has n P C' v x ↔ Has n P C v x :=
  ⟨fun ⟨k, k1, k2, k3⟩ => ⟨k, k1, by rw [← h k k1]; exact k2, k3⟩, fun ⟨k, k1, k2, k3⟩ => ⟨k, k1, by rw [h k k1]; exact k2, k3⟩⟩
/-- one pair more, of a hue that is free at both its ties -/
theorem Prp.more {C' : Nat → Int} {x : Int} (p : Prp n P C) (h : ∀ j, j < n → C' j = C j) (hx : C' n = x) (h1 : ¬ Has n P C (P n).1 x) (h2 : ¬ Has n P C (P n).2 x) : Prp (n + 1) P C' := by
  have free : ∀ j, j < n → C' j = x → ∀ v, On (P n) v → ¬ On (P j) v := fun j hj e v a b => by
    rw [h j hj] at e
    rcases a with a | a
    · exact h1 ⟨j, hj, e, a ▸ b⟩
    · exact h2 ⟨j, hj, e, a ▸ b⟩
  intro i j hi hj ij e v a b
  by_cases ci : i = n
  · subst ci
    exact free j (by omega) (by rw [← e, hx]) v a b
  · by_cases cj : j = n
    · subst cj
      exact free i (by omega) (by rw [e, hx]) v b a
    · exact p i j (by omega) (by omega) ij (by rw [← h i (by omega), ← h j (by omega)]; exact e) v a b
/-- a chain's first tie gives up the first hue -/
theorem Chn.frees {v h o : Int} {r : List Nat} {e : Option Int} (c : Chn n P C v h o r e) (p : Prp n P C) (no : ¬ Has n P C v o) : ¬ Has n P (flp r h o C) v h := by
  rintro ⟨j, j1, j2, j3⟩
  unfold flp at j2
  by_cases d : j ∈ r
  · rw [if_pos d] at j2
    exact no ⟨j, j1, by omega, j3⟩
  · rw [if_neg d] at j2
    cases c with
    | stop h1 => exact h1 ⟨j, j1, j2, j3⟩
    | loop k1 k2 k3 k4 => exact d (by rw [p.one j1 k1 (by rw [j2, k2]) j3 k3]; simp)
    | step k1 k2 k3 k4 _ => exact d (by rw [p.one j1 k1 (by rw [j2, k2]) j3 k3]; simp)
/-- a tie that lacks the first hue, and at which the chain doesn't end, lacks it still -/
theorem Chn.keeps {v h o w : Int} {r : List Nat} {e : Option Int} (c : Chn n P C v h o r e) (ho : h ≠ o) (lack : ¬ Has n P C w h) (he : e ≠ some w) : ¬ Has n P (flp r h o C) w h := by
  rintro ⟨j, j1, j2, j3⟩
  unfold flp at j2
  by_cases d : j ∈ r
  · rw [if_pos d] at j2
    rcases c.touch lack (.inl ⟨rfl, rfl⟩) d (by omega : C j = o) j3 ho with z | ⟨_, z⟩
    · exact he z
    · exact ho z
  · rw [if_neg d] at j2
    exact lack ⟨j, j1, j2, j3⟩
/-- where a chain from t ends at s: the last pair, and the tie beyond it -/
theorem Chn.back {s t a b : Int} {r : List Nat} (c : Chn n P C t a b r (some s)) (p : Prp n P C) (ab : a ≠ b) (st : s ≠ t) (lack : ¬ Has n P C s a) : ∃ k, k < n ∧ C k = b ∧ On (P k) s ∧ (P k).1 ≠ (P k).2 ∧ Has n P C ((P k).1 + (P k).2 - s) a ∧ Rn n P C (t, a, b) (s, a, b) := by
  obtain ⟨x, y, g1, g2, g3⟩ := c.run rfl
  cases g1 with
  | nil => exact absurd rfl st
  | snoc q1 q2 =>
    rename_i u
    obtain ⟨u1, u2, u3⟩ := u
    obtain ⟨k, k1, k2, k3, k4, k5⟩ := id q2
    simp only [Prod.mk.injEq] at k2 k3 k5
    obtain ⟨e1, e2, e3⟩ := k5
    have os := (other_end k3 k4).1
    rw [← e1] at os
    have yb : y = b := by
      rcases g3 with ⟨z1, z2⟩ | ⟨z1, z2⟩
      · exact z2
      · exfalso
        exact lack ⟨k, k1, by rw [k2, ← e3, z2], os⟩
    have xa : x = a := by
      rcases g3 with ⟨z1, z2⟩ | ⟨z1, z2⟩
      · exact z1
      · exact absurd (z2.symm.trans yb) ab
    have hu : u1 = (P k).1 + (P k).2 - s := by omega
    have hb : C k = b := by rw [k2, ← e3, yb]
    refine ⟨k, k1, hb, os, k4, ?_, by have fin := Rn.snoc q1 q2; rw [xa, yb] at fin; exact fin⟩
    have u2' : u2 = b := by rw [← e3, yb]
    have u3' : u3 = a := by rw [← e2, xa]
    subst hu u2' u3'
    cases q1 with
    | nil => exact absurd rfl ab
    | snoc m1 m2 =>
      rename_i m
      obtain ⟨w1, w2, w3⟩ := m
      obtain ⟨l, l1, l2, l3, l4, l5⟩ := m2
      simp only [Prod.mk.injEq] at l2 l3 l5
      refine ⟨l, l1, by rw [l2, ← l5.2.2], ?_⟩
      rw [l5.1]
      exact (other_end l3 l4).1
/-- how many hues a tie has -/
noncomputable def hasB (n : Nat) (P : Nat → Int × Int) (C : Nat → Int) (v : Int) (x : Nat) : Bool := @decide (Has n P C v (x : Int)) (Classical.propDecidable _)
theorem hasB_iff {v : Int} {x : Nat} : hasB n P C v x = true ↔ Has n P C v (x : Int) := by unfold hasB; simp
def deg (n : Nat) (P : Nat → Int × Int) (v : Int) : Nat := (List.range n).countP fun j => decide (On (P j) v)
theorem cnt_or {α : Type} {l : List α} {p q r : α → Bool} (h : ∀ x, p x = true → q x = true ∨ r x = true) : l.countP p ≤ l.countP q + l.countP r := by
  induction l with
  | nil => simp
  | cons a t ih =>
    rw [List.countP_cons, List.countP_cons, List.countP_cons]
    by_cases c : p a = true
    · rcases h a c with d | d <;> simp only [c, d, if_true] <;> omega
    · rw [if_neg c]
      split <;> split <;> omega
theorem cnt_eq1 (M : Nat) (x : Int) : (List.range M).countP (fun (y : Nat) => decide ((y : Int) = x)) ≤ 1 := by
  induction M with
  | zero => simp
  | succ m ih =>
    rw [List.range_succ, List.countP_append]
    by_cases c : (m : Int) = x
    · have z : (List.range m).countP (fun (y : Nat) => decide ((y : Int) = x)) = 0 := by
        rw [List.countP_eq_zero]
        intro y hy
        have := List.mem_range.mp hy
        simp; omega
      rw [z]; simp [List.countP_cons]; split <;> omega
    · simp [c]; exact ih
theorem used_le (M : Nat) (v : Int) : (List.range M).countP (hasB n P C v) ≤ deg n P v := by
  induction n with
  | zero =>
    have : (List.range M).countP (hasB 0 P C v) = 0 := by
      rw [List.countP_eq_zero]
      intro x _ h
      obtain ⟨k, k1, _⟩ := hasB_iff.mp h
      omega
    omega
  | succ n ih =>
    have e : deg (n + 1) P v = deg n P v + if On (P n) v then 1 else 0 := by
      unfold deg
      rw [List.range_succ, List.countP_append, List.countP_singleton]
      simp
    rw [e]
    by_cases c : On (P n) v
    · rw [if_pos c]
      have h1 := cnt_or (l := List.range M) (p := hasB (n + 1) P C v) (q := hasB n P C v) (r := fun (y : Nat) => decide ((y : Int) = C n)) (fun x hx => by
        obtain ⟨k, k1, k2, k3⟩ := hasB_iff.mp hx
        by_cases d : k = n
        · subst d; right; simp [k2]
        · left; exact hasB_iff.mpr ⟨k, by omega, k2, k3⟩)
      have h2 := cnt_eq1 M (C n)
      omega
    · rw [if_neg c]
      have h1 : (List.range M).countP (hasB (n + 1) P C v) ≤ (List.range M).countP (hasB n P C v) := List.countP_mono_left fun x _ hx => by
        obtain ⟨k, k1, k2, k3⟩ := hasB_iff.mp hx
        by_cases d : k = n
        · subst d; exact absurd k3 c
        · exact hasB_iff.mpr ⟨k, by omega, k2, k3⟩
      omega
/-- a tie with fewer pairs than hues lacks one -/
theorem lack_ex {M : Nat} {v : Int} (h : deg n P v < M) : ∃ x : Nat, x < M ∧ ¬ Has n P C v (x : Int) := by
  refine Classical.byContradiction fun z => ?_
  have : (List.range M).countP (hasB n P C v) = M := by
    have e : (List.range M).countP (hasB n P C v) = (List.range M).length := List.countP_eq_length.mpr fun x hx => hasB_iff.mpr (Classical.byContradiction fun w => z ⟨x, List.mem_range.mp hx, w⟩)
    rw [e]; simp
  have := used_le (n := n) (P := P) (C := C) M v
  omega
theorem cnt_two {α : Type} {l : List α} {p q r : α → Bool} (h : ∀ x ∈ l, (p x = true ∧ q x = true) ∨ (p x = true ∧ r x = true) ∨ (q x = true ∧ r x = true)) : 2 * l.length ≤ l.countP p + l.countP q + l.countP r := by
  induction l with
  | nil => simp
  | cons a t ih =>
    have := ih fun x hx => h x (List.mem_cons_of_mem _ hx)
    rw [List.countP_cons, List.countP_cons, List.countP_cons, List.length_cons]
    rcases h a List.mem_cons_self with ⟨c, d⟩ | ⟨c, d⟩ | ⟨c, d⟩ <;> simp only [c, d, if_true] <;> split <;> omega
/-- of three ties, two of which have a pair more to come, two lack one hue -/
theorem two_lack {M L : Nat} {s t z : Int} (hM : M = 3 * L / 2) (L1 : 1 ≤ L) (hs : deg n P s + 1 ≤ L) (ht : deg n P t + 1 ≤ L) (hz : deg n P z ≤ L) : ∃ x : Nat, x < M ∧ ((¬ Has n P C s (x : Int) ∧ ¬ Has n P C t (x : Int)) ∨ (¬ Has n P C s (x : Int) ∧ ¬ Has n P C z (x : Int)) ∨ (¬ Has n P C t (x : Int) ∧ ¬ Has n P C z (x : Int))) := by
  refine Classical.byContradiction fun no => ?_
  have h := cnt_two (l := List.range M) (p := hasB n P C s) (q := hasB n P C t) (r := hasB n P C z) (fun x hx => by
    have hx' := List.mem_range.mp hx
    refine Classical.byContradiction fun w => no ⟨x, hx', ?_⟩
    simp only [hasB_iff] at w
    by_cases a : Has n P C s (x : Int)
    · by_cases b : Has n P C t (x : Int)
      · exact absurd (.inl ⟨a, b⟩) w
      · by_cases c : Has n P C z (x : Int)
        · exact absurd (.inr (.inl ⟨a, c⟩)) w
        · exact .inr (.inr ⟨b, c⟩)
    · by_cases b : Has n P C t (x : Int)
      · by_cases c : Has n P C z (x : Int)
        · exact absurd (.inr (.inr ⟨b, c⟩)) w
        · exact .inr (.inl ⟨a, c⟩)
      · exact .inl ⟨a, b⟩)
  have u1 := used_le (n := n) (P := P) (C := C) M s
  have u2 := used_le (n := n) (P := P) (C := C) M t
  have u3 := used_le (n := n) (P := P) (C := C) M z
  rw [List.length_range] at h
  omega
end
/-! ### the same by lists: what the program does -/
abbrev Pj (ps : List (Int × Int)) : Nat → Int × Int := fun j => ps.getD j (0, 0)
abbrev Cj (cs : List Int) : Nat → Int := fun j => cs.getD j 0
def byF (ps : List (Int × Int)) (cs : List Int) (v h : Int) : Option Nat := (List.range cs.length).find? fun j => decide (Cj cs j = h) && decide (On (Pj ps j) v)
def freeF (ps : List (Int × Int)) (cs : List Int) (M : Nat) (v : Int) : List Int := ((List.range M).map fun (i : Nat) => (i : Int)).filter fun h => (byF ps cs v h).isNone
abbrev ChnL (ps : List (Int × Int)) (cs : List Int) := Chn cs.length (Pj ps) (Cj cs)
abbrev HasL (ps : List (Int × Int)) (cs : List Int) := Has cs.length (Pj ps) (Cj cs)
abbrev PrpL (ps : List (Int × Int)) (cs : List Int) := Prp cs.length (Pj ps) (Cj cs)
open Classical in
noncomputable def chnF (ps : List (Int × Int)) (cs : List Int) (v h o : Int) : List Nat × Option Int := if x : ∃ re : List Nat × Option Int, ChnL ps cs v h o re.1 re.2 then x.choose else ([], none)
def exF (cs : List Int) (r : List Nat) (h o : Int) : List Int := (List.range cs.length).map fun j => flp r h o (Cj cs) j
open Classical in
noncomputable def tryB (ps : List (Int × Int)) (cs : List Int) (s t a : Int) (bs : List Int) : Option Int := bs.find? fun b => decide ((chnF ps cs t a b).2 ≠ some s)
noncomputable def tryF (ps : List (Int × Int)) (cs : List Int) (s t : Int) (as bs : List Int) : Option (Int × Int) := as.findSome? fun a => (tryB ps cs s t a bs).map fun b => (a, b)
noncomputable def directF (ps : List (Int × Int)) (M : Nat) (cs : List Int) (k : Nat) : Option (List Int) := match (freeF ps cs M (Pj ps k).1).filter (fun x => decide (x ∈ freeF ps cs M (Pj ps k).2)) with
  | x :: _ => some (cs ++ [x])
  | [] => match tryF ps cs (Pj ps k).1 (Pj ps k).2 (freeF ps cs M (Pj ps k).1) (freeF ps cs M (Pj ps k).2) with
    | some ab => some (exF cs (chnF ps cs (Pj ps k).2 ab.1 ab.2).1 ab.1 ab.2 ++ [ab.1])
    | none => none
/-- what round_about goes by: the free hue b, the pair that has it, the tie beyond, the hues a and c -/
structure Rnd (ps : List (Int × Int)) (M : Nat) (cs : List Int) (k : Nat) (b a c : Int) (o : Nat) (r : List Nat) (e : Option Int) : Prop where
  hb : ∃ l, freeF ps cs M (Pj ps k).2 = b :: l
  ho : byF ps cs (Pj ps k).1 b = some o
  ha : ∃ l, freeF ps cs M (Pj ps k).1 = a :: l
  hc : ∃ l, (freeF ps cs M (Pj ps k).2).filter (fun x => decide (x ∈ freeF ps cs M ((Pj ps o).1 + (Pj ps o).2 - (Pj ps k).1))) = c :: l
  hr : ChnL ps cs ((Pj ps o).1 + (Pj ps o).2 - (Pj ps k).1) a c r e
def rndF (cs : List Int) (b a c : Int) (o : Nat) (r : List Nat) : List Int := (exF cs r a c).set o a ++ [b]
open Classical in
noncomputable def putF (ps : List (Int × Int)) (M : Nat) (cs : List Int) (k : Nat) : List Int := match directF ps M cs k with
  | some cs' => cs'
  | none => if x : ∃ y : Int × Int × Int × Nat × List Nat × Option Int, Rnd ps M cs k y.1 y.2.1 y.2.2.1 y.2.2.2.1 y.2.2.2.2.1 y.2.2.2.2.2 then rndF cs x.choose.1 x.choose.2.1 x.choose.2.2.1 x.choose.2.2.2.1 x.choose.2.2.2.2.1 else cs
noncomputable def crossF (ps : List (Int × Int)) (M : Nat) : Nat → List Int
  | 0 => []
  | k + 1 => putF ps M (crossF ps M k) k
section
variable {ps : List (Int × Int)} {cs : List Int} {M : Nat}
theorem by_some {v h : Int} {k : Nat} (e : byF ps cs v h = some k) : k < cs.length ∧ Cj cs k = h ∧ On (Pj ps k) v := by
  unfold byF at e
  have h1 := List.mem_of_find?_eq_some e
  have h2 := List.find?_some e
  simp only [Bool.and_eq_true, decide_eq_true_eq] at h2
  exact ⟨List.mem_range.mp h1, h2.1, h2.2⟩
theorem by_none {v h : Int} (e : byF ps cs v h = none) : ¬ HasL ps cs v h := by
  unfold byF at e
  rintro ⟨k, k1, k2, k3⟩
  have := List.find?_eq_none.mp e k (List.mem_range.mpr k1)
  simp only [Bool.and_eq_true, decide_eq_true_eq] at this
  exact this ⟨k2, k3⟩
theorem by_has {v h : Int} (x : HasL ps cs v h) : ∃ k, byF ps cs v h = some k := by
  cases e : byF ps cs v h with
  | some k => exact ⟨k, rfl⟩
  | none => exact absurd x (by_none e)
theorem free_mem {v x : Int} : x ∈ freeF ps cs M v ↔ 0 ≤ x ∧ x < M ∧ ¬ HasL ps cs v x := by
  unfold freeF
  rw [List.mem_filter, List.mem_map]
  constructor
  · rintro ⟨⟨i, hi, rfl⟩, h⟩
    have := List.mem_range.mp hi
    refine ⟨by omega, by omega, ?_⟩
    cases e : byF ps cs v (i : Int) with
    | some k => rw [e] at h; cases h
    | none => exact by_none e
  · rintro ⟨h0, h1, h2⟩
    refine ⟨⟨x.toNat, List.mem_range.mpr (by omega), by omega⟩, ?_⟩
    cases e : byF ps cs v x with
    | some k => exact absurd ⟨k, by_some e⟩ h2
    | none => rfl
theorem chnF_eq {v h o : Int} {r : List Nat} {e : Option Int} (p : PrpL ps cs) (c : ChnL ps cs v h o r e) : chnF ps cs v h o = (r, e) := by
  unfold chnF
  have x : ∃ re : List Nat × Option Int, ChnL ps cs v h o re.1 re.2 := ⟨(r, e), c⟩
  rw [dif_pos x]
  obtain ⟨h1, h2⟩ := Chn.det p x.choose_spec c
  exact Prod.ext h1 h2
theorem ex_len (r : List Nat) (h o : Int) : (exF cs r h o).length = cs.length := by unfold exF; simp
theorem ex_at {r : List Nat} {h o : Int} {j : Nat} (hj : j < cs.length) : Cj (exF cs r h o) j = flp r h o (Cj cs) j := by
  show (exF cs r h o).getD j 0 = _
  unfold exF
  rw [List.getD_eq_getElem?_getD, List.getElem?_map, List.getElem?_range hj]; rfl
theorem snoc_at {x : Int} {j : Nat} (hj : j < cs.length) : Cj (cs ++ [x]) j = Cj cs j := by
  show (cs ++ [x]).getD j 0 = cs.getD j 0
  rw [List.getD_eq_getElem?_getD, List.getD_eq_getElem?_getD, List.getElem?_append_left hj]
theorem snoc_last {x : Int} : Cj (cs ++ [x]) cs.length = x := by
  show (cs ++ [x]).getD cs.length 0 = x
  rw [List.getD_eq_getElem?_getD, List.getElem?_append_right (Nat.le_refl _)]; simp
/-- right hues of the first pairs, all less than M -/
structure Good (ps : List (Int × Int)) (cs : List Int) (M : Nat) : Prop where
  len : cs.length ≤ ps.length
  prp : PrpL ps cs
  bnd : ∀ c ∈ cs, 0 ≤ c ∧ c < M
theorem Good.nil : Good ps [] M := ⟨by simp, (fun i j hi => by simp at hi), fun c z => by cases z⟩
theorem Good.at {c : List Int} (g : Good ps c M) {j : Nat} (hj : j < c.length) : 0 ≤ Cj c j ∧ Cj c j < M := g.bnd _ (by
  show c.getD j 0 ∈ c
  rw [List.getD_eq_getElem?_getD, List.getElem?_eq_getElem hj]
  exact List.getElem_mem hj)
theorem good_of {c : List Int} (l : c.length ≤ ps.length) (p : PrpL ps c) (b : ∀ j, j < c.length → 0 ≤ Cj c j ∧ Cj c j < M) : Good ps c M := ⟨l, p, fun x hx => by
  obtain ⟨j, hj, rfl⟩ := List.mem_iff_getElem.mp hx
  have := b j hj
  have e : Cj c j = c[j] := by show c.getD j 0 = c[j]; rw [List.getD_eq_getElem?_getD, List.getElem?_eq_getElem hj]; rfl
  rwa [e] at this⟩
theorem Good.snoc {x : Int} (g : Good ps cs M) (l : cs.length < ps.length) (h1 : ¬ HasL ps cs (Pj ps cs.length).1 x) (h2 : ¬ HasL ps cs (Pj ps cs.length).2 x) (x0 : 0 ≤ x) (x1 : x < M) : Good ps (cs ++ [x]) M := by
  refine ⟨by simp; omega, ?_, fun c hc => ?_⟩
  · have := g.prp.more (C' := Cj (cs ++ [x])) (fun j hj => snoc_at hj) snoc_last h1 h2
    have e : (cs ++ [x]).length = cs.length + 1 := by simp
    show Prp (cs ++ [x]).length _ _
    rw [e]; exact this
  · rcases List.mem_append.mp hc with hc | hc
    · exact g.bnd c hc
    · rw [List.mem_singleton.mp hc]; exact ⟨x0, x1⟩
theorem Good.ex {v h o : Int} {r : List Nat} {e : Option Int} (g : Good ps cs M) (c : ChnL ps cs v h o r e) (ho : h ≠ o) (no : ¬ HasL ps cs v o) (h0 : 0 ≤ h ∧ h < M) (o0 : 0 ≤ o ∧ o < M) : Good ps (exF cs r h o) M := by
  obtain ⟨_, f2, f3⟩ := c.flip0 g.prp ho no
  refine good_of (by rw [ex_len]; exact g.len) ?_ ?_
  · show Prp (exF cs r h o).length _ _
    rw [ex_len]
    exact f3.congr fun j hj => ex_at hj
  · intro j hj
    rw [ex_len] at hj
    rw [ex_at hj]
    unfold flp
    split
    · rename_i d
      rcases (f2 j d).2 with z | z <;> omega
    · exact g.at hj
theorem has_ex {r : List Nat} {h o v x : Int} : HasL ps (exF cs r h o) v x ↔ Has cs.length (Pj ps) (flp r h o (Cj cs)) v x := by
  show Has (exF cs r h o).length _ _ v x ↔ _
  rw [ex_len]
  exact has_congr fun j hj => ex_at hj
/-- where no hue is free at both ties: what is known -/
structure Apart (ps : List (Int × Int)) (cs : List Int) (M : Nat) (s t : Int) : Prop where
  no : ∀ x, x ∈ freeF ps cs M s → x ∉ freeF ps cs M t
theorem filter_nil {as bs : List Int} (h : as.filter (fun x => decide (x ∈ bs)) = []) : ∀ x, x ∈ as → x ∉ bs := fun x hx hb => by
  have := List.filter_eq_nil_iff.mp h x hx
  simp at this
  exact this hb
theorem tryF_none {s t : Int} {as bs : List Int} (h : tryF ps cs s t as bs = none) : ∀ a ∈ as, ∀ b ∈ bs, (chnF ps cs t a b).2 = some s := fun a ha b hb => by
  unfold tryF at h
  have h1 := List.findSome?_eq_none_iff.mp h a ha
  have h2 : tryB ps cs s t a bs = none := by
    cases e : tryB ps cs s t a bs with
    | none => rfl
    | some b => rw [e] at h1; cases h1
  unfold tryB at h2
  have := List.find?_eq_none.mp h2 b hb
  simpa using this
theorem tryF_some {s t : Int} {as bs : List Int} {ab : Int × Int} (h : tryF ps cs s t as bs = some ab) : ab.1 ∈ as ∧ ab.2 ∈ bs ∧ (chnF ps cs t ab.1 ab.2).2 ≠ some s := by
  unfold tryF at h
  obtain ⟨a, ha, h1⟩ := List.exists_of_findSome?_eq_some h
  obtain ⟨b, hb, rfl⟩ := Option.map_eq_some_iff.mp h1
  unfold tryB at hb
  have h2 := List.find?_some hb
  simp at h2
  exact ⟨ha, List.mem_of_find?_eq_some hb, h2⟩
/-- a chain from the second tie by free hues that are unlike -/
theorem chn_at {t a b : Int} {s : Int} (g : Good ps cs M) (ap : Apart ps cs M s t) (ha : a ∈ freeF ps cs M s) (hb : b ∈ freeF ps cs M t) : a ≠ b ∧ ¬ HasL ps cs t b ∧ ¬ HasL ps cs s a ∧ ∃ r e, ChnL ps cs t a b r e ∧ chnF ps cs t a b = (r, e) := by
  have ne : a ≠ b := fun z => ap.no a ha (z ▸ hb)
  have nb := (free_mem.mp hb).2.2
  obtain ⟨r, e, c⟩ := chn_ex g.prp ne nb
  exact ⟨ne, nb, (free_mem.mp ha).2.2, r, e, c, chnF_eq g.prp c⟩
theorem direct_good {k : Nat} {cs' : List Int} (g : Good ps cs M) (hk : cs.length = k) (hl : k < ps.length) (h : directF ps M cs k = some cs') : Good ps cs' M ∧ cs'.length = k + 1 := by
  subst hk
  unfold directF at h
  split at h
  · rename_i x l e
    cases h
    have hx : x ∈ (freeF ps cs M (Pj ps cs.length).1).filter (fun x => decide (x ∈ freeF ps cs M (Pj ps cs.length).2)) := by rw [e]; exact List.mem_cons_self
    obtain ⟨h1, h2⟩ := List.mem_filter.mp hx
    have h2' : x ∈ freeF ps cs M (Pj ps cs.length).2 := by simpa using h2
    obtain ⟨a1, a2, a3⟩ := free_mem.mp h1
    exact ⟨g.snoc hl a3 (free_mem.mp h2').2.2 a1 a2, by simp⟩
  · rename_i e
    split at h
    · rename_i ab e2
      cases h
      obtain ⟨h1, h2, h3⟩ := tryF_some e2
      obtain ⟨ne, nb, na, r, en, c, ce⟩ := chn_at g ⟨filter_nil e⟩ h1 h2
      rw [ce] at h3 ⊢
      obtain ⟨a1, a2, _⟩ := free_mem.mp h1
      obtain ⟨b1, b2, _⟩ := free_mem.mp h2
      have g2 := g.ex c ne nb ⟨a1, a2⟩ ⟨b1, b2⟩
      have l2 := ex_len (cs := cs) r ab.1 ab.2
      refine ⟨g2.snoc (by rw [l2]; exact hl) ?_ ?_ a1 a2, by simp [l2]⟩
      · rw [l2, has_ex]; exact c.keeps ne na h3
      · rw [l2, has_ex]; exact c.frees g.prp nb
    · cases h
theorem head_ex {v : Int} (h : deg cs.length (Pj ps) v < M) : ∃ x l, freeF ps cs M v = x :: l := by
  obtain ⟨x, h1, h2⟩ := lack_ex (C := Cj cs) h
  have : (x : Int) ∈ freeF ps cs M v := free_mem.mpr ⟨by omega, by omega, h2⟩
  cases e : freeF ps cs M v with
  | nil => rw [e] at this; cases this
  | cons y l => exact ⟨y, l, rfl⟩
theorem deg_mono {n m : Nat} {P : Nat → Int × Int} {v : Int} (h : n ≤ m) : deg n P v ≤ deg m P v := by
  unfold deg
  obtain ⟨d, rfl⟩ := Nat.exists_eq_add_of_le h
  rw [List.range_add, List.countP_append]
  omega
theorem deg_next {n m : Nat} {P : Nat → Int × Int} {v : Int} (h : n < m) (on : On (P n) v) : deg n P v + 1 ≤ deg m P v := by
  refine Nat.le_trans ?_ (deg_mono (n := n + 1) h)
  unfold deg
  rw [List.range_succ, List.countP_append, List.countP_singleton]
  simp [on]
/-- where direct fails: what round_about goes by is there, and what it makes is right -/
theorem rnd_ex {k L : Nat} (g : Good ps cs M) (hk : cs.length = k) (hl : k < ps.length) (hM : M = 3 * L / 2) (hL : ∀ v, deg ps.length (Pj ps) v ≤ L) (h : directF ps M cs k = none) : ∃ b a c o r e, Rnd ps M cs k b a c o r e := by
  subst hk
  have ds := deg_next (P := Pj ps) hl (.inl rfl : On (Pj ps cs.length) (Pj ps cs.length).1)
  have dt := deg_next (P := Pj ps) hl (.inr rfl : On (Pj ps cs.length) (Pj ps cs.length).2)
  have Ls := hL (Pj ps cs.length).1
  have Lt := hL (Pj ps cs.length).2
  unfold directF at h
  split at h
  · cases h
  rename_i e
  split at h
  · cases h
  rename_i e2
  have ap : Apart ps cs M (Pj ps cs.length).1 (Pj ps cs.length).2 := ⟨filter_nil e⟩
  have all := tryF_none e2
  obtain ⟨a, la, ha⟩ := head_ex (ps := ps) (cs := cs) (M := M) (v := (Pj ps cs.length).1) (by omega)
  obtain ⟨b, lb, hb⟩ := head_ex (ps := ps) (cs := cs) (M := M) (v := (Pj ps cs.length).2) (by omega)
  have am : a ∈ freeF ps cs M (Pj ps cs.length).1 := by rw [ha]; exact List.mem_cons_self
  have bm : b ∈ freeF ps cs M (Pj ps cs.length).2 := by rw [hb]; exact List.mem_cons_self
  have st : (Pj ps cs.length).1 ≠ (Pj ps cs.length).2 := fun z => ap.no a am (by rw [← z]; exact am)
  have key : ∀ a', a' ∈ freeF ps cs M (Pj ps cs.length).1 → ∀ b', b' ∈ freeF ps cs M (Pj ps cs.length).2 → ∃ k, k < cs.length ∧ Cj cs k = b' ∧ On (Pj ps k) (Pj ps cs.length).1 ∧ (Pj ps k).1 ≠ (Pj ps k).2 ∧ HasL ps cs ((Pj ps k).1 + (Pj ps k).2 - (Pj ps cs.length).1) a' ∧ Rn cs.length (Pj ps) (Cj cs) ((Pj ps cs.length).2, a', b') ((Pj ps cs.length).1, a', b') := fun a' ha' b' hb' => by
    obtain ⟨ne, nb, na, r, en, c, ce⟩ := chn_at g ap ha' hb'
    have := all a' ha' b' hb'
    rw [ce] at this
    simp only at this
    subst this
    exact c.back g.prp ne st na
  obtain ⟨k, k1, k2, k3, k4, k5, k6⟩ := key a am b bm
  obtain ⟨o, ho⟩ := by_has (ps := ps) (cs := cs) ⟨k, k1, k2, k3⟩
  obtain ⟨o1, o2, o3⟩ := by_some ho
  have ok : o = k := g.prp.one o1 k1 (by rw [o2, k2]) o3 k3
  subst ok
  obtain ⟨oz, ozs⟩ := other_end k3 k4
  -- a hue that is free at t and z
  have hz : ∀ x, x ∈ freeF ps cs M (Pj ps cs.length).1 → HasL ps cs ((Pj ps o).1 + (Pj ps o).2 - (Pj ps cs.length).1) x := fun x hx => by
    obtain ⟨j, j1, j2, j3, j4, j5, _⟩ := key x hx b bm
    have : j = o := g.prp.one j1 k1 (by rw [j2, k2]) j3 k3
    subst this
    exact j5
  obtain ⟨x, x1, x2⟩ := two_lack (C := Cj cs) hM (by omega) (s := (Pj ps cs.length).1) (t := (Pj ps cs.length).2) (z := (Pj ps o).1 + (Pj ps o).2 - (Pj ps cs.length).1) (Nat.le_trans ds Ls) (Nat.le_trans dt Lt) (Nat.le_trans (deg_mono (by omega)) (hL _))
  have xm : (x : Int) ∈ (freeF ps cs M (Pj ps cs.length).2).filter (fun x => decide (x ∈ freeF ps cs M ((Pj ps o).1 + (Pj ps o).2 - (Pj ps cs.length).1))) := by
    rw [List.mem_filter]
    rcases x2 with ⟨y1, y2⟩ | ⟨y1, y2⟩ | ⟨y1, y2⟩
    · exact absurd (free_mem.mpr ⟨by omega, by omega, y2⟩) (ap.no x (free_mem.mpr ⟨by omega, by omega, y1⟩))
    · exact absurd (hz x (free_mem.mpr ⟨by omega, by omega, y1⟩)) y2
    · exact ⟨free_mem.mpr ⟨by omega, by omega, y1⟩, by simpa using free_mem.mpr ⟨by omega, by omega, y2⟩⟩
  obtain ⟨c, lc, hc⟩ : ∃ c l, (freeF ps cs M (Pj ps cs.length).2).filter (fun x => decide (x ∈ freeF ps cs M ((Pj ps o).1 + (Pj ps o).2 - (Pj ps cs.length).1))) = c :: l := by
    cases e3 : (freeF ps cs M (Pj ps cs.length).2).filter (fun x => decide (x ∈ freeF ps cs M ((Pj ps o).1 + (Pj ps o).2 - (Pj ps cs.length).1))) with
    | nil => rw [e3] at xm; cases xm
    | cons y l => exact ⟨y, l, rfl⟩
  have cm : c ∈ (freeF ps cs M (Pj ps cs.length).2).filter (fun x => decide (x ∈ freeF ps cs M ((Pj ps o).1 + (Pj ps o).2 - (Pj ps cs.length).1))) := by rw [hc]; exact List.mem_cons_self
  obtain ⟨c1, c2⟩ := List.mem_filter.mp cm
  have c2' : c ∈ freeF ps cs M ((Pj ps o).1 + (Pj ps o).2 - (Pj ps cs.length).1) := by simpa using c2
  have ac : a ≠ c := fun z => ap.no a am (z ▸ c1)
  obtain ⟨r, en, ch⟩ := chn_ex g.prp ac (free_mem.mp c2').2.2
  exact ⟨b, a, c, o, r, en, ⟨lb, hb⟩, ho, ⟨la, ha⟩, ⟨lc, hc⟩, ch⟩
theorem Rnd.one {k : Nat} {b a c b' a' c' : Int} {o o' : Nat} {r r' : List Nat} {e e' : Option Int} (p : PrpL ps cs) (x : Rnd ps M cs k b a c o r e) (y : Rnd ps M cs k b' a' c' o' r' e') : b = b' ∧ a = a' ∧ c = c' ∧ o = o' ∧ r = r' := by
  obtain ⟨⟨_, h1⟩, h2, ⟨_, h3⟩, ⟨_, h4⟩, h5⟩ := x
  obtain ⟨⟨_, g1⟩, g2, ⟨_, g3⟩, ⟨_, g4⟩, g5⟩ := y
  rw [h1] at g1
  obtain ⟨rfl, _⟩ := List.cons.inj g1
  rw [h2] at g2
  cases g2
  rw [h3] at g3
  obtain ⟨rfl, _⟩ := List.cons.inj g3
  rw [h4] at g4
  obtain ⟨rfl, _⟩ := List.cons.inj g4
  exact ⟨rfl, rfl, rfl, rfl, (Chn.det p h5 g5).1⟩
theorem putF_direct {k : Nat} {cs' : List Int} (h : directF ps M cs k = some cs') : putF ps M cs k = cs' := by
  unfold putF; rw [h]
theorem putF_rnd {k : Nat} {b a c : Int} {o : Nat} {r : List Nat} {e : Option Int} (p : PrpL ps cs) (h : directF ps M cs k = none) (x : Rnd ps M cs k b a c o r e) : putF ps M cs k = rndF cs b a c o r := by
  unfold putF
  have ex : ∃ y : Int × Int × Int × Nat × List Nat × Option Int, Rnd ps M cs k y.1 y.2.1 y.2.2.1 y.2.2.2.1 y.2.2.2.2.1 y.2.2.2.2.2 := ⟨(b, a, c, o, r, e), x⟩
  simp only [h]
  rw [dif_pos ex]
  obtain ⟨h1, h2, h3, h4, h5⟩ := Rnd.one p ex.choose_spec x
  rw [h1, h2, h3, h4, h5]
theorem set_at {o j : Nat} {a : Int} (h : o < cs.length) : Cj (cs.set o a) j = if j = o then a else Cj cs j := by
  show (cs.set o a).getD j 0 = _
  rw [List.getD_eq_getElem?_getD, List.getElem?_set]
  by_cases c : o = j
  · subst c; rw [if_pos rfl, if_pos h, if_pos rfl]; rfl
  · rw [if_neg c, if_neg (fun z => c z.symm), ← List.getD_eq_getElem?_getD]
theorem rnd_good {k L : Nat} {b a c : Int} {o : Nat} {r : List Nat} {e : Option Int} (g : Good ps cs M) (hk : cs.length = k) (hl : k < ps.length) (h : directF ps M cs k = none) (x : Rnd ps M cs k b a c o r e) : Good ps (rndF cs b a c o r) M ∧ (rndF cs b a c o r).length = k + 1 := by
  subst hk
  unfold directF at h
  split at h
  · cases h
  rename_i e1
  split at h
  · cases h
  rename_i e2
  have ap : Apart ps cs M (Pj ps cs.length).1 (Pj ps cs.length).2 := ⟨filter_nil e1⟩
  have all := tryF_none e2
  obtain ⟨⟨lb, hb⟩, ho, ⟨la, ha⟩, ⟨lc, hc⟩, ch⟩ := x
  have am : a ∈ freeF ps cs M (Pj ps cs.length).1 := by rw [ha]; exact List.mem_cons_self
  have bm : b ∈ freeF ps cs M (Pj ps cs.length).2 := by rw [hb]; exact List.mem_cons_self
  have cm : c ∈ (freeF ps cs M (Pj ps cs.length).2).filter (fun x => decide (x ∈ freeF ps cs M ((Pj ps o).1 + (Pj ps o).2 - (Pj ps cs.length).1))) := by rw [hc]; exact List.mem_cons_self
  obtain ⟨c1, c2⟩ := List.mem_filter.mp cm
  have c2' : c ∈ freeF ps cs M ((Pj ps o).1 + (Pj ps o).2 - (Pj ps cs.length).1) := by simpa using c2
  have ac : a ≠ c := fun z => ap.no a am (z ▸ c1)
  have st : (Pj ps cs.length).1 ≠ (Pj ps cs.length).2 := fun z => ap.no a am (by rw [← z]; exact am)
  have key : ∀ b', b' ∈ freeF ps cs M (Pj ps cs.length).2 → ∃ k, k < cs.length ∧ Cj cs k = b' ∧ On (Pj ps k) (Pj ps cs.length).1 ∧ (Pj ps k).1 ≠ (Pj ps k).2 ∧ HasL ps cs ((Pj ps k).1 + (Pj ps k).2 - (Pj ps cs.length).1) a ∧ Rn cs.length (Pj ps) (Cj cs) ((Pj ps cs.length).2, a, b') ((Pj ps cs.length).1, a, b') := fun b' hb' => by
    obtain ⟨ne, nb, na, r, en, c, ce⟩ := chn_at g ap am hb'
    have := all a am b' hb'
    rw [ce] at this
    simp only at this
    subst this
    exact c.back g.prp ne st na
  obtain ⟨o1, o2, o3⟩ := by_some ho
  obtain ⟨k, k1, k2, k3, k4, k5, k6⟩ := key b bm
  have ok : o = k := g.prp.one o1 k1 (by rw [o2, k2]) o3 k3
  subst ok
  obtain ⟨oz, ozs⟩ := other_end k3 k4
  obtain ⟨a0, a1, na⟩ := free_mem.mp am
  obtain ⟨b0, b1, nb⟩ := free_mem.mp bm
  obtain ⟨c0, c1', nct⟩ := free_mem.mp c1
  have ncz := (free_mem.mp c2').2.2
  have ab : a ≠ b := fun z => na (z ▸ ⟨o, o1, o2, o3⟩)
  have cb : c ≠ b := fun z => ncz (z ▸ ⟨o, o1, o2, oz⟩)
  -- the chain from beyond does not end at the first tie
  have hen : e ≠ some (Pj ps cs.length).1 := fun z => by
    obtain ⟨x, y, g1, g2, g3⟩ := ch.run z
    have fin : Rn cs.length (Pj ps) (Cj cs) ((Pj ps o).1 + (Pj ps o).2 - (Pj ps cs.length).1, a, c) ((Pj ps cs.length).1, a, c) := by
      rcases g3 with ⟨rfl, rfl⟩ | ⟨rfl, rfl⟩
      · exact g1
      · rcases g1.last with z | ⟨u, q1, q2⟩
        · simp only [Prod.mk.injEq] at z
          exact absurd z.1 ozs
        · obtain ⟨l, l1, l2, l3, l4, l5⟩ := q2
          simp only [Prod.mk.injEq] at l5
          exact absurd ⟨l, l1, by rw [l2, ← l5.2.2], by rw [l5.1]; exact (other_end l3 l4).1⟩ na
    obtain ⟨_, _, _, _, _, _, k6'⟩ := key c c1
    have := Rn.inj g.prp fin k6' (no_pre ncz) (no_pre nct)
    simp only [Prod.mk.injEq] at this
    exact nb ⟨o, o1, o2, this.1 ▸ oz⟩
  have g2 := g.ex ch ac ncz ⟨a0, a1⟩ ⟨c0, c1'⟩
  have l2 := ex_len (cs := cs) r a c
  have nsa : ¬ HasL ps (exF cs r a c) (Pj ps cs.length).1 a := by rw [has_ex]; exact ch.keeps ac na hen
  have nza : ¬ HasL ps (exF cs r a c) ((Pj ps o).1 + (Pj ps o).2 - (Pj ps cs.length).1) a := by rw [has_ex]; exact ch.frees g.prp ncz
  obtain ⟨_, f2, _⟩ := ch.flip0 g.prp ac ncz
  -- what has b stays
  have stay : ∀ j, j < cs.length → (Cj (exF cs r a c) j = b ↔ Cj cs j = b) := fun j hj => by
    rw [ex_at hj]
    unfold flp
    by_cases d : j ∈ r
    · rw [if_pos d]
      rcases (f2 j d).2 with z | z <;> omega
    · rw [if_neg d]
  have l3 : ((exF cs r a c).set o a).length = cs.length := by rw [List.length_set, l2]
  have at3 : ∀ j, Cj ((exF cs r a c).set o a) j = if j = o then a else Cj (exF cs r a c) j := fun j => set_at (by rw [l2]; exact o1)
  have free3 : ∀ j, j < cs.length → j ≠ o → Cj (exF cs r a c) j = a → ∀ v, On (Pj ps o) v → ¬ On (Pj ps j) v := fun j hj jo ej v ov jv => by
    rcases end_of o3 ov with z | z
    · subst z; exact nsa ⟨j, by rw [l2]; exact hj, ej, jv⟩
    · subst z; exact nza ⟨j, by rw [l2]; exact hj, ej, jv⟩
  have g3 : Good ps ((exF cs r a c).set o a) M := by
    refine good_of (by rw [l3]; exact g.len) ?_ ?_
    · show Prp ((exF cs r a c).set o a).length _ _
      rw [l3]
      intro i j hi hj ij eij v iv jv
      rw [at3, at3] at eij
      by_cases ci : i = o
      · subst ci
        rw [if_pos rfl, if_neg (fun z => ij z.symm)] at eij
        exact free3 j hj (fun z => ij z.symm) eij.symm v iv jv
      · rw [if_neg ci] at eij
        by_cases cj : j = o
        · subst cj
          rw [if_pos rfl] at eij
          exact free3 i hi ci eij v jv iv
        · rw [if_neg cj] at eij
          exact g2.prp i j (by rw [l2]; exact hi) (by rw [l2]; exact hj) ij eij v iv jv
    · intro j hj
      rw [l3] at hj
      rw [at3]
      split
      · exact ⟨a0, a1⟩
      · exact g2.at (by rw [l2]; exact hj)
  have nob : ∀ v, (∀ j, j < cs.length → Cj cs j = b → On (Pj ps j) v → j = o) → ¬ HasL ps ((exF cs r a c).set o a) v b := fun v hv => by
    rintro ⟨j, j1, j2, j3⟩
    rw [l3] at j1
    rw [at3] at j2
    by_cases cj : j = o
    · rw [if_pos cj] at j2; exact ab j2
    · rw [if_neg cj] at j2
      exact cj (hv j j1 ((stay j j1).mp j2) j3)
  unfold rndF
  refine ⟨g3.snoc (by rw [l3]; exact hl) ?_ ?_ b0 b1, by simp [l3]⟩
  · rw [l3]
    exact nob _ fun j j1 j2 j3 => g.prp.one j1 o1 (by rw [j2, o2]) j3 o3
  · rw [l3]
    exact nob _ fun j j1 j2 j3 => absurd ⟨j, j1, j2, j3⟩ nb
theorem put_good {k L : Nat} (g : Good ps cs M) (hk : cs.length = k) (hl : k < ps.length) (hM : M = 3 * L / 2) (hL : ∀ v, deg ps.length (Pj ps) v ≤ L) : Good ps (putF ps M cs k) M ∧ (putF ps M cs k).length = k + 1 := by
  cases h : directF ps M cs k with
  | some cs' => rw [putF_direct h]; exact direct_good g hk hl h
  | none =>
    obtain ⟨b, a, c, o, r, e, x⟩ := rnd_ex g hk hl hM hL h
    rw [putF_rnd g.prp h x]
    exact rnd_good (L := L) g hk hl h x
theorem cross_good {L : Nat} (hM : M = 3 * L / 2) (hL : ∀ v, deg ps.length (Pj ps) v ≤ L) : ∀ k, k ≤ ps.length → Good ps (crossF ps M k) M ∧ (crossF ps M k).length = k
  | 0, _ => ⟨Good.nil, rfl⟩
  | k + 1, h => by
    obtain ⟨g, l⟩ := cross_good hM hL k (by omega)
    exact put_good g l (by omega) hM hL
/-- the load -/
def IsLoad (ps : List (Int × Int)) (L : Nat) : Prop := (∀ v, deg ps.length (Pj ps) v ≤ L) ∧ (L = 0 ∨ ∃ v, deg ps.length (Pj ps) v = L)
theorem IsLoad.one {L L' : Nat} (a : IsLoad ps L) (b : IsLoad ps L') : L = L' := by
  obtain ⟨a1, a2⟩ := a
  obtain ⟨b1, b2⟩ := b
  rcases a2 with rfl | ⟨v, rfl⟩
  · rcases b2 with rfl | ⟨w, rfl⟩
    · rfl
    · have := a1 w; omega
  · rcases b2 with rfl | ⟨w, rfl⟩
    · have := b1 v; omega
    · have := a1 w; have := b1 v; omega
end


def pr_must_be_crossing (K : PySem.W.Frag) (v0 : V) (H : Hp) (Q : VK) (_ : XK) : Prop := ∃ (many : Int) (ps : List (Int × Int)), Dp K H v0 (.tuple [.int many, dPairs ps]) ∧ (0 ≤ many ∧ many ≤ 60 ∧ ps.length ≤ 60 ∧ ∀ p ∈ ps, 0 ≤ p.1 ∧ p.1 ≤ p.2 ∧ p.2 < many) ∧ Q .non H
def t_must_be_crossing (K : PySem.W.Frag) : TS :=
  (tSeq (tAsg (tVar 0) (gTup K 2 (gCons (gName 1) (gCons (gName 2) gNil))))
    (tSeq (tIfS (tOr (tTest (tOp xLt (tVar 1) (tC (.int 0)))) (tOr (tTest (tOp xGt (tVar 1) (tC (.int 60)))) (tTest (tOp xGt (tCB (rLenX K) (tCons (tVar 2) tNil)) (tC (.int 60)))))) tNever tNext)
    (tFor (iList K (tVar 2)) (gTup K 2 (gCons (gName 3) (gCons (gName 4) gNil)))
      (tIfS (tOr (tTest (tOp xLt (tVar 3) (tC (.int 0)))) (tOr (tTest (tOp xGt (tVar 3) (tVar 4))) (tTest (tOp xGe (tVar 4) (tVar 1))))) tNever tNext))))
theorem pure_must_be_crossing {v0 : V} {H : Hp} {Q : VK} {E : XK} (hh : pr_must_be_crossing K v0 H Q E) : t_must_be_crossing K ⟨fun _ H' => Q .non H', Q, fun _ _ => False, fun _ _ => False⟩ [some v0, none, none, none, none] H := by
  obtain ⟨many, ps, d0, ⟨k0, k1, k2, k3⟩, q⟩ := hh
  obtain ⟨a, x, y, rfl, hs, hx, hy⟩ := dp_tup2 d0
  obtain rfl := dp_int hx
  obtain ⟨b, ys, rfl, hb, hys⟩ := dp_list hy
  have ly : ys.length = ps.length := by rw [dpa_len hys, List.length_map]
  unfold t_must_be_crossing
  wtm_at "s"
  refine forL hb (fun i σ' H' => H' = H ∧ ∃ k3 k4, σ' = [some (.ref a), some (.int many), some (.ref b), k3, k4]) ⟨rfl, _, _, rfl⟩ (fun i σ' H' _ e => e.1 ▸ hb) ?_ (fun σ' H' ⟨e, _⟩ => e ▸ q)
  rintro i x σ' H' hxi ⟨rfl, k3', k4, rfl⟩
  obtain ⟨p, c, hp, rfl, hc⟩ := dpairs_get hys hxi
  obtain ⟨p1, p2, p3⟩ := k3 p (List.mem_of_getElem? hp)
  wtm_at "s"
  exact ⟨rfl, _, _, rfl⟩
abbrev sp_must_be_crossing (K : PySem.W.Frag) : Sp := fun vs H Q E => ∃ v0, vs = [v0] ∧ pr_must_be_crossing K v0 H Q E
theorem ok_must_be_crossing (T : Txt K mg A) : FnOk P w K mg base CX0 1 A.a_must_be_crossing A.d_must_be_crossing ["crossing"] (sp_must_be_crossing K) := by
  refine T.F_must_be_crossing.ok sc_must_be_crossing (fun vs H Q E h => by obtain ⟨v0, rfl, _⟩ := h; rfl) (fun cdv A0 outer s H vs Q E hr h => ?_)
  obtain ⟨v0, rfl, h⟩ := h
  exact ⟨t_must_be_crossing K, (pss_cons (ps_asg (pv 0) (pg_tup (by rfl) (pgs_cons (pg_name (i := 1) sc_must_be_crossing.nd rfl (Or.inl rfl)) (pgs_cons (pg_name (i := 2) sc_must_be_crossing.nd rfl (Or.inl rfl)) pgs_nil))))
      (pss_cons (ps_if (PW.pt (pw_or (pt_cmpR op_lt (pv 1) pe_int (nomark _)) (pw_or (pt_cmpR op_gt (pv 1) (pe_glob (v := .int 60) (by rfl) T.c_MOST_TIES ⟨_, rfl⟩) (nomark _)) (pw_or1 (pt_cmpR op_gt (pe_callB q_len (by rfl) T.z_len (by decide +kernel) (pa_cons (pv 2) pa_nil)) (pe_glob (v := .int 60) (by rfl) T.c_MOST_PAIRS ⟨_, rfl⟩) (nomark _)))))) (pss_one ps_never) pss_nil)
      (pss_one (ps_for PassesOwn.never rfl (pi_list (pv 2)) (pg_tup (by rfl) (pgs_cons (pg_name (i := 3) sc_must_be_crossing.nd rfl (Or.inl rfl)) (pgs_cons (pg_name (i := 4) sc_must_be_crossing.nd rfl (Or.inl rfl)) pgs_nil)))
      (pss_one (ps_if (PW.pt (pw_or (pt_cmpR op_lt (pv 3) pe_int (nomark _)) (pw_or (pt_cmpR op_gt (pv 3) (pv 4) (nomark _)) (pw_or1 (pt_cmpR op_ge (pv 4) (pv 1) (nomark _)))))) (pss_one ps_never) pss_nil)))))), pure_must_be_crossing h⟩
abbrev dCr (many : Int) (ps : List (Int × Int)) : PyData := .tuple [.int many, dPairs ps]
/-- a crossing -/
def CrOk (many : Int) (ps : List (Int × Int)) : Prop := 0 ≤ many ∧ many ≤ 60 ∧ ps.length ≤ 60 ∧ ∀ p ∈ ps, 0 ≤ p.1 ∧ p.1 ≤ p.2 ∧ p.2 < many
theorem dp_cr {H : Hp} {v : V} {many : Int} {ps : List (Int × Int)} (h : Dp K H v (dCr many ps)) : ∃ a b ys, v = .ref a ∧ SqT K H a [.int many, .ref b] ∧ SqL K H b ys ∧ DpAll K H ys (ps.map dPair) ∧ ys.length = ps.length := by
  obtain ⟨a, x, y, rfl, hs, hx, hy⟩ := dp_tup2 h
  obtain rfl := dp_int hx
  obtain ⟨b, ys, rfl, hb, hys⟩ := dp_list hy
  exact ⟨a, b, ys, rfl, hs, hb, hys, by rw [dpa_len hys, List.length_map]⟩
def pr_load_at (K : PySem.W.Frag) (v0 : V) (H : Hp) (Q : VK) (_ : XK) : Prop := ∃ (many : Int) (ps : List (Int × Int)), Dp K H v0 (dCr many ps) ∧ CrOk many ps ∧ ∀ L H', IsLoad ps L → Same H H' → Q (.int ((L : Nat) : Int)) H'
def t_load_at (K : PySem.W.Frag) : TS :=
  (tSeq (tAsg (tVar 0) (gTup K 2 (gCons (gName 1) (gCons (gName 2) gNil))))
    (tRet (tCB (rMax K) (tCons (tOp rCat (tLst (tCons (tC (.int 0)) tNil)) (tLc (iRng1 (tCons (tVar 1) tNil)) (gName 3) tYes (tCB (rLenX K) (tCons (tLc (iList K (tVar 2)) (gName 4) (tTest (tOp (rIn K false) (tVar 3) (tVar 4))) (tVar 4) [4]) tNil)) [3])) tNil))))
theorem deg_list (ps : List (Int × Int)) (v : Int) : ps.countP (fun p => decide (On p v)) = deg ps.length (Pj ps) v := by
  unfold deg
  have key : ∀ n, n ≤ ps.length → (ps.take n).countP (fun p => decide (On p v)) = (List.range n).countP fun j => decide (On (Pj ps j) v) := by
    intro n
    induction n with
    | zero => intro _; rfl
    | succ n ih =>
      intro h
      have e : ps[n]? = some (Pj ps n) := by
        show ps[n]? = some (ps.getD n (0, 0))
        rw [List.getD_eq_getElem?_getD, List.getElem?_eq_getElem (by omega)]; rfl
      rw [List.take_add_one, e, List.countP_append, ih (by omega), List.range_succ, List.countP_append]
      rfl
  have := key ps.length (Nat.le_refl _)
  rwa [List.take_length] at this
theorem deg_out {many : Int} {ps : List (Int × Int)} (ok : CrOk many ps) {v : Int} (h : v < 0 ∨ many ≤ v) : deg ps.length (Pj ps) v = 0 := by
  rw [← deg_list, List.countP_eq_zero]
  intro p hp
  have := ok.2.2.2 p hp
  simp only [decide_eq_true_eq]
  unfold On
  omega
theorem load_of {many : Int} {ps : List (Int × Int)} (ok : CrOk many ps) {L : Int} (h0 : L = 0 ∨ ∃ v : Nat, (v : Int) < many ∧ L = ((deg ps.length (Pj ps) (v : Int) : Nat) : Int)) (h1 : ∀ v : Nat, (v : Int) < many → ((deg ps.length (Pj ps) (v : Int) : Nat) : Int) ≤ L) (hz : 0 ≤ L) : ∃ N : Nat, L = N ∧ IsLoad ps N := by
  refine ⟨L.toNat, by omega, fun v => ?_, ?_⟩
  · by_cases c : v < 0 ∨ many ≤ v
    · rw [deg_out ok c]; omega
    · have := h1 v.toNat (by omega)
      rw [show ((v.toNat : Nat) : Int) = v by omega] at this
      omega
  · rcases h0 with h | ⟨v, _, h⟩
    · exact .inl (by omega)
    · exact .inr ⟨v, by omega⟩
theorem in_fm {ps : List (Int × Int)} {xs : List V} {v : Int} (hl : xs.length = ps.length) : ((ps.zip xs).filterMap fun q => if On q.1 v then some q.2 else none).length = deg ps.length (Pj ps) v := by
  rw [← deg_list]
  induction ps generalizing xs with
  | nil => simp
  | cons p r ih => cases xs with
    | nil => simp at hl
    | cons x xs =>
      rw [List.zip_cons_cons, List.filterMap_cons, List.countP_cons]
      have := ih (xs := xs) (by simpa using hl)
      by_cases c : On p v
      · simp only [c, if_true, decide_true]
        rw [List.length_cons, this]
      · simp only [c, if_false, decide_false]
        rw [this]; simp
theorem pure_load_at {v0 : V} {H : Hp} {Q : VK} {E : XK} (hh : pr_load_at K v0 H Q E) : t_load_at K ⟨fun _ H' => Q .non H', Q, fun _ _ => False, fun _ _ => False⟩ [some v0, none, none, none, none] H := by
  obtain ⟨many, ps, d0, ok, q⟩ := hh
  obtain ⟨a, b, ys, rfl, ha, hb, hys, ly⟩ := dp_cr d0
  obtain ⟨k0, k1, k2, k3⟩ := id ok
  unfold t_load_at
  wtm_at "s"
  refine kL (by simp) (fun z H1 nz s1 e1 => ?_)
  wtm_at "s"
  refine lc_growR (by omega) (fun i => some (V.int ((deg ps.length (Pj ps) ((i : Nat) : Int) : Nat) : Int))) ?_ (fun D H2 nD s2 eD => ?_)
  · intro i H' hi sm R R0 g1 g2
    have s' := s1.trans sm
    rw [Int.zero_add]
    have hb' := s'.seq hb
    wtm_at "s"
    refine lc_pure hb' (ps.zip ys) (by simp; omega) (by simp; omega) (fun q => if On q.1 (i : Int) then some q.2 else none) ?_ (fun D3 H3 nD3 s3 e3 => ?_)
    · intro j x p H'' hx hp sm2 R R0 h1 h2
      have hz := List.getElem?_zip_eq_some.mp hp
      obtain ⟨d, hd1, hd2⟩ := dpa_get hys hx
      rw [List.getElem?_map, hz.1] at hd1
      cases hd1
      obtain ⟨c, rfl, hc⟩ := dp_pair hd2
      have hc' := same_seqT (s'.trans sm2) hc
      have ep : p.2 = .ref c := by have := hz.2; rw [hx] at this; exact (Option.some.inj this).symm
      wtm_at "s"
      refine k_inT2 hc' ?_
      wtm_at "s"
      refine k_it (fun d => ?_) (fun d => ?_)
      · wtm_at "s"
        exact h1 _ (by rw [if_pos (by unfold On; omega), ep])
      · exact h2 (if_neg (by unfold On; omega))
    wtm_at "s"
    rw [in_fm ly]
    exact g1 _ _ rfl s3
  rw [fm_map] at eD
  have eD' : H2 D = some (.lst (((List.range many.toNat).map fun (i : Nat) => ((deg ps.length (Pj ps) ((i : Nat) : Int) : Nat) : Int)).map V.int)) := by rw [eD, List.map_map]; rfl
  refine k_catN (s2 _ _ e1) eD' (by simp; omega) (fun l H3 nl s3 e3 => ?_)
  have e3' : H3 l = some (.lst ((0 :: (List.range many.toNat).map fun (i : Nat) => ((deg ps.length (Pj ps) ((i : Nat) : Int) : Nat) : Int)).map V.int)) := e3
  wtm_at "s"
  refine k_max (sl e3') (by simp) (fun L h1 h2 => ?_)
  obtain ⟨N, rfl, hN⟩ := load_of ok (L := L) (by
    rcases List.mem_cons.mp h1 with h | h
    · exact .inl h
    · obtain ⟨v, hv, rfl⟩ := List.mem_map.mp h
      have := List.mem_range.mp hv
      exact .inr ⟨v, by omega, rfl⟩) (fun v hv => h2 _ (List.mem_cons_of_mem _ (List.mem_map.mpr ⟨v, List.mem_range.mpr (by omega), rfl⟩))) (h2 0 List.mem_cons_self)
  exact q N H3 hN (s1.trans (s2.trans s3))
abbrev sp_load_at (K : PySem.W.Frag) : Sp := fun vs H Q E => ∃ v0, vs = [v0] ∧ pr_load_at K v0 H Q E
theorem ok_load_at (T : Txt K mg A) : FnOk P w K mg base CX0 1 A.a_load_at A.d_load_at ["crossing"] (sp_load_at K) := by
  refine T.F_load_at.ok sc_load_at (fun vs H Q E h => by obtain ⟨v0, rfl, _⟩ := h; rfl) (fun cdv A0 outer s H vs Q E hr h => ?_)
  obtain ⟨v0, rfl, h⟩ := h
  exact ⟨t_load_at K, (pss_cons (ps_asg (pv 0) (pg_tup (by rfl) (pgs_cons (pg_name (i := 1) sc_load_at.nd rfl (Or.inl rfl)) (pgs_cons (pg_name (i := 2) sc_load_at.nd rfl (Or.inr rfl)) pgs_nil))))
      (pss_one (ps_ret (pe_callB (cr_max (by rfl)) (by rfl) T.z_max (by decide +kernel) (pa_cons (pe_op op_cat (pe_lst (pa_cons pe_int pa_nil)) (pe_lc (own := [("tie", 3)]) (by rfl) sc_load_at.nd (pi_range1 (by rfl) T.z_range (pa_cons (pv 1) pa_nil)) (blkOk_by (own := [("tie", 3)]) (N := ["crossing", "many", "pairs", "tie", "pair"]) (sc := defScope s_load_at) (by decide +kernel)) (fun _ _ _ _ _ => (pg_name (i := 3) sc_load_at.nd rfl (Or.inr rfl))) (fun _ _ _ _ _ => pts_nil) (fun _ _ _ _ _ => (pe_callB q_len (by rfl) T.z_len (by decide +kernel) (pa_cons (pe_lc (own := [("pair", 4)]) (by rfl) sc_load_at.nd (pi_list (pv 2)) (blkOk_by (own := [("pair", 4)]) (N := ["crossing", "many", "pairs", "tie", "pair"]) (sc := { kind := PySem.ScopeKind.function, names := [ (PySem.Str.ofString ".0", PySem.NameKind.local), (PySem.Str.ofString "tie", PySem.NameKind.cell), (PySem.Str.ofString "len", PySem.NameKind.globalImplicit), (PySem.Str.ofString "pairs", PySem.NameKind.cell)], isGenerator := false, isCoroutine := false, more := [] : PySem.Scope }) (by decide +kernel)) (fun _ _ _ _ _ => (pg_name (i := 4) sc_load_at.nd rfl (Or.inl rfl))) (fun _ _ _ _ _ => (pts_one (pt_cmpR op_in_seq (pv 3) (pv 4) (by rfl)))) (fun _ _ _ _ _ => (pv 4))) pa_nil))))) pa_nil))))), pure_load_at h⟩


def inLot (ns : List Int) (p : Int × Int) : Bool := decide (p.1 ≠ p.2 ∧ p.1 ∈ ns ∧ p.2 ∈ ns)
def within (ps : List (Int × Int)) (ns : List Int) : Nat := (ps.filter (inLot ns)).length
def bnd (ps : List (Int × Int)) (ns : List Int) : Int := ((within ps ns : Int) + (ns.length : Int) / 2 - 1) / ((ns.length : Int) / 2)
def pr_bound_of (K : PySem.W.Frag) (v0 v1 : V) (H : Hp) (Q : VK) (_ : XK) : Prop := ∃ n ps ns, Dp K H v0 (dCr n ps) ∧ Dp K H v1 (dInts ns) ∧ 2 ≤ ns.length ∧ ns.length ≤ 1000 ∧ ps.length ≤ 1000 ∧ ∀ H', Same H H' → Q (.int (bnd ps ns)) H'
def t_bound_of (K : PySem.W.Frag) : TS :=
  (tSeq (tAsg (tCB (rLenX K) (tCons (tLc (iList K (tOp (rIxT K) (tVar 0) (tC (.int 1)))) (gTup K 2 (gCons (gName 4) (gCons (gName 5) gNil))) (tAnd (tTest (tOp rNe (tVar 4) (tVar 5))) (tAnd (tTest (tOp (rIn K false) (tVar 4) (tVar 1))) (tTest (tOp (rIn K false) (tVar 5) (tVar 1))))) (tC (.int 1)) [4, 5]) tNil)) (gName 2))
    (tSeq (tAsg (tOp xDiv (tCB (rLenX K) (tCons (tVar 1) tNil)) (tC (.int 2))) (gName 3))
    (tRet (tOp xDiv (tOp xSub (tOp xAdd (tVar 2) (tVar 3)) (tC (.int 1))) (tVar 3)))))
theorem pure_bound_of {v0 v1 : V} {H : Hp} {Q : VK} {E : XK} (h : pr_bound_of K v0 v1 H Q E) : t_bound_of K ⟨fun _ H' => Q .non H', Q, fun _ _ => False, fun _ _ => False⟩ [some v0, some v1, none, none, none, none] H := by
  obtain ⟨n, ps, ns, hc, hn, hz0, hz, hz2, q⟩ := h
  obtain ⟨a, x, y, rfl, hs, hx, hy⟩ := dp_tup2 hc
  obtain rfl := dp_int hx
  obtain ⟨b, rfl, hb⟩ := dp_ints hn
  obtain ⟨c, xs, rfl, hcx, hxs⟩ := dp_list hy
  have hl := dpa_len hxs
  rw [List.length_map] at hl
  unfold t_bound_of
  wtm_at "s"
  refine lc_pure hcx ps hl (by omega) (fun p => if inLot ns p then some (.int 1) else none) ?_ ?_
  · intro i x p H' hx hp sm R R0 h1 h2
    obtain ⟨p', d, hp', rfl, hd⟩ := dpairs_get hxs hx
    rw [hp] at hp'
    cases hp'
    wtm_at "s"
    refine k_itn (fun c1 => ?_) (fun c1 => ?_)
    · wtm_at "s"
      refine k_it (fun c2 => ?_) (fun c2 => ?_)
      · wtm_at "s"
        refine k_it (fun c3 => ?_) (fun c3 => ?_)
        · wtm_at "s"
          exact h1 _ (if_pos (decide_eq_true ⟨c1, c2, c3⟩))
        · exact h2 (if_neg fun z => c3 (of_decide_eq_true z).2.2)
      · wtm_at "s"
        exact h2 (if_neg fun z => c2 (of_decide_eq_true z).2.1)
    · wtm_at "s"
      exact h2 (if_neg fun z => (of_decide_eq_true z).1 c1)
  intro D H1 nD sm hD
  have e1 : (ps.filterMap fun p => if inLot ns p then some (V.int 1) else none).length = within ps ns := by
    unfold within
    clear hD hl hxs hcx hy hc hz2 q
    induction ps with
    | nil => rfl
    | cons p r ih =>
      by_cases c : inLot ns p = true
      · rw [List.filterMap_cons, if_pos c, List.filter_cons, if_pos c]; simp [ih]
      · rw [List.filterMap_cons, if_neg c, List.filter_cons, if_neg c]; exact ih
  wtm_at "s"
  rw [e1]
  exact q _ sm
abbrev sp_bound_of (K : PySem.W.Frag) : Sp := fun vs H Q E => ∃ v0 v1, vs = [v0, v1] ∧ pr_bound_of K v0 v1 H Q E
theorem ok_bound_of (T : Txt K mg A) : FnOk P w K mg base CX0 1 A.a_bound_of A.d_bound_of ["crossing", "lot"] (sp_bound_of K) := by
  refine T.F_bound_of.ok sc_bound_of (fun vs H Q E h => by obtain ⟨v0, v1, rfl, _⟩ := h; rfl) (fun cdv A0 outer s H vs Q E hr h => ?_)
  obtain ⟨v0, v1, rfl, h⟩ := h
  exact ⟨t_bound_of K, (pss_cons (ps_set (i := 2) sc_bound_of.nd rfl (Or.inl rfl) (pe_callB q_len (by rfl) T.z_len (by decide +kernel) (pa_cons (pe_lc (own := [("s", 4), ("t", 5)]) (by rfl) sc_bound_of.nd (pi_list (pe_ix ix_tup (pv 0) pe_int (fun _ _ => rfl))) (blkOk_by (own := [("s", 4), ("t", 5)]) (N := ["crossing", "lot", "within", "half", "s", "t"]) (sc := defScope s_bound_of) (by decide +kernel)) (fun _ _ _ _ _ => (pg_tup (by rfl) (pgs_cons (pg_name (i := 4) sc_bound_of.nd rfl (Or.inl rfl)) (pgs_cons (pg_name (i := 5) sc_bound_of.nd rfl (Or.inl rfl)) pgs_nil)))) (fun _ _ _ _ _ => (pts_one (PW.pt (pw_and (pt_cmpR op_ne (pv 4) (pv 5) (nomark _)) (pw_and (pt_cmpR op_in_seq (pv 4) (pv 1) (by rfl)) (pw_and1 (pt_cmpR op_in_seq (pv 5) (pv 1) (by rfl)))))))) (fun _ _ _ _ _ => pe_int)) pa_nil)))
      (pss_cons (ps_set (i := 3) sc_bound_of.nd rfl (Or.inl rfl) (pe_op op_fdiv (pe_callB q_len (by rfl) T.z_len (by decide +kernel) (pa_cons (pv 1) pa_nil)) pe_int))
      (pss_one (ps_ret (pe_op op_fdiv (pe_op op_sub (pe_op op_add (pv 2) (pv 3)) pe_int) (pv 3)))))), pure_bound_of h⟩


/-- lists of numbers in the heap, new since some heap -/
def LsAt (H0 H : Hp) (ys : List V) (nss : List (List Int)) : Prop := ys.length = nss.length ∧ ∀ (i : Nat) v, ys[i]? = some v → ∃ c ns, v = .ref c ∧ nss[i]? = some ns ∧ H0 c = none ∧ H c = some (.lst (ns.map V.int))
section
variable {H0 H H' : Hp} {ys zs : List V} {nss mss : List (List Int)}
theorem LsAt.same (h : LsAt H0 H ys nss) (s : Same H H') : LsAt H0 H' ys nss := ⟨h.1, fun i v hv => by
  obtain ⟨c, ns, h1, h2, h3, h4⟩ := h.2 i v hv
  exact ⟨c, ns, h1, h2, h3, s _ _ h4⟩⟩
theorem LsAt.ago {H1 : Hp} (h : LsAt H1 H ys nss) (s : Same H0 H1) : LsAt H0 H ys nss := ⟨h.1, fun i v hv => by
  obtain ⟨c, ns, h1, h2, h3, h4⟩ := h.2 i v hv
  exact ⟨c, ns, h1, h2, s.free h3, h4⟩⟩
theorem LsAt.nil : LsAt H0 H [] [] := ⟨rfl, fun i v hv => by simp at hv⟩
theorem LsAt.app (h : LsAt H0 H ys nss) (h' : LsAt H0 H zs mss) : LsAt H0 H (ys ++ zs) (nss ++ mss) := by
  refine ⟨by rw [List.length_append, List.length_append, h.1, h'.1], fun i v hv => ?_⟩
  by_cases c : i < ys.length
  · rw [List.getElem?_append_left c] at hv
    rw [List.getElem?_append_left (by rw [← h.1]; exact c)]
    exact h.2 i v hv
  · rw [List.getElem?_append_right (by omega)] at hv
    rw [List.getElem?_append_right (by rw [← h.1]; omega), ← h.1]
    exact h'.2 _ v hv
theorem LsAt.one {c : Addr} {ns : List Int} (h0 : H0 c = none) (h : H c = some (.lst (ns.map V.int))) : LsAt H0 H [.ref c] [ns] := ⟨rfl, fun i v hv => by
  cases i with
  | zero => cases hv; exact ⟨c, ns, rfl, rfl, h0, h⟩
  | succ i => simp at hv⟩
end
/-- a comprehension over a list, each turn gives a new list of numbers -/
theorem lc_ls {σ : L2.St} {vs : List Nat} {g : TG} {te : TE} {H1 : Hp} {QD : Addr → Hp → Prop} {α : Type} {a : Addr} {xs : List V} (S0 : List Addr) (hS : ∀ b ∈ S0, H1 b ≠ none) (hs : SqL K H1 a xs) (ps : List α) (hl : xs.length = ps.length) (hz : ps.length ≤ 50000) (F : α → List Int)
    (step : ∀ (i : Nat) x p H', xs[i]? = some x → ps[i]? = some p → Same H1 H' → ∀ (R : V → Hp → Prop), (∀ c H'', H' c = none → Same H' H'' → H'' c = some (.lst ((F p).map V.int)) → R (.ref c) H'') →
      g x (wipe σ vs) H' fun σ2 H2 => wipe σ2 vs = wipe σ vs ∧ te σ2 H2 R)
    (h : ∀ D ys H', H1 D = none → Same H1 H' → H' D = some (.lst ys) → LsAt H1 (hid (D :: S0) H') ys (ps.map F) → QD D H') (hg : ∀ x σ' H (q q' : L2.St → Hp → Prop), (∀ s H, q s H → q' s H) → g x σ' H q → g x σ' H q') :
    ∃ a', V.ref a = .ref a' ∧ (∃ xs, SqL K H1 a' xs) ∧ ∀ D, H1 D = none → ∃ W : Nat → Nat → Hp → Prop, (∃ m, W 0 m (upd H1 D (.lst []))) ∧ ∀ i m H, W i m H →
      ((Itl K a').stop i H ∧ QD D H) ∨ ((Itl K a').go i H ∧ ∃ Nx : Hp → Prop, (∀ H', Nx H' → ∃ m', m' < m ∧ W (i + 1) m' H') ∧ ∀ x H', (Itl K a').yld i H x H' → g x (wipe σ vs) H' fun σ2 H2 => wipe σ2 vs = wipe σ vs ∧ tYes σ2 H2 fun b H3 =>
        if b = true then te σ2 H3 fun y H4 => ∃ acc, H4 D = some (.lst acc) ∧ acc.length < sizeLine ∧ Nx (upd H4 D (.lst (acc ++ [y]))) else Nx H3) := by
  refine ⟨a, rfl, ⟨xs, hs⟩, fun D nD => lc_list (xs := xs) (fun i H => Same H1 H ∧ ∃ ys, H D = some (.lst ys) ∧ ys.length = i ∧ LsAt H1 (hid (D :: S0) H) ys ((ps.take i).map F)) ⟨same_new nD, [], upd_same, rfl, LsAt.nil⟩ (fun i H _ e => e.1.seq hs) ?_ ?_⟩
  · rintro i x H hx ⟨sm, ys, hD, hly, hys⟩
    have hi : i < xs.length := (List.getElem?_eq_some_iff.mp hx).1
    obtain ⟨p, hp⟩ : ∃ p, ps[i]? = some p := ⟨ps[i]'(by omega), List.getElem?_eq_getElem (by omega)⟩
    refine hg _ _ _ _ _ (fun s2 H2 hh => ⟨hh.1, k_yes (iteT hh.2)⟩) (step i x p H hx hp sm _ (fun y H'' ny s2 ey => ⟨ys, s2 _ _ hD, szl (by omega), same_mut (sm.trans s2) nD, ys ++ [.ref y], upd_same, by simp [hly], ?_⟩))
    rw [hid_upd (by simp), List.take_add_one, hp, List.map_append]
    refine (hys.same (hid_mono s2)).app (LsAt.one (sm.free ny) ?_)
    rw [hid_ne (fun z => by
      rcases List.mem_cons.mp z with e | hb
      · rw [e, hD] at ny; cases ny
      · exact hS y hb (sm.free ny))]
    exact ey
  · rintro H ⟨sm, ys, hD, hly, hys⟩
    rw [hl, List.take_length] at hys
    exact h D ys H nD sm hD hys
def lotsF (m : Int) : Nat → Int → List (List Int)
  | 0, _ => [[]]
  | s + 1, l => (List.range (m - l).toNat).flatMap fun (j : Nat) => (lotsF m s (l + (j : Int) + 1)).map fun r => (l + (j : Int)) :: r
theorem fm_pow {α : Type} {f : Nat → List α} {N : Nat} (h : ∀ j, j < N → (f j).length ≤ 2 ^ (N - 1 - j)) : ∀ i, i ≤ N → ((List.range i).flatMap f).length + 2 ^ (N - i) ≤ 2 ^ N
  | 0, _ => by simp
  | i + 1, hi => by
    have ih := fm_pow h i (by omega)
    have hf := h i (by omega)
    rw [List.range_succ, List.flatMap_append, List.length_append]
    have e : ([i].flatMap f).length = (f i).length := by simp
    have e2 : N - i = (N - (i + 1)) + 1 := by omega
    have e3 : N - 1 - i = N - (i + 1) := by omega
    rw [e2, Nat.pow_succ] at ih
    rw [e3] at hf
    omega
theorem lotsF_len (m : Int) : ∀ (s : Nat) (l : Int), (lotsF m s l).length ≤ 2 ^ (m - l).toNat
  | 0, l => Nat.one_le_two_pow
  | s + 1, l => by
    have := fm_pow (N := (m - l).toNat) (f := fun (j : Nat) => (lotsF m s (l + (j : Int) + 1)).map fun r => (l + (j : Int)) :: r) (fun j hj => by
      rw [List.length_map]
      have := lotsF_len m s (l + (j : Int) + 1)
      have e : (m - (l + (j : Int) + 1)).toNat = (m - l).toNat - 1 - j := by omega
      rwa [e] at this) _ (Nat.le_refl _)
    exact Nat.le_trans (Nat.le_add_right _ _) this
theorem lotsF_len12 {m l : Int} {s : Nat} (h : m ≤ 12) (h0 : 0 ≤ l) : (lotsF m s l).length ≤ 4096 := by
  have h1 := lotsF_len m s l
  have h2 : 2 ^ (m - l).toNat ≤ 2 ^ 12 := Nat.pow_le_pow_right (by omega) (by omega)
  omega
/-- what the lots are -/
theorem lotsF_ok {m : Int} : ∀ {s : Nat} {l : Int} {ns : List Int}, ns ∈ lotsF m s l → ns.length = s ∧ (∀ x ∈ ns, l ≤ x ∧ x < m) ∧ ns.Pairwise (· < ·)
  | 0, l, ns, h => by
    have : ns = [] := by simpa [lotsF] using h
    subst this
    exact ⟨rfl, (fun x z => by cases z), List.Pairwise.nil⟩
  | s + 1, l, ns, h => by
    obtain ⟨j, hj, h2⟩ := List.mem_flatMap.mp h
    obtain ⟨r, hr, rfl⟩ := List.mem_map.mp h2
    have hj' := List.mem_range.mp hj
    obtain ⟨h3, h4, h5⟩ := lotsF_ok hr
    refine ⟨by simp [h3], fun x hx => ?_, List.pairwise_cons.mpr ⟨fun x hx => ?_, h5⟩⟩
    · rcases List.mem_cons.mp hx with rfl | hx
      · omega
      · have := h4 x hx; omega
    · have := h4 x hx; omega
def pr_lots_of (K : PySem.W.Frag) (d : Nat) (v0 v1 v2 : V) (H : Hp) (Q : VK) (_ : XK) : Prop := ∃ (m : Int) (s : Nat) (l : Int) (S : List Addr), v0 = .int m ∧ v1 = .int s ∧ v2 = .int l ∧ s ≤ d ∧ s ≤ 13 ∧ 0 ≤ l ∧ m ≤ 12 ∧ -100 ≤ m ∧ l ≤ 1000 ∧ (∀ x ∈ S, H x ≠ none) ∧
  ∀ p ys H', H p = none → Same H H' → hid S H' p = some (.lst ys) → LsAt H (hid S H') ys (lotsF m s l) → Q (.ref p) H'
def spd_lots_of (K : PySem.W.Frag) : Nat → Sp
  | 0 => fun _ _ _ _ => False
  | d + 1 => fun vs H Q E => ∃ v0 v1 v2, vs = [v0, v1, v2] ∧ pr_lots_of K d v0 v1 v2 H Q E
def t_lots_of (K : PySem.W.Frag) (sp : Sp) : TS :=
  (tSeq (tIfS (tTest (tOp rEq (tVar 1) (tC (.int 0)))) (tRet (tLst (tCons (tLst tNil) tNil))) tNext)
    (tSeq (tAsg (tLst tNil) (gName 3))
    (tSeq (tFor (iRng2 (tCons (tVar 2) (tCons (tVar 0) tNil))) (gName 4)
      (tAsg (tOp rCat (tVar 3) (tLc (iList K (tCall sp [] E0 (tCons (tVar 0) (tCons (tOp xSub (tVar 1) (tC (.int 1))) (tCons (tOp xAdd (tVar 4) (tC (.int 1))) tNil))))) (gName 5) tYes (tOp rCat (tLst (tCons (tVar 4) tNil)) (tVar 5)) [5])) (gName 3)))
    (tRet (tVar 3)))))
theorem pure_lots_of {d : Nat} {v0 v1 v2 : V} {H : Hp} {Q : VK} {E : XK} (hh : pr_lots_of K d v0 v1 v2 H Q E) : t_lots_of K (spd_lots_of K d) ⟨fun _ H' => Q .non H', Q, fun _ _ => False, fun _ _ => False⟩ [some v0, some v1, some v2, none, none, none] H := by
  obtain ⟨m, s, l, S, rfl, rfl, rfl, hs, s13, l0, m12, m0, l1, hS, q⟩ := hh
  have fS : ∀ {H1 : Hp} {p : Addr}, Same H H1 → H1 p = none → p ∉ S := fun s np z => hS _ z (s.free np)
  unfold t_lots_of
  cases s with
  | zero =>
    wtm_at "s"
    refine kL (by simp) (fun c H1 nc s1 e1 => ?_)
    wtm_at "s"
    refine kL (by simp) (fun D H2 nD s2 e2 => ?_)
    refine q D [.ref c] H2 (s1.free nD) (s1.trans s2) (by rw [hid_ne (fS s1 nD)]; exact e2) (LsAt.one nc (ns := []) ?_)
    rw [hid_ne (fS (Same.refl _) nc)]
    exact s2 _ _ e1
  | succ s =>
    obtain ⟨d, rfl⟩ : ∃ d', d = d' + 1 := ⟨d - 1, by omega⟩
    wtm_at "s"
    refine kL (by simp) (fun D0 H1 nD0 s1 e1 => ?_)
    wtm_at "s"
    refine forR (fun i σ' H' => Same H H' ∧ ∃ D ys k4 k5, σ' = [some (.int m), some (.int ((s + 1 : Nat) : Int)), some (.int l), some (.ref D), k4, k5] ∧ H D = none ∧ H' D = some (.lst ys) ∧ LsAt H (hid S H') ys ((List.range i).flatMap fun (j : Nat) => (lotsF m s (l + (j : Int) + 1)).map fun r => (l + (j : Int)) :: r)) ⟨s1, D0, [], _, _, rfl, nD0, e1, LsAt.nil⟩ ?_ ?_
    · rintro i σ' H2 hi ⟨s2, D, ys, k4, k5, rfl, nD, e2, ls⟩
      have hp := fm_pow (N := (m - l).toNat) (f := fun (j : Nat) => (lotsF m s (l + (j : Int) + 1)).map fun r => (l + (j : Int)) :: r) (fun j hj => by
        rw [List.length_map]
        have := lotsF_len m s (l + (j : Int) + 1)
        have e : (m - (l + (j : Int) + 1)).toNat = (m - l).toNat - 1 - j := by omega
        rwa [e] at this) i (by omega)
      have hp2 : 2 ^ (m - l).toNat ≤ 2 ^ 12 := Nat.pow_le_pow_right (by omega) (by omega)
      have ly := ls.1
      have ly2 : ys.length ≤ 4096 := by rw [ly]; exact Nat.le_trans (Nat.le_trans (Nat.le_add_right _ _) hp) hp2
      clear hp hp2
      have lf : (lotsF m s (l + (i : Int) + 1)).length ≤ 4096 := lotsF_len12 m12 (by omega)
      wtm_at "s"
      refine ⟨_, _, _, rfl, m, s, l + (i : Nat) + 1, S, rfl, by congr 1; omega, rfl, by omega, by omega, by omega, m12, m0, by omega, (fun x hx z => hS x hx (s2.free z)), fun p zs H3 np s3 e3 ls3 => ?_⟩
      have hz3 := ls3.1
      wtm_at "s"
      refine lc_ls S (fun x hx z => hS x hx ((s2.trans s3).free z)) (sl (hid_same _ _ _ _ e3)) (lotsF m s (l + (i : Int) + 1)) hz3 (by omega) (fun r => (l + (i : Int)) :: r) ?_ (fun D2 us H4 nD2 s4 e4 ls4 => ?_) (fun x σ' H q q' h hh => h _ _ hh)
      · intro j x r H' hx hr sm R g1
        obtain ⟨c, ns, rfl, h2, h3, h4⟩ := ls3.2 j x hx
        rw [hr] at h2
        cases h2
        wtm_at "s"
        refine kL (by simp) (fun l1 H5 nl1 s5 e5 => ?_)
        have lr := (lotsF_ok (List.mem_of_getElem? hr)).1
        wtm_at "s"
        refine k_catN e5 ((sm.trans s5) _ _ (hid_same _ _ _ _ h4)) (by simp; omega) (fun l2 H6 nl2 s6 e6 => ?_)
        exact g1 l2 H6 (s5.free nl2) (s5.trans s6) e6
      have lu := ls4.1
      rw [List.length_map] at lu
      refine k_catN ((s3.trans s4) _ _ e2) e4 (by omega) (fun D3 H5 nD3 s5 e5 => ?_)
      wtm_at "s"
      refine ⟨s2.trans (s3.trans (s4.trans s5)), D3, _, _, _, rfl, (s2.trans (s3.trans s4)).free nD3, e5, ?_⟩
      rw [List.range_succ, List.flatMap_append]
      refine (ls.same (hid_mono (s3.trans (s4.trans s5)))).app ?_
      have := (ls4.ago (s2.trans s3)).same ((hid_sub (S' := D2 :: S) (S := S) fun x hx => List.mem_cons_of_mem _ hx).trans (hid_mono s5))
      simpa using this
    · rintro σ' H2 ⟨s2, D, ys, k4, k5, rfl, nD, e2, ls⟩
      wtm_at "s"
      exact q D ys H2 nD s2 (by rw [hid_ne (fS (Same.refl _) nD)]; exact e2) ls
theorem okd_lots_of (T : Txt K mg A) : ∀ d : Nat, FnOk P w K mg base CX0 (1 + d) A.a_lots_of A.d_lots_of ["many", "size", "least"] (spd_lots_of K d)
  | 0 => T.F_lots_of.ok sc_lots_of (fun vs H Q E h => False.elim h) (fun cdv A0 outer s H vs Q E hr h => False.elim h)
  | d + 1 => by
    refine T.F_lots_of.ok sc_lots_of (fun vs H Q E h => by obtain ⟨v0, v1, v2, rfl, _⟩ := h; rfl) (fun cdv A0 outer s H vs Q E hr h => ?_)
    obtain ⟨v0, v1, v2, rfl, h⟩ := h
    exact ⟨t_lots_of K (spd_lots_of K d), (pss_cons (ps_if (pt_cmpR op_eq (pv 1) pe_int (nomark _)) (pss_one (ps_ret (pe_lst (pa_cons (pe_lst pa_nil) pa_nil)))) pss_nil)
      (pss_cons (ps_set (i := 3) sc_lots_of.nd rfl (Or.inl rfl) (pe_lst pa_nil))
      (pss_cons (ps_for PassesOwn.never rfl (pi_range2 (by rfl) T.z_range (pa_cons (pv 2) (pa_cons (pv 0) pa_nil))) (pg_name (i := 4) sc_lots_of.nd rfl (Or.inr rfl))
      (pss_one (ps_set (i := 3) sc_lots_of.nd rfl (Or.inl rfl) (pe_op op_cat (pv 3) (pe_lc (own := [("rest", 5)]) (by rfl) sc_lots_of.nd (pi_list (pe_call (okd_lots_of T d) (hr.mono (by first | decide | omega | (simp only [Nat.add_eq]; omega))) (by rfl) T.g_lots_of T.F_lots_of.kp T.b_lots_of .nil pass0 (pa_cons (pv 0) (pa_cons (pe_op op_sub (pv 1) pe_int) (pa_cons (pe_op op_add (pv 4) pe_int) pa_nil))))) (blkOk_by (own := [("rest", 5)]) (N := ["many", "size", "least", "found", "tie", "rest"]) (sc := defScope s_lots_of) (by decide +kernel)) (fun _ _ _ _ _ => (pg_name (i := 5) sc_lots_of.nd rfl (Or.inl rfl))) (fun _ _ _ _ _ => pts_nil) (fun _ _ _ _ _ => (pe_op op_cat (pe_lst (pa_cons (pv 4) pa_nil)) (pv 5))))))))
      (pss_one (ps_ret (pv 3)))))), pure_lots_of h⟩
abbrev sp_lots_of (K : PySem.W.Frag) : Sp := fun vs H Q E => ∃ v0 v1 v2, vs = [v0, v1, v2] ∧ ∃ d : Nat, d < 13 ∧ pr_lots_of K d v0 v1 v2 H Q E
theorem ok_lots_of (T : Txt K mg A) : FnOk P w K mg base CX0 14 A.a_lots_of A.d_lots_of ["many", "size", "least"] (sp_lots_of K) := by
  refine T.F_lots_of.ok sc_lots_of (fun vs H Q E h => by obtain ⟨v0, v1, v2, rfl, _⟩ := h; rfl) (fun cdv A0 outer s H vs Q E hr h => ?_)
  obtain ⟨v0, v1, v2, rfl, d, hd, h⟩ := h
  exact ⟨t_lots_of K (spd_lots_of K d), (pss_cons (ps_if (pt_cmpR op_eq (pv 1) pe_int (nomark _)) (pss_one (ps_ret (pe_lst (pa_cons (pe_lst pa_nil) pa_nil)))) pss_nil)
      (pss_cons (ps_set (i := 3) sc_lots_of.nd rfl (Or.inl rfl) (pe_lst pa_nil))
      (pss_cons (ps_for PassesOwn.never rfl (pi_range2 (by rfl) T.z_range (pa_cons (pv 2) (pa_cons (pv 0) pa_nil))) (pg_name (i := 4) sc_lots_of.nd rfl (Or.inr rfl))
      (pss_one (ps_set (i := 3) sc_lots_of.nd rfl (Or.inl rfl) (pe_op op_cat (pv 3) (pe_lc (own := [("rest", 5)]) (by rfl) sc_lots_of.nd (pi_list (pe_call (okd_lots_of T d) (hr.mono (by first | decide | omega | (simp only [Nat.add_eq]; omega))) (by rfl) T.g_lots_of T.F_lots_of.kp T.b_lots_of .nil pass0 (pa_cons (pv 0) (pa_cons (pe_op op_sub (pv 1) pe_int) (pa_cons (pe_op op_add (pv 4) pe_int) pa_nil))))) (blkOk_by (own := [("rest", 5)]) (N := ["many", "size", "least", "found", "tie", "rest"]) (sc := defScope s_lots_of) (by decide +kernel)) (fun _ _ _ _ _ => (pg_name (i := 5) sc_lots_of.nd rfl (Or.inl rfl))) (fun _ _ _ _ _ => pts_nil) (fun _ _ _ _ _ => (pe_op op_cat (pe_lst (pa_cons (pv 4) pa_nil)) (pv 5))))))))
      (pss_one (ps_ret (pv 3)))))), pure_lots_of h⟩


def bestStep (ps : List (Int × Int)) (b : Int × List Int) (lot : List Int) : Int × List Int := if bnd ps lot > b.1 then (bnd ps lot, lot) else b
def bestF (m : Int) (ps : List (Int × Int)) (L : Int) : Int × List Int := (List.range ((m - 1) / 2).toNat).foldl (fun b (i : Nat) => (lotsF m (3 + 2 * i) 0).foldl (bestStep ps) b) (L, [])
theorem rg3 {j : Int} (h0 : 1 ≤ j) (h1 : j ≤ 13) : RgC 3 j 2 ((j - 2) / 2).toNat := by
  have : j = 1 ∨ j = 2 ∨ j = 3 ∨ j = 4 ∨ j = 5 ∨ j = 6 ∨ j = 7 ∨ j = 8 ∨ j = 9 ∨ j = 10 ∨ j = 11 ∨ j = 12 ∨ j = 13 := by omega
  rcases this with rfl | rfl | rfl | rfl | rfl | rfl | rfl | rfl | rfl | rfl | rfl | rfl | rfl <;> exact ⟨by decide, by decide, by decide, by decide⟩
def pr_best_lot (K : PySem.W.Frag) (v0 : V) (H : Hp) (Q : VK) (_ : XK) : Prop := ∃ (many : Int) (ps : List (Int × Int)) (S : List Addr), Dp K H v0 (dCr many ps) ∧ CrOk many ps ∧ many ≤ 12 ∧ (∀ x ∈ S, H x ≠ none) ∧
  ∀ (L : Nat) p b c H', IsLoad ps L → Same H H' → H c = none → hid S H' p = some (.tup [.int b.1, .ref c]) → hid S H' c = some (.lst (b.2.map V.int)) → b = bestF many ps L → Q (.ref p) H'
def t_best_lot (K : PySem.W.Frag) : TS :=
  (tSeq (tDrop (tCall (sp_must_be_crossing K) [] E0 (tCons (tVar 0) tNil)))
    (tSeq (tIfS (tTest (tOp xGt (tOp (rIxT K) (tVar 0) (tC (.int 0))) (tC (.int 12)))) tNever tNext)
    (tSeq (tAsg (tTup (tCons (tCall (sp_load_at K) [] E0 (tCons (tVar 0) tNil)) (tCons (tLst tNil) tNil))) (gName 1))
    (tSeq (tFor (iRng3 (tCons (tC (.int 3)) (tCons (tOp xAdd (tOp (rIxT K) (tVar 0) (tC (.int 0))) (tC (.int 1))) (tCons (tC (.int 2)) tNil)))) (gName 2)
      (tFor (iList K (tCall (sp_lots_of K) [] E0 (tCons (tOp (rIxT K) (tVar 0) (tC (.int 0))) (tCons (tVar 2) (tCons (tC (.int 0)) tNil))))) (gName 3)
      (tIfS (tTest (tOp xGt (tCall (sp_bound_of K) [] E0 (tCons (tVar 0) (tCons (tVar 3) tNil))) (tOp (rIxT K) (tVar 1) (tC (.int 0))))) (tAsg (tTup (tCons (tCall (sp_bound_of K) [] E0 (tCons (tVar 0) (tCons (tVar 3) tNil))) (tCons (tVar 3) tNil))) (gName 1)) tNext)))
    (tRet (tVar 1))))))
theorem pure_best_lot {v0 : V} {H : Hp} {Q : VK} {E : XK} (hh : pr_best_lot K v0 H Q E) : t_best_lot K ⟨fun _ H' => Q .non H', Q, fun _ _ => False, fun _ _ => False⟩ [some v0, none, none, none] H := by
  obtain ⟨many, ps, S, hd, ok, m12, hS, q⟩ := hh
  obtain ⟨a, b, ys, rfl, ha, hb, dys, ly⟩ := dp_cr hd
  have m0 := ok.1
  have l60 := ok.2.2.1
  have fS : ∀ {H1 : Hp} {p : Addr}, Same H H1 → H1 p = none → p ∉ S := fun s np z => hS _ z (s.free np)
  unfold t_best_lot
  wtm_at "s"
  refine ⟨_, rfl, many, ps, hd, ok, ?_⟩
  wtm_at "s"
  refine ⟨_, rfl, many, ps, hd, ok, fun L H1 hL s1 => ?_⟩
  have ha1 := same_seqT s1 ha
  wtm_at "s"
  refine kL (by simp) (fun c0 H2 nc0 s2 e2 => ?_)
  wtm_at "s"
  refine kT (by simp) (fun p0 H3 np0 s3 e3 => ?_)
  have ha3 := same_seqT (s2.trans s3) ha1
  wtm_at "s"
  refine ⟨_, _, _, _, rfl, rg3 (by omega) (by omega), ?_⟩
  rw [show (many + 1 - 2) / 2 = (many - 1) / 2 from by congr 1; omega]
  refine forC (fun i σ' H' => ∃ p c bs k2 k3, σ' = [some (.ref a), some (.ref p), k2, k3] ∧ Same H H' ∧ H c = none ∧ hid S H' p = some (.tup [.int bs.1, .ref c]) ∧ hid S H' c = some (.lst (bs.2.map V.int)) ∧ bs = (List.range i).foldl (fun b (i : Nat) => (lotsF many (3 + 2 * i) 0).foldl (bestStep ps) b) ((L : Int), [])) ⟨p0, c0, (L, []), _, _, rfl, s1.trans (s2.trans s3), s1.free nc0, ?_, ?_, rfl⟩ ?_ ?_
  · rw [hid_ne (fS (s1.trans s2) np0)]; exact e3
  · rw [hid_ne (fS s1 nc0)]; exact s3 _ _ e2
  · clear e3 e2 nc0 np0 s2 s3 ha1 ha3
    rintro i σ' H4 hi ⟨p, c, bs, k2, k3, rfl, s4, nc, ep, ec, eb⟩
    have ha4 := same_seqT s4 ha
    wtm_at "s"
    refine ⟨_, _, _, rfl, 3 + 2 * i, by omega, many, 3 + 2 * i, 0, S, rfl, by congr 1; omega, rfl, by omega, by omega, by omega, m12, by omega, by omega, (fun x hx z => hS x hx (s4.free z)), fun D us H5 nD s5 e5 ls => ?_⟩
    have hz := ls.1
    have lz : (lotsF many (3 + 2 * i) 0).length ≤ 4096 := lotsF_len12 m12 (by omega)
    wtm_at "s"
    refine forL (sl (hid_same _ _ _ _ e5)) (fun j σ' H' => ∃ p c bs k3, σ' = [some (.ref a), some (.ref p), some (.int (3 + (i : Nat) * 2)), k3] ∧ Same H5 H' ∧ H c = none ∧ hid S H' p = some (.tup [.int bs.1, .ref c]) ∧ hid S H' c = some (.lst (bs.2.map V.int)) ∧ bs = ((lotsF many (3 + 2 * i) 0).take j).foldl (bestStep ps) ((List.range i).foldl (fun b (i : Nat) => (lotsF many (3 + 2 * i) 0).foldl (bestStep ps) b) ((L : Int), []))) ⟨p, c, bs, _, rfl, Same.refl _, nc, hid_mono s5 _ _ ep, hid_mono s5 _ _ ec, eb⟩ (fun j σ' H' _ z => by
      obtain ⟨_, _, _, _, _, s, _⟩ := z
      exact sl (s _ _ (hid_same _ _ _ _ e5))) ?_ ?_
    · clear ep ec nc eb p c bs
      rintro j x σ' H6 hx ⟨p, c, bs, k3, rfl, s6, nc, ep, ec, eb⟩
      obtain ⟨cl, ns, rfl, hns, ncl, hcl⟩ := ls.2 j x hx
      have lns := (lotsF_ok (List.mem_of_getElem? hns)).1
      have s06 := s4.trans (s5.trans s6)
      have hc6 : hid S H6 cl = some (.lst (ns.map V.int)) := hid_mono s6 _ _ hcl
      wtm_at "s"
      refine ⟨_, _, rfl, many, ps, ns, dp_same s06 hd, dp_of_ints (sl (hid_same _ _ _ _ hc6)), by omega, by omega, by omega, fun H7 s7 => ?_⟩
      have hp7 : SqT K H7 p _ := stp (s7 _ _ (hid_same _ _ _ _ ep))
      wtm_at "s"
      have e1 : (lotsF many (3 + 2 * i) 0).take (j + 1) = (lotsF many (3 + 2 * i) 0).take j ++ [ns] := by rw [List.take_add_one, hns]; rfl
      rw [e1, List.foldl_append, ← eb]
      show if _ then _ else _
      by_cases cc : bnd ps ns > bs.1
      · rw [if_pos (by simpa using cc)]
        wtm_at "s"
        refine ⟨_, _, rfl, many, ps, ns, dp_same (s06.trans s7) hd, dp_of_ints (sl (s7 _ _ (hid_same _ _ _ _ hc6))), by omega, by omega, by omega, fun H8 s8 => ?_⟩
        wtm_at "s"
        refine kT (by simp) (fun p2 H9 np2 s9 e9 => ?_)
        wtm_at "s"
        refine ⟨p2, cl, (bnd ps ns, ns), _, rfl, s6.trans (s7.trans (s8.trans s9)), (s4).free ncl, ?_, hid_mono (s7.trans (s8.trans s9)) _ _ hc6, ?_⟩
        · rw [hid_ne (fS (s06.trans (s7.trans s8)) np2)]; exact e9
        · show _ = bestStep ps bs ns
          unfold bestStep
          rw [if_pos cc]
      · rw [if_neg (by simpa using cc)]
        wtm_at "s"
        refine ⟨p, c, bs, _, rfl, s6.trans s7, nc, hid_mono s7 _ _ ep, hid_mono s7 _ _ ec, ?_⟩
        show _ = bestStep ps bs ns
        unfold bestStep
        rw [if_neg cc]
    · rintro σ' H6 ⟨p, c, bs, k3, rfl, s6, nc, ep, ec, eb⟩
      refine ⟨p, c, bs, _, _, rfl, s4.trans (s5.trans s6), nc, ep, ec, ?_⟩
      rw [eb, hz, List.take_length, List.range_succ, List.foldl_append]
      rfl
  · rintro σ' H4 ⟨p, c, bs, k2, k3, rfl, s4, nc, ep, ec, eb⟩
    wtm_at "s"
    exact q L p bs c H4 hL s4 nc ep ec eb
abbrev sp_best_lot (K : PySem.W.Frag) : Sp := fun vs H Q E => ∃ v0, vs = [v0] ∧ pr_best_lot K v0 H Q E
theorem ok_best_lot (T : Txt K mg A) : FnOk P w K mg base CX0 15 A.a_best_lot A.d_best_lot ["crossing"] (sp_best_lot K) := by
  refine T.F_best_lot.ok sc_best_lot (fun vs H Q E h => by obtain ⟨v0, rfl, _⟩ := h; rfl) (fun cdv A0 outer s H vs Q E hr h => ?_)
  obtain ⟨v0, rfl, h⟩ := h
  exact ⟨t_best_lot K, (pss_cons (ps_expr (pe_call (ok_must_be_crossing T) (hr.mono (by decide)) (by rfl) T.g_must_be_crossing T.F_must_be_crossing.kp T.b_must_be_crossing .nil pass0 (pa_cons (pv 0) pa_nil)))
      (pss_cons (ps_if (pt_cmpR op_gt (pe_ix ix_tup (pv 0) pe_int (fun _ _ => rfl)) (pe_glob (v := .int 12) (by rfl) T.c_MOST_LOTS ⟨_, rfl⟩) (nomark _)) (pss_one ps_never) pss_nil)
      (pss_cons (ps_set (i := 1) sc_best_lot.nd rfl (Or.inl rfl) (pe_tup (pa_cons (pe_call (ok_load_at T) (hr.mono (by decide)) (by rfl) T.g_load_at T.F_load_at.kp T.b_load_at .nil pass0 (pa_cons (pv 0) pa_nil)) (pa_cons (pe_lst pa_nil) pa_nil))))
      (pss_cons (ps_for PassesOwn.never rfl (pi_range3 (by rfl) T.z_range (pa_cons pe_int (pa_cons (pe_op op_add (pe_ix ix_tup (pv 0) pe_int (fun _ _ => rfl)) pe_int) (pa_cons pe_int pa_nil)))) (pg_name (i := 2) sc_best_lot.nd rfl (Or.inl rfl))
      (pss_one (ps_for PassesOwn.never rfl (pi_list (pe_call (ok_lots_of T) (hr.mono (by decide)) (by rfl) T.g_lots_of T.F_lots_of.kp T.b_lots_of .nil pass0 (pa_cons (pe_ix ix_tup (pv 0) pe_int (fun _ _ => rfl)) (pa_cons (pv 2) (pa_cons pe_int pa_nil))))) (pg_name (i := 3) sc_best_lot.nd rfl (Or.inl rfl))
      (pss_one (ps_if (pt_cmpR op_gt (pe_call (ok_bound_of T) (hr.mono (by decide)) (by rfl) T.g_bound_of T.F_bound_of.kp T.b_bound_of .nil pass0 (pa_cons (pv 0) (pa_cons (pv 3) pa_nil))) (pe_ix ix_tup (pv 1) pe_int (fun _ _ => rfl)) (nomark _)) (pss_one (ps_set (i := 1) sc_best_lot.nd rfl (Or.inl rfl) (pe_tup (pa_cons (pe_call (ok_bound_of T) (hr.mono (by decide)) (by rfl) T.g_bound_of T.F_bound_of.kp T.b_bound_of .nil pass0 (pa_cons (pv 0) (pa_cons (pv 3) pa_nil))) (pa_cons (pv 3) pa_nil))))) pss_nil)))))
      (pss_one (ps_ret (pv 1))))))), pure_best_lot h⟩


/-- the ties at a place -/
def hereB (ps : List Int) (p : Int) (k : Nat) : Bool := decide ((k : Int) + 1 = p) || decide (ps.getD k 0 = p)
def hereOf (ps : List Int) (p : Int) : List Int := ((List.range ps.length).filter (hereB ps p)).map fun k : Nat => (k : Int)
theorem here_fm (ps : List Int) (p : Int) : (List.range ps.length).filterMap (fun i => if hereB ps p i = true then some (V.int (0 + (i : Nat))) else none) = (hereOf ps p).map V.int := by
  unfold hereOf
  rw [List.map_map]
  induction (List.range ps.length) with
  | nil => rfl
  | cons x r ih =>
    by_cases c : hereB ps p x = true
    · rw [List.filterMap_cons, if_pos c, List.filter_cons, if_pos c]
      simp only [List.map_cons]
      rw [ih]
      simp
    · rw [List.filterMap_cons, if_neg c, List.filter_cons, if_neg c]
      exact ih
theorem here_srt (ps : List Int) (p : Int) : (hereOf ps p).Pairwise (· < ·) := by
  unfold hereOf
  exact List.pairwise_map.mpr ((List.pairwise_lt_range.filter _).imp fun h => by omega)
theorem here_len (ps : List Int) (p : Int) : (hereOf ps p).length ≤ ps.length := by
  unfold hereOf
  rw [List.length_map]
  exact Nat.le_trans (List.length_filter_le _ _) (by simp)
def pr_ties_at (K : PySem.W.Frag) (v0 v1 : V) (H : Hp) (Q : VK) (_ : XK) : Prop := ∃ (ps : List Int) (p : Int), v1 = .int p ∧ Dp K H v0 (Net.tree ps).d ∧ ps.length ≤ 1000 ∧ ∀ a H', H a = none → Same H H' → H' a = some (.lst ((hereOf ps p).map V.int)) → Q (.ref a) H'
def t_ties_at (K : PySem.W.Frag) : TS :=
  (tSeq (tAsg (tOp (rIxT K) (tVar 0) (tC (.int 1))) (gName 2))
    (tRet (tLc (iRng1 (tCons (tCB (rLenX K) (tCons (tVar 2) tNil)) tNil)) (gName 3) (tOr (tTest (tOp rEq (tOp xAdd (tVar 3) (tC (.int 1))) (tVar 1))) (tTest (tOp rEq (tOp (rIxL K) (tVar 2) (tVar 3)) (tVar 1)))) (tVar 3) [3])))
theorem pure_ties_at {v0 v1 : V} {H : Hp} {Q : VK} {E : XK} (h : pr_ties_at K v0 v1 H Q E) : t_ties_at K ⟨fun _ H' => Q .non H', Q, fun _ _ => False, fun _ _ => False⟩ [some v0, some v1, none, none] H := by
  obtain ⟨ps, p, rfl, hd, hz, q⟩ := h
  obtain ⟨a, y, rfl, hs, hy⟩ := dp_net hd
  obtain ⟨b, rfl, hb⟩ := dp_ints hy
  unfold t_ties_at
  wtm_at "s"
  rw [Int.toNat_natCast]
  refine lc_pureR (by omega) (fun i => if hereB ps p i = true then some (V.int (0 + (i : Nat))) else none) ?_ (fun D H' nD sm hD => ?_)
  · intro i H' hi sm R R0 h1 h2
    wtm_at "s"
    have e0 : (0 + (i : Int)).toNat = i := by omega
    refine k_it (fun c => ?_) (fun c => ?_)
    · wtm_at "s"
      exact h1 _ (by rw [if_pos]; unfold hereB; rw [decide_eq_true (show (i : Int) + 1 = p by omega)]; rfl)
    · wtm_at "s"
      refine k_ixI (by wtm_at "sq") (by omega) (by omega) ?_
      rw [e0]
      wtm_at "s"
      refine k_it (fun c2 => ?_) (fun c2 => ?_)
      · wtm_at "s"
        exact h1 _ (by rw [if_pos]; unfold hereB; rw [decide_eq_true c2, Bool.or_true])
      · exact h2 (by rw [if_neg]; unfold hereB; rw [decide_eq_false c2, decide_eq_false (show ¬ (i : Int) + 1 = p by omega)]; decide)
  · rw [here_fm] at hD
    exact q D H' nD sm hD
abbrev sp_ties_at (K : PySem.W.Frag) : Sp := fun vs H Q E => ∃ v0 v1, vs = [v0, v1] ∧ pr_ties_at K v0 v1 H Q E
theorem ok_ties_at (T : Txt K mg A) : FnOk P w K mg base CX0 1 A.a_ties_at A.d_ties_at ["net", "place"] (sp_ties_at K) := by
  refine T.F_ties_at.ok sc_ties_at (fun vs H Q E h => by obtain ⟨v0, v1, rfl, _⟩ := h; rfl) (fun cdv A0 outer s H vs Q E hr h => ?_)
  obtain ⟨v0, v1, rfl, h⟩ := h
  exact ⟨t_ties_at K, (pss_cons (ps_set (i := 2) sc_ties_at.nd rfl (Or.inr rfl) (pe_ix ix_tup (pv 0) pe_int (fun _ _ => rfl)))
      (pss_one (ps_ret (pe_lc (own := [("k", 3)]) (by rfl) sc_ties_at.nd (pi_range1 (by rfl) T.z_range (pa_cons (pe_callB q_len (by rfl) T.z_len (by decide +kernel) (pa_cons (pv 2) pa_nil)) pa_nil)) (blkOk_by (own := [("k", 3)]) (N := ["net", "place", "parents", "k"]) (sc := defScope s_ties_at) (by decide +kernel)) (fun _ _ _ _ _ => (pg_name (i := 3) sc_ties_at.nd rfl (Or.inl rfl))) (fun _ _ _ _ _ => (pts_one (PW.pt (pw_or (pt_cmpR op_eq (pe_op op_add (pv 3) pe_int) (pv 1) (nomark _)) (pw_or1 (pt_cmpR op_eq (pe_ix ix_list (pv 2) (pv 3) (fun _ _ => rfl)) (pv 1) (nomark _))))))) (fun _ _ _ _ _ => (pv 3)))))), pure_ties_at h⟩
/-- the numbers, among hs, of those of ts that are there -/
def someOf (hs ts : List Int) : List Int := (ts.filter fun t => decide (t ∈ hs)).map fun t => ((hs.idxOf t : Nat) : Int)
theorem k_indexI {K : PySem.W.Frag} {H : Hp} {Q : VK} {p : Addr} {ns : List Int} {x : Int} (hs : SqL K H p (ns.map V.int)) (hx : x ∈ ns) (h : Q (.int (ns.idxOf x : Nat)) H) : rIndex K (.ref p) [.int x] H Q := by
  have hl : ns.idxOf x < ns.length := List.idxOf_lt_length_of_mem hx
  have hg : ns[ns.idxOf x]? = some x := by rw [List.getElem?_eq_getElem hl, List.getElem_idxOf hl]
  refine k_indexV (z := .int x) hs rfl (flat_ints ns) (by rw [List.getElem?_map, hg]; rfl) (by show (x == x) = true; simp) (fun m z' hm hz => ?_) h
  rw [List.getElem?_map] at hz
  obtain ⟨y, hy, rfl⟩ := Option.map_eq_some_iff.mp hz
  show (y == x) = false
  have hml : m < ns.length := by omega
  have e : y = ns[m] := by rw [List.getElem?_eq_getElem hml] at hy; exact (Option.some.inj hy).symm
  rw [e]
  have := List.not_of_lt_findIdx (p := (· == x)) (xs := ns) hm
  simpa using this
theorem some_srt {hs ts : List Int} (h1 : hs.Pairwise (· < ·)) (h2 : ts.Pairwise (· < ·)) : (someOf hs ts).Pairwise (· < ·) := by
  unfold someOf
  refine List.pairwise_map.mpr ((h2.filter _).imp_of_mem fun {x y} hx hy hxy => ?_)
  have mx : x ∈ hs := by simpa using (List.mem_filter.mp hx).2
  have my : y ∈ hs := by simpa using (List.mem_filter.mp hy).2
  have lx := List.idxOf_lt_length_of_mem mx
  have ly := List.idxOf_lt_length_of_mem my
  have gx : hs[hs.idxOf x] = x := List.getElem_idxOf lx
  have gy : hs[hs.idxOf y] = y := List.getElem_idxOf ly
  rcases Nat.lt_trichotomy (hs.idxOf x) (hs.idxOf y) with c | c | c
  · omega
  · have : x = y := by rw [← gx, ← gy]; simp only [c]
    omega
  · have := List.pairwise_iff_getElem.mp h1 _ _ ly lx c
    rw [gx, gy] at this
    omega
theorem some_fm (hs ts : List Int) : ts.filterMap (fun t => if decide (t ∈ hs) = true then some (V.int (hs.idxOf t : Nat)) else none) = (someOf hs ts).map V.int := by
  unfold someOf
  rw [List.map_map]
  induction ts with
  | nil => rfl
  | cons x r ih =>
    by_cases c : decide (x ∈ hs) = true
    · rw [List.filterMap_cons, if_pos c, List.filter_cons, if_pos c]
      simp only [List.map_cons]
      rw [ih]
      rfl
    · rw [List.filterMap_cons, if_neg c, List.filter_cons, if_neg c]
      exact ih
/-- first and last of a rising list -/
def ends (ns : List Int) : Int × Int := (ns.headD 0, ns.getLastD 0)
theorem ends_min {ns : List Int} {m : Int} (h : ns.Pairwise (· < ·)) (hm : m ∈ ns) (hl : ∀ y ∈ ns, m ≤ y) : m = (ends ns).1 := by
  cases ns with
  | nil => cases hm
  | cons x r =>
    show m = x
    have := hl x List.mem_cons_self
    rcases List.mem_cons.mp hm with e | e
    · exact e
    · have := (List.pairwise_cons.mp h).1 m e; omega
theorem ends_max : ∀ {ns : List Int} {m : Int}, ns.Pairwise (· < ·) → m ∈ ns → (∀ y ∈ ns, y ≤ m) → m = (ends ns).2
  | [], _, _, hm, _ => by cases hm
  | [x], m, _, hm, _ => by
    show m = x
    simpa using hm
  | x :: y :: r, m, h, hm, hl => by
    obtain ⟨h1, h2⟩ := List.pairwise_cons.mp h
    have hy := hl y (by simp)
    have hx := h1 y List.mem_cons_self
    have hm' : m ∈ y :: r := by
      rcases List.mem_cons.mp hm with e | e
      · omega
      · exact e
    have := ends_max h2 hm' fun z hz => hl z (List.mem_cons_of_mem _ hz)
    rw [this]
    rfl
/-- the ties of a way on a tree, rising -/
def treeTies (ps : List Int) (w : Int × Int) : List Int := ((List.range ps.length).filter fun t => decide (below ps (t + 1) w.1.toNat ≠ below ps (t + 1) w.2.toNat)).map fun t : Nat => (t : Int)
theorem treeTies_srt (ps : List Int) (w : Int × Int) : (treeTies ps w).Pairwise (· < ·) := by
  unfold treeTies
  exact List.pairwise_map.mpr ((List.pairwise_lt_range.filter _).imp fun h => by omega)
theorem treeTies_mem {ps : List Int} {w : Int × Int} {t : Int} : t ∈ treeTies ps w ↔ OnTie (.tree ps) w.1 w.2 t := by
  unfold treeTies
  rw [List.mem_map]
  show _ ↔ 0 ≤ t ∧ t < ps.length ∧ below ps (t.toNat + 1) w.1.toNat ≠ below ps (t.toNat + 1) w.2.toNat
  constructor
  · rintro ⟨i, hi, rfl⟩
    obtain ⟨h1, h2⟩ := List.mem_filter.mp hi
    have := List.mem_range.mp h1
    exact ⟨by omega, by omega, by rw [Int.toNat_natCast]; exact of_decide_eq_true h2⟩
  · rintro ⟨h0, h1, h2⟩
    exact ⟨t.toNat, List.mem_filter.mpr ⟨List.mem_range.mpr (by omega), decide_eq_true h2⟩, by omega⟩
/-- what crossing_of tells of the first i ways -/
def wayAt (ps : List Int) (p : Int) (w : Int × Int) : List Int := someOf (hereOf ps p) (treeTies ps w)
def crPairs (ps : List Int) (p : Int) (ws : List (Int × Int)) : List (Int × Int) := ws.filterMap fun w => if wayAt ps p w = [] then none else some (ends (wayAt ps p w))
def crNums (ps : List Int) (p : Int) (ws : List (Int × Int)) (i : Nat) : List Int := ((List.range i).filter fun k => match ws[k]? with | some w => !decide (wayAt ps p w = []) | none => false).map fun k : Nat => (k : Int)
theorem crNums_succ {ps : List Int} {p : Int} {ws : List (Int × Int)} {i : Nat} {w : Int × Int} (h : ws[i]? = some w) : crNums ps p ws (i + 1) = crNums ps p ws i ++ if wayAt ps p w = [] then [] else [(i : Int)] := by
  unfold crNums
  rw [List.range_succ, List.filter_append, List.map_append]
  congr 1
  by_cases c : wayAt ps p w = [] <;> simp [h, c]
theorem crPairs_succ {ps : List Int} {p : Int} {ws : List (Int × Int)} {i : Nat} {w : Int × Int} (h : ws[i]? = some w) : crPairs ps p (ws.take (i + 1)) = crPairs ps p (ws.take i) ++ if wayAt ps p w = [] then [] else [ends (wayAt ps p w)] := by
  unfold crPairs
  rw [take_filterMap h]
  by_cases c : wayAt ps p w = []
  · rw [if_pos c, if_pos c]; rfl
  · rw [if_neg c, if_neg c]; rfl
/-- a crossing with its ways' numbers, all of it new -/
structure CrNew (K : PySem.W.Frag) (H H' : Hp) (p : Addr) (n : Int) (prs : List (Int × Int)) (nms : List Int) : Prop where
  same : Same H H'
  ex : ∃ q pl nl ys, H p = none ∧ H q = none ∧ H pl = none ∧ H nl = none ∧ pl ≠ nl ∧ H' p = some (.tup [.ref q, .ref nl]) ∧ H' q = some (.tup [.int n, .ref pl]) ∧ H' pl = some (.lst ys) ∧ (∀ S : List Addr, (∀ b ∈ S, H b ≠ none) → DpAll K (hid (pl :: nl :: S) H') ys (prs.map dPair)) ∧ H' nl = some (.lst (nms.map V.int))
abbrev dCrN (n : Int) (prs : List (Int × Int)) (nms : List Int) : PyData := .tuple [.tuple [.int n, dPairs prs], dInts nms]
theorem CrNew.dp {K : PySem.W.Frag} {H H' : Hp} {p : Addr} {n : Int} {prs : List (Int × Int)} {nms : List Int} (h : CrNew K H H' p n prs nms) : Dp K H' (.ref p) (dCrN n prs nms) := by
  obtain ⟨q, pl, nl, ys, _, _, _, _, _, h1, h2, h3, h4, h5⟩ := h.ex
  exact .tup (stp h1) (.cons (.tup (stp h2) (.cons (.int _) (.cons (.lst (sl h3) (dpa_same (hid_same _ _) (h4 [] (by simp)))) .nil))) (.cons (dp_of_ints (sl h5)) .nil))
/-- what is told lies in new places alone -/
theorem CrNew.dph {K : PySem.W.Frag} {H H' : Hp} {p : Addr} {n : Int} {prs : List (Int × Int)} {nms : List Int} (h : CrNew K H H' p n prs nms) {S : List Addr} (hS : ∀ b ∈ S, H b ≠ none) : Dp K (hid S H') (.ref p) (dCrN n prs nms) := by
  obtain ⟨q, pl, nl, ys, n1, n2, n3, n4, _, h1, h2, h3, h4, h5⟩ := h.ex
  have o : ∀ {b : Addr} {x : HO}, H b = none → H' b = some x → hid S H' b = some x := fun nb e => by rw [hid_ne fun z => hS _ z nb]; exact e
  exact .tup (stp (o n1 h1)) (.cons (.tup (stp (o n2 h2)) (.cons (.int _) (.cons (.lst (sl (o n3 h3)) (dpa_same (hid_sub fun a ha => by simp [ha]) (h4 S hS))) .nil))) (.cons (dp_of_ints (sl (o n4 h5))) .nil))
def pr_crossing_of (K : PySem.W.Frag) (v0 v1 v2 : V) (H : Hp) (Q : VK) (_ : XK) : Prop := ∃ (ps : List Int) (ws : List (Int × Int)) (x : Int), v2 = .int x ∧ Dp K H v0 (Net.tree ps).d ∧ TreeOk ps ∧ Dp K H v1 (dPairs ws) ∧ ws.length ≤ 1000 ∧ (∀ w ∈ ws, isWay (.tree ps) w.1 w.2) ∧
  ∀ p H', CrNew K H H' p (hereOf ps x).length (crPairs ps x ws) (crNums ps x ws ws.length) → Q (.ref p) H'
def t_crossing_of (K : PySem.W.Frag) : TS :=
  (tSeq (tAsg (tCall (sp_ties_at K) [] E0 (tCons (tVar 0) (tCons (tVar 2) tNil))) (gName 3))
    (tSeq (tAsg (tLst tNil) (gName 4))
    (tSeq (tAsg (tLst tNil) (gName 5))
    (tSeq (tFor (iRng1 (tCons (tCB (rLenX K) (tCons (tVar 1) tNil)) tNil)) (gName 6)
      (tSeq (tAsg (tLc (iList K (tCall (sp_ties_on K) [] E0 (tCons (tVar 0) (tCons (tOp (rIxL K) (tVar 1) (tVar 6)) tNil)))) (gName 8) (tTest (tOp (rIn K false) (tVar 8) (tVar 3))) (tBM K "list" (rIndex K) (tVar 3) (tCons (tVar 8) tNil)) [8]) (gName 7))
    (tIfS (tTest (tOp xGt (tCB (rLenX K) (tCons (tVar 7) tNil)) (tC (.int 0)))) (tSeq (tDrop (tBM K "list" rAppend (tVar 4) (tCons (tTup (tCons (tCB (rMin K) (tCons (tVar 7) tNil)) (tCons (tCB (rMax K) (tCons (tVar 7) tNil)) tNil))) tNil)))
    (tDrop (tBM K "list" rAppend (tVar 5) (tCons (tVar 6) tNil)))) tNext)))
    (tRet (tTup (tCons (tTup (tCons (tCB (rLenX K) (tCons (tVar 3) tNil)) (tCons (tVar 4) tNil))) (tCons (tVar 5) tNil))))))))
theorem pure_crossing_of {v0 v1 v2 : V} {H : Hp} {Q : VK} {E : XK} (h : pr_crossing_of K v0 v1 v2 H Q E) : t_crossing_of K ⟨fun _ H' => Q .non H', Q, fun _ _ => False, fun _ _ => False⟩ [some v0, some v1, some v2, none, none, none, none, none, none] H := by
  obtain ⟨ps, ws, x, rfl, hd, ok, hw, hz, hok, q⟩ := h
  obtain ⟨b, xs, rfl, hb, hxs⟩ := dp_list hw
  have hl := dpa_len hxs
  rw [List.length_map] at hl
  have hpl := ok.2.1
  unfold t_crossing_of
  wtm_at "s"
  refine ⟨_, _, rfl, ps, x, rfl, hd, by omega, fun he H1 nhe s1 ehe => ?_⟩
  wtm_at "s"
  refine kL (by simp) (fun pl H2 npl s2 epl => ?_)
  wtm_at "s"
  refine kL (by simp) (fun nl H3 nnl s3 enl => ?_)
  have npl0 : H pl = none := s1.free npl
  have nnl0 : H nl = none := (s1.trans s2).free nnl
  have pn : pl ≠ nl := fun e => by rw [← e, epl] at nnl; cases nnl
  have lh := here_len ps x
  wtm_at "s"
  rw [hl]
  refine forR (fun i σ' H' => Same H1 H' ∧ ∃ ys k6 k7, σ' = [some v0, some (.ref b), some (.int x), some (.ref he), some (.ref pl), some (.ref nl), k6, k7, none] ∧ H' pl = some (.lst ys) ∧ ys.length ≤ i ∧ (∀ S : List Addr, (∀ b ∈ S, H b ≠ none) → DpAll K (hid (pl :: nl :: S) H') ys ((crPairs ps x (ws.take i)).map dPair)) ∧ H' nl = some (.lst ((crNums ps x ws i).map V.int)) ∧ (crNums ps x ws i).length ≤ i)
    ⟨s2.trans s3, [], _, _, rfl, s3 _ _ epl, Nat.le_refl _, fun _ _ => .nil, enl, Nat.le_refl _⟩ ?_ ?_
  · rintro i σ' H4 hi ⟨s4, ys, k6, k7, rfl, hp4, ly, dy, hn4, ln⟩
    have hi' : i < xs.length := by omega
    obtain ⟨v, hx⟩ : ∃ v, xs[i]? = some v := ⟨xs[i], List.getElem?_eq_getElem hi'⟩
    obtain ⟨d, hd1, hd2⟩ := dpa_get hxs hx
    rw [List.getElem?_map] at hd1
    obtain ⟨w, hw1, rfl⟩ := Option.map_eq_some_iff.mp hd1
    have wok := hok w (List.mem_of_getElem? hw1)
    have tp := crPairs_succ (ps := ps) (p := x) hw1
    have tn := crNums_succ (ps := ps) (p := x) hw1
    wtm_at "s"
    refine k_ixL (by wtm_at "sq") (by rw [Int.zero_add]; exact atI_nat hx) ?_
    wtm_at "s"
    refine ⟨_, _, rfl, .tree ps, w.1, w.2, by wtm_at "dp", by wtm_at "dp", ok, wok, fun tl ts H5 ntl s5 etl tt => ?_⟩
    have ets : ts = treeTies ps w := ss_ext tt.srt (treeTies_srt ps w) fun t => (tt.mem t).trans treeTies_mem.symm
    subst ets
    have lts : (treeTies ps w).length < 120 := tt.far
    refine lc_pure (sl etl) (treeTies ps w) (by simp) (by omega) (fun t => if decide (t ∈ hereOf ps x) = true then some (V.int ((hereOf ps x).idxOf t : Nat)) else none) ?_ (fun D H6 nD s6 eD => ?_)
    · intro j z t H' hz ht sm R R0 h1 h2
      rw [List.getElem?_map, ht] at hz
      cases hz
      wtm_at "s"
      refine k_it (fun c => ?_) (fun c => ?_)
      · wtm_at "s"
        refine k_tyL (by wtm_at "sq") ?_
        wtm_at "s"
        refine k_indexI (by wtm_at "sq") c ?_
        exact h1 _ (by rw [if_pos (decide_eq_true c)])
      · exact h2 (by rw [if_neg (by simpa using c)])
    · rw [some_fm] at eD
      have srt := some_srt (here_srt ps x) (treeTies_srt ps w)
      have eD' : H6 D = some (.lst ((wayAt ps x w).map V.int)) := eD
      have srt' : (wayAt ps x w).Pairwise (· < ·) := srt
      have hp6 := (s5.trans s6) _ _ hp4
      have hn6 := (s5.trans s6) _ _ hn4
      have dy6 : ∀ S : List Addr, (∀ b ∈ S, H b ≠ none) → DpAll K (hid (pl :: nl :: S) H6) ys ((crPairs ps x (ws.take i)).map dPair) := fun S hS => dpa_same (hid_mono (s5.trans s6)) (dy S hS)
      have s16 : Same H1 H6 := s4.trans (s5.trans s6)
      clear eD srt
      wtm_at "s"
      generalize wayAt ps x w = so at eD' srt' tp tn ⊢
      refine k_it (fun c => ?_) (fun c => ?_)
      · have sne : so ≠ [] := fun e => by rw [e] at c; simp at c
        rw [if_neg sne] at tp tn
        wtm_at "s"
        refine k_tyL (sl hp6) ?_
        wtm_at "s"
        refine k_min (sl eD') (by omega) (fun m m1 m2 => ?_)
        wtm_at "s"
        refine k_max (sl eD') (by omega) (fun m' m1' m2' => ?_)
        have em : m = (ends so).1 := ends_min srt' m1 m2
        have em' : m' = (ends so).2 := ends_max srt' m1' m2'
        subst em em'
        wtm_at "s"
        refine kT (by simp) (fun t1 H7 nt1 s7 e7 => ?_)
        have hp7 := s7 _ _ hp6
        have hn7 := s7 _ _ hn6
        have t1p : t1 ≠ pl := fun e => by rw [e, hp6] at nt1; cases nt1
        have t1n : t1 ≠ nl := fun e => by rw [e, hn6] at nt1; cases nt1
        wtm_at "s"
        refine k_append hp7 (by omega) ?_
        wtm_at "s"
        have hn8 : upd H7 pl (.lst (ys ++ [.ref t1])) nl = some (.lst ((crNums ps x ws i).map V.int)) := by rw [upd_ne (fun e => pn e.symm)]; exact hn7
        refine k_tyL (sl hn8) ?_
        wtm_at "s"
        refine k_append hn8 (by simp; omega) ?_
        refine ⟨same_mut (same_mut (s16.trans s7) npl) ((s2.free nnl)), ys ++ [.ref t1], _, _, rfl, ?_, by simp; omega, ?_, ?_, by rw [tn]; simp; omega⟩
        · rw [upd_ne pn, upd_same]
        · intro S hS
          rw [hid_upd (by simp), hid_upd (by simp), tp, List.map_append]
          refine dpa_app (dpa_same (hid_mono s7) (dy6 S hS)) (.cons (dp_of_pair (stp ?_)) .nil)
          rw [hid_ne fun z => ?_]
          · exact e7
          · rcases List.mem_cons.mp z with z | z
            · exact t1p z
            · rcases List.mem_cons.mp z with z | z
              · exact t1n z
              · exact hS t1 z ((s1.trans s16).free nt1)
        · rw [upd_same, tn, List.map_append, Int.zero_add]; rfl
      · have se : so = [] := by
          cases so with
          | nil => rfl
          | cons z r => exact absurd (by simp : (0 : Int) < ((z :: r).length : Int)) c
        rw [if_pos se, List.append_nil] at tp tn
        wtm_at "s"
        refine ⟨s16, ys, _, _, rfl, hp6, by omega, fun S hS => by rw [tp]; exact dy6 S hS, by rw [tn]; exact hn6, by rw [tn]; omega⟩
  · rintro σ' H4 ⟨s4, ys, k6, k7, rfl, hp4, ly, dy, hn4, ln⟩
    rw [Int.toNat_natCast] at dy hn4
    rw [List.take_length] at dy
    wtm_at "s"
    refine kT (by simp) (fun cq H5 ncq s5 ecq => ?_)
    wtm_at "s"
    refine kT (by simp) (fun cp H6 ncp s6 ecp => ?_)
    have s16 : Same H1 H4 := s4
    exact q cp H6 ⟨by wtm_at "sm", cq, pl, nl, ys, ((s1.trans s4).trans s5).free ncp, (s1.trans s4).free ncq, npl0, nnl0, pn, ecp, s6 _ _ ecq, (s5.trans s6) _ _ hp4, fun S hS => dpa_same (hid_mono (s5.trans s6)) (dy S hS), (s5.trans s6) _ _ hn4⟩
abbrev sp_crossing_of (K : PySem.W.Frag) : Sp := fun vs H Q E => ∃ v0 v1 v2, vs = [v0, v1, v2] ∧ pr_crossing_of K v0 v1 v2 H Q E
theorem ok_crossing_of (T : Txt K mg A) : FnOk P w K mg base CX0 2 A.a_crossing_of A.d_crossing_of ["net", "ways", "place"] (sp_crossing_of K) := by
  refine T.F_crossing_of.ok sc_crossing_of (fun vs H Q E h => by obtain ⟨v0, v1, v2, rfl, _⟩ := h; rfl) (fun cdv A0 outer s H vs Q E hr h => ?_)
  obtain ⟨v0, v1, v2, rfl, h⟩ := h
  exact ⟨t_crossing_of K, (pss_cons (ps_set (i := 3) sc_crossing_of.nd rfl (Or.inr rfl) (pe_call (ok_ties_at T) (hr.mono (by decide)) (by rfl) T.g_ties_at T.F_ties_at.kp T.b_ties_at .nil pass0 (pa_cons (pv 0) (pa_cons (pv 2) pa_nil))))
      (pss_cons (ps_set (i := 4) sc_crossing_of.nd rfl (Or.inl rfl) (pe_lst pa_nil))
      (pss_cons (ps_set (i := 5) sc_crossing_of.nd rfl (Or.inl rfl) (pe_lst pa_nil))
      (pss_cons (ps_for PassesOwn.never rfl (pi_range1 (by rfl) T.z_range (pa_cons (pe_callB q_len (by rfl) T.z_len (by decide +kernel) (pa_cons (pv 1) pa_nil)) pa_nil)) (pg_name (i := 6) sc_crossing_of.nd rfl (Or.inl rfl))
      (pss_cons (ps_setLc (i := 7) (own := [("tie", 8)]) (by rfl) sc_crossing_of.nd rfl rfl (sw_true rfl rfl rfl (by decide +kernel)) (pi_list (pe_call (ok_ties_on T) (hr.mono (by decide)) (by rfl) T.g_ties_on T.F_ties_on.kp T.b_ties_on .nil pass0 (pa_cons (pv 0) (pa_cons (pe_ix ix_list (pv 1) (pv 6) (fun _ _ => rfl)) pa_nil)))) (blkOk_by (own := [("tie", 8)]) (N := ["net", "ways", "place", "here", "pairs", "numbers", "k", "some", "tie"]) (sc := defScope s_crossing_of) (by decide +kernel)) (fun _ _ _ _ _ => (pg_name (i := 8) sc_crossing_of.nd rfl (Or.inl rfl))) (fun _ _ _ _ _ => (pts_one (pt_cmpR op_in_seq (pv 8) (pv 3) (by rfl)))) (fun _ _ _ _ _ => (pe_bm PySem.F.plainAttrs_list PySem.F.slot_list_index PySem.F.type_list_index mt_index (pv 3) (pa_cons (pv 8) pa_nil))))
      (pss_one (ps_if (pt_cmpR op_gt (pe_callB q_len (by rfl) T.z_len (by decide +kernel) (pa_cons (pv 7) pa_nil)) pe_int (nomark _)) (pss_cons (ps_expr (pe_bm PySem.F.plainAttrs_list PySem.F.slot_list_append PySem.F.type_list_append mt_append (pv 4) (pa_cons (pe_tup (pa_cons (pe_callB (cr_min (by rfl)) (by rfl) T.z_min (by decide +kernel) (pa_cons (pv 7) pa_nil)) (pa_cons (pe_callB (cr_max (by rfl)) (by rfl) T.z_max (by decide +kernel) (pa_cons (pv 7) pa_nil)) pa_nil))) pa_nil)))
      (pss_one (ps_expr (pe_bm PySem.F.plainAttrs_list PySem.F.slot_list_append PySem.F.type_list_append mt_append (pv 5) (pa_cons (pv 6) pa_nil))))) pss_nil))))
      (pss_one (ps_ret (pe_tup (pa_cons (pe_tup (pa_cons (pe_callB q_len (by rfl) T.z_len (by decide +kernel) (pa_cons (pv 3) pa_nil)) (pa_cons (pv 4) pa_nil))) (pa_cons (pv 5) pa_nil))))))))), pure_crossing_of h⟩
def pr_crossing_at (K : PySem.W.Frag) (v0 v1 v2 : V) (H : Hp) (Q : VK) (_ : XK) : Prop := ∃ (ps : List Int) (ws : List (Int × Int)) (x : Int), v2 = .int x ∧ Dp K H v0 (Net.tree ps).d ∧ TreeOk ps ∧ Dp K H v1 (dPairs ws) ∧ ws.length ≤ 1000 ∧ (∀ w ∈ ws, isWay (.tree ps) w.1 w.2) ∧ 0 ≤ x ∧ x ≤ ps.length ∧
  ∀ p H', CrNew K H H' p (hereOf ps x).length (crPairs ps x ws) (crNums ps x ws ws.length) → Q (.ref p) H'
def t_crossing_at (K : PySem.W.Frag) : TS :=
  (tSeq (tDrop (tCall (sp_must_be_kind K) [] E0 (tCons (tVar 0) (tCons (tC (.str (Str.ofString "tree"))) tNil))))
    (tSeq (tDrop (tCall (sp_must_be_ways K) [] E0 (tCons (tVar 0) (tCons (tVar 1) tNil))))
    (tSeq (tIfS (tOr (tTest (tOp xLt (tVar 2) (tC (.int 0)))) (tTest (tOp xGe (tVar 2) (tCall (sp_places_of K) [] E0 (tCons (tVar 0) tNil))))) tNever tNext)
    (tRet (tCall (sp_crossing_of K) [] E0 (tCons (tVar 0) (tCons (tVar 1) (tCons (tVar 2) tNil))))))))
theorem pure_crossing_at {v0 v1 v2 : V} {H : Hp} {Q : VK} {E : XK} (h : pr_crossing_at K v0 v1 v2 H Q E) : t_crossing_at K ⟨fun _ H' => Q .non H', Q, fun _ _ => False, fun _ _ => False⟩ [some v0, some v1, some v2] H := by
  obtain ⟨ps, ws, x, rfl, hd, ok, hw, hz, hok, x0, x1, q⟩ := h
  unfold t_crossing_at
  wtm_at "s"
  refine ⟨_, _, rfl, .tree ps, hd, ok, rfl, ?_⟩
  wtm_at "s"
  refine ⟨_, _, rfl, .tree ps, ws, hd, hw, by omega, hok, ?_⟩
  wtm_at "s"
  refine ⟨_, rfl, .tree ps, hd, ?_⟩
  have hp : (Net.tree ps).places = ps.length + 1 := rfl
  rw [hp]
  wtm_at "s"
  exact ⟨_, _, _, rfl, ps, ws, x, rfl, hd, ok, hw, hz, hok, q⟩
abbrev sp_crossing_at (K : PySem.W.Frag) : Sp := fun vs H Q E => ∃ v0 v1 v2, vs = [v0, v1, v2] ∧ pr_crossing_at K v0 v1 v2 H Q E
theorem ok_crossing_at (T : Txt K mg A) : FnOk P w K mg base CX0 4 A.a_crossing_at A.d_crossing_at ["net", "ways", "place"] (sp_crossing_at K) := by
  refine T.F_crossing_at.ok sc_crossing_at (fun vs H Q E h => by obtain ⟨v0, v1, v2, rfl, _⟩ := h; rfl) (fun cdv A0 outer s H vs Q E hr h => ?_)
  obtain ⟨v0, v1, v2, rfl, h⟩ := h
  exact ⟨t_crossing_at K, (pss_cons (ps_expr (pe_call (ok_must_be_kind T) (hr.mono (by decide)) (by rfl) T.g_must_be_kind T.F_must_be_kind.kp T.b_must_be_kind .nil pass0 (pa_cons (pv 0) (pa_cons pe_str pa_nil))))
      (pss_cons (ps_expr (pe_call (ok_must_be_ways T) (hr.mono (by decide)) (by rfl) T.g_must_be_ways T.F_must_be_ways.kp T.b_must_be_ways .nil pass0 (pa_cons (pv 0) (pa_cons (pv 1) pa_nil))))
      (pss_cons (ps_if (PW.pt (pw_or (pt_cmpR op_lt (pv 2) pe_int (nomark _)) (pw_or1 (pt_cmpR op_ge (pv 2) (pe_call (ok_places_of T) (hr.mono (by decide)) (by rfl) T.g_places_of T.F_places_of.kp T.b_places_of .nil pass0 (pa_cons (pv 0) pa_nil)) (nomark _))))) (pss_one ps_never) pss_nil)
      (pss_one (ps_ret (pe_call (ok_crossing_of T) (hr.mono (by decide)) (by rfl) T.g_crossing_of T.F_crossing_of.kp T.b_crossing_of .nil pass0 (pa_cons (pv 0) (pa_cons (pv 1) (pa_cons (pv 2) pa_nil))))))))), pure_crossing_at h⟩


theorem lastD_mem : ∀ (r : List Int) (a : Int), r.getLastD a ∈ a :: r
  | [], a => List.mem_cons_self
  | b :: r, a => by rw [List.getLastD_cons]; exact List.mem_cons_of_mem _ (lastD_mem r b)
theorem idx_lt {hs : List Int} (h : hs.Pairwise (· < ·)) {a b : Int} (ha : a ∈ hs) (hb : b ∈ hs) (l : a < b) : hs.idxOf a < hs.idxOf b := by
  have la := List.idxOf_lt_length_of_mem ha
  have lb := List.idxOf_lt_length_of_mem hb
  refine Classical.byContradiction fun z => ?_
  have ea : hs[hs.idxOf a] = a := List.getElem_idxOf la
  have eb : hs[hs.idxOf b] = b := List.getElem_idxOf lb
  rcases Nat.lt_or_ge (hs.idxOf b) (hs.idxOf a) with c | c
  · have := List.pairwise_iff_getElem.mp h _ _ lb la c
    omega
  · have e : hs.idxOf a = hs.idxOf b := by omega
    have : a = b := by rw [← ea, ← eb]; simp only [e]
    omega
theorem wayAt_srt (ps : List Int) (x : Int) (w : Int × Int) : (wayAt ps x w).Pairwise (· < ·) := by
  unfold wayAt someOf
  refine List.pairwise_map.mpr (((treeTies_srt ps w).filter _).imp_of_mem fun {a b} ha hb hab => ?_)
  have h1 := of_decide_eq_true (List.mem_filter.mp ha).2
  have h2 := of_decide_eq_true (List.mem_filter.mp hb).2
  have := idx_lt (here_srt ps x) h1 h2 hab
  omega
theorem CrOk.tree {ps : List Int} {x : Int} {ws : List (Int × Int)} (hp : ps.length ≤ 60) (hw : ws.length ≤ 60) : CrOk (hereOf ps x).length (crPairs ps x ws) := by
  have hl : (hereOf ps x).length ≤ ps.length := by
    unfold hereOf
    rw [List.length_map]
    have := List.length_filter_le (hereB ps x) (List.range ps.length)
    rwa [List.length_range] at this
  refine ⟨by omega, by omega, ?_, fun q hq => ?_⟩
  · unfold crPairs
    exact Nat.le_trans (List.length_filterMap_le _ _) hw
  · unfold crPairs at hq
    obtain ⟨w, _, e⟩ := List.mem_filterMap.mp hq
    split at e
    · cases e
    · rename_i ne
      cases e
      have rng : ∀ y ∈ wayAt ps x w, 0 ≤ y ∧ y < (hereOf ps x).length := fun y hy => by
        unfold wayAt someOf at hy
        obtain ⟨t, ht, rfl⟩ := List.mem_map.mp hy
        have := of_decide_eq_true (List.mem_filter.mp ht).2
        have := List.idxOf_lt_length_of_mem this
        omega
      have srt : (wayAt ps x w).Pairwise (· < ·) := wayAt_srt ps x w
      generalize wayAt ps x w = l at ne rng srt
      cases l with
      | nil => exact absurd rfl ne
      | cons a r =>
        have h1 := rng a List.mem_cons_self
        have hlast : (ends (a :: r)).2 ∈ a :: r := by
          show (a :: r).getLastD 0 ∈ a :: r
          rw [List.getLastD_cons]
          exact lastD_mem r a
        have h2 := rng _ hlast
        refine ⟨h1.1, ?_, h2.2⟩
        rcases List.mem_cons.mp hlast with e | e
        · rw [e]; exact Int.le_refl _
        · exact Int.le_of_lt ((List.pairwise_cons.mp srt).1 _ e)


def optV : Option Nat → V
  | none => .non
  | some k => .int (k : Int)
def pr_hardest_way (K : PySem.W.Frag) (v0 v1 : V) (H : Hp) (Q : VK) (_ : XK) : Prop := ∃ (M : List (List Int)) (a : Addr) (gs : List (Int × Int)), Dp K H v0 (.list (M.map dInts)) ∧ M.length ≤ 1000 ∧ (∀ r ∈ M, r.length ≤ 1000) ∧ v1 = .ref a ∧ H a = some (.dK (dS gs)) ∧ (∃ j : Nat, j < M.length ∧ lookS gs (j : Int) = none) ∧ ∀ H', Same H H' → Q (.int (hardK M gs : Nat)) H'
def t_hardest_way (K : PySem.W.Frag) : TS :=
  (tSeq (tAsg (tC .non) (gName 2))
    (tSeq (tAsg (tUn xNeg (tC (.int 1))) (gName 3))
    (tSeq (tFor (iRng1 (tCons (tCB (rLenX K) (tCons (tVar 0) tNil)) tNil)) (gName 4)
      (tSeq (tAsg (tLenU K (tLc (iList K (tOp (rIxL K) (tVar 0) (tVar 4))) (gName 6) (tB (tDIn (tVar 6) (tVar 1))) (tDGet (tVar 1) (tVar 6)) [6])) (gName 5))
    (tIfS (tAnd (tB (tDNotIn (tVar 4) (tVar 1))) (tTest (tOp xGt (tVar 5) (tVar 3)))) (tSeq (tAsg (tVar 4) (gName 2))
    (tAsg (tVar 5) (gName 3))) tNext)))
    (tRet (tVar 2)))))
theorem pure_hardest_way {v0 v1 : V} {H : Hp} {Q : VK} {E : XK} (hh : pr_hardest_way K v0 v1 H Q E) : t_hardest_way K ⟨fun _ H' => Q .non H', Q, fun _ _ => False, fun _ _ => False⟩ [some v0, some v1, none, none, none, none, none] H := by
  obtain ⟨M, a, gs, d0, hm, hr, rfl, ha, hf, q⟩ := hh
  obtain ⟨b, xs, rfl, hb, dx⟩ := dp_list d0
  have lxs : xs.length = M.length := by rw [dpa_len dx, List.length_map]
  unfold t_hardest_way
  wtm_at "s"
  rw [lxs, Int.toNat_natCast]
  refine forR (fun i σ' H' => Same H H' ∧ ∃ k4 k5, σ' = [some (.ref b), some (.ref a), some (optV (hardF M gs i).1), some (.int (hardF M gs i).2), k4, k5, none]) ⟨Same.refl _, _, _, rfl⟩ ?_ ?_
  · rintro i σ' H1 hi ⟨s1, k4, k5, rfl⟩
    simp only [Int.zero_add]
    obtain ⟨rw', hrw, hrs⟩ := dp_row (s1.seq hb) (dpa_same s1 dx) hi
    have hlr : (M.getD i []).length ≤ 1000 := by
      rw [List.getD_eq_getElem?_getD, List.getElem?_eq_getElem (by omega)]
      exact hr _ (List.getElem_mem _)
    wtm_at "s"
    refine k_ixL (s1.seq hb) (atI_nat hrw) ?_
    wtm_at "s"
    refine lc_pure hrs (M.getD i []) (by simp) (by omega) (fun o => (lookS gs o).map V.int) ?_ (fun D H2 nD s2 eD => ?_)
    · intro j x o H' hx ho sm R R0 g1 g2
      rw [List.getElem?_map, ho] at hx
      cases hx
      wtm_at "s"
      refine k_iD (sm _ _ (s1 _ _ ha)) ?_
      rw [dS_val]
      cases hk : lookS gs o with
      | none =>
        simp only [Option.map_none, Option.isSome_none, Bool.false_eq_true, if_false]
        wtm_at "s"
        exact g2 (by rw [hk]; rfl)
      | some u =>
        simp only [Option.map_some, Option.isSome_some, Bool.false_eq_true, if_false]
        wtm_at "s"
        refine k_gD1 (.inl (sm _ _ (s1 _ _ ha))) (by rw [dS_val, hk]; rfl) ?_
        exact g1 _ (by rw [hk]; rfl)
    · have ex : (M.getD i []).filterMap (fun o => (lookS gs o).map V.int) = ((M.getD i []).filterMap (lookS gs)).map V.int := by
        rw [List.map_filterMap]
      rw [ex] at eD
      have s02 := s1.trans s2
      have hln : ((M.getD i []).filterMap (lookS gs)).length ≤ 4000 := Nat.le_trans (List.length_filterMap_le _ _) (by omega)
      refine ⟨D, _, rfl, sl eD, hln, ?_⟩
      wtm_at "s"
      refine k_iD (s02 _ _ ha) ?_
      rw [dS_val]
      cases hk : lookS gs (i : Int) with
      | some u =>
        have e : hardF M gs (i + 1) = hardF M gs i := by
          show (if (lookS gs (i : Int)).isNone && _ then _ else _) = _
          rw [hk]; rfl
        refine ⟨false, rfl, ?_⟩
        rw [if_neg (by decide), if_neg (by decide)]
        wtm_at "s"
        exact ⟨s02, _, _, by rw [e]⟩
      | none =>
        refine ⟨true, rfl, ?_⟩
        rw [if_pos rfl]
        wtm_at "s"
        refine k_it (fun c => ?_) (fun c => ?_)
        · have e : hardF M gs (i + 1) = (some i, (nearF M gs i : Int)) := by
            show (if (lookS gs (i : Int)).isNone && decide ((hardF M gs i).2 < (nearF M gs i : Int)) then _ else _) = _
            rw [hk, decide_eq_true (by unfold nearF; omega)]; rfl
          wtm_at "s"
          exact ⟨s02, _, _, by rw [e]; rfl⟩
        · have e : hardF M gs (i + 1) = hardF M gs i := by
            show (if (lookS gs (i : Int)).isNone && decide ((hardF M gs i).2 < (nearF M gs i : Int)) then _ else _) = _
            rw [hk, decide_eq_false (by unfold nearF; omega)]; rfl
          wtm_at "s"
          exact ⟨s02, _, _, by rw [e]⟩
  · rintro σ' H1 ⟨s1, k4, k5, rfl⟩
    rw [(hardK_ok hf).1]
    wtm_at "s"
    exact q H1 s1
abbrev sp_hardest_way (K : PySem.W.Frag) : Sp := fun vs H Q E => ∃ v0 v1, vs = [v0, v1] ∧ pr_hardest_way K v0 v1 H Q E
theorem ok_hardest_way (T : Txt K mg A) : FnOk P w K mg base CX0 1 A.a_hardest_way A.d_hardest_way ["meets", "given"] (sp_hardest_way K) := by
  refine T.F_hardest_way.ok sc_hardest_way (fun vs H Q E h => by obtain ⟨v0, v1, rfl, _⟩ := h; rfl) (fun cdv A0 outer s H vs Q E hr h => ?_)
  obtain ⟨v0, v1, rfl, h⟩ := h
  exact ⟨t_hardest_way K, (pss_cons (ps_set (i := 2) sc_hardest_way.nd rfl (Or.inl rfl) pe_non)
      (pss_cons (ps_set (i := 3) sc_hardest_way.nd rfl (Or.inl rfl) (pe_un un_neg pe_int))
      (pss_cons (ps_for PassesOwn.never rfl (pi_range1 (by rfl) T.z_range (pa_cons (pe_callB q_len (by rfl) T.z_len (by decide +kernel) (pa_cons (pv 0) pa_nil)) pa_nil)) (pg_name (i := 4) sc_hardest_way.nd rfl (Or.inl rfl))
      (pss_cons (ps_set (i := 5) sc_hardest_way.nd rfl (Or.inl rfl) (pe_lenU (by rfl) (by rfl) T.z_len (by rfl) T.z_set (pe_lc (own := [("other", 6)]) (by rfl) sc_hardest_way.nd (pi_list (pe_ix ix_list (pv 0) (pv 4) (fun _ _ => rfl))) (blkOk_by (own := [("other", 6)]) (N := ["meets", "given", "best", "most", "k", "near", "other"]) (sc := defScope s_hardest_way) (by decide +kernel)) (fun _ _ _ _ _ => (pg_name (i := 6) sc_hardest_way.nd rfl (Or.inl rfl))) (fun _ _ _ _ _ => (pts_one (pt_cmp (pc_din (Nat.lt_of_le_of_lt (Nat.add_le_add_left (by decide) _) hr.units) (pv 6) (pv 1)) (by rfl)))) (fun _ _ _ _ _ => (pe_dget (Nat.lt_of_le_of_lt (Nat.add_le_add_left (by decide) _) hr.units) (pv 1) (pv 6) (fun _ _ => rfl))))))
      (pss_one (ps_if (PW.pt (pw_and (pt_cmp (pc_dnotin (Nat.lt_of_le_of_lt (Nat.add_le_add_left (by decide) _) hr.units) (pv 4) (pv 1)) (by rfl)) (pw_and1 (pt_cmpR op_gt (pv 5) (pv 3) (nomark _))))) (pss_cons (ps_set (i := 2) sc_hardest_way.nd rfl (Or.inl rfl) (pv 4))
      (pss_one (ps_set (i := 3) sc_hardest_way.nd rfl (Or.inl rfl) (pv 5)))) pss_nil))))
      (pss_one (ps_ret (pv 2)))))), pure_hardest_way h⟩


theorem k_isiD {K : PySem.W.Frag} {H : Hp} {Q : VK} {p : Addr} {kvs : List (Key × V)} (e : H p = some (.dK kvs)) (h : Q (.bl true) H) : rIsi K [.ref p, .ty "dict"] H Q := k_isi (.base (.dK e)) (by decide +kernel) h
theorem k_isiDT {K : PySem.W.Frag} {H : Hp} {Q : VK} {p : Addr} {xs : List V} (e : SqT K H p xs) (h : Q (.bl false) H) : rIsi K [.ref p, .ty "dict"] H Q := by
  obtain ⟨t, rfl, ty⟩ := ty_tup e
  exact k_isi ty (by decide +kernel) h
theorem k_isiTT {K : PySem.W.Frag} {H : Hp} {Q : VK} {p : Addr} {xs : List V} (e : SqT K H p xs) (h : Q (.bl true) H) : rIsi K [.ref p, .ty "tuple"] H Q := by
  obtain ⟨t, rfl, ty⟩ := ty_tup e
  exact k_isi ty (by decide +kernel) h
theorem k_isiSI {K : PySem.W.Frag} {H : Hp} {Q : VK} {i : Int} (h : Q (.bl false) H) : rIsi K [.int i, .ty "str"] H Q := k_isi (.base (.int i)) (by decide +kernel) h
def pr_gone_into (K : PySem.W.Frag) (d : Nat) (v0 v1 v2 : V) (H : Hp) (Q : VK) (_ : XK) : Prop := ∃ (M : List (List Int)) (h : Int) (a : Addr) (gs : List (Int × Int)), Dp K H v0 (.list (M.map dInts)) ∧ M.length ≤ 100 ∧ (∀ r ∈ M, r.length ≤ 1000) ∧ v1 = .int h ∧ 0 ≤ h ∧ h ≤ 100000 ∧ v2 = .ref a ∧ H a = some (.dK (dS gs)) ∧ Uni gs ∧ Kin M.length gs ∧ gs.length + d ≤ 900 ∧ frN M.length gs < d ∧
  (∀ p g H', Same H H' → goF M h d gs = .inl g → H' p = some (.dK (dS g)) → Q (.ref p) H') ∧
  ∀ v D L H', Same H H' → goF M h d gs = .inr D → Tr id K H' v D L → L.Nodup → (∀ x ∈ L, H x = none) → Q v H'
def spd_gone_into (K : PySem.W.Frag) : Nat → Sp
  | 0 => fun _ _ _ _ => False
  | d + 1 => fun vs H Q E => ∃ v0 v1 v2, vs = [v0, v1, v2] ∧ pr_gone_into K d v0 v1 v2 H Q E
def t_gone_into (K : PySem.W.Frag) (sp : Sp) : TS :=
  (tSeq (tIfS (tTest (tOp rEq (tCB rLenD (tCons (tVar 2) tNil)) (tCB (rLenX K) (tCons (tVar 0) tNil)))) (tRet (tVar 2)) tNext)
    (tSeq (tAsg (tCall (sp_hardest_way K) [] E0 (tCons (tVar 0) (tCons (tVar 2) tNil))) (gName 3))
    (tSeq (tAsg (tLst tNil) (gName 4))
    (tSeq (tFor (iList K (tCall (sp_options K) [] E0 (tCons (tVar 1) (tCons (tVar 2) tNil)))) (gName 5)
      (tIfS (tB (tCall (sp_is_stuck K) [] E0 (tCons (tVar 0) (tCons (tVar 2) (tCons (tVar 3) (tCons (tVar 5) tNil)))))) (tDrop (tBM K "list" rAppend (tVar 4) (tCons (tTup tNil) tNil))) (tSeq (tAsg (tCall sp [] E0 (tCons (tVar 0) (tCons (tVar 1) (tCons (tCall (sp_with_hue K) [] E0 (tCons (tVar 2) (tCons (tVar 3) (tCons (tVar 5) tNil)))) tNil)))) (gName 6))
    (tSeq (tIfS (tB (tCB (rIsi K) (tCons (tVar 6) (tCons (tC (.ty "dict")) tNil)))) (tRet (tVar 6)) tNext)
    (tDrop (tBM K "list" rAppend (tVar 4) (tCons (tVar 6) tNil)))))))
    (tRet (tTup (tCons (tVar 3) (tCons (tVar 4) tNil))))))))
theorem pure_gone_into {d : Nat} {v0 v1 v2 : V} {H : Hp} {Q : VK} {E : XK} (hh : pr_gone_into K d v0 v1 v2 H Q E) : t_gone_into K (spd_gone_into K d) ⟨fun _ H' => Q .non H', Q, fun _ _ => False, fun _ _ => False⟩ [some v0, some v1, some v2, none, none, none, none] H := by
  obtain ⟨M, h, a, gs, d0, hm, hr, rfl, h0, h1, rfl, ha, un, kin, sd, hd, qd, qc⟩ := hh
  obtain ⟨d, rfl⟩ : ∃ d', d = d' + 1 := ⟨d - 1, by omega⟩
  obtain ⟨b, ms, rfl, hb, dms⟩ := dp_list d0
  have lms : ms.length = M.length := by rw [dpa_len dms, List.length_map]
  have lgs := kin.len un
  unfold t_gone_into
  wtm_at "s"
  refine k_lenD ha ?_
  rw [dS_len]
  wtm_at "s"
  refine k_it (fun c => ?_) (fun c => ?_)
  · wtm_at "s"
    refine qd a gs H (Same.refl _) ?_ ha
    unfold goF
    rw [if_pos (by omega)]
  · have cl : ¬ gs.length = M.length := by omega
    obtain ⟨_, k1, kn⟩ := hardK_ok (M := M) (Kin.free (gs := gs) (n := M.length) (by omega))
    have hfree : ∃ j : Nat, j < M.length ∧ lookS gs (j : Int) = none := ⟨_, k1, kn⟩
    have frl := fun u => frN_lt (u := u) (show (0 : Int) ≤ (hardK M gs : Int) by omega) (show (hardK M gs : Int) < (M.length : Nat) by omega) kn
    have eG : goF M h (d + 1) gs = (match kidsF (fun i => stuckB M gs (hardK M gs : Int) (i : Int)) (fun i => goF M h d (gs ++ [((hardK M gs : Int), (i : Int))])) (List.range (optN h gs)) with
      | .inl g => .inl g
      | .inr cs => .inr (.tuple [.int (hardK M gs : Int), .list cs])) := by
      show (if gs.length = M.length then _ else _) = _
      rw [if_neg cl]
      all_goals rfl
    rw [eG] at qd qc
    clear eG
    have on : optN h gs ≤ 1000 := by have := unl_le (gs.map (·.2)); rw [List.length_map] at this; unfold optN; omega
    wtm_at "s"
    refine ⟨_, _, rfl, M, a, gs, d0, by omega, hr, rfl, ha, hfree, fun H1 s1 => ?_⟩
    generalize hardK M gs = k at k1 kn frl qd qc ⊢
    clear hfree c
    wtm_at "s"
    refine kL (by simp) (fun fo H2 nfo s2 e2 => ?_)
    have s02 := s1.trans s2
    have nfoH : H fo = none := s1.free nfo
    wtm_at "s"
    refine ⟨_, _, rfl, h, a, gs, rfl, by omega, h1, rfl, s02 _ _ ha, un, by omega, fun ol H3 nol s3 e3 => ?_⟩
    have s03 := s02.trans s3
    have olfo : ol ≠ fo := fun z => by rw [z, e2] at nol; cases nol
    generalize hst : (fun i : Nat => stuckB M gs (k : Int) (i : Int)) = st at qd qc
    generalize hf : (fun i : Nat => goF M h d (gs ++ [((k : Int), (i : Int))])) = f at qd qc
    wtm_at "s"
    refine forL (sl e3) (fun i σ' H' => ∃ zs cs L k5 k6, σ' = [some (.ref b), some (.int h), some (.ref a), some (.int (k : Int)), some (.ref fo), k5, k6] ∧ Same H H' ∧ H' ol = some (.lst ((List.range (optN h gs)).map fun i : Nat => V.int (i : Int))) ∧ H' fo = some (.lst zs) ∧ zs.length = i ∧ TrA id K H' zs cs L ∧ L.Nodup ∧ (∀ x ∈ L, H x = none) ∧ fo ∉ L ∧ kidsF st f (List.range (optN h gs)) = appK cs (kidsF st f ((List.range (optN h gs)).drop i))) ⟨[], [], [], _, _, rfl, s03, e3, s3 _ _ e2, rfl, .nil, List.nodup_nil, (fun x hx => nomatch hx), (fun hx => nomatch hx), by rw [appK_nil]; rfl⟩ (fun i σ' H' _ ⟨zs, cs, L, k5, k6, _, _, z, _⟩ => sl z) ?_ ?_
    · clear e3 s03 s3 nol e2 s02 s2 nfo s1
      rintro i x σ' H4 hx ⟨zs, cs, L, k5, k6, rfl, s4, eol, efo, lz, tz, nd, fr, nfo, ek⟩
      have hi : i < optN h gs := by have := (List.getElem?_eq_some_iff.mp hx).1; rw [List.length_map, List.length_range] at this; exact this
      obtain rfl : x = .int (i : Int) := by rw [List.getElem?_map, List.getElem?_range hi] at hx; cases hx; rfl
      have edr : (List.range (optN h gs)).drop i = i :: (List.range (optN h gs)).drop (i + 1) := by
        rw [List.drop_eq_getElem_cons (by rw [List.length_range]; exact hi), List.getElem_range]
      rw [edr] at ek
      wtm_at "s"
      refine ⟨_, _, _, _, rfl, M, a, gs, (k : Int), (i : Int), dp_same s4 d0, hr, rfl, s4 _ _ ha, rfl, by omega, by omega, rfl, fun H5 s5 => ?_⟩
      have s05 := s4.trans s5
      have efo5 := s5 _ _ efo
      have eol5 := s5 _ _ eol
      have tz5 := tz.same s5
      cases hs : stuckB M gs (k : Int) (i : Int) with
      | true =>
        have hsi : st i = true := by rw [← hst]; exact hs
        wtm_at "s"
        refine k_tyL (sl efo5) ?_
        wtm_at "s"
        refine kT (by simp) (fun t H6 nt s6 e6 => ?_)
        wtm_at "s"
        have efo6 := s6 _ _ efo5
        refine k_append efo6 (by omega) ?_
        refine ⟨zs ++ [.ref t], cs ++ [.tuple []], L ++ [], _, _, rfl, same_mut (s05.trans s6) nfoH, by rw [upd_ne olfo]; exact s6 _ _ eol5, upd_same, by simp [lz], TrA.app (.emp (sqT_upd (stp e6) efo6)) ((tz5.same s6).upd efo6 nfo), by rw [List.append_nil]; exact nd, by rw [List.append_nil]; exact fr, by rw [List.append_nil]; exact nfo, ?_⟩
        rw [ek, ← appK_app]
        show appK cs (if st i = true then _ else _) = _
        rw [if_pos hsi]
      | false =>
        have hsi : ¬ st i = true := by rw [← hst]; show ¬ stuckB M gs (k : Int) (i : Int) = true; rw [hs]; decide
        wtm_at "s"
        refine ⟨_, _, _, rfl, a, gs, (k : Int), (i : Int), rfl, rfl, rfl, s05 _ _ ha, kn, by omega, fun p6 H6 np6 s6 e6 => ?_⟩
        have s06 := s05.trans s6
        wtm_at "s"
        have efo6 := s6 _ _ efo5
        refine ⟨_, _, _, rfl, M, h, p6, gs ++ [((k : Int), (i : Int))], dp_same s06 d0, hm, hr, rfl, h0, h1, rfl, e6, un.add kn, kin.add k1, by simp; omega, by have := frl (i : Int); omega, fun p g H7 s7 eg eD => ?_, fun v D L2 H7 s7 eg tr nd2 fr2 => ?_⟩
        · wtm_at "s"
          refine k_isiD eD ?_
          wtm_at "s"
          refine qd p g H7 (s06.trans s7) ?_ eD
          have : kidsF st f (List.range (optN h gs)) = .inl g := by
            rw [ek]
            show appK cs (if st i = true then _ else match f i with | .inl g => .inl g | .inr c => _) = _
            rw [if_neg hsi, ← hf]
            show appK cs (match goF M h d (gs ++ [((k : Int), (i : Int))]) with | .inl g => .inl g | .inr c => _) = _
            rw [eg]
            rfl
          rw [this]
        · obtain ⟨pv, xs, rfl, hpv⟩ := tr.tup
          have efo7 := s7 _ _ efo6
          have fo2 : fo ∉ L2 := fun z => by rw [fr2 _ z] at efo6; cases efo6
          wtm_at "s"
          refine k_isiDT hpv ?_
          wtm_at "s"
          refine k_tyL (sl efo7) ?_
          wtm_at "s"
          refine k_append efo7 (by omega) ?_
          refine ⟨zs ++ [.ref pv], cs ++ [D], L ++ L2, _, _, rfl, same_mut (s06.trans s7) nfoH, by rw [upd_ne olfo]; exact (s6.trans s7) _ _ eol5, upd_same, by simp [lz], TrA.app (tr.upd efo7 fo2) ((tz5.same (s6.trans s7)).upd efo7 nfo), ?_, ?_, ?_, ?_⟩
          · refine List.nodup_append.mpr ⟨nd, nd2, fun x hx y hy z => ?_⟩
            obtain ⟨ws, hw⟩ := (tz5.same s6).alive x hx
            rw [z, fr2 y hy] at hw
            cases hw
          · intro x hx
            rcases List.mem_append.mp hx with hx | hx
            · exact fr x hx
            · exact s06.free (fr2 x hx)
          · intro hx
            rcases List.mem_append.mp hx with hx | hx
            · exact nfo hx
            · exact fo2 hx
          · rw [ek, ← appK_app]
            show appK cs (if st i = true then _ else match f i with | .inl g => .inl g | .inr c => _) = _
            rw [if_neg hsi, ← hf]
            show appK cs (match goF M h d (gs ++ [((k : Int), (i : Int))]) with | .inl g => .inl g | .inr c => _) = _
            rw [eg]
    · rintro σ' H4 ⟨zs, cs, L, k5, k6, rfl, s4, eol, efo, lz, tz, nd, fr, nfo, ek⟩
      rw [List.length_map, List.length_range] at lz ek
      rw [List.drop_eq_nil_of_le (by rw [List.length_range]; exact Nat.le_refl _)] at ek
      have ek' : kidsF st f (List.range (optN h gs)) = .inr cs := by rw [ek]; show Sum.inr (cs ++ []) = _; rw [List.append_nil]
      rw [ek'] at qc
      wtm_at "s"
      refine kT (by simp) (fun t H5 nt s5 e5 => ?_)
      refine qc (.ref t) _ (fo :: L) H5 (s4.trans s5) rfl (.mk (stp e5) (s5 _ _ efo) (tz.same s5)) (List.nodup_cons.mpr ⟨nfo, nd⟩) fun x hx => ?_
      rcases List.mem_cons.mp hx with rfl | hx
      · exact nfoH
      · exact fr x hx
theorem okd_gone_into (T : Txt K mg A) : ∀ d : Nat, FnOk P w K mg base CX0 (2 + d) A.a_gone_into A.d_gone_into ["meets", "h", "given"] (spd_gone_into K d)
  | 0 => T.F_gone_into.ok sc_gone_into (fun vs H Q E h => False.elim h) (fun cdv A0 outer s H vs Q E hr h => False.elim h)
  | d + 1 => by
    refine T.F_gone_into.ok sc_gone_into (fun vs H Q E h => by obtain ⟨v0, v1, v2, rfl, _⟩ := h; rfl) (fun cdv A0 outer s H vs Q E hr h => ?_)
    obtain ⟨v0, v1, v2, rfl, h⟩ := h
    exact ⟨t_gone_into K (spd_gone_into K d), (pss_cons (ps_if (pt_cmpR op_eq (pe_callB q_lenD (by rfl) T.z_len (by decide +kernel) (pa_cons (pv 2) pa_nil)) (pe_callB q_len (by rfl) T.z_len (by decide +kernel) (pa_cons (pv 0) pa_nil)) (nomark _)) (pss_one (ps_ret (pv 2))) pss_nil)
      (pss_cons (ps_set (i := 3) sc_gone_into.nd rfl (Or.inl rfl) (pe_call (ok_hardest_way T) (hr.mono (by first | decide | omega | (simp only [Nat.add_eq]; omega))) (by rfl) T.g_hardest_way T.F_hardest_way.kp T.b_hardest_way .nil pass0 (pa_cons (pv 0) (pa_cons (pv 2) pa_nil))))
      (pss_cons (ps_set (i := 4) sc_gone_into.nd rfl (Or.inl rfl) (pe_lst pa_nil))
      (pss_cons (ps_for PassesOwn.never rfl (pi_list (pe_call (ok_options T) (hr.mono (by first | decide | omega | (simp only [Nat.add_eq]; omega))) (by rfl) T.g_options T.F_options.kp T.b_options .nil pass0 (pa_cons (pv 1) (pa_cons (pv 2) pa_nil)))) (pg_name (i := 5) sc_gone_into.nd rfl (Or.inl rfl))
      (pss_one (ps_if (pt_val (pe_call (ok_is_stuck T) (hr.mono (by first | decide | omega | (simp only [Nat.add_eq]; omega))) (by rfl) T.g_is_stuck T.F_is_stuck.kp T.b_is_stuck .nil pass0 (pa_cons (pv 0) (pa_cons (pv 2) (pa_cons (pv 3) (pa_cons (pv 5) pa_nil)))))) (pss_one (ps_expr (pe_bm PySem.F.plainAttrs_list PySem.F.slot_list_append PySem.F.type_list_append mt_append (pv 4) (pa_cons (pe_tup pa_nil) pa_nil)))) (pss_cons (ps_set (i := 6) sc_gone_into.nd rfl (Or.inl rfl) (pe_call (okd_gone_into T d) (hr.mono (by first | decide | omega | (simp only [Nat.add_eq]; omega))) (by rfl) T.g_gone_into T.F_gone_into.kp T.b_gone_into .nil pass0 (pa_cons (pv 0) (pa_cons (pv 1) (pa_cons (pe_call (ok_with_hue T) (hr.mono (by first | decide | omega | (simp only [Nat.add_eq]; omega))) (by rfl) T.g_with_hue T.F_with_hue.kp T.b_with_hue .nil pass0 (pa_cons (pv 2) (pa_cons (pv 3) (pa_cons (pv 5) pa_nil)))) pa_nil)))))
      (pss_cons (ps_if (pt_val (pe_callB q_isi (by rfl) T.z_isinstance (by decide +kernel) (pa_cons (pv 6) (pa_cons (pe_bltn (v := .ty "dict") (by rfl) T.z_dict (by decide +kernel) rfl) pa_nil)))) (pss_one (ps_ret (pv 6))) pss_nil)
      (pss_one (ps_expr (pe_bm PySem.F.plainAttrs_list PySem.F.slot_list_append PySem.F.type_list_append mt_append (pv 4) (pa_cons (pv 6) pa_nil)))))))))
      (pss_one (ps_ret (pe_tup (pa_cons (pv 3) (pa_cons (pv 4) pa_nil))))))))), pure_gone_into h⟩
abbrev sp_gone_into (K : PySem.W.Frag) : Sp := fun vs H Q E => ∃ v0 v1 v2, vs = [v0, v1, v2] ∧ ∃ d : Nat, d < 14 ∧ pr_gone_into K d v0 v1 v2 H Q E
theorem ok_gone_into (T : Txt K mg A) : FnOk P w K mg base CX0 16 A.a_gone_into A.d_gone_into ["meets", "h", "given"] (sp_gone_into K) := by
  refine T.F_gone_into.ok sc_gone_into (fun vs H Q E h => by obtain ⟨v0, v1, v2, rfl, _⟩ := h; rfl) (fun cdv A0 outer s H vs Q E hr h => ?_)
  obtain ⟨v0, v1, v2, rfl, d, hd, h⟩ := h
  exact ⟨t_gone_into K (spd_gone_into K d), (pss_cons (ps_if (pt_cmpR op_eq (pe_callB q_lenD (by rfl) T.z_len (by decide +kernel) (pa_cons (pv 2) pa_nil)) (pe_callB q_len (by rfl) T.z_len (by decide +kernel) (pa_cons (pv 0) pa_nil)) (nomark _)) (pss_one (ps_ret (pv 2))) pss_nil)
      (pss_cons (ps_set (i := 3) sc_gone_into.nd rfl (Or.inl rfl) (pe_call (ok_hardest_way T) (hr.mono (by first | decide | omega | (simp only [Nat.add_eq]; omega))) (by rfl) T.g_hardest_way T.F_hardest_way.kp T.b_hardest_way .nil pass0 (pa_cons (pv 0) (pa_cons (pv 2) pa_nil))))
      (pss_cons (ps_set (i := 4) sc_gone_into.nd rfl (Or.inl rfl) (pe_lst pa_nil))
      (pss_cons (ps_for PassesOwn.never rfl (pi_list (pe_call (ok_options T) (hr.mono (by first | decide | omega | (simp only [Nat.add_eq]; omega))) (by rfl) T.g_options T.F_options.kp T.b_options .nil pass0 (pa_cons (pv 1) (pa_cons (pv 2) pa_nil)))) (pg_name (i := 5) sc_gone_into.nd rfl (Or.inl rfl))
      (pss_one (ps_if (pt_val (pe_call (ok_is_stuck T) (hr.mono (by first | decide | omega | (simp only [Nat.add_eq]; omega))) (by rfl) T.g_is_stuck T.F_is_stuck.kp T.b_is_stuck .nil pass0 (pa_cons (pv 0) (pa_cons (pv 2) (pa_cons (pv 3) (pa_cons (pv 5) pa_nil)))))) (pss_one (ps_expr (pe_bm PySem.F.plainAttrs_list PySem.F.slot_list_append PySem.F.type_list_append mt_append (pv 4) (pa_cons (pe_tup pa_nil) pa_nil)))) (pss_cons (ps_set (i := 6) sc_gone_into.nd rfl (Or.inl rfl) (pe_call (okd_gone_into T d) (hr.mono (by first | decide | omega | (simp only [Nat.add_eq]; omega))) (by rfl) T.g_gone_into T.F_gone_into.kp T.b_gone_into .nil pass0 (pa_cons (pv 0) (pa_cons (pv 1) (pa_cons (pe_call (ok_with_hue T) (hr.mono (by first | decide | omega | (simp only [Nat.add_eq]; omega))) (by rfl) T.g_with_hue T.F_with_hue.kp T.b_with_hue .nil pass0 (pa_cons (pv 2) (pa_cons (pv 3) (pa_cons (pv 5) pa_nil)))) pa_nil)))))
      (pss_cons (ps_if (pt_val (pe_callB q_isi (by rfl) T.z_isinstance (by decide +kernel) (pa_cons (pv 6) (pa_cons (pe_bltn (v := .ty "dict") (by rfl) T.z_dict (by decide +kernel) rfl) pa_nil)))) (pss_one (ps_ret (pv 6))) pss_nil)
      (pss_one (ps_expr (pe_bm PySem.F.plainAttrs_list PySem.F.slot_list_append PySem.F.type_list_append mt_append (pv 4) (pa_cons (pv 6) pa_nil)))))))))
      (pss_one (ps_ret (pe_tup (pa_cons (pv 3) (pa_cons (pv 4) pa_nil))))))))), pure_gone_into h⟩


def sNone : Str := Str.ofString "none"
def sTie : Str := Str.ofString "tie"
def sLot : Str := Str.ofString "lot"
def sCase : Str := Str.ofString "case"
/-! ### what fewest tells -/
inductive Pap5 where
  | none
  | tie (i : Nat)
  | lot (x : Nat) (ns : List Int)
  | case (D : PyData)
def Pap5.d : Pap5 → PyData
  | .none => .tuple [.str sNone]
  | .tie i => .tuple [.str sTie, .int (i : Nat)]
  | .lot x ns => .tuple [.str sLot, .int (x : Nat), dInts ns]
  | .case D => .tuple [.str sCase, D]
def LotAtX (ps : List Int) (ws : List (Int × Int)) (h : Nat) (p : Nat) (ns : List Int) : Prop := ((hereOf ps (p : Int)).length ≤ 12) ∧ ∃ (L : Nat) (b : Int), IsLoad (crPairs ps (p : Int) ws) L ∧ bestF (hereOf ps (p : Int)).length (crPairs ps (p : Int) ws) L = (b, ns) ∧ (h : Int) ≤ b ∧ ns ≠ []
theorem LotAtX.one {ps : List Int} {ws : List (Int × Int)} {h p : Nat} {ns ns' : List Int} (a : LotAtX ps ws h p ns) (b : LotAtX ps ws h p ns') : ns = ns' := by
  obtain ⟨_, L, x, i, e, _⟩ := a
  obtain ⟨_, L', x', i', e', _⟩ := b
  rw [i.one i', e'] at e
  exact (congrArg Prod.snd e).symm
def PapX (N : Net) (ws : List (Int × Int)) (h : Nat) : Pap5 → Prop
  | .none => False
  | .tie j => j < N.ties ∧ cnt N ws (j : Nat) = h ∧ ∀ k : Nat, k < j → cnt N ws (k : Nat) ≠ h
  | .lot p ns => (∀ k : Nat, k < N.ties → cnt N ws (k : Nat) ≠ h) ∧ ∃ ps, N = .tree ps ∧ p ≤ ps.length ∧ LotAtX ps ws h p ns ∧ ∀ q, q < p → ∀ ns, ¬ LotAtX ps ws h q ns
  | .case D => (∀ k : Nat, k < N.ties → cnt N ws (k : Nat) ≠ h) ∧ (∀ ps, N = .tree ps → ∀ q, q ≤ ps.length → ∀ ns, ¬ LotAtX ps ws h q ns) ∧ 0 < h ∧ goF (meetF N ws) ((h : Int) - 1) 13 [] = .inr D
theorem PapX.one {N : Net} {ws : List (Int × Int)} {h : Nat} {p p' : Pap5} (a : PapX N ws h p) (b : PapX N ws h p') : p = p' := by
  cases p with
  | none => exact a.elim
  | tie j =>
    obtain ⟨a1, a2, a3⟩ := a
    cases p' with
    | none => exact b.elim
    | tie j' =>
      obtain ⟨b1, b2, b3⟩ := b
      rcases Nat.lt_trichotomy j j' with c | c | c
      · exact absurd a2 (b3 j c)
      · rw [c]
      · exact absurd b2 (a3 j' c)
    | lot => exact absurd a2 (b.1 j a1)
    | case => exact absurd a2 (b.1 j a1)
  | lot x ns =>
    obtain ⟨a1, ps, rfl, a2, a3, a4⟩ := a
    cases p' with
    | none => exact b.elim
    | tie j' => exact absurd b.2.1 (a1 j' b.1)
    | lot x' ns' =>
      obtain ⟨b1, ps', e, b2, b3, b4⟩ := b
      cases e
      rcases Nat.lt_trichotomy x x' with c | c | c
      · exact absurd a3 (b4 x c ns)
      · subst c; rw [a3.one b3]
      · exact absurd b3 (a4 x' c ns')
    | case D => exact absurd a3 (b.2.1 ps rfl x a2 ns)
  | case D =>
    obtain ⟨a1, a2, a3, a4⟩ := a
    cases p' with
    | none => exact b.elim
    | tie j' => exact absurd b.2.1 (a1 j' b.1)
    | lot x' ns' =>
      obtain ⟨b1, ps', e, b2, b3, b4⟩ := b
      exact absurd b3 (a2 ps' e x' b2 ns')
    | case D' =>
      obtain ⟨_, _, _, b4⟩ := b
      rw [a4] at b4
      cases b4
      rfl
def LoadX (N : Net) (ws : List (Int × Int)) (L : Nat) : Prop := (∃ t : Nat, t < N.ties ∧ cnt N ws (t : Nat) = L) ∧ ∀ t : Nat, t < N.ties → cnt N ws (t : Nat) ≤ L
theorem LoadX.one {N : Net} {ws : List (Int × Int)} {L L' : Nat} (a : LoadX N ws L) (b : LoadX N ws L') : L = L' := by
  obtain ⟨t, ht, e⟩ := a.1
  obtain ⟨t', ht', e'⟩ := b.1
  have := b.2 t ht
  have := a.2 t' ht'
  omega
def fewHs (n : Nat) (g : List (Int × Int)) : List Int := (List.range n).map fun i : Nat => (lookS g (i : Int)).getD 0
def FewX (N : Net) (ws : List (Int × Int)) (h : Nat) (hs : List Int) (pp : Pap5) : Prop := (ws = [] ∧ h = 0 ∧ hs = [] ∧ pp = .none) ∨ (ws ≠ [] ∧ ∃ L g, LoadX N ws L ∧ L ≤ h ∧ (∀ k : Nat, L ≤ k → k < h → ∃ D, goF (meetF N ws) (k : Nat) 13 [] = .inr D) ∧ goF (meetF N ws) (h : Nat) 13 [] = .inl g ∧ hs = fewHs ws.length g ∧ PapX N ws h pp)
theorem FewX.one {N : Net} {ws : List (Int × Int)} {h h' : Nat} {hs hs' : List Int} {pp pp' : Pap5} (a : FewX N ws h hs pp) (b : FewX N ws h' hs' pp') : h = h' ∧ hs = hs' ∧ pp = pp' := by
  rcases a with ⟨a1, a2, a3, a4⟩ | ⟨a1, L, g, a2, a3, a4, a5, a6, a7⟩
  · rcases b with ⟨b1, b2, b3, b4⟩ | ⟨b1, _⟩
    · exact ⟨by rw [a2, b2], by rw [a3, b3], by rw [a4, b4]⟩
    · exact absurd a1 b1
  · rcases b with ⟨b1, _⟩ | ⟨b1, L', g', b2, b3, b4, b5, b6, b7⟩
    · exact absurd b1 a1
    · have eL := a2.one b2
      subst eL
      have eh : h = h' := by
        rcases Nat.lt_trichotomy h h' with c | c | c
        · obtain ⟨D, z⟩ := b4 h a3 c
          rw [a5] at z; cases z
        · exact c
        · obtain ⟨D, z⟩ := a4 h' b3 c
          rw [b5] at z; cases z
      subst eh
      rw [a5] at b5
      cases b5
      exact ⟨rfl, by rw [a6, b6], a7.one b7⟩
theorem uni_add : ∀ {g : List (Int × Int)} {k : Nat} {u : Int}, (g.map (·.1)).Nodup → lookS g (k : Int) = none → ((g ++ [((k : Int), u)]).map (·.1)).Nodup := fun {g k u} h n => by
  rw [List.map_append]
  refine List.nodup_append.mpr ⟨h, by simp, fun x hx y hy e => ?_⟩
  have ey : y = (k : Int) := by simpa using hy
  subst e
  rw [ey] at hx
  obtain ⟨p, hp, e⟩ := List.mem_map.mp hx
  have : lookS g (k : Int) ≠ none := by
    unfold lookS
    intro z
    have := Option.map_eq_none_iff.mp z
    exact absurd (List.find?_eq_none.mp this p hp) (by simp [e])
  exact this n
/-- no fewer hues than are told -/
theorem few_low {N : Net} {ws : List (Int × Int)} (ok : N.ok) (hok : ∀ w ∈ ws, isWay N w.1 w.2) {h L : Nat} (lx : LoadX N ws L) (low : ∀ k : Nat, L ≤ k → k < h → ∃ D, goF (meetF N ws) (k : Nat) 13 [] = .inr D) {k : Nat} (hk : k < h) (f : Nat → Int) : ¬ Proper (meetF N ws) (k : Nat) f := fun p => by
  by_cases c : L ≤ k
  · obtain ⟨D, e⟩ := low k c hk
    have cj := go_case e List.nodup_nil Kin.nil uni_add
    exact case_bars (meetF_adj N ws) (m := 0) (gs := []) cj Can.nil p (fun k u _ e => by cases e)
  · obtain ⟨t, _, e⟩ := lx.1
    have := tie_low ok hok p (t : Nat)
    omega
theorem few_proper {N : Net} {ws : List (Int × Int)} {h : Nat} {g : List (Int × Int)} (hl : ws.length ≤ 12) (e : goF (meetF N ws) (h : Nat) 13 [] = .inl g) : Proper (meetF N ws) (h : Nat) fun i => (lookS g (i : Int)).getD 0 := by
  obtain ⟨a, b, c, d⟩ := go_dict (meetF_adj N ws) uni_add e List.nodup_nil Kin.nil (by rw [frN_nil, mlen]; omega) PrpS.nil
  exact full_proper (meetF_adj N ws) a b c d
theorem fewHs_get {n : Nat} {g : List (Int × Int)} {i : Nat} (hi : i < n) : (fewHs n g).getD i 0 = (lookS g (i : Int)).getD 0 := by
  unfold fewHs
  rw [List.getD_eq_getElem?_getD, List.getElem?_map, List.getElem?_range hi]
  rfl


/-- a paper at a place of the heap; L its lists, all new -/
inductive PapAt (K : PySem.W.Frag) (H : Hp) : V → Pap5 → List Addr → Prop
  | none {p : Addr} (h : SqT K H p [.str sNone]) : PapAt K H (.ref p) .none []
  | tie {p : Addr} {i : Nat} (h : SqT K H p [.str sTie, .int (i : Nat)]) : PapAt K H (.ref p) (.tie i) []
  | lot {p c : Addr} {x : Nat} {ns : List Int} (h : SqT K H p [.str sLot, .int (x : Nat), .ref c]) (hc : H c = some (.lst (ns.map V.int))) : PapAt K H (.ref p) (.lot x ns) [c]
  | case {p : Addr} {v : V} {D : PyData} {L : List Addr} (h : SqT K H p [.str sCase, v]) (t : Tr id K H v D L) : PapAt K H (.ref p) (.case D) L
theorem PapAt.same {K : PySem.W.Frag} {H H' : Hp} {v : V} {pp : Pap5} {L : List Addr} (h : PapAt K H v pp L) (s : Same H H') : PapAt K H' v pp L := by
  cases h with
  | none h => exact .none (same_seqT s h)
  | tie h => exact .tie (same_seqT s h)
  | lot h hc => exact .lot (same_seqT s h) (s _ _ hc)
  | case h t => exact .case (same_seqT s h) (t.same s)
theorem PapAt.dp {K : PySem.W.Frag} {H : Hp} {v : V} {pp : Pap5} {L : List Addr} (h : PapAt K H v pp L) : Dp K H v pp.d := by
  cases h with
  | none h => exact .tup h (.cons (.str _) .nil)
  | tie h => exact .tup h (.cons (.str _) (.cons (.int _) .nil))
  | lot h hc => exact .tup h (.cons (.str _) (.cons (.int _) (.cons (dp_of_ints (sl hc)) .nil)))
  | case h t => exact .tup h (.cons (.str _) (.cons t.dp .nil))
theorem PapAt.frame {K : PySem.W.Frag} {H H' : Hp} {X : List Addr} (hx : ∀ x ∈ X, ∃ zs, H x = some (.lst zs)) (s : Same (hid X H) (hid X H')) {v : V} {pp : Pap5} {L : List Addr} (h : PapAt K H v pp L) (n : ∀ l ∈ L, l ∉ X) : PapAt K H' v pp L := by
  cases h with
  | none h => exact .none (sqT_hid h hx s)
  | tie h => exact .tie (sqT_hid h hx s)
  | lot h hc => exact .lot (sqT_hid h hx s) (keep_hid hc (n _ List.mem_cons_self) s)
  | case h t => exact .case (sqT_hid h hx s) (t.frame hx s n)
def LotX (N : Net) (ws : List (Int × Int)) (h : Nat) : Option (Nat × List Int) → Prop
  | some (p, ns) => ∃ ps, N = .tree ps ∧ p ≤ ps.length ∧ LotAtX ps ws h p ns ∧ ∀ q, q < p → ∀ ns, ¬ LotAtX ps ws h q ns
  | none => ∀ ps, N = .tree ps → ∀ q, q ≤ ps.length → ∀ ns, ¬ LotAtX ps ws h q ns
def pr_lot_paper (K : PySem.W.Frag) (v0 v1 v2 : V) (H : Hp) (Q : VK) (_ : XK) : Prop := ∃ (N : Net) (ws : List (Int × Int)) (h : Nat), Dp K H v0 N.d ∧ N.ok ∧ Dp K H v1 (dPairs ws) ∧ ws.length ≤ 60 ∧ (∀ w ∈ ws, isWay N w.1 w.2) ∧ v2 = .int (h : Nat) ∧
  (LotX N ws h none → ∀ H', Same H H' → Q .non H') ∧ ∀ p c x ns H', LotX N ws h (some (x, ns)) → Same H H' → H c = none → H' p = some (.tup [.str sLot, .int (x : Nat), .ref c]) → H' c = some (.lst (ns.map V.int)) → Q (.ref p) H'
def t_lot_paper (K : PySem.W.Frag) : TS :=
  (tSeq (tIfS (tTest (tOp rNe (tOp (rIxT K) (tVar 0) (tC (.int 0))) (tC (.str (Str.ofString "tree"))))) (tRet (tC .non)) tNext)
    (tSeq (tFor (iRng1 (tCons (tOp xAdd (tCB (rLenX K) (tCons (tOp (rIxT K) (tVar 0) (tC (.int 1))) tNil)) (tC (.int 1))) tNil)) (gName 3)
      (tSeq (tAsg (tOp (rIxT K) (tCall (sp_crossing_at K) [] E0 (tCons (tVar 0) (tCons (tVar 1) (tCons (tVar 3) tNil)))) (tC (.int 0))) (gName 4))
    (tIfS (tTest (tOp xLe (tOp (rIxT K) (tVar 4) (tC (.int 0))) (tC (.int 12)))) (tSeq (tAsg (tCall (sp_best_lot K) [] E0 (tCons (tVar 4) tNil)) (gTup K 2 (gCons (gName 5) (gCons (gName 6) gNil))))
    (tIfS (tAnd (tTest (tOp xGe (tVar 5) (tVar 2))) (tTest (tOp (rNeD K) (tVar 6) (tLst tNil)))) (tRet (tTup (tCons (tC (.str (Str.ofString "lot"))) (tCons (tVar 3) (tCons (tVar 6) tNil))))) tNext)) tNext)))
    (tRet (tC .non))))
theorem eqv_nilI (js : List Int) : PyData.eqv (dInts js) (dInts []) = decide (js = []) := by
  cases js with
  | nil => rfl
  | cons a r => rfl
theorem pure_lot_paper {v0 v1 v2 : V} {H : Hp} {Q : VK} {E : XK} (hh : pr_lot_paper K v0 v1 v2 H Q E) : t_lot_paper K ⟨fun _ H' => Q .non H', Q, fun _ _ => False, fun _ _ => False⟩ [some v0, some v1, some v2, none, none, none, none] H := by
  obtain ⟨N, ws, h, d0, ok, d1, hz, hok, rfl, qn, q⟩ := hh
  obtain ⟨a, y, rfl, hs, hy⟩ := dp_net d0
  unfold t_lot_paper
  wtm_at "s"
  refine k_neS ?_
  have notree : (∀ ps, N ≠ .tree ps) → Q .non H := fun hn => qn (fun ps e => absurd e (hn ps)) H (Same.refl _)
  cases N with
  | line n =>
    rw [show decide (Net.kind (.line n) = Str.ofString "tree") = false from s_lt]
    wtm_at "s"
    exact notree fun ps e => by cases e
  | ring n =>
    rw [show decide (Net.kind (.ring n) = Str.ofString "tree") = false from s_rt]
    wtm_at "s"
    exact notree fun ps e => by cases e
  | tree ps =>
    have T : TreeOk ps := ok
    have lps : ps.length < 60 := T.2.1
    rw [show decide (Net.kind (.tree ps) = Str.ofString "tree") = true from s_same _]
    obtain ⟨b, rfl, hb⟩ := dp_ints hy
    wtm_at "s"
    rw [show (((ps.length : Nat) : Int) + 1).toNat = ps.length + 1 by omega]
    refine forR (fun i σ' H' => Same H H' ∧ (∃ k3 k4 k5 k6, σ' = [some (.ref a), some v1, some (.int (h : Nat)), k3, k4, k5, k6]) ∧ ∀ q, q < i → ∀ ns, ¬ LotAtX ps ws h q ns) ⟨Same.refl _, ⟨_, _, _, _, rfl⟩, fun q hq => by omega⟩ ?_ ?_
    · rintro i σ' H1 hi ⟨s1, ⟨k3, k4, k5, k6, rfl⟩, ih⟩
      have nxt : (∀ ns, ¬ LotAtX ps ws h i ns) → ∀ q, q < i + 1 → ∀ ns, ¬ LotAtX ps ws h q ns := fun hn q hq => by
        by_cases c : q = i
        · rw [c]; exact hn
        · exact ih q (by omega)
      wtm_at "s"
      refine ⟨_, _, _, rfl, ps, ws, (0 + (i : Nat)), rfl, dp_same s1 d0, T, dp_same s1 d1, by omega, hok, by omega, by omega, fun cp H2 cn => ?_⟩
      rw [Int.zero_add] at cn
      have s2 : Same H1 H2 := cn.same
      obtain ⟨ac, vx, vy, e1, hac, hcx, _⟩ := dp_tup2 cn.dp
      cases e1
      obtain ⟨cx, cy, cz, rfl, hcx2, hc1, hc2⟩ := dp_tup2 hcx
      obtain rfl := dp_int hc1
      have s02 := s1.trans s2
      wtm_at "s"
      refine k_it (fun c12 => ?_) (fun c12 => ?_)
      · wtm_at "s"
        refine ⟨_, rfl, _, crPairs ps (i : Int) ws, [], hcx, CrOk.tree (by omega) hz, c12, (fun x hx => by cases hx), fun L p bb c H3 hL s3 nc ep ec hb2 => ?_⟩
        obtain ⟨bnum, lot⟩ := bb
        have ep3 : H3 p = some (.tup [.int bnum, .ref c]) := hid_same _ _ _ _ ep
        have ec3 : H3 c = some (.lst (lot.map V.int)) := hid_same _ _ _ _ ec
        clear ep ec
        have s03 := s02.trans s3
        have is : ∀ ns, LotAtX ps ws h i ns → ns = lot ∧ (h : Int) ≤ bnum ∧ lot ≠ [] := fun ns z => by
          obtain ⟨_, L', b', i', e', h1, h2⟩ := z
          rw [i'.one hL, ← hb2] at e'
          cases e'
          exact ⟨rfl, h1, h2⟩
        wtm_at "s"
        refine k_it (fun c1 => ?_) (fun c1 => ?_)
        · wtm_at "s"
          refine kL (by simp) (fun l1 H4 nl1 s4 e4 => ?_)
          wtm_at "s"
          refine k_neD (n := 1) (dp_of_ints (sl (s4 _ _ ec3))) (dp_of_ints (ns := []) (sl e4)) (sh_ints _) (sh_ints _) (by decide) ?_
          rw [eqv_nilI]
          wtm_at "s"
          refine k_itn (fun c2 => ?_) (fun c2 => ?_)
          · wtm_at "s"
            refine kT (by simp) (fun t H5 nt s5 e5 => ?_)
            rw [Int.zero_add] at e5
            refine q t c i lot H5 ⟨ps, rfl, by omega, ⟨by omega, L, bnum, hL, hb2.symm, c1, c2⟩, ih⟩ (s03.trans (s4.trans s5)) (s02.free nc) e5 ((s4.trans s5) _ _ ec3)
          · wtm_at "s"
            exact ⟨s03.trans s4, ⟨_, _, _, _, rfl⟩, nxt fun ns z => (is ns z).2.2 c2⟩
        · wtm_at "s"
          exact ⟨s03, ⟨_, _, _, _, rfl⟩, nxt fun ns z => c1 (is ns z).2.1⟩
      · wtm_at "s"
        exact ⟨s02, ⟨_, _, _, _, rfl⟩, nxt fun ns z => c12 (by have := z.1; omega)⟩
    · rintro σ' H1 ⟨s1, ⟨k3, k4, k5, k6, rfl⟩, ih⟩
      wtm_at "s"
      exact qn (fun ps' e q hq => by cases e; exact ih q (by omega)) H1 s1
abbrev sp_lot_paper (K : PySem.W.Frag) : Sp := fun vs H Q E => ∃ v0 v1 v2, vs = [v0, v1, v2] ∧ pr_lot_paper K v0 v1 v2 H Q E
theorem ok_lot_paper (T : Txt K mg A) : FnOk P w K mg base CX0 16 A.a_lot_paper A.d_lot_paper ["net", "ways", "h"] (sp_lot_paper K) := by
  refine T.F_lot_paper.ok sc_lot_paper (fun vs H Q E h => by obtain ⟨v0, v1, v2, rfl, _⟩ := h; rfl) (fun cdv A0 outer s H vs Q E hr h => ?_)
  obtain ⟨v0, v1, v2, rfl, h⟩ := h
  exact ⟨t_lot_paper K, (pss_cons (ps_if (pt_cmpR op_ne (pe_ix ix_tup (pv 0) pe_int (fun _ _ => rfl)) pe_str (nomark _)) (pss_one (ps_ret pe_non)) pss_nil)
      (pss_cons (ps_for PassesOwn.never rfl (pi_range1 (by rfl) T.z_range (pa_cons (pe_op op_add (pe_callB q_len (by rfl) T.z_len (by decide +kernel) (pa_cons (pe_ix ix_tup (pv 0) pe_int (fun _ _ => rfl)) pa_nil)) pe_int) pa_nil)) (pg_name (i := 3) sc_lot_paper.nd rfl (Or.inl rfl))
      (pss_cons (ps_set (i := 4) sc_lot_paper.nd rfl (Or.inl rfl) (pe_ix ix_tup (pe_call (ok_crossing_at T) (hr.mono (by decide)) (by rfl) T.g_crossing_at T.F_crossing_at.kp T.b_crossing_at .nil pass0 (pa_cons (pv 0) (pa_cons (pv 1) (pa_cons (pv 3) pa_nil)))) pe_int (fun _ _ => rfl)))
      (pss_one (ps_if (pt_cmpR op_le (pe_ix ix_tup (pv 4) pe_int (fun _ _ => rfl)) (pe_glob (v := .int 12) (by rfl) T.c_MOST ⟨_, rfl⟩) (nomark _)) (pss_cons (ps_asg (pe_call (ok_best_lot T) (hr.mono (by decide)) (by rfl) T.g_best_lot T.F_best_lot.kp T.b_best_lot .nil pass0 (pa_cons (pv 4) pa_nil)) (pg_tup (by rfl) (pgs_cons (pg_name (i := 5) sc_lot_paper.nd rfl (Or.inl rfl)) (pgs_cons (pg_name (i := 6) sc_lot_paper.nd rfl (Or.inl rfl)) pgs_nil))))
      (pss_one (ps_if (PW.pt (pw_and (pt_cmpR op_ge (pv 5) (pv 2) (nomark _)) (pw_and1 (pt_cmpR (op_neD hr.units) (pv 6) (pe_lst pa_nil) (nomark _))))) (pss_one (ps_ret (pe_tup (pa_cons pe_str (pa_cons (pv 3) (pa_cons (pv 6) pa_nil)))))) pss_nil))) pss_nil))))
      (pss_one (ps_ret pe_non)))), pure_lot_paper h⟩
def pr_paper_of (K : PySem.W.Frag) (v0 v1 v2 v3 : V) (H : Hp) (Q : VK) (_ : XK) : Prop := ∃ (N : Net) (ws : List (Int × Int)) (h : Nat), Dp K H v0 N.d ∧ N.ok ∧ Dp K H v1 (dPairs ws) ∧ ws.length ≤ 60 ∧ (∀ w ∈ ws, isWay N w.1 w.2) ∧ v2 = .int (h : Nat) ∧ ∃ (D0 : PyData) (L0 : List Addr),
  ((∀ k : Nat, k < N.ties → cnt N ws (k : Nat) ≠ h) → 0 < h ∧ goF (meetF N ws) ((h : Int) - 1) 13 [] = .inr D0 ∧ Tr id K H v3 D0 L0 ∧ L0.Nodup) ∧
  ∀ v pp L H', PapX N ws h pp → Same H H' → PapAt K H' v pp L → L.Nodup → (L = L0 ∨ ∀ x ∈ L, H x = none) → Q v H'
def t_paper_of (K : PySem.W.Frag) : TS :=
  (tSeq (tAsg (tCall (sp_loads K) [] E0 (tCons (tVar 0) (tCons (tVar 1) tNil))) (gName 4))
    (tSeq (tIfS (tTest (tOp (rIn K false) (tVar 2) (tVar 4))) (tRet (tTup (tCons (tC (.str (Str.ofString "tie"))) (tCons (tBM K "list" (rIndex K) (tVar 4) (tCons (tVar 2) tNil)) tNil)))) tNext)
    (tSeq (tAsg (tCall (sp_lot_paper K) [] E0 (tCons (tVar 0) (tCons (tVar 1) (tCons (tVar 2) tNil)))) (gName 5))
    (tSeq (tIfS (tTest (tOp xNotN (tVar 5) (tC .non))) (tRet (tVar 5)) tNext)
    (tRet (tTup (tCons (tC (.str (Str.ofString "case"))) (tCons (tVar 3) tNil))))))))
theorem loads_mem {N : Net} {ws : List (Int × Int)} {h : Nat} : ((h : Nat) : Int) ∈ loadsOf N ws ↔ ∃ k : Nat, k < N.ties ∧ cnt N ws (k : Nat) = h := by
  unfold loadsOf
  rw [List.mem_map]
  constructor
  · rintro ⟨t, ht, e⟩; exact ⟨t, List.mem_range.mp ht, Int.ofNat.inj e⟩
  · rintro ⟨t, ht, e⟩; exact ⟨t, List.mem_range.mpr ht, by rw [e]⟩
theorem loads_get {N : Net} {ws : List (Int × Int)} {k : Nat} (hk : k < N.ties) : (loadsOf N ws)[k]? = some ((cnt N ws (k : Nat) : Nat) : Int) := by
  unfold loadsOf
  rw [List.getElem?_map, List.getElem?_range hk]; rfl
theorem pure_paper_of {v0 v1 v2 v3 : V} {H : Hp} {Q : VK} {E : XK} (hh : pr_paper_of K v0 v1 v2 v3 H Q E) : t_paper_of K ⟨fun _ H' => Q .non H', Q, fun _ _ => False, fun _ _ => False⟩ [some v0, some v1, some v2, some v3, none, none] H := by
  obtain ⟨N, ws, h, d0, ok, d1, hz, hok, rfl, D, L, hcase, q⟩ := hh
  unfold t_paper_of
  wtm_at "s"
  refine ⟨_, _, rfl, N, ws, d0, ok, d1, by omega, hok, fun lp H1 np s1 e1 => ?_⟩
  wtm_at "s"
  refine k_it (fun c => ?_) (fun c => ?_)
  · obtain ⟨k0, hk0, ek0⟩ := loads_mem.mp c
    have il : (loadsOf N ws).idxOf ((h : Nat) : Int) < (loadsOf N ws).length := List.idxOf_lt_length_of_mem c
    have lT : (loadsOf N ws).length = N.ties := by unfold loadsOf; rw [List.length_map, List.length_range]
    have gi : (loadsOf N ws)[(loadsOf N ws).idxOf ((h : Nat) : Int)]? = some ((h : Nat) : Int) := by rw [List.getElem?_eq_getElem il, List.getElem_idxOf il]
    have hj : (loadsOf N ws).idxOf ((h : Nat) : Int) < N.ties := by omega
    have px : PapX N ws h (.tie ((loadsOf N ws).idxOf ((h : Nat) : Int))) := by
      refine ⟨hj, ?_, fun k hk e => ?_⟩
      · rw [loads_get hj] at gi
        exact Int.ofNat.inj (Option.some.inj gi)
      · have hk' : k < (loadsOf N ws).length := by omega
        have e1 : (loadsOf N ws)[k] = ((h : Nat) : Int) := by
          have := loads_get (ws := ws) (show k < N.ties by omega)
          rw [List.getElem?_eq_getElem hk', e] at this
          exact Option.some.inj this
        have := List.not_of_lt_findIdx (p := fun x => x == ((h : Nat) : Int)) (xs := loadsOf N ws) (i := k) hk
        simp [e1] at this
    wtm_at "s"
    refine k_tyL (sl e1) ?_
    wtm_at "s"
    refine k_indexI (sl e1) c ?_
    wtm_at "s"
    refine kT (by simp) (fun t H2 nt s2 e2 => ?_)
    exact q (.ref t) _ [] H2 px (s1.trans s2) (.tie (stp e2)) List.nodup_nil (.inr fun x hx => by cases hx)
  · have nt : ∀ k : Nat, k < N.ties → cnt N ws (k : Nat) ≠ h := fun k hk e => c (loads_mem.mpr ⟨k, hk, e⟩)
    wtm_at "s"
    refine ⟨_, _, _, rfl, N, ws, h, dp_same s1 d0, ok, dp_same s1 d1, hz, hok, rfl, fun lx H2 s2 => ?_, fun p cc x ns H2 lx s2 nc ep ec => ?_⟩
    · obtain ⟨h0, eg, tr, nd⟩ := hcase nt
      wtm_at "s"
      refine kT (by simp) (fun t H3 ntt s3 e3 => ?_)
      have s03 := s1.trans (s2.trans s3)
      exact q (.ref t) (.case D) L H3 ⟨nt, lx, h0, eg⟩ s03 (.case (stp e3) (tr.same s03)) nd (.inl rfl)
    · wtm_at "s"
      obtain ⟨ps, e, hx, la, lb⟩ := lx
      exact q (.ref p) (.lot x ns) [cc] H2 ⟨nt, ps, e, hx, la, lb⟩ (s1.trans s2) (.lot (stp ep) ec) (by simp) (.inr fun y hy => by rw [List.mem_singleton.mp hy]; exact s1.free nc)
abbrev sp_paper_of (K : PySem.W.Frag) : Sp := fun vs H Q E => ∃ v0 v1 v2 v3, vs = [v0, v1, v2, v3] ∧ pr_paper_of K v0 v1 v2 v3 H Q E
theorem ok_paper_of (T : Txt K mg A) : FnOk P w K mg base CX0 17 A.a_paper_of A.d_paper_of ["net", "ways", "h", "case"] (sp_paper_of K) := by
  refine T.F_paper_of.ok sc_paper_of (fun vs H Q E h => by obtain ⟨v0, v1, v2, v3, rfl, _⟩ := h; rfl) (fun cdv A0 outer s H vs Q E hr h => ?_)
  obtain ⟨v0, v1, v2, v3, rfl, h⟩ := h
  exact ⟨t_paper_of K, (pss_cons (ps_set (i := 4) sc_paper_of.nd rfl (Or.inl rfl) (pe_call (ok_loads T) (hr.mono (by decide)) (by rfl) T.g_loads T.F_loads.kp T.b_loads .nil pass0 (pa_cons (pv 0) (pa_cons (pv 1) pa_nil))))
      (pss_cons (ps_if (pt_cmpR op_in_seq (pv 2) (pv 4) (by rfl)) (pss_one (ps_ret (pe_tup (pa_cons pe_str (pa_cons (pe_bm PySem.F.plainAttrs_list PySem.F.slot_list_index PySem.F.type_list_index mt_index (pv 4) (pa_cons (pv 2) pa_nil)) pa_nil))))) pss_nil)
      (pss_cons (ps_set (i := 5) sc_paper_of.nd rfl (Or.inl rfl) (pe_call (ok_lot_paper T) (hr.mono (by decide)) (by rfl) T.g_lot_paper T.F_lot_paper.kp T.b_lot_paper .nil pass0 (pa_cons (pv 0) (pa_cons (pv 1) (pa_cons (pv 2) pa_nil)))))
      (pss_cons (ps_if (pt_cmpR op_notN (pv 5) pe_non (nomark _)) (pss_one (ps_ret (pv 5))) pss_nil)
      (pss_one (ps_ret (pe_tup (pa_cons pe_str (pa_cons (pv 3) pa_nil))))))))), pure_paper_of h⟩


def pr_fewest (K : PySem.W.Frag) (v0 v1 : V) (H : Hp) (Q : VK) (_ : XK) : Prop := ∃ (N : Net) (ws : List (Int × Int)), Dp K H v0 N.d ∧ N.ok ∧ Dp K H v1 (dPairs ws) ∧ ws.length ≤ 12 ∧ (∀ w ∈ ws, isWay N w.1 w.2) ∧
  ∀ p hl h hs pp pv L H', FewX N ws h hs pp → Same H H' → H p = none → H' p = some (.tup [.int (h : Nat), .ref hl, pv]) → H hl = none → H' hl = some (.lst (List.map V.int hs)) → PapAt K H' pv pp L → L.Nodup → (∀ x ∈ L, H x = none) → hl ∉ L → Q (.ref p) H'
def t_fewest (K : PySem.W.Frag) : TS :=
  (tSeq (tDrop (tCall (sp_look_few K) [] E0 (tCons (tVar 0) (tCons (tVar 1) (tCons (tC (.int 12)) tNil)))))
    (tSeq (tIfS (tTest (tOp (rEqD K) (tVar 1) (tLst tNil))) (tRet (tTup (tCons (tC (.int 0)) (tCons (tLst tNil) (tCons (tTup (tCons (tC (.str (Str.ofString "none"))) tNil)) tNil))))) tNext)
    (tSeq (tAsg (tCall (sp_meetings K) [] E0 (tCons (tVar 0) (tCons (tVar 1) tNil))) (gName 2))
    (tSeq (tAsg (tCall (sp_load K) [] E0 (tCons (tVar 0) (tCons (tVar 1) tNil))) (gName 3))
    (tSeq (tAsg (tC .non) (gName 4))
    (tSeq (tAsg (tCall (sp_gone_into K) [] E0 (tCons (tVar 2) (tCons (tVar 3) (tCons tDNewK tNil)))) (gName 5))
    (tSeq (tWhile (tNot (tB (tCB (rIsi K) (tCons (tVar 5) (tCons (tC (.ty "dict")) tNil)))))
      (tSeq (tAsg (tVar 5) (gName 4))
    (tSeq (tAug 3 (tC (.int 1)) (ipI fun i j => i + j))
    (tAsg (tCall (sp_gone_into K) [] E0 (tCons (tVar 2) (tCons (tVar 3) (tCons tDNewK tNil)))) (gName 5)))))
    (tRet (tTup (tCons (tVar 3) (tCons (tLc (iRng1 (tCons (tCB (rLenX K) (tCons (tVar 1) tNil)) tNil)) (gName 6) tYes (tDGet (tVar 5) (tVar 6)) [6]) (tCons (tCall (sp_paper_of K) [] E0 (tCons (tVar 0) (tCons (tVar 1) (tCons (tVar 3) (tCons (tVar 4) tNil))))) tNil))))))))))))
theorem all_looked {n : Nat} {g : List (Int × Int)} (hl : g.length = n) (un : (g.map (·.1)).Nodup) (kin : Kin n g) {k : Nat} (hk : k < n) : ∃ u, lookS g (k : Int) = some u := by
  cases e : lookS g (k : Int) with
  | some u => exact ⟨u, rfl⟩
  | none =>
    have h1 := (Kin.add (u := 0) kin hk).len (uni_add un e)
    simp at h1
    omega
theorem loads_x {N : Net} {ws : List (Int × Int)} (ok : N.ok) {m : Int} (h1 : m ∈ loadsOf N ws) (h2 : ∀ y ∈ loadsOf N ws, y ≤ m) : ∃ L : Nat, m = (L : Nat) ∧ LoadX N ws L := by
  unfold loadsOf at h1
  obtain ⟨t, ht, e⟩ := List.mem_map.mp h1
  refine ⟨cnt N ws (t : Nat), e.symm, ⟨t, List.mem_range.mp ht, rfl⟩, fun k hk => ?_⟩
  have := h2 ((cnt N ws (k : Nat) : Nat) : Int) (by unfold loadsOf; exact List.mem_map.mpr ⟨k, List.mem_range.mpr hk, rfl⟩)
  omega
theorem dPE (ws : List (Int × Int)) : PyData.eqv (dPairs ws) (dPairs []) = decide (ws = []) := by
  cases ws with
  | nil => rfl
  | cons w r => rfl
theorem pure_fewest {v0 v1 : V} {H : Hp} {Q : VK} {E : XK} (hh : pr_fewest K v0 v1 H Q E) : t_fewest K ⟨fun _ H' => Q .non H', Q, fun _ _ => False, fun _ _ => False⟩ [some v0, some v1, none, none, none, none, none] H := by
  obtain ⟨N, ws, d0, ok, d1, hz, hok, q⟩ := hh
  obtain ⟨wb, wys, rfl, hwb, dwys⟩ := dp_list d1
  have lws : wys.length = ws.length := by rw [dpa_len dwys, List.length_map]
  unfold t_fewest
  wtm_at "s"
  refine ⟨_, _, _, rfl, N, ws, 12, d0, ok, d1, by omega, hok, rfl, by omega, ?_⟩
  wtm_at "s"
  refine kL (by simp) (fun l1 H1 nl1 s1 e1 => ?_)
  wtm_at "s"
  refine k_eqD (n := 2) (dp_same s1 d1) (d := dPairs []) (.lst (sl e1) .nil) (Cm.sh_pairs _) (Cm.sh_pairs _) (by decide) ?_
  rw [dPE]
  wtm_at "s"
  refine k_it (fun c => ?_) (fun c => ?_)
  · subst c
    wtm_at "s"
    refine kL (by simp) (fun hl H2 nhl s2 e2 => ?_)
    wtm_at "s"
    refine kT (by simp) (fun pt H3 npt s3 e3 => ?_)
    wtm_at "s"
    refine kT (by simp) (fun t H4 nt s4 e4 => ?_)
    have s34 := s3.trans s4
    have s14 := s1.trans (s2.trans s34)
    exact q t hl 0 [] .none (.ref pt) [] H4 (.inl ⟨rfl, rfl, rfl, rfl⟩) s14 ((s1.trans (s2.trans s3)).free nt) e4 (s1.free nhl) (s34 _ _ e2) (.none (stp (s4 _ _ e3))) List.nodup_nil (fun x hx => by cases hx) (fun hx => by cases hx)
  · wtm_at "s"
    refine ⟨_, _, rfl, N, ws, [], dp_same s1 d0, ok, dp_same s1 d1, by omega, hok, (fun x hx => by cases hx), fun mp H2 np s2 dM => ?_⟩
    replace dM := dp_same (hid_same _ _) dM
    have s02 := s1.trans s2
    wtm_at "s"
    refine ⟨_, _, rfl, N, ws, dp_same s02 d0, ok, dp_same s02 d1, by omega, hok, fun m H3 s3 m1 m2 => ?_⟩
    obtain ⟨L, rfl, lx⟩ := loads_x ok m1 m2
    clear m1 m2
    have s03 := s02.trans s3
    have dM3 := dp_same s3 dM
    clear dM s3 s2 s02 np s1 e1 nl1
    have Ln : L ≤ ws.length := by
      obtain ⟨t, _, e⟩ := lx.1
      rw [← e]
      exact List.length_filter_le _ _
    have step : ∀ {h : Nat} {Hx : Hp} {a : Addr} {Q' : VK}, Same H3 Hx → Hx a = some (.dK []) → h ≤ 1000 → (∀ p g H', Same Hx H' → goF (meetF N ws) (h : Nat) 13 [] = .inl g → H' p = some (.dK (dS g)) → Q' (.ref p) H') → (∀ v D Lc H', Same Hx H' → goF (meetF N ws) (h : Nat) 13 [] = .inr D → Tr id K H' v D Lc → Lc.Nodup → (∀ x ∈ Lc, Hx x = none) → Q' v H') → ∃ u0 u1 u2, [V.ref mp, V.int (h : Nat), V.ref a] = [u0, u1, u2] ∧ ∃ d, d < 14 ∧ pr_gone_into K d u0 u1 u2 Hx Q' E0 := fun {h Hx a Q'} sx ea hh q1 q2 => by
      refine ⟨_, _, _, rfl, 13, by decide, meetF N ws, (h : Nat), a, [], dp_same sx dM3, by rw [mlen]; omega, (fun r hr => by have := (meetF_adj N ws).len r hr; rw [mlen] at this; omega), rfl, by omega, by omega, rfl, ea, List.nodup_nil, Kin.nil, by decide, by rw [frN_nil, mlen]; omega, q1, q2⟩
    let Told : V → Hp → Nat → Prop := fun tv H' h => (∃ p g, tv = .ref p ∧ H' p = some (.dK (dS g)) ∧ goF (meetF N ws) (h : Nat) 13 [] = .inl g) ∨ (∃ D Lt, goF (meetF N ws) (h : Nat) 13 [] = .inr D ∧ Tr id K H' tv D Lt ∧ Lt.Nodup ∧ ∀ x ∈ Lt, H x = none)
    refine k_gname (seqO (fun σ' H' => H' = H3 ∧ σ' = [some v0, some (.ref wb), some (.ref mp), some (.int (L : Nat)), some .non, none, none]) ?_ (fun nx1 go1 => ?_))
    rotate_left
    · wtm_at "s"
      exact go1 _ _ ⟨rfl, rfl⟩
    rintro σ' H' ⟨rfl, rfl⟩
    refine seqO (fun σ' H5 => Same H' H5 ∧ ∃ tv, σ' = [some v0, some (.ref wb), some (.ref mp), some (.int (L : Nat)), some .non, some tv, none] ∧ Told tv H5 L) ?_ (fun nx1 go1 => ?_)
    rotate_left
    · wtm_at "s"
      refine kD (fun a H4 na s4 e4 => ?_)
      wtm_at "s"
      refine step s4 e4 (by omega) (fun p g H5 s5 eg ep => ?_) (fun v D Lc H5 s5 eg tr nd fr => ?_)
      · wtm_at "s"
        exact go1 _ _ ⟨s4.trans s5, .ref p, rfl, .inl ⟨p, g, rfl, ep, eg⟩⟩
      · wtm_at "s"
        exact go1 _ _ ⟨s4.trans s5, v, rfl, .inr ⟨D, Lc, eg, tr, nd, fun x hx => (s03.trans s4).free (fr x hx)⟩⟩
    rintro σ' H4 ⟨s4, tv, rfl, told⟩
    wtm_at "s"
    refine k_while ⟨fun k σ' H5 => Same H' H5 ∧ ∃ (h : Nat) (cv tv : V), σ' = [some v0, some (.ref wb), some (.ref mp), some (.int (h : Nat)), some cv, some tv, none] ∧ L ≤ h ∧ h + k = ws.length ∧ (∀ j : Nat, L ≤ j → j < h → ∃ D, goF (meetF N ws) (j : Nat) 13 [] = .inr D) ∧ (h = L ∨ ∃ D Lc, 0 < h ∧ goF (meetF N ws) ((h : Int) - 1) 13 [] = .inr D ∧ Tr id K H5 cv D Lc ∧ Lc.Nodup ∧ ∀ x ∈ Lc, H x = none) ∧ Told tv H5 h,
      ⟨ws.length - L, s4, L, .non, tv, rfl, Nat.le_refl _, by omega, (fun j h1 h2 => by omega), .inl rfl, told⟩, ?_⟩
    clear told s4 tv H4
    rintro k σ' H5 ⟨s5, h, cv, tv, rfl, hL, hk, low, hcv, told⟩
    have h12 : h ≤ 12 := by omega
    wtm_at "s"
    rcases told with ⟨p, g, rfl, ep, eg⟩ | ⟨D, Lt, eg, tr, nd, fr⟩
    · refine k_isiD ep ?_
      wtm_at "s"
      obtain ⟨ga, gb, gc, gd⟩ := go_dict (meetF_adj N ws) uni_add eg List.nodup_nil Kin.nil (by rw [frN_nil, mlen]; omega) PrpS.nil
      rw [mlen] at ga gc
      have s05 := s03.trans s5
      refine lc_growR (by omega) (fun i : Nat => some (.int ((lookS g (i : Int)).getD 0))) ?_ (fun hl H6 nhl s6 ehl => ?_)
      · intro i Hx hi sm R R0 g1 g0
        obtain ⟨u, hu⟩ := all_looked ga gb gc (show i < ws.length by omega)
        wtm_at "s"
        refine k_gD1 (.inl (sm _ _ ep)) (v := .int u) (by rw [Int.zero_add, dS_val, hu]; rfl) ?_
        exact g1 _ _ (by rw [hu]; rfl) (Same.refl _)
      have ehl' : H6 hl = some (.lst ((fewHs ws.length g).map V.int)) := by
        rw [ehl]
        unfold fewHs
        rw [List.map_map, lws, Int.toNat_natCast]
        congr 2
        show List.filterMap (some ∘ fun i : Nat => V.int ((lookS g (i : Int)).getD 0)) (List.range ws.length) = _
        rw [List.filterMap_eq_map]
        rfl
      have s06 := s05.trans s6
      wtm_at "s"
      have fx : ∀ pp, PapX N ws h pp → FewX N ws h (fewHs ws.length g) pp := fun pp px => .inr ⟨c, L, g, lx, hL, low, eg, rfl, px⟩
      have fin : ∀ pv pp Lp H7, Same H6 H7 → PapX N ws h pp → PapAt K H7 pv pp Lp → Lp.Nodup → (∀ x ∈ Lp, H x = none) → hl ∉ Lp → newT [.int (h : Nat), .ref hl, pv] H7 Q := fun pv pp Lp H7 s7 px pa nd fr nh => by
        refine kT (by simp) (fun t H8 nt s8 e8 => ?_)
        exact q t hl h (fewHs ws.length g) pp pv Lp H8 (fx pp px) (s06.trans (s7.trans s8)) ((s06.trans s7).free nt) e8 (s05.free nhl) ((s7.trans s8) _ _ ehl') (pa.same s8) nd fr nh
      rcases hcv with rfl | ⟨D, Lc, h0, egc, trc, ndc, frc⟩
      · refine ⟨_, _, _, _, rfl, N, ws, h, dp_same s06 d0, ok, dp_same s06 d1, by omega, hok, rfl, .none, [], fun nt => ?_, fun v pp Lp H7 px s7 pa nd frp => ?_⟩
        · obtain ⟨t, ht, e⟩ := lx.1
          exact absurd e (nt t ht)
        · wtm_at "s"
          rcases frp with rfl | frp
          · exact fin v pp [] H7 s7 px pa nd (fun x hx => by cases hx) (fun hx => by cases hx)
          · exact fin v pp Lp H7 s7 px pa nd (fun x hx => s06.free (frp x hx)) (fun hx => by have := frp hl hx; rw [ehl'] at this; cases this)
      · refine ⟨_, _, _, _, rfl, N, ws, h, dp_same s06 d0, ok, dp_same s06 d1, by omega, hok, rfl, D, Lc, fun nt => ⟨h0, egc, trc.same s6, ndc⟩, fun v pp Lp H7 px s7 pa nd frp => ?_⟩
        wtm_at "s"
        rcases frp with rfl | frp
        · exact fin v pp Lp H7 s7 px pa nd frc (fun hx => by obtain ⟨zs, ez⟩ := trc.alive hl hx; rw [ez] at nhl; cases nhl)
        · exact fin v pp Lp H7 s7 px pa nd (fun x hx => s06.free (frp x hx)) (fun hx => by have := frp hl hx; rw [ehl'] at this; cases this)
    · obtain ⟨pv, xs, rfl, hpv⟩ := tr.tup
      refine k_isiDT hpv ?_
      wtm_at "s"
      have hlt : h < ws.length := by
        refine Classical.byContradiction fun z => ?_
        have e : h = ws.length := by omega
        have cj := go_case eg List.nodup_nil Kin.nil uni_add
        exact case_bars (meetF_adj N ws) (m := 0) (gs := []) cj Can.nil (by rw [e]; exact proper_id) (fun k u _ e => by cases e)
      refine ⟨fun σ' H6 => Same H' H6 ∧ ∃ (tv : V), σ' = [some v0, some (.ref wb), some (.ref mp), some (.int ((h + 1 : Nat) : Int)), some (.ref pv), some tv, none] ∧ Tr id K H6 (.ref pv) D Lt ∧ Told tv H6 (h + 1), ?_, ?_⟩
      · rintro σ' H6 ⟨s6, tv', e6, tr6, told6⟩
        refine ⟨ws.length - (h + 1), by omega, s6, h + 1, .ref pv, tv', e6, by omega, by omega, fun j h1 h2 => ?_, .inr ⟨D, Lt, by omega, ?_, tr6, nd, fr⟩, told6⟩
        · by_cases z : j = h
          · rw [z]; exact ⟨D, eg⟩
          · exact low j h1 (by omega)
        · rw [show (((h + 1 : Nat) : Int) - 1) = ((h : Nat) : Int) by omega]; exact eg
      · wtm_at "s"
        refine kD (fun a H6 na s6 e6 => ?_)
        wtm_at "s"
        have eh : ((h : Nat) : Int) + 1 = ((h + 1 : Nat) : Int) := by omega
        rw [eh]
        refine step (s5.trans s6) e6 (by omega) (fun p g H7 s7 eg' ep => ?_) (fun v D' Lc H7 s7 eg' tr' nd' fr' => ?_)
        · wtm_at "s"
          exact ⟨s5.trans (s6.trans s7), .ref p, rfl, tr.same (s6.trans s7), .inl ⟨p, g, rfl, ep, eg'⟩⟩
        · wtm_at "s"
          exact ⟨s5.trans (s6.trans s7), v, rfl, tr.same (s6.trans s7), .inr ⟨D', Lc, eg', tr', nd', fun x hx => (s03.trans (s5.trans s6)).free (fr' x hx)⟩⟩
abbrev sp_fewest (K : PySem.W.Frag) : Sp := fun vs H Q E => ∃ v0 v1, vs = [v0, v1] ∧ pr_fewest K v0 v1 H Q E
theorem ok_fewest (T : Txt K mg A) : FnOk P w K mg base CX0 18 A.a_fewest A.d_fewest ["net", "ways"] (sp_fewest K) := by
  refine T.F_fewest.ok sc_fewest (fun vs H Q E h => by obtain ⟨v0, v1, rfl, _⟩ := h; rfl) (fun cdv A0 outer s H vs Q E hr h => ?_)
  obtain ⟨v0, v1, rfl, h⟩ := h
  exact ⟨t_fewest K, (pss_cons (ps_expr (pe_call (ok_look_few T) (hr.mono (by decide)) (by rfl) T.g_look_few T.F_look_few.kp T.b_look_few .nil pass0 (pa_cons (pv 0) (pa_cons (pv 1) (pa_cons (pe_glob (v := .int 12) (by rfl) T.c_MOST ⟨_, rfl⟩) pa_nil)))))
      (pss_cons (ps_if (pt_cmpR (op_eqD hr.units) (pv 1) (pe_lst pa_nil) (nomark _)) (pss_one (ps_ret (pe_tup (pa_cons pe_int (pa_cons (pe_lst pa_nil) (pa_cons (pe_tup (pa_cons pe_str pa_nil)) pa_nil)))))) pss_nil)
      (pss_cons (ps_set (i := 2) sc_fewest.nd rfl (Or.inl rfl) (pe_call (ok_meetings T) (hr.mono (by decide)) (by rfl) T.g_meetings T.F_meetings.kp T.b_meetings .nil pass0 (pa_cons (pv 0) (pa_cons (pv 1) pa_nil))))
      (pss_cons (ps_set (i := 3) sc_fewest.nd rfl (Or.inl rfl) (pe_call (ok_load T) (hr.mono (by decide)) (by rfl) T.g_load T.F_load.kp T.b_load .nil pass0 (pa_cons (pv 0) (pa_cons (pv 1) pa_nil))))
      (pss_cons (ps_set (i := 4) sc_fewest.nd rfl (Or.inl rfl) pe_non)
      (pss_cons (ps_set (i := 5) sc_fewest.nd rfl (Or.inr rfl) (pe_call (ok_gone_into T) (hr.mono (by decide)) (by rfl) T.g_gone_into T.F_gone_into.kp T.b_gone_into .nil pass0 (pa_cons (pv 2) (pa_cons (pv 3) (pa_cons pe_dnewK pa_nil)))))
      (pss_cons (ps_while PassesOwn.never (pt_not (pt_val (pe_callB q_isi (by rfl) T.z_isinstance (by decide +kernel) (pa_cons (pv 5) (pa_cons (pe_bltn (v := .ty "dict") (by rfl) T.z_dict (by decide +kernel) rfl) pa_nil)))))
      (pss_cons (ps_set (i := 4) sc_fewest.nd rfl (Or.inl rfl) (pv 5))
      (pss_cons (ps_aug (i := 3) sc_fewest.nd rfl (Or.inl rfl) pe_int ip_add)
      (pss_one (ps_set (i := 5) sc_fewest.nd rfl (Or.inr rfl) (pe_call (ok_gone_into T) (hr.mono (by decide)) (by rfl) T.g_gone_into T.F_gone_into.kp T.b_gone_into .nil pass0 (pa_cons (pv 2) (pa_cons (pv 3) (pa_cons pe_dnewK pa_nil)))))))))
      (pss_one (ps_ret (pe_tup (pa_cons (pv 3) (pa_cons (pe_lc (own := [("k", 6)]) (by rfl) sc_fewest.nd (pi_range1 (by rfl) T.z_range (pa_cons (pe_callB q_len (by rfl) T.z_len (by decide +kernel) (pa_cons (pv 1) pa_nil)) pa_nil)) (blkOk_by (own := [("k", 6)]) (N := ["net", "ways", "meets", "h", "case", "told", "k"]) (sc := defScope s_fewest) (by decide +kernel)) (fun _ _ _ _ _ => (pg_name (i := 6) sc_fewest.nd rfl (Or.inl rfl))) (fun _ _ _ _ _ => pts_nil) (fun _ _ _ _ _ => (pe_dget (Nat.lt_of_le_of_lt (Nat.add_le_add_left (by decide) _) hr.units) (pv 5) (pv 6) (fun _ _ => rfl)))) (pa_cons (pe_call (ok_paper_of T) (hr.mono (by decide)) (by rfl) T.g_paper_of T.F_paper_of.kp T.b_paper_of .nil pass0 (pa_cons (pv 0) (pa_cons (pv 1) (pa_cons (pv 3) (pa_cons (pv 4) pa_nil))))) pa_nil))))))))))))), pure_fewest h⟩


/-! fewest tells the least number of hues -/
theorem few_least {N : Net} {ws : List (Int × Int)} (ok : N.ok) (hok : ∀ w ∈ ws, isWay N w.1 w.2) (hl : ws.length ≤ 12) {h : Nat} {hs : List Int} {pp : Pap5} (x : FewX N ws h hs pp) : Least (Colr N ws) (h : Nat) := by
  rcases x with ⟨rfl, rfl, rfl, rfl⟩ | ⟨hne, L, g, lx, hL, low, e, rfl, px⟩
  · exact ⟨by decide, Colr.all [], fun k k0 hk => absurd hk (by show ¬ k < ((0 : Nat) : Int); omega)⟩
  · refine ⟨by omega, colr_iff.mpr ⟨_, few_proper hl e⟩, fun k k0 hk c => ?_⟩
    obtain ⟨f, p⟩ := colr_iff.mp c
    obtain ⟨k, rfl⟩ : ∃ j : Nat, k = j := ⟨k.toNat, by omega⟩
    exact few_low ok hok lx low (by omega) f p


/-! ### hues of the ways that P takes, and their joining -/
def PartC (ws : List (Int × Int)) (P : Int × Int → Bool) (M : Int × Int → Int × Int → Bool) (h : Int) (f : Nat → Int) : Prop := ∀ i, i < ws.length → P (ws.getD i (0, 0)) = true → (0 ≤ f i ∧ f i < h) ∧ ∀ j, j < ws.length → j ≠ i → P (ws.getD j (0, 0)) = true → M (ws.getD i (0, 0)) (ws.getD j (0, 0)) = true → f i ≠ f j
theorem getD_of {α : Type} {l : List α} {i : Nat} {d : α} (h : i < l.length) : l.getD i d = l[i] := by
  rw [List.getD_eq_getElem?_getD, List.getElem?_eq_getElem h]; rfl
/-- a list of hued ways told by the list it was picked from -/
theorem pick_back {α β : Type} (P : α → Bool) (φ : α → β) (z : Int) : ∀ (ws : List α) (L' : List (β × Int)), L'.map (·.1) = (ws.filter P).map φ → ∃ L : List (α × Int), L.map (·.1) = ws ∧ (L.filter fun x => P x.1).map (fun x => (φ x.1, x.2)) = L'
  | [], L', e => by
    rw [List.filter_nil, List.map_nil] at e
    rw [List.map_eq_nil_iff.mp e]
    exact ⟨[], rfl, rfl⟩
  | w :: r, L', e => by
    by_cases c : P w = true
    · rw [List.filter_cons_of_pos c, List.map_cons] at e
      cases L' with
      | nil => cases e
      | cons a t =>
        rw [List.map_cons] at e
        injection e with e1 e2
        obtain ⟨L, h1, h2⟩ := pick_back P φ z r t e2
        refine ⟨(w, a.2) :: L, by rw [List.map_cons, h1], ?_⟩
        rw [List.filter_cons_of_pos (by exact c), List.map_cons, h2]
        show (φ w, a.2) :: t = a :: t
        rw [← e1]
    · rw [List.filter_cons_of_neg c] at e
      obtain ⟨L, h1, h2⟩ := pick_back P φ z r L' e
      refine ⟨(w, z) :: L, by rw [List.map_cons, h1], ?_⟩
      rw [List.filter_cons_of_neg (by exact c), h2]
theorem part_of {N' : Net} {ws : List (Int × Int)} {P : Int × Int → Bool} {φ : Int × Int → Int × Int} {h : Int} (c : Colr N' ((ws.filter P).map φ) h) : ∃ f, PartC ws P (fun w v => meetB N' (φ w) (φ v)) h f := by
  obtain ⟨L', e, rg, pw⟩ := c
  obtain ⟨L, rfl, rfl⟩ := pick_back P φ 0 ws L' e
  rw [List.pairwise_map, List.pairwise_filter] at pw
  have hl : ∀ i (hi : i < L.length), (L.map (·.1)).getD i (0, 0) = L[i].1 := fun i hi => by
    rw [List.getD_eq_getElem?_getD, List.getElem?_map, List.getElem?_eq_getElem hi]; rfl
  have hf : ∀ i (hi : i < L.length), (L.map (·.2)).getD i 0 = L[i].2 := fun i hi => by
    rw [List.getD_eq_getElem?_getD, List.getElem?_map, List.getElem?_eq_getElem hi]; rfl
  refine ⟨fun i => (L.map (·.2)).getD i 0, fun i hi p => ?_⟩
  rw [List.length_map] at hi
  rw [hl i hi] at p
  refine ⟨?_, fun j hj ne q m => ?_⟩
  · show 0 ≤ (L.map (·.2)).getD i 0 ∧ (L.map (·.2)).getD i 0 < h
    rw [hf i hi]
    exact rg (φ L[i].1, L[i].2) (List.mem_map.mpr ⟨L[i], List.mem_filter.mpr ⟨List.getElem_mem hi, p⟩, rfl⟩)
  · rw [List.length_map] at hj
    rw [hl j hj] at q
    rw [hl i hi, hl j hj] at m
    show (L.map (·.2)).getD i 0 ≠ (L.map (·.2)).getD j 0
    rw [hf i hi, hf j hj]
    rcases Nat.lt_or_gt_of_ne ne with c | c
    · exact fun z => List.pairwise_iff_getElem.mp pw j i hj hi c q p (by show meetB N' (φ L[j].1) (φ L[i].1) = true; rw [meet_comm]; exact m) z.symm
    · exact List.pairwise_iff_getElem.mp pw i j hi hj c p q m
theorem part_all {N : Net} {ws : List (Int × Int)} {h : Int} {f : Nat → Int} (p : PartC ws (fun _ => true) (meetB N) h f) : Colr N ws h :=
  colr_iff.mpr ⟨f, proper_mk f (fun i hi => (p i hi rfl).1) (fun i j hi hj ne m => (p i hi rfl).2 j hj (fun z => ne z.symm) rfl m)⟩
theorem Colr.mapw {N N' : Net} {ws : List (Int × Int)} {h : Int} {φ : Int × Int → Int × Int} (c : Colr N ws h) (hm : ∀ w ∈ ws, ∀ v ∈ ws, meetB N' (φ w) (φ v) = true → meetB N w v = true) : Colr N' (ws.map φ) h := by
  obtain ⟨L, rfl, rg, pw⟩ := c
  refine ⟨L.map fun x => (φ x.1, x.2), by rw [List.map_map, List.map_map]; rfl, fun x hx => ?_, ?_⟩
  · obtain ⟨y, hy, rfl⟩ := List.mem_map.mp hx
    exact rg y hy
  · refine List.pairwise_map.mpr (List.Pairwise.imp_of_mem ?_ pw)
    intro x y hx hy hxy m
    exact hxy (hm _ (List.mem_map.mpr ⟨x, hx, rfl⟩) _ (List.mem_map.mpr ⟨y, hy, rfl⟩) m)
/-- an exchange of hues that takes each of some to another -/
theorem perm_ext {h : Int} : ∀ zs : List (Int × Int), (zs.map (·.1)).Nodup → (zs.map (·.2)).Nodup → (∀ z ∈ zs, (0 ≤ z.1 ∧ z.1 < h) ∧ 0 ≤ z.2 ∧ z.2 < h) → ∃ π : Int → Int, (∀ x, 0 ≤ x → x < h → 0 ≤ π x ∧ π x < h) ∧ (∀ x y, π x = π y → x = y) ∧ ∀ z ∈ zs, π z.1 = z.2
  | [], _, _, _ => ⟨id, fun x a b => ⟨a, b⟩, fun x y e => e, fun z h => nomatch h⟩
  | (a, b) :: r, n1, n2, rg => by
    rw [List.map_cons, List.nodup_cons] at n1 n2
    obtain ⟨π, p1, p2, p3⟩ := perm_ext r n1.2 n2.2 (fun z hz => rg z (List.mem_cons_of_mem _ hz))
    obtain ⟨ra, rb⟩ := rg (a, b) List.mem_cons_self
    refine ⟨fun x => swp (π a) b (π x), fun x x0 x1 => ?_, fun x y e => p2 x y (swp_inj e), fun z hz => ?_⟩
    · have h1 := p1 x x0 x1
      have h2 := p1 a ra.1 ra.2
      have h3 : 0 ≤ b ∧ b < h := rb
      show 0 ≤ swp (π a) b (π x) ∧ swp (π a) b (π x) < h
      unfold swp
      repeat' split
      all_goals omega
    · rcases List.mem_cons.mp hz with rfl | hz
      · show swp (π a) b (π a) = b
        unfold swp
        rw [if_pos rfl]
      · have e := p3 z hz
        have hb : z.2 ≠ b := fun c => n2.1 (by rw [← c]; exact List.mem_map.mpr ⟨z, hz, rfl⟩)
        have ha : π z.1 ≠ π a := fun c => n1.1 (by rw [← p2 _ _ c]; exact List.mem_map.mpr ⟨z, hz, rfl⟩)
        show swp (π a) b (π z.1) = z.2
        unfold swp
        rw [if_neg ha, if_neg (by rw [e]; exact hb), e]
/-- two parts of the ways hued: put together where those of both meet in both -/
theorem part_join {ws : List (Int × Int)} {P1 P2 : Int × Int → Bool} {M M1 M2 : Int × Int → Int × Int → Bool} {h : Int} {f g : Nat → Int} (a : PartC ws P1 M1 h f) (b : PartC ws P2 M2 h g)
    (cov : ∀ w ∈ ws, P1 w = true ∨ P2 w = true) (both : ∀ w ∈ ws, ∀ v ∈ ws, P1 w = true → P2 w = true → P1 v = true → P2 v = true → M1 w v = true ∧ M2 w v = true)
    (hm : ∀ w ∈ ws, ∀ v ∈ ws, M w v = true → (P1 w = true ∧ P1 v = true ∧ M1 w v = true) ∨ (P2 w = true ∧ P2 v = true ∧ M2 w v = true)) : ∃ k, PartC ws (fun _ => true) M h k := by
  have mem : ∀ {i}, i < ws.length → ws.getD i (0, 0) ∈ ws := fun {i} hi => by rw [getD_of hi]; exact List.getElem_mem hi
  let C : List Nat := (List.range ws.length).filter fun i => P1 (ws.getD i (0, 0)) && P2 (ws.getD i (0, 0))
  have hC : ∀ i, i ∈ C ↔ i < ws.length ∧ P1 (ws.getD i (0, 0)) = true ∧ P2 (ws.getD i (0, 0)) = true := fun i => by
    show i ∈ (List.range ws.length).filter _ ↔ _
    rw [List.mem_filter, List.mem_range, Bool.and_eq_true]
  have nd : C.Nodup := List.nodup_range.filter _
  obtain ⟨π, p1, p2, p3⟩ := perm_ext (h := h) (C.map fun i => (g i, f i)) (by
    rw [List.map_map]
    refine List.nodup_iff_pairwise_ne.mpr (List.pairwise_map.mpr (List.Pairwise.imp_of_mem ?_ (List.nodup_iff_pairwise_ne.mp nd)))
    intro i j hi hj ne
    obtain ⟨i1, i2, i3⟩ := (hC i).mp hi
    obtain ⟨j1, j2, j3⟩ := (hC j).mp hj
    exact (b i i1 i3).2 j j1 (fun z => ne z.symm) j3 (both _ (mem i1) _ (mem j1) i2 i3 j2 j3).2) (by
    rw [List.map_map]
    refine List.nodup_iff_pairwise_ne.mpr (List.pairwise_map.mpr (List.Pairwise.imp_of_mem ?_ (List.nodup_iff_pairwise_ne.mp nd)))
    intro i j hi hj ne
    obtain ⟨i1, i2, i3⟩ := (hC i).mp hi
    obtain ⟨j1, j2, j3⟩ := (hC j).mp hj
    exact (a i i1 i2).2 j j1 (fun z => ne z.symm) j2 (both _ (mem i1) _ (mem j1) i2 i3 j2 j3).1) (fun z hz => by
    obtain ⟨i, hi, rfl⟩ := List.mem_map.mp hz
    obtain ⟨i1, i2, i3⟩ := (hC i).mp hi
    exact ⟨(b i i1 i3).1, (a i i1 i2).1⟩)
  have key : ∀ i, i < ws.length → P1 (ws.getD i (0, 0)) = true → P2 (ws.getD i (0, 0)) = true → f i = π (g i) := fun i hi q1 q2 => (p3 (g i, f i) (List.mem_map.mpr ⟨i, (hC i).mpr ⟨hi, q1, q2⟩, rfl⟩)).symm
  let k : Nat → Int := fun i => if P1 (ws.getD i (0, 0)) = true then f i else π (g i)
  have k1 : ∀ i, P1 (ws.getD i (0, 0)) = true → k i = f i := fun i q => if_pos q
  have k2 : ∀ i, i < ws.length → P2 (ws.getD i (0, 0)) = true → k i = π (g i) := fun i hi q => by
    by_cases c : P1 (ws.getD i (0, 0)) = true
    · rw [k1 i c, key i hi c q]
    · exact if_neg c
  refine ⟨k, fun i hi _ => ⟨?_, fun j hj ne _ m => ?_⟩⟩
  · rcases cov _ (mem hi) with q | q
    · rw [k1 i q]; exact (a i hi q).1
    · rw [k2 i hi q]
      have := (b i hi q).1
      exact p1 _ this.1 this.2
  · rcases hm _ (mem hi) _ (mem hj) m with ⟨q1, q2, q3⟩ | ⟨q1, q2, q3⟩
    · rw [k1 i q1, k1 j q2]
      exact (a i hi q1).2 j hj ne q2 q3
    · rw [k2 i hi q1, k2 j hj q2]
      exact fun z => (b i hi q1).2 j hj ne q2 q3 (p2 _ _ z)


/-! ### a tie of a tree and its two sides -/
theorem below_side {ps : List Int} (T : TreeOk ps) {c : Nat} (hc : c < ps.length) {side : Nat → Bool} (h : ∀ x, x < ps.length → x ≠ c → side (x + 1) = side (ps.getD x 0).toNat) (hne : side (c + 1) ≠ side (ps.getD c 0).toNat) : ∀ n x, x ≤ n → x ≤ ps.length → side x = (if below ps (c + 1) x = true then !side 0 else side 0)
  | n, 0, _, _ => by
    rw [below_lt 0 (by omega), if_neg (by decide)]
  | 0, x + 1, hn, _ => by omega
  | n + 1, x + 1, hn, hx => by
    have r := T.2.2 x (by omega)
    have hp : (ps.getD x 0).toNat ≤ n := by omega
    have ih := below_side T hc h hne n (ps.getD x 0).toNat hp (by omega)
    by_cases e : x = c
    · subst e
      rw [below_self, if_pos rfl]
      rw [below_lt _ (by omega), if_neg (by decide)] at ih
      rw [ih] at hne
      cases h1 : side (x + 1) <;> cases h2 : side 0 <;> rw [h1, h2] at hne <;> first | rfl | exact absurd rfl hne
    · rw [h x (by omega) e, ih, below_step T (by omega) (by omega)]
theorem side_on {ps : List Int} (T : TreeOk ps) {c : Nat} (hc : c < ps.length) {side : Nat → Bool} (h : ∀ x, x < ps.length → x ≠ c → side (x + 1) = side (ps.getD x 0).toNat) (hne : side (c + 1) ≠ side (ps.getD c 0).toNat) {a b : Nat} (ha : a ≤ ps.length) (hb : b ≤ ps.length) : side a ≠ side b ↔ below ps (c + 1) a ≠ below ps (c + 1) b := by
  have h1 := below_side T hc h hne a a (Nat.le_refl _) ha
  have h2 := below_side T hc h hne b b (Nat.le_refl _) hb
  rw [h1, h2]
  cases below ps (c + 1) a <;> cases below ps (c + 1) b <;> cases side 0 <;> simp
theorem srt_lt {kp : List Nat} (s : kp.Pairwise (· < ·)) {i j : Nat} (hi : i < kp.length) (hj : j < kp.length) (h : kp[i] < kp[j]) : i < j := by
  rcases Nat.lt_trichotomy i j with c | c | c
  · exact c
  · subst c; omega
  · have := List.pairwise_iff_getElem.mp s j i hj hi c
    omega
theorem srt_eq {kp : List Nat} (s : kp.Pairwise (· < ·)) {i j : Nat} (hi : i < kp.length) (hj : j < kp.length) (h : kp[i] = kp[j]) : i = j := by
  rcases Nat.lt_trichotomy i j with c | c | c
  · have := List.pairwise_iff_getElem.mp s i j hi hj c; omega
  · exact c
  · have := List.pairwise_iff_getElem.mp s j i hj hi c; omega
theorem idx_at {kp : List Nat} (s : kp.Pairwise (· < ·)) {i : Nat} (hi : i < kp.length) : kp.idxOf kp[i] = i := by
  have l := List.idxOf_lt_length_of_mem (List.getElem_mem hi)
  exact srt_eq s l hi (List.getElem_idxOf l)
theorem idx_out {kp : List Nat} {x : Nat} (h : x ∉ kp) : kp.idxOf x = kp.length := List.idxOf_eq_length h
/-- one half of a tree that is cut at the tie of the place cut -/
structure Half (ps : List Int) (kp : List Nat) (cut hang : Nat) (qs : List Int) : Prop where
  srt : kp.Pairwise (· < ·)
  ne : 0 < kp.length
  lt : kp.length < 60
  le : ∀ x ∈ kp, x ≤ ps.length
  edge : ∀ z, z < ps.length → z + 1 ≠ cut → (z + 1 ∈ kp ↔ (ps.getD z 0).toNat ∈ kp)
  c1 : 1 ≤ cut
  c2 : cut ≤ ps.length
  ct : (cut ∈ kp ∧ hang = cut ∧ (ps.getD (cut - 1) 0).toNat ∉ kp) ∨ (cut ∉ kp ∧ hang = (ps.getD (cut - 1) 0).toNat ∧ hang ∈ kp)
  first : ∀ j, j + 1 < kp.length → kp.getD (j + 1) 0 ≠ cut
  ql : qs.length = kp.length
  q : ∀ j, j + 1 < kp.length → qs.getD j 0 = ((kp.idxOf (ps.getD (kp.getD (j + 1) 0 - 1) 0).toNat : Nat) : Int)
  qh : qs.getD (kp.length - 1) 0 = ((kp.idxOf hang : Nat) : Int)
def tieH (kp : List Nat) (cut j : Nat) : Nat := if j + 1 < kp.length then kp.getD (j + 1) 0 - 1 else cut - 1
section
variable {ps : List Int} {kp : List Nat} {cut hang : Nat} {qs : List Int}
theorem Half.hang_in (A : Half ps kp cut hang qs) : hang ∈ kp := by
  rcases A.ct with ⟨a, b, _⟩ | ⟨_, _, c⟩
  · rw [b]; exact a
  · exact c
/-- the place behind the first ones -/
theorem Half.next (A : Half ps kp cut hang qs) (T : TreeOk ps) {j : Nat} (hj : j + 1 < kp.length) : 1 ≤ kp.getD (j + 1) 0 ∧ kp.getD (j + 1) 0 ≤ ps.length ∧ kp.getD (j + 1) 0 ∈ kp ∧ (ps.getD (kp.getD (j + 1) 0 - 1) 0).toNat ∈ kp ∧ kp.idxOf (ps.getD (kp.getD (j + 1) 0 - 1) 0).toNat ≤ j := by
  have e : kp.getD (j + 1) 0 = kp[j + 1] := by rw [List.getD_eq_getElem?_getD, List.getElem?_eq_getElem hj]; rfl
  have m : kp[j + 1] ∈ kp := List.getElem_mem hj
  have h0 := List.pairwise_iff_getElem.mp A.srt 0 (j + 1) (by omega) hj (by omega)
  have hl := A.le _ m
  have f := A.first j hj
  rw [e] at f ⊢
  have m2 : (ps.getD (kp[j + 1] - 1) 0).toNat ∈ kp := (A.edge (kp[j + 1] - 1) (by omega) (by omega)).mp (by rw [show kp[j + 1] - 1 + 1 = kp[j + 1] by omega]; exact m)
  have r := T.2.2 (kp[j + 1] - 1) (by omega)
  have l := List.idxOf_lt_length_of_mem m2
  refine ⟨by omega, hl, m, m2, ?_⟩
  have := srt_lt A.srt l hj (by rw [List.getElem_idxOf l]; omega)
  omega
theorem Half.ok (A : Half ps kp cut hang qs) (T : TreeOk ps) : TreeOk qs := by
  have hn := A.ne
  refine ⟨by rw [A.ql]; exact hn, by rw [A.ql]; exact A.lt, fun k hk => ?_⟩
  rw [A.ql] at hk
  by_cases c : k + 1 < kp.length
  · rw [A.q k c]
    have := (A.next T c).2.2.2.2
    omega
  · obtain rfl : k = kp.length - 1 := by omega
    rw [A.qh]
    have := List.idxOf_lt_length_of_mem A.hang_in
    omega
theorem Half.at_next (A : Half ps kp cut hang qs) (T : TreeOk ps) {z : Nat} (hz : z < ps.length) (hc : z + 1 ≠ cut) (m : z + 1 ∈ kp) : ∃ j, j + 1 < kp.length ∧ kp.getD (j + 1) 0 = z + 1 ∧ kp.idxOf (z + 1) = j + 1 := by
  have l := List.idxOf_lt_length_of_mem m
  have g : kp[kp.idxOf (z + 1)] = z + 1 := List.getElem_idxOf l
  have m2 := (A.edge z hz hc).mp m
  have r := T.2.2 z hz
  have l2 := List.idxOf_lt_length_of_mem m2
  have := srt_lt A.srt l2 l (by rw [List.getElem_idxOf l2, g]; omega)
  refine ⟨kp.idxOf (z + 1) - 1, by omega, ?_, by omega⟩
  rw [show kp.idxOf (z + 1) - 1 + 1 = kp.idxOf (z + 1) by omega, List.getD_eq_getElem?_getD, List.getElem?_eq_getElem l, g]; rfl
theorem Half.far (A : Half ps kp cut hang qs) (T : TreeOk ps) (x : Nat) : below qs kp.length (kp.idxOf x) = !decide (x ∈ kp) := by
  by_cases m : x ∈ kp
  · rw [decide_eq_true m, below_lt _ (List.idxOf_lt_length_of_mem m)]; rfl
  · rw [decide_eq_false m, idx_out m, below_self]; rfl
theorem Half.on (A : Half ps kp cut hang qs) (T : TreeOk ps) {j a b : Nat} (hj : j < kp.length) (ha : a ≤ ps.length) (hb : b ≤ ps.length) : below qs (j + 1) (kp.idxOf a) ≠ below qs (j + 1) (kp.idxOf b) ↔ below ps (tieH kp cut j + 1) a ≠ below ps (tieH kp cut j + 1) b := by
  have c1 := A.c1
  have c2 := A.c2
  by_cases c : j + 1 < kp.length
  · obtain ⟨n1, n2, n3, n4, n5⟩ := A.next T c
    have e : tieH kp cut j = kp.getD (j + 1) 0 - 1 := if_pos c
    rw [e]
    have eg : kp.getD (j + 1) 0 = kp[j + 1] := by rw [List.getD_eq_getElem?_getD, List.getElem?_eq_getElem c]; rfl
    have ix : kp.idxOf (kp.getD (j + 1) 0) = j + 1 := by rw [eg]; exact idx_at A.srt c
    have OK := A.ok T
    refine side_on (side := fun x => below qs (j + 1) (kp.idxOf x)) T (by omega) (fun z hz nz => ?_) ?_ ha hb
    · show below qs (j + 1) (kp.idxOf (z + 1)) = below qs (j + 1) (kp.idxOf (ps.getD z 0).toNat)
      by_cases hc : z + 1 = cut
      · have hz' : z = cut - 1 := by omega
        have step : below qs (j + 1) kp.length = below qs (j + 1) (kp.idxOf hang) := by
          have := below_step OK (k := j + 1) (x := kp.length - 1) (by rw [A.ql]; omega) (by omega)
          rw [show kp.length - 1 + 1 = kp.length by omega, A.qh, Int.toNat_natCast] at this
          exact this
        rcases A.ct with ⟨h1, h2, h3⟩ | ⟨h1, h2, h3⟩
        · rw [hz', idx_out h3, show cut - 1 + 1 = hang by omega, step]
        · rw [show z + 1 = cut from hc, idx_out h1, step, h2, hz']
      · by_cases m : z + 1 ∈ kp
        · obtain ⟨i, i1, i2, i3⟩ := A.at_next T hz hc m
          have st := below_step OK (k := j + 1) (x := i) (by rw [A.ql]; omega) (by
            intro z'
            have : i = j := by omega
            subst this
            exact nz (by omega))
          rw [i3, st, A.q i i1, i2, Int.toNat_natCast]
          rfl
        · rw [idx_out m, idx_out (fun y => m ((A.edge z hz hc).mpr y))]
    · show below qs (j + 1) (kp.idxOf (kp.getD (j + 1) 0 - 1 + 1)) ≠ below qs (j + 1) (kp.idxOf (ps.getD (kp.getD (j + 1) 0 - 1) 0).toNat)
      rw [show kp.getD (j + 1) 0 - 1 + 1 = kp.getD (j + 1) 0 by omega, ix, below_self, below_lt _ (by omega)]
      decide
  · have e : tieH kp cut j = cut - 1 := if_neg c
    rw [e]
    have ej : j + 1 = kp.length := by omega
    rw [ej, A.far T a, A.far T b]
    refine side_on (side := fun x => !decide (x ∈ kp)) T (by omega) (fun z hz nz => ?_) ?_ ha hb
    · have := A.edge z hz (by omega)
      show (!decide (z + 1 ∈ kp)) = !decide ((ps.getD z 0).toNat ∈ kp)
      simp only [this]
    · show (!decide (cut - 1 + 1 ∈ kp)) ≠ !decide ((ps.getD (cut - 1) 0).toNat ∈ kp)
      rw [show cut - 1 + 1 = cut by omega]
      rcases A.ct with ⟨h1, h2, h3⟩ | ⟨h1, h2, h3⟩
      · rw [decide_eq_true h1, decide_eq_false h3]; decide
      · rw [h2] at h3
        rw [decide_eq_false h1, decide_eq_true h3]; decide
end
/-! ways of a half -/
def keepB (kp : List Nat) (w : Int × Int) : Bool := decide (w.1.toNat ∈ kp) || decide (w.2.toNat ∈ kp)
def keepW (kp : List Nat) (w : Int × Int) : Int × Int := (((kp.idxOf w.1.toNat : Nat) : Int), ((kp.idxOf w.2.toNat : Nat) : Int))
theorem tree_on {ps : List Int} {a b : Int} {t : Nat} (ht : t < ps.length) : OnTie (.tree ps) a b (t : Int) ↔ below ps (t + 1) a.toNat ≠ below ps (t + 1) b.toNat := by
  show (0 ≤ (t : Int) ∧ (t : Int) < ps.length ∧ below ps ((t : Int).toNat + 1) a.toNat ≠ below ps ((t : Int).toNat + 1) b.toNat) ↔ _
  rw [Int.toNat_natCast]
  constructor
  · exact fun h => h.2.2
  · exact fun h => ⟨by omega, by omega, h⟩
section
variable {ps : List Int} {kp : List Nat} {cut hang : Nat} {qs : List Int}
theorem Half.way (A : Half ps kp cut hang qs) {w : Int × Int} (hw : isWay (.tree ps) w.1 w.2) (k : keepB kp w = true) : isWay (.tree qs) (keepW kp w).1 (keepW kp w).2 := by
  obtain ⟨w1, w2, w3, w4, w5⟩ := hw
  have i1 := List.idxOf_le_length (a := w.1.toNat) (l := kp)
  have i2 := List.idxOf_le_length (a := w.2.toNat) (l := kp)
  have pl : (Net.tree qs).places = kp.length + 1 := by show (qs.length : Int) + 1 = _; rw [A.ql]
  refine ⟨fun z => ?_, ?_, ?_, ?_, ?_⟩
  · have z' : kp.idxOf w.1.toNat = kp.idxOf w.2.toNat := by
      have z : ((kp.idxOf w.1.toNat : Nat) : Int) = ((kp.idxOf w.2.toNat : Nat) : Int) := z
      omega
    by_cases m1 : w.1.toNat ∈ kp
    · have l := List.idxOf_lt_length_of_mem m1
      have l2 : kp.idxOf w.2.toNat < kp.length := by omega
      have g1 : kp[kp.idxOf w.1.toNat] = w.1.toNat := List.getElem_idxOf l
      have g2 : kp[kp.idxOf w.2.toNat] = w.2.toNat := List.getElem_idxOf l2
      have : w.1.toNat = w.2.toNat := by rw [← g1, ← g2]; simp only [z']
      omega
    · by_cases m2 : w.2.toNat ∈ kp
      · have l := List.idxOf_lt_length_of_mem m2
        rw [idx_out m1] at z'
        omega
      · unfold keepB at k
        rw [decide_eq_false m1, decide_eq_false m2] at k
        cases k
  · show (0 : Int) ≤ ((kp.idxOf w.1.toNat : Nat) : Int); omega
  · show (0 : Int) ≤ ((kp.idxOf w.2.toNat : Nat) : Int); omega
  · rw [pl]; show ((kp.idxOf w.1.toNat : Nat) : Int) < _; omega
  · rw [pl]; show ((kp.idxOf w.2.toNat : Nat) : Int) < _; omega
theorem Half.tie_lt (A : Half ps kp cut hang qs) (T : TreeOk ps) {j : Nat} (hj : j < kp.length) : tieH kp cut j < ps.length := by
  have c1 := A.c1
  have c2 := A.c2
  unfold tieH
  split
  · rename_i c
    have := A.next T c
    omega
  · omega
theorem Half.onT (A : Half ps kp cut hang qs) (T : TreeOk ps) {w : Int × Int} (hw : isWay (.tree ps) w.1 w.2) {j : Nat} (hj : j < kp.length) : OnTie (.tree qs) (keepW kp w).1 (keepW kp w).2 (j : Int) ↔ OnTie (.tree ps) w.1 w.2 ((tieH kp cut j : Nat) : Int) := by
  obtain ⟨w1, w2, w3, w4, w5⟩ := hw
  have w4 : w.1 < ps.length + 1 := w4
  have w5 : w.2 < ps.length + 1 := w5
  rw [tree_on (by rw [A.ql]; exact hj), tree_on (A.tie_lt T hj)]
  show below qs (j + 1) ((kp.idxOf w.1.toNat : Nat) : Int).toNat ≠ below qs (j + 1) ((kp.idxOf w.2.toNat : Nat) : Int).toNat ↔ _
  rw [Int.toNat_natCast, Int.toNat_natCast]
  exact A.on T hj (by omega) (by omega)
theorem Half.meet (A : Half ps kp cut hang qs) (T : TreeOk ps) {w v : Int × Int} (hw : isWay (.tree ps) w.1 w.2) (hv : isWay (.tree ps) v.1 v.2) (kw : keepB kp w = true) (kv : keepB kp v = true) (m : meetB (.tree qs) (keepW kp w) (keepW kp v) = true) : meetB (.tree ps) w v = true := by
  obtain ⟨t, h1, h2⟩ := (meet_iff (N := .tree qs) (A.ok T) (A.way hw kw) (A.way hv kv)).mp m
  have r := h1
  obtain ⟨t0, t1, _⟩ := r
  obtain ⟨j, rfl⟩ : ∃ j : Nat, t = j := ⟨t.toNat, by omega⟩
  rw [A.ql] at t1
  exact (meet_iff (N := .tree ps) T hw hv).mpr ⟨_, (A.onT T hw (by omega)).mp h1, (A.onT T hv (by omega)).mp h2⟩
theorem Half.colr (A : Half ps kp cut hang qs) (T : TreeOk ps) {ws : List (Int × Int)} (hok : ∀ w ∈ ws, isWay (.tree ps) w.1 w.2) {h : Int} (c : Colr (.tree ps) ws h) : Colr (.tree qs) ((ws.filter (keepB kp)).map (keepW kp)) h := by
  refine (c.sub List.filter_sublist).mapw fun w hw v hv m => ?_
  obtain ⟨a1, a2⟩ := List.mem_filter.mp hw
  obtain ⟨b1, b2⟩ := List.mem_filter.mp hv
  exact A.meet T (hok w a1) (hok v b1) a2 b2 m
/-- on a tie of the half: one end at least lies in it -/
theorem Half.on_keep {w : Int × Int} {t : Int} (h : OnTie (.tree qs) (keepW kp w).1 (keepW kp w).2 t) : keepB kp w = true := by
  unfold keepB
  by_cases m1 : w.1.toNat ∈ kp
  · rw [decide_eq_true m1]; rfl
  · by_cases m2 : w.2.toNat ∈ kp
    · rw [decide_eq_true m2, Bool.or_true]
    · exfalso
      obtain ⟨_, _, h⟩ := h
      apply h
      show below qs (t.toNat + 1) ((kp.idxOf w.1.toNat : Nat) : Int).toNat = below qs (t.toNat + 1) ((kp.idxOf w.2.toNat : Nat) : Int).toNat
      rw [idx_out m1, idx_out m2]
end
/-- hues of both halves give hues of the whole tree -/
theorem halves_join {ps : List Int} (T : TreeOk ps) {k1 k2 : List Nat} {cut g1 g2 : Nat} {q1 q2 : List Int} (A : Half ps k1 cut g1 q1) (B : Half ps k2 cut g2 q2) (cp : ∀ x, x ≤ ps.length → (x ∈ k2 ↔ x ∉ k1)) {ws : List (Int × Int)} (hok : ∀ w ∈ ws, isWay (.tree ps) w.1 w.2) {h : Int}
    (c1 : Colr (.tree q1) ((ws.filter (keepB k1)).map (keepW k1)) h) (c2 : Colr (.tree q2) ((ws.filter (keepB k2)).map (keepW k2)) h) : Colr (.tree ps) ws h := by
  obtain ⟨f, pf⟩ := part_of c1
  obtain ⟨g, pg⟩ := part_of c2
  have rng : ∀ w ∈ ws, w.1.toNat ≤ ps.length ∧ w.2.toNat ≤ ps.length := fun w hw => by
    obtain ⟨w1, w2, w3, w4, w5⟩ := hok w hw
    have w4 : w.1 < ps.length + 1 := w4
    have w5 : w.2 < ps.length + 1 := w5
    omega
  have far : ∀ {kp : List Nat} {hang : Nat} {qs : List Int}, Half ps kp cut hang qs → ∀ w ∈ ws, (w.1.toNat ∈ kp ↔ w.2.toNat ∉ kp) → OnTie (.tree qs) (keepW kp w).1 (keepW kp w).2 ((kp.length - 1 : Nat) : Int) := fun {kp hang qs} A w hw e => by
    have hn := A.ne
    rw [tree_on (by rw [A.ql]; omega)]
    show below qs (kp.length - 1 + 1) ((kp.idxOf w.1.toNat : Nat) : Int).toNat ≠ below qs (kp.length - 1 + 1) ((kp.idxOf w.2.toNat : Nat) : Int).toNat
    rw [show kp.length - 1 + 1 = kp.length by omega, Int.toNat_natCast, Int.toNat_natCast, A.far T, A.far T]
    by_cases m : w.1.toNat ∈ kp
    · simp [m, e.mp m]
    · have : w.2.toNat ∈ kp := Classical.byContradiction fun z => m (e.mpr z)
      simp [m, this]
  have cross : ∀ w ∈ ws, keepB k1 w = true → keepB k2 w = true → (w.1.toNat ∈ k1 ↔ w.2.toNat ∉ k1) := fun w hw p q => by
    obtain ⟨r1, r2⟩ := rng w hw
    have e1 := cp _ r1
    have e2 := cp _ r2
    unfold keepB at p q
    rw [Bool.or_eq_true, decide_eq_true_iff, decide_eq_true_iff] at p q
    by_cases m1 : w.1.toNat ∈ k1 <;> by_cases m2 : w.2.toNat ∈ k1 <;> simp_all
  obtain ⟨k, pk⟩ := part_join (M := meetB (.tree ps)) pf pg (fun w hw => by
    obtain ⟨r1, r2⟩ := rng w hw
    by_cases m : w.1.toNat ∈ k1
    · exact .inl (by unfold keepB; rw [decide_eq_true m]; rfl)
    · exact .inr (by unfold keepB; rw [decide_eq_true ((cp _ r1).mpr m)]; rfl)) (fun w hw v hv a b c d => by
    have x1 := cross w hw a b
    have x2 := cross v hv c d
    have y : ∀ u ∈ ws, (u.1.toNat ∈ k1 ↔ u.2.toNat ∉ k1) → (u.1.toNat ∈ k2 ↔ u.2.toNat ∉ k2) := fun u hu e => by
      obtain ⟨r1, r2⟩ := rng u hu
      rw [cp _ r1, cp _ r2, e]
    exact ⟨(meet_iff (N := .tree q1) (A.ok T) (A.way (hok w hw) a) (A.way (hok v hv) c)).mpr ⟨_, far A w hw x1, far A v hv x2⟩,
      (meet_iff (N := .tree q2) (B.ok T) (B.way (hok w hw) b) (B.way (hok v hv) d)).mpr ⟨_, far B w hw (y w hw x1), far B v hv (y v hv x2)⟩⟩) (fun w hw v hv m => by
    obtain ⟨t, h1, h2⟩ := (meet_iff (N := .tree ps) T (hok w hw) (hok v hv)).mp m
    have r := h1
    obtain ⟨t0, t1, _⟩ := r
    obtain ⟨z, rfl⟩ : ∃ z : Nat, t = z := ⟨t.toNat, by omega⟩
    have zl : z < ps.length := by omega
    have both : ∀ {kp : List Nat} {hang : Nat} {qs : List Int}, Half ps kp cut hang qs → (z + 1 = cut ∨ z + 1 ∈ kp) → keepB kp w = true ∧ keepB kp v = true ∧ meetB (.tree qs) (keepW kp w) (keepW kp v) = true := fun {kp hang qs} A e => by
      obtain ⟨j, hj, ej⟩ : ∃ j, j < kp.length ∧ tieH kp cut j = z := by
        by_cases hc : z + 1 = cut
        · have hn := A.ne
          refine ⟨kp.length - 1, by omega, ?_⟩
          unfold tieH
          rw [if_neg (by omega)]; omega
        · obtain ⟨j, j1, j2, _⟩ := A.at_next T zl hc (e.resolve_left hc)
          exact ⟨j, by omega, by unfold tieH; rw [if_pos j1, j2]; rfl⟩
      have o1 := (A.onT T (hok w hw) hj).mpr (by rw [ej]; exact h1)
      have o2 := (A.onT T (hok v hv) hj).mpr (by rw [ej]; exact h2)
      have p1 := Half.on_keep o1
      have p2 := Half.on_keep o2
      exact ⟨p1, p2, (meet_iff (N := .tree qs) (A.ok T) (A.way (hok w hw) p1) (A.way (hok v hv) p2)).mpr ⟨_, o1, o2⟩⟩
    by_cases m1 : z + 1 ∈ k1
    · exact .inl (both A (.inr m1))
    · exact .inr (both B (.inr ((cp _ (by omega)).mpr m1))))
  exact part_all pk


/-! ### a way has at most two ties at a place -/
theorem bel_step {ps : List Int} (T : TreeOk ps) {k x : Nat} (hx : x < ps.length) : below ps k (x + 1) = (decide (k = x + 1) || (decide (k < x + 1) && below ps k (ps.getD x 0).toNat)) := by
  have h1 := (T.2.2 x hx).2
  have h0 := (T.2.2 x hx).1
  rw [below, dif_pos (by omega)]
theorem bel_or {ps : List Int} (T : TreeOk ps) {k x : Nat} (hx : x < ps.length) (h : below ps k (x + 1) = true) : k = x + 1 ∨ (k < x + 1 ∧ below ps k (ps.getD x 0).toNat = true) := by
  rw [bel_step T hx] at h
  simpa using h
theorem bel_le {ps : List Int} (T : TreeOk ps) {k : Nat} : ∀ {x : Nat}, x ≤ ps.length → below ps k x = true → k ≤ x
  | 0, _, h => by
    rw [below] at h
    have := of_decide_eq_true h
    omega
  | x + 1, hx, h => by
    rcases bel_or T hx h with z | z <;> omega
theorem bel_self (ps : List Int) (k : Nat) : below ps k k = true := by
  cases k with
  | zero => rw [below]; rfl
  | succ k => rw [below, decide_eq_true rfl]; rfl
theorem child_up {ps : List Int} (T : TreeOk ps) {j : Nat} (hj : j < ps.length) : ∀ (n x : Nat), x ≤ n → x ≤ ps.length → below ps (j + 1) x = true → below ps (ps.getD j 0).toNat x = true
  | _, 0, _, _, h => by
    rw [below] at h
    have := of_decide_eq_true h
    omega
  | 0, x + 1, hn, _, _ => by omega
  | n + 1, x + 1, hn, hx, h => by
    have h1 := (T.2.2 x hx).2
    have h0 := (T.2.2 x hx).1
    rw [bel_step T hx]
    rcases bel_or T hx h with z | ⟨_, z⟩
    · have e : j = x := by omega
      rw [e, bel_self, decide_eq_true (by omega : (ps.getD x 0).toNat < x + 1)]
      simp
    · have ih := child_up T hj n (ps.getD x 0).toNat (by omega) (by omega) z
      have := bel_le T (by omega) ih
      rw [ih, decide_eq_true (by omega : (ps.getD j 0).toNat < x + 1)]
      simp
theorem child_uniq {ps : List Int} (T : TreeOk ps) {j i : Nat} (hj : j < ps.length) (hi : i < ps.length) (e : ps.getD j 0 = ps.getD i 0) : ∀ (n x : Nat), x ≤ n → x ≤ ps.length → below ps (j + 1) x = true → below ps (i + 1) x = true → j = i
  | _, 0, _, _, h, _ => by
    rw [below] at h
    have := of_decide_eq_true h
    omega
  | 0, x + 1, hn, _, _, _ => by omega
  | n + 1, x + 1, hn, hx, h, h' => by
    have h1 := (T.2.2 x hx).2
    have h0 := (T.2.2 x hx).1
    have j1 := T.2.2 j hj
    have i1 := T.2.2 i hi
    rcases bel_or T hx h with z | ⟨_, z⟩ <;> rcases bel_or T hx h' with y | ⟨_, y⟩
    · omega
    · have ej : j = x := by omega
      subst ej
      have := bel_le T (by omega) y
      omega
    · have ei : i = x := by omega
      subst ei
      have := bel_le T (by omega) z
      omega
    · exact child_uniq T hj hi e n (ps.getD x 0).toNat (by omega) (by omega) z y
theorem two_atP {ps : List Int} (T : TreeOk ps) {a b : Nat} (ha : a ≤ ps.length) (hb : b ≤ ps.length) {p : Int} (p0 : 0 ≤ p) {t1 t2 t3 : Nat} (l1 : t1 < ps.length) (l2 : t2 < ps.length) (l3 : t3 < ps.length) (h1 : hereB ps p t1 = true) (h2 : hereB ps p t2 = true) (h3 : hereB ps p t3 = true)
    (x1 : below ps (t1 + 1) a ≠ below ps (t1 + 1) b) (x2 : below ps (t2 + 1) a ≠ below ps (t2 + 1) b) (x3 : below ps (t3 + 1) a ≠ below ps (t3 + 1) b) (n12 : t1 ≠ t2) (n13 : t1 ≠ t3) (n23 : t2 ≠ t3) : False := by
  have typ : ∀ t, hereB ps p t = true → below ps (t + 1) a ≠ below ps (t + 1) b → (t : Int) + 1 = p ∨ (ps.getD t 0 = p ∧ below ps (t + 1) a = true) ∨ (ps.getD t 0 = p ∧ below ps (t + 1) b = true) := fun t h x => by
    unfold hereB at h
    rw [Bool.or_eq_true, decide_eq_true_eq, decide_eq_true_eq] at h
    rcases h with h | h
    · exact .inl h
    · cases c : below ps (t + 1) a with
      | true => exact .inr (.inl ⟨h, rfl⟩)
      | false =>
        rw [c] at x
        exact .inr (.inr ⟨h, by cases d : below ps (t + 1) b with | true => rfl | false => exact absurd d.symm x⟩)
  have uA : ∀ {x t t' : Nat}, x ≤ ps.length → t < ps.length → t' < ps.length → ps.getD t 0 = p ∧ below ps (t + 1) x = true → ps.getD t' 0 = p ∧ below ps (t' + 1) x = true → t = t' := fun {x t t'} hx l l' y z => child_uniq T l l' (by rw [y.1, z.1]) x x (Nat.le_refl _) hx y.2 z.2
  have uUAB : ∀ {t t' t'' : Nat}, t' < ps.length → t'' < ps.length → (t : Int) + 1 = p → below ps (t + 1) a ≠ below ps (t + 1) b → ps.getD t' 0 = p ∧ below ps (t' + 1) a = true → ps.getD t'' 0 = p ∧ below ps (t'' + 1) b = true → False := fun {t t' t''} l' l'' u x y z => by
    have q1 := child_up T l' a a (Nat.le_refl _) ha y.2
    have q2 := child_up T l'' b b (Nat.le_refl _) hb z.2
    rw [y.1] at q1
    rw [z.1] at q2
    rw [show p.toNat = t + 1 by omega] at q1 q2
    exact x (by rw [q1, q2])
  rcases typ t1 h1 x1 with u1 | u1 | u1 <;> rcases typ t2 h2 x2 with u2 | u2 | u2 <;> rcases typ t3 h3 x3 with u3 | u3 | u3 <;>
    first
    | omega
    | exact n12 (uA ha l1 l2 u1 u2)
    | exact n12 (uA hb l1 l2 u1 u2)
    | exact n13 (uA ha l1 l3 u1 u3)
    | exact n13 (uA hb l1 l3 u1 u3)
    | exact n23 (uA ha l2 l3 u2 u3)
    | exact n23 (uA hb l2 l3 u2 u3)
    | exact uUAB l2 l3 u1 x1 u2 u3
    | exact uUAB l3 l2 u1 x1 u3 u2
    | exact uUAB l1 l3 u2 x2 u1 u3
    | exact uUAB l3 l1 u2 x2 u3 u1
    | exact uUAB l1 l2 u3 x3 u1 u2
    | exact uUAB l2 l1 u3 x3 u2 u1
theorem here_mem {ps : List Int} {p t : Int} (h : t ∈ hereOf ps p) : 0 ≤ t ∧ t < ps.length ∧ hereB ps p t.toNat = true := by
  unfold hereOf at h
  obtain ⟨k, hk, rfl⟩ := List.mem_map.mp h
  obtain ⟨h1, h2⟩ := List.mem_filter.mp hk
  have := List.mem_range.mp h1
  exact ⟨by omega, by omega, by rw [Int.toNat_natCast]; exact h2⟩
theorem wayAt_two {ps : List Int} (T : TreeOk ps) {p : Int} (p0 : 0 ≤ p) {w : Int × Int} (hw : isWay (.tree ps) w.1 w.2) : (wayAt ps p w).length ≤ 2 := by
  obtain ⟨_, a0, b0, a1, b1⟩ := hw
  have a1' : w.1 < ps.length + 1 := a1
  have b1' : w.2 < ps.length + 1 := b1
  unfold wayAt someOf
  rw [List.length_map]
  have srt := (treeTies_srt ps w).filter (fun t => decide (t ∈ hereOf ps p))
  have mem : ∀ t ∈ (treeTies ps w).filter (fun t => decide (t ∈ hereOf ps p)), t ∈ treeTies ps w ∧ t ∈ hereOf ps p := fun t ht => by
    obtain ⟨h1, h2⟩ := List.mem_filter.mp ht
    exact ⟨h1, of_decide_eq_true h2⟩
  generalize (treeTies ps w).filter (fun t => decide (t ∈ hereOf ps p)) = F at srt mem
  match F, srt, mem with
  | [], _, _ => simp
  | [_], _, _ => simp
  | [_, _], _, _ => simp
  | t1 :: t2 :: t3 :: r, srt, mem =>
    exfalso
    have m1 := mem t1 (by simp)
    have m2 := mem t2 (by simp)
    have m3 := mem t3 (by simp)
    obtain ⟨s1, s2⟩ := List.pairwise_cons.mp srt
    obtain ⟨s3, _⟩ := List.pairwise_cons.mp s2
    have q12 := s1 t2 (by simp)
    have q13 := s1 t3 (by simp)
    have q23 := s3 t3 (by simp)
    have c1 := here_mem m1.2
    have c2 := here_mem m2.2
    have c3 := here_mem m3.2
    have d1 : below ps (t1.toNat + 1) w.1.toNat ≠ below ps (t1.toNat + 1) w.2.toNat := (treeTies_mem.mp m1.1).2.2
    have d2 : below ps (t2.toNat + 1) w.1.toNat ≠ below ps (t2.toNat + 1) w.2.toNat := (treeTies_mem.mp m2.1).2.2
    have d3 : below ps (t3.toNat + 1) w.1.toNat ≠ below ps (t3.toNat + 1) w.2.toNat := (treeTies_mem.mp m3.1).2.2
    exact two_atP T (a := w.1.toNat) (b := w.2.toNat) (by omega) (by omega) p0 (t1 := t1.toNat) (t2 := t2.toNat) (t3 := t3.toNat) (by omega) (by omega) (by omega) c1.2.2 c2.2.2 c3.2.2 d1 d2 d3 (by omega) (by omega) (by omega)
theorem wayAt_mem {ps : List Int} {p : Int} {w : Int × Int} {k : Int} (k0 : 0 ≤ k) (k1 : k < (hereOf ps p).length) : k ∈ wayAt ps p w ↔ (hereOf ps p).getD k.toNat 0 ∈ treeTies ps w := by
  have lk : k.toNat < (hereOf ps p).length := by omega
  have eg : (hereOf ps p).getD k.toNat 0 = (hereOf ps p)[k.toNat] := by rw [List.getD_eq_getElem?_getD, List.getElem?_eq_getElem lk]; rfl
  rw [eg]
  unfold wayAt someOf
  rw [List.mem_map]
  constructor
  · rintro ⟨t, ht, e⟩
    obtain ⟨h1, h2⟩ := List.mem_filter.mp ht
    have h3 := of_decide_eq_true h2
    have lt := List.idxOf_lt_length_of_mem h3
    have : (hereOf ps p)[(hereOf ps p).idxOf t] = t := List.getElem_idxOf lt
    have e2 : k.toNat = (hereOf ps p).idxOf t := by omega
    simp only [e2, this]
    exact h1
  · intro h
    have hm : (hereOf ps p)[k.toNat] ∈ hereOf ps p := List.getElem_mem lk
    refine ⟨_, List.mem_filter.mpr ⟨h, decide_eq_true hm⟩, ?_⟩
    have lt := List.idxOf_lt_length_of_mem hm
    have eq : (hereOf ps p)[(hereOf ps p).idxOf (hereOf ps p)[k.toNat]] = (hereOf ps p)[k.toNat] := List.getElem_idxOf lt
    have srt := List.pairwise_iff_getElem.mp (here_srt ps p)
    generalize (hereOf ps p).idxOf (hereOf ps p)[k.toNat] = m at lt eq
    rcases Nat.lt_trichotomy m k.toNat with c | c | c
    · have := srt m k.toNat lt lk c; omega
    · omega
    · have := srt k.toNat m lk lt c; omega
/-! ### hues put together place by place -/
def numsA (W : Nat → Nat → List Int) (n p : Nat) : List Nat := (List.range n).filter fun i => !(W p i).isEmpty
def shareA (W : Nat → Nat → List Int) (p i j : Nat) : Prop := ∃ x, x ∈ W p i ∧ x ∈ W p j
def nm0F (G : Nat → Option Int) (nums : List Nat) (l : Nat → Int) : Nat → List (Int × Int)
  | 0 => []
  | k + 1 => match G (nums.getD k 0) with
    | some u => nm0F G nums l k ++ [(l k, u)]
    | none => nm0F G nums l k
def leftF (most : Nat) (nm : List (Int × Int)) : List Int := keepI most fun t => !decide ((t : Int) ∈ nm.map (·.2))
structure PSt where
  nm : List (Int × Int)
  lf : List Int
  G : Nat → Option Int
def stepF (nums : List Nat) (l : Nat → Int) (s : PSt) (k : Nat) : PSt :=
  let nm' := if lookS s.nm (l k) = none then s.nm ++ [(l k, s.lf.headD 0)] else s.nm
  ⟨nm', if lookS s.nm (l k) = none then s.lf.tail else s.lf, fun w => if w = nums.getD k 0 then lookS nm' (l k) else s.G w⟩
def runF (nums : List Nat) (l : Nat → Int) (s : PSt) : Nat → PSt
  | 0 => s
  | k + 1 => stepF nums l (runF nums l s k) k
def initF (most : Nat) (nums : List Nat) (l : Nat → Int) (G : Nat → Option Int) : PSt := ⟨nm0F G nums l nums.length, leftF most (nm0F G nums l nums.length), G⟩
def placeF (most : Nat) (nums : List Nat) (l : Nat → Int) (G : Nat → Option Int) : Nat → Option Int := (runF nums l (initF most nums l G) nums.length).G
def togF (W : Nat → Nat → List Int) (n most : Nat) (lst : Nat → Nat → Int) : Nat → Nat → Option Int
  | 0 => fun _ => none
  | p + 1 => placeF most (numsA W n p) (lst p) (togF W n most lst p)
theorem look_mem {ss : List (Int × Int)} {k u : Int} (h : lookS ss k = some u) : (k, u) ∈ ss := by
  unfold lookS at h
  obtain ⟨p, hp, e⟩ := Option.map_eq_some_iff.mp h
  have m := List.mem_of_find?_eq_some hp
  have ek : p.1 = k := by have := List.find?_some hp; exact of_decide_eq_true this
  rw [← ek, ← e]
  exact m
theorem look_none {ss : List (Int × Int)} {k : Int} (h : lookS ss k = none) : k ∉ ss.map (·.1) := fun m => by
  obtain ⟨p, hp, rfl⟩ := List.mem_map.mp m
  unfold lookS at h
  rw [Option.map_eq_none_iff, List.find?_eq_none] at h
  exact h p hp (decide_eq_true rfl)
theorem look_of {ss : List (Int × Int)} {k u : Int} (nd : (ss.map (·.1)).Nodup) (m : (k, u) ∈ ss) : lookS ss k = some u := by
  cases z : lookS ss k with
  | none => exact absurd (List.mem_map.mpr ⟨_, m, rfl⟩) (look_none z)
  | some v =>
    have m2 := look_mem z
    have key : ∀ {l : List (Int × Int)}, (l.map (·.1)).Nodup → (k, u) ∈ l → (k, v) ∈ l → u = v := by
      intro l
      induction l with
      | nil => intro _ h; cases h
      | cons p r ih =>
        intro nd h1 h2
        rw [List.map_cons, List.nodup_cons] at nd
        rcases List.mem_cons.mp h1 with e1 | h1 <;> rcases List.mem_cons.mp h2 with e2 | h2
        · rw [← e1] at e2; cases e2; rfl
        · rw [← e1] at nd; exact absurd (List.mem_map.mpr ⟨_, h2, rfl⟩) nd.1
        · rw [← e2] at nd; exact absurd (List.mem_map.mpr ⟨_, h1, rfl⟩) nd.1
        · exact ih nd.2 h1 h2
    rw [key nd m m2]
theorem ndl {l m : List Int} (nd : l.Nodup) (h : ∀ x ∈ l, x ∈ m) : l.length ≤ m.length := by
  induction l generalizing m with
  | nil => simp
  | cons a l ih =>
    have nd' := List.nodup_cons.mp nd
    have := ih (m := m.erase a) nd'.2 (fun x hx => (List.mem_erase_of_ne (fun e => nd'.1 (by rw [← e]; exact hx))).mpr (h x (List.mem_cons_of_mem _ hx)))
    rw [List.length_erase_of_mem (h a List.mem_cons_self)] at this
    have := List.length_pos_of_mem (h a List.mem_cons_self)
    simp only [List.length_cons]
    omega
theorem flen2 {α : Type} (p : α → Bool) : ∀ (W : List α), (W.filter p).length + (W.filter fun x => !p x).length = W.length
  | [] => rfl
  | x :: r => by
    have ih := flen2 p r
    rw [List.filter_cons, List.filter_cons]
    cases c : p x with
    | true => simp only [if_true, Bool.not_true, Bool.false_eq_true, if_false, List.length_cons]; omega
    | false => simp only [if_true, Bool.not_false, Bool.false_eq_true, if_false, List.length_cons]; omega
theorem left_len {most : Nat} {nm : List (Int × Int)} (nd : (nm.map (·.2)).Nodup) (hr : ∀ v : Int, v ∈ nm.map (·.2) → 0 ≤ v ∧ v < most) : (leftF most nm).length + nm.length = most := by
  have sp := flen2 (fun t : Nat => decide ((t : Int) ∈ nm.map (·.2))) (List.range most)
  have e1 : ((List.range most).filter fun t : Nat => decide ((t : Int) ∈ nm.map (·.2))).length = nm.length := by
    rw [← List.length_map (f := fun t : Nat => (t : Int)), ← List.length_map (f := fun p : Int × Int => p.2) (as := nm)]
    refine Nat.le_antisymm (ndl ?_ fun x hx => ?_) (ndl nd fun x hx => ?_)
    · refine List.pairwise_map.mpr ((List.nodup_range.filter _).imp fun h => ?_)
      exact fun z => h (Int.ofNat.inj z)
    · obtain ⟨t, ht, rfl⟩ := List.mem_map.mp hx
      exact of_decide_eq_true (List.mem_filter.mp ht).2
    · have := hr x hx
      exact List.mem_map.mpr ⟨x.toNat, List.mem_filter.mpr ⟨List.mem_range.mpr (by omega), decide_eq_true (by rw [Int.toNat_of_nonneg this.1]; exact hx)⟩, Int.toNat_of_nonneg this.1⟩
  rw [e1, List.length_range] at sp
  unfold leftF keepI
  rw [List.length_map]
  omega
/-- what holds behind k numbers of a place -/
structure PInv (most : Nat) (nums : List Nat) (l : Nat → Int) (G0 : Nat → Option Int) (k : Nat) (s : PSt) : Prop where
  keys : (s.nm.map (·.1)).Nodup
  vals : (s.nm.map (·.2)).Nodup
  frm : ∀ h ∈ s.nm.map (·.1), ∃ j, j < nums.length ∧ l j = h
  rng : ∀ v : Int, v ∈ s.nm.map (·.2) → 0 ≤ v ∧ v < most
  lnd : s.lf.Nodup
  lrng : ∀ v : Int, v ∈ s.lf → (0 ≤ v ∧ v < most) ∧ v ∉ s.nm.map (·.2)
  len : s.lf.length + s.nm.length = most
  done : ∀ j, j < k → ∃ u, lookS s.nm (l j) = some u ∧ s.G (nums.getD j 0) = some u
  rest : ∀ w, (∀ j, j < k → nums.getD j 0 ≠ w) → s.G w = G0 w
  old : ∀ j, j < nums.length → ∀ u, G0 (nums.getD j 0) = some u → lookS s.nm (l j) = some u
theorem nm0_mem {G : Nat → Option Int} {nums : List Nat} {l : Nat → Int} : ∀ {k : Nat} {p : Int × Int}, p ∈ nm0F G nums l k ↔ ∃ j, j < k ∧ l j = p.1 ∧ G (nums.getD j 0) = some p.2
  | 0, p => ⟨(fun h => by cases h), fun ⟨j, h, _⟩ => by omega⟩
  | k + 1, p => by
    have ih := nm0_mem (G := G) (nums := nums) (l := l) (k := k) (p := p)
    unfold nm0F
    cases z : G (nums.getD k 0) with
    | none =>
      simp only []
      rw [ih]
      constructor
      · rintro ⟨j, h1, h2⟩; exact ⟨j, by omega, h2⟩
      · rintro ⟨j, h1, h2, h3⟩
        by_cases c : j = k
        · rw [c, z] at h3; cases h3
        · exact ⟨j, by omega, h2, h3⟩
    | some u =>
      simp only []
      rw [List.mem_append, ih, List.mem_singleton]
      constructor
      · rintro (⟨j, h1, h2⟩ | rfl)
        · exact ⟨j, by omega, h2⟩
        · exact ⟨k, by omega, rfl, z⟩
      · rintro ⟨j, h1, h2, h3⟩
        by_cases c : j = k
        · rw [c] at h2
          rw [c, z] at h3
          refine .inr ?_
          cases p
          simp only [Option.some.injEq] at h2 h3 ⊢
          rw [h2, h3]
        · exact .inl ⟨j, by omega, h2, h3⟩
theorem nm0_nd {G : Nat → Option Int} {nums : List Nat} {l : Nat → Int} {f : Int × Int → Int} (hd : ∀ i j u v, i < j → j < nums.length → G (nums.getD i 0) = some u → G (nums.getD j 0) = some v → f (l i, u) ≠ f (l j, v)) : ∀ {k : Nat}, k ≤ nums.length → ((nm0F G nums l k).map f).Nodup
  | 0, _ => List.nodup_nil
  | k + 1, h => by
    have ih := nm0_nd hd (k := k) (by omega)
    unfold nm0F
    cases z : G (nums.getD k 0) with
    | none => exact ih
    | some u =>
      simp only []
      rw [List.map_append]
      refine List.nodup_append.mpr ⟨ih, by simp, fun x hx y hy e => ?_⟩
      obtain ⟨p, hp, rfl⟩ := List.mem_map.mp hx
      obtain ⟨j, h1, h2, h3⟩ := nm0_mem.mp hp
      have ey : y = f (l k, u) := by simpa using hy
      refine hd j k p.2 u h1 (by omega) h3 z ?_
      rw [h2, ← ey]
      exact e
theorem pinv_init {most : Nat} {nums : List Nat} {l : Nat → Int} {G : Nat → Option Int} (d1 : ∀ i j u v, i < j → j < nums.length → G (nums.getD i 0) = some u → G (nums.getD j 0) = some v → l i ≠ l j ∧ u ≠ v) (hr : ∀ w u, G w = some u → 0 ≤ u ∧ u < most) : PInv most nums l G 0 (initF most nums l G) := by
  have kd : ((nm0F G nums l nums.length).map (·.1)).Nodup := nm0_nd (f := fun p => p.1) (fun i j u v h1 h2 h3 h4 => (d1 i j u v h1 h2 h3 h4).1) (Nat.le_refl _)
  have vd : ((nm0F G nums l nums.length).map (·.2)).Nodup := nm0_nd (f := fun p => p.2) (fun i j u v h1 h2 h3 h4 => (d1 i j u v h1 h2 h3 h4).2) (Nat.le_refl _)
  have rg : ∀ v : Int, v ∈ (nm0F G nums l nums.length).map (·.2) → 0 ≤ v ∧ v < most := fun v hv => by
    obtain ⟨p, hp, rfl⟩ := List.mem_map.mp hv
    obtain ⟨j, _, _, h3⟩ := nm0_mem.mp hp
    exact hr _ _ h3
  refine ⟨kd, vd, fun h hh => ?_, rg, ?_, fun v hv => ?_, left_len vd rg, fun j hj => by omega, fun w _ => rfl, fun j hj u hu => ?_⟩
  · obtain ⟨p, hp, rfl⟩ := List.mem_map.mp hh
    obtain ⟨j, h1, h2, _⟩ := nm0_mem.mp hp
    exact ⟨j, h1, h2⟩
  · exact (keepI_srt _ _).imp fun h => by omega
  · obtain ⟨h1, h2, h3⟩ := keepI_mem.mp hv
    refine ⟨⟨h1, h2⟩, ?_⟩
    rw [Int.toNat_of_nonneg h1] at h3
    show v ∉ (nm0F G nums l nums.length).map (·.2)
    simpa using h3
  · exact look_of kd (nm0_mem.mpr ⟨j, hj, rfl, hu⟩)
/-- room for one more -/
theorem pinv_room {most : Nat} {nums : List Nat} {l : Nat → Int} {G : Nat → Option Int} {k : Nat} {s : PSt} (I : PInv most nums l G k s) (hk : k < nums.length) (hm : ∀ ks : List Int, ks.Nodup → (∀ h ∈ ks, ∃ j, j < nums.length ∧ l j = h) → ks.length ≤ most) (hn : lookS s.nm (l k) = none) : 0 < s.lf.length := by
  have := hm (l k :: s.nm.map (·.1)) (List.nodup_cons.mpr ⟨look_none hn, I.keys⟩) (fun h hh => by
    rcases List.mem_cons.mp hh with rfl | hh
    · exact ⟨k, hk, rfl⟩
    · exact I.frm h hh)
  have l := I.len
  rw [List.length_cons, List.length_map] at this
  omega
theorem pinv_step {most : Nat} {nums : List Nat} {l : Nat → Int} {G : Nat → Option Int} {k : Nat} {s : PSt} (I : PInv most nums l G k s) (hk : k < nums.length) (nd : nums.Nodup) (hm : ∀ ks : List Int, ks.Nodup → (∀ h ∈ ks, ∃ j, j < nums.length ∧ l j = h) → ks.length ≤ most) : PInv most nums l G (k + 1) (stepF nums l s k) := by
  have gd : ∀ {i j : Nat}, i < nums.length → j < nums.length → nums.getD i 0 = nums.getD j 0 → i = j := fun {i j} hi hj e => by
    rw [List.getD_eq_getElem?_getD, List.getD_eq_getElem?_getD, List.getElem?_eq_getElem hi, List.getElem?_eq_getElem hj] at e
    exact (List.nodup_iff_pairwise_ne.mp nd |> fun p => Classical.byContradiction fun ne => by
      rcases Nat.lt_or_gt_of_ne ne with c | c
      · exact List.pairwise_iff_getElem.mp p i j hi hj c e
      · exact List.pairwise_iff_getElem.mp p j i hj hi c e.symm)
  cases hn : lookS s.nm (l k) with
  | some u =>
    have es : stepF nums l s k = ⟨s.nm, s.lf, fun w => if w = nums.getD k 0 then some u else s.G w⟩ := by
      unfold stepF
      simp only [hn, reduceCtorEq, if_false]
    rw [es]
    refine ⟨I.keys, I.vals, I.frm, I.rng, I.lnd, I.lrng, I.len, fun j hj => ?_, fun w hw => ?_, I.old⟩
    · by_cases c : j = k
      · subst c
        exact ⟨u, hn, if_pos rfl⟩
      · obtain ⟨v, h1, h2⟩ := I.done j (by omega)
        refine ⟨v, h1, ?_⟩
        show (if nums.getD j 0 = nums.getD k 0 then some u else s.G (nums.getD j 0)) = some v
        rw [if_neg (fun e => c (gd (by omega) hk e))]
        exact h2
    · show (if w = nums.getD k 0 then some u else s.G w) = G w
      rw [if_neg (fun e => hw k (by omega) e.symm)]
      exact I.rest w fun j hj => hw j (by omega)
  | none =>
    have pos := pinv_room I hk hm hn
    obtain ⟨a, r, elf⟩ : ∃ a r, s.lf = a :: r := by
      cases z : s.lf with
      | nil => rw [z] at pos; simp at pos
      | cons a r => exact ⟨a, r, rfl⟩
    have la : lookS (s.nm ++ [(l k, a)]) (l k) = some a := by rw [look_add hn, if_pos rfl]
    have es : stepF nums l s k = ⟨s.nm ++ [(l k, a)], r, fun w => if w = nums.getD k 0 then some a else s.G w⟩ := by
      unfold stepF
      simp only [hn, if_true, elf, List.headD_cons, List.tail_cons, la]
    have ha := I.lrng a (by rw [elf]; exact List.mem_cons_self)
    have nd2 := I.lnd
    rw [elf, List.nodup_cons] at nd2
    have ln := I.len
    rw [elf, List.length_cons] at ln
    rw [es]
    have kap : ∀ x, x ∈ (s.nm ++ [(l k, a)]).map (·.1) ↔ x ∈ s.nm.map (·.1) ∨ x = l k := fun x => by rw [List.map_append, List.mem_append]; simp
    have vap : ∀ x, x ∈ (s.nm ++ [(l k, a)]).map (·.2) ↔ x ∈ s.nm.map (·.2) ∨ x = a := fun x => by rw [List.map_append, List.mem_append]; simp
    have keep : ∀ {h v : Int}, lookS s.nm h = some v → lookS (s.nm ++ [(l k, a)]) h = some v := fun {h v} e => by
      rw [look_add hn]
      by_cases c : h = l k
      · rw [c, hn] at e; cases e
      · rw [if_neg c]; exact e
    refine ⟨?_, ?_, fun h hh => ?_, fun v hv => ?_, nd2.2, fun v hv => ?_, ?_, fun j hj => ?_, fun w hw => ?_, fun j hj v hv => keep (I.old j hj v hv)⟩
    · show ((s.nm ++ [(l k, a)]).map (·.1)).Nodup
      rw [List.map_append]
      refine List.nodup_append.mpr ⟨I.keys, by simp, fun x hx y hy e => ?_⟩
      have : y = l k := by simpa using hy
      exact look_none hn (by rw [← this, ← e]; exact hx)
    · show ((s.nm ++ [(l k, a)]).map (·.2)).Nodup
      rw [List.map_append]
      refine List.nodup_append.mpr ⟨I.vals, by simp, fun x hx y hy e => ?_⟩
      have : y = a := by simpa using hy
      exact ha.2 (by rw [← this, ← e]; exact hx)
    · rcases (kap h).mp hh with hh | rfl
      · exact I.frm h hh
      · exact ⟨k, hk, rfl⟩
    · rcases (vap v).mp hv with hv | rfl
      · exact I.rng v hv
      · exact ha.1
    · have := I.lrng v (by rw [elf]; exact List.mem_cons_of_mem _ hv)
      refine ⟨this.1, fun z => ?_⟩
      rcases (vap v).mp z with z | rfl
      · exact this.2 z
      · exact nd2.1 hv
    · show r.length + (s.nm ++ [(l k, a)]).length = most
      rw [List.length_append, List.length_singleton]
      omega
    · by_cases c : j = k
      · subst c
        exact ⟨a, la, if_pos rfl⟩
      · obtain ⟨v, h1, h2⟩ := I.done j (by omega)
        refine ⟨v, keep h1, ?_⟩
        show (if nums.getD j 0 = nums.getD k 0 then some a else s.G (nums.getD j 0)) = some v
        rw [if_neg (fun e => c (gd (by omega) hk e))]
        exact h2
    · show (if w = nums.getD k 0 then some a else s.G w) = G w
      rw [if_neg (fun e => hw k (by omega) e.symm)]
      exact I.rest w fun j hj => hw j (by omega)
theorem pinv_run {most : Nat} {nums : List Nat} {l : Nat → Int} {G : Nat → Option Int} {s : PSt} (I : PInv most nums l G 0 s) (nd : nums.Nodup) (hm : ∀ ks : List Int, ks.Nodup → (∀ h ∈ ks, ∃ j, j < nums.length ∧ l j = h) → ks.length ≤ most) : ∀ {k : Nat}, k ≤ nums.length → PInv most nums l G k (runF nums l s k)
  | 0, _ => I
  | k + 1, h => pinv_step (pinv_run I nd hm (by omega)) (by omega) nd hm
/-- what is asked of the lists and of the ways at the places -/
structure TogOk (W : Nat → Nat → List Int) (n P most : Nat) (lst : Nat → Nat → Int) : Prop where
  right : ∀ p, p < P → ∀ k j, k < (numsA W n p).length → j < (numsA W n p).length → k ≠ j → shareA W p ((numsA W n p).getD k 0) ((numsA W n p).getD j 0) → lst p k ≠ lst p j
  back : ∀ p, p < P → ∀ i j, i < n → j < n → i ≠ j → W p i ≠ [] → W p j ≠ [] → (∃ q, q < p ∧ W q i ≠ []) → (∃ q, q < p ∧ W q j ≠ []) → shareA W p i j ∧ ∃ q, q < p ∧ shareA W q i j
  room : ∀ p, p < P → ∀ ks : List Int, ks.Nodup → (∀ h ∈ ks, ∃ j, j < (numsA W n p).length ∧ lst p j = h) → ks.length ≤ most
structure TInv (W : Nat → Nat → List Int) (n most p : Nat) (G : Nat → Option Int) : Prop where
  dom : ∀ i, (∃ u, G i = some u) ↔ i < n ∧ ∃ q, q < p ∧ W q i ≠ []
  ap : ∀ i j, i ≠ j → ∀ q, q < p → shareA W q i j → ∀ u v, G i = some u → G j = some v → u ≠ v
  rng : ∀ i u, G i = some u → 0 ≤ u ∧ u < most
theorem nums_nd (W : Nat → Nat → List Int) (n p : Nat) : (numsA W n p).Nodup := List.nodup_range.filter _
theorem nums_mem {W : Nat → Nat → List Int} {n p i : Nat} : i ∈ numsA W n p ↔ i < n ∧ W p i ≠ [] := by
  unfold numsA
  rw [List.mem_filter, List.mem_range]
  cases z : W p i <;> simp
theorem getD_nums {W : Nat → Nat → List Int} {n p k : Nat} (h : k < (numsA W n p).length) : (numsA W n p).getD k 0 < n ∧ W p ((numsA W n p).getD k 0) ≠ [] := by
  have : (numsA W n p).getD k 0 ∈ numsA W n p := by
    rw [List.getD_eq_getElem?_getD, List.getElem?_eq_getElem h]
    exact List.getElem_mem h
  exact nums_mem.mp this
theorem nums_at {W : Nat → Nat → List Int} {n p i : Nat} (h : i ∈ numsA W n p) : ∃ k, k < (numsA W n p).length ∧ (numsA W n p).getD k 0 = i := by
  obtain ⟨k, hk, e⟩ := List.mem_iff_getElem.mp h
  exact ⟨k, hk, by rw [List.getD_eq_getElem?_getD, List.getElem?_eq_getElem hk]; exact e⟩
theorem getD_inj {l : List Nat} (nd : l.Nodup) {i j : Nat} (hi : i < l.length) (hj : j < l.length) (ne : i ≠ j) : l.getD i 0 ≠ l.getD j 0 := fun e => by
  rw [List.getD_eq_getElem?_getD, List.getD_eq_getElem?_getD, List.getElem?_eq_getElem hi, List.getElem?_eq_getElem hj] at e
  rcases Nat.lt_or_gt_of_ne ne with c | c
  · exact List.pairwise_iff_getElem.mp nd i j hi hj c e
  · exact List.pairwise_iff_getElem.mp nd j i hj hi c e.symm
/-- at a place: what was given before is apart there, too -/
theorem place_start {W : Nat → Nat → List Int} {n P most p : Nat} {lst : Nat → Nat → Int} {G : Nat → Option Int} (ok : TogOk W n P most lst) (hp : p < P) (I : TInv W n most p G) : PInv most (numsA W n p) (lst p) G 0 (initF most (numsA W n p) (lst p) G) := by
  refine pinv_init (fun i j u v hij hj hu hv => ?_) I.rng
  have ai := getD_nums (show i < (numsA W n p).length by omega)
  have aj := getD_nums hj
  have ne := getD_inj (nums_nd W n p) (show i < (numsA W n p).length by omega) hj (by omega)
  have di := ((I.dom _).mp ⟨u, hu⟩).2
  have dj := ((I.dom _).mp ⟨v, hv⟩).2
  obtain ⟨s1, q, hq, s2⟩ := ok.back p hp _ _ ai.1 aj.1 ne ai.2 aj.2 di dj
  exact ⟨ok.right p hp i j (by omega) hj (by omega) s1, I.ap _ _ ne q hq s2 u v hu hv⟩
theorem place_run {W : Nat → Nat → List Int} {n P most p : Nat} {lst : Nat → Nat → Int} {G : Nat → Option Int} (ok : TogOk W n P most lst) (hp : p < P) (I : TInv W n most p G) {k : Nat} (hk : k ≤ (numsA W n p).length) : PInv most (numsA W n p) (lst p) G k (runF (numsA W n p) (lst p) (initF most (numsA W n p) (lst p) G) k) :=
  pinv_run (place_start ok hp I) (nums_nd W n p) (ok.room p hp) hk
theorem place_next {W : Nat → Nat → List Int} {n P most p : Nat} {lst : Nat → Nat → Int} {G : Nat → Option Int} (ok : TogOk W n P most lst) (hp : p < P) (I : TInv W n most p G) : TInv W n most (p + 1) (placeF most (numsA W n p) (lst p) G) := by
  have R := place_run ok hp I (Nat.le_refl _)
  have eG : placeF most (numsA W n p) (lst p) G = (runF (numsA W n p) (lst p) (initF most (numsA W n p) (lst p) G) (numsA W n p).length).G := rfl
  rw [eG]
  generalize runF (numsA W n p) (lst p) (initF most (numsA W n p) (lst p) G) (numsA W n p).length = s at R
  have here : ∀ {i}, i ∈ numsA W n p → ∃ k u, k < (numsA W n p).length ∧ (numsA W n p).getD k 0 = i ∧ lookS s.nm (lst p k) = some u ∧ s.G i = some u := fun {i} hi => by
    obtain ⟨k, hk, e⟩ := nums_at hi
    obtain ⟨u, h1, h2⟩ := R.done k hk
    exact ⟨k, u, hk, e, h1, by rw [← e]; exact h2⟩
  have there : ∀ {i}, i ∉ numsA W n p → s.G i = G i := fun {i} hi => R.rest i fun j hj e => hi (by
    rw [← e]
    have := getD_nums hj
    exact nums_mem.mpr this)
  have oldG : ∀ {i u}, G i = some u → s.G i = some u := fun {i u} h => by
    by_cases c : i ∈ numsA W n p
    · obtain ⟨k, v, hk, e, h1, h2⟩ := here c
      have := R.old k hk u (by rw [e]; exact h)
      rw [this] at h1
      rw [h2, ← h1]
    · rw [there c]; exact h
  refine ⟨fun i => ?_, fun i j ne q hq sh u v hu hv => ?_, fun i u hu => ?_⟩
  · constructor
    · rintro ⟨u, hu⟩
      by_cases c : i ∈ numsA W n p
      · exact ⟨(nums_mem.mp c).1, p, by omega, (nums_mem.mp c).2⟩
      · rw [there c] at hu
        obtain ⟨h1, q, h2, h3⟩ := (I.dom i).mp ⟨u, hu⟩
        exact ⟨h1, q, by omega, h3⟩
    · rintro ⟨h1, q, h2, h3⟩
      by_cases c : i ∈ numsA W n p
      · obtain ⟨_, u, _, _, _, h⟩ := here c
        exact ⟨u, h⟩
      · have : q ≠ p := fun e => c (nums_mem.mpr ⟨h1, by rw [← e]; exact h3⟩)
        obtain ⟨u, hu⟩ := (I.dom i).mpr ⟨h1, q, by omega, h3⟩
        exact ⟨u, oldG hu⟩
  · have lt : ∀ {i u}, s.G i = some u → i < n := fun {i u} h => by
      by_cases c : i ∈ numsA W n p
      · exact (nums_mem.mp c).1
      · rw [there c] at h
        exact ((I.dom i).mp ⟨u, h⟩).1
    by_cases c : q < p
    · obtain ⟨x, hx1, hx2⟩ := sh
      obtain ⟨u', hu'⟩ := (I.dom i).mpr ⟨lt hu, q, c, fun e => by rw [e] at hx1; cases hx1⟩
      obtain ⟨v', hv'⟩ := (I.dom j).mpr ⟨lt hv, q, c, fun e => by rw [e] at hx2; cases hx2⟩
      have := I.ap i j ne q c ⟨x, hx1, hx2⟩ u' v' hu' hv'
      rw [oldG hu'] at hu
      rw [oldG hv'] at hv
      cases hu; cases hv
      exact this
    · obtain rfl : q = p := by omega
      obtain ⟨x, hx1, hx2⟩ := sh
      have mi : i ∈ numsA W n q := nums_mem.mpr ⟨lt hu, fun e => by rw [e] at hx1; cases hx1⟩
      have mj : j ∈ numsA W n q := nums_mem.mpr ⟨lt hv, fun e => by rw [e] at hx2; cases hx2⟩
      obtain ⟨k, u', hk, ek, k1, k2⟩ := here mi
      obtain ⟨m, v', hm, em, m1, m2⟩ := here mj
      have eu : u' = u := by rw [k2] at hu; exact Option.some.inj hu
      have ev : v' = v := by rw [m2] at hv; exact Option.some.inj hv
      intro e
      have nkm : k ≠ m := fun z => ne (by rw [← ek, ← em, z])
      have nl := ok.right q hp k m hk hm nkm (by rw [ek, em]; exact ⟨x, hx1, hx2⟩)
      -- unlike names have unlike hues
      have a1 := look_mem k1
      have a2 := look_mem m1
      rw [eu, e, ← ev] at a1
      have key : ∀ {l : List (Int × Int)}, (l.map (·.2)).Nodup → (lst q k, v') ∈ l → (lst q m, v') ∈ l → lst q k = lst q m := by
        intro l
        induction l with
        | nil => intro _ h; cases h
        | cons p r ih =>
          intro nd h1 h2
          rw [List.map_cons, List.nodup_cons] at nd
          rcases List.mem_cons.mp h1 with e1 | h1 <;> rcases List.mem_cons.mp h2 with e2 | h2
          · rw [← e1] at e2
            injection e2 with e2 _
            exact e2.symm
          · rw [← e1] at nd; exact absurd (List.mem_map.mpr ⟨_, h2, rfl⟩) nd.1
          · rw [← e2] at nd; exact absurd (List.mem_map.mpr ⟨_, h1, rfl⟩) nd.1
          · exact ih nd.2 h1 h2
      exact nl (key R.vals a1 a2)
  · by_cases c : i ∈ numsA W n p
    · obtain ⟨k, v, _, _, h1, h2⟩ := here c
      rw [h2] at hu
      cases hu
      exact R.rng _ (List.mem_map.mpr ⟨_, look_mem h1, rfl⟩)
    · rw [there c] at hu
      exact I.rng i u hu
theorem tog_inv {W : Nat → Nat → List Int} {n P most : Nat} {lst : Nat → Nat → Int} (ok : TogOk W n P most lst) : ∀ {p : Nat}, p ≤ P → TInv W n most p (togF W n most lst p)
  | 0, _ => ⟨fun i => ⟨(fun ⟨u, h⟩ => by cases h), (fun ⟨_, q, h, _⟩ => by omega)⟩, (fun i j _ q h => by omega), fun i u h => by cases h⟩
  | p + 1, h => place_next ok (by omega) (tog_inv ok (by omega))
/-! ### hues of trees put together -/
theorem bel_trans {ps : List Int} (T : TreeOk ps) {k m : Nat} : ∀ (n c : Nat), c ≤ n → c ≤ ps.length → below ps k m = true → below ps m c = true → below ps k c = true
  | _, 0, _, _, h1, h2 => by
    rw [below] at h2
    have := of_decide_eq_true h2
    rw [← this]; exact h1
  | 0, c + 1, h, _, _, _ => by omega
  | n + 1, x + 1, hn, hx, h1, h2 => by
    have t1 := (T.2.2 x hx).2
    have t0 := (T.2.2 x hx).1
    rcases bel_or T hx h2 with z | ⟨_, z⟩
    · rw [← z]; exact h1
    · have ih := bel_trans T n (ps.getD x 0).toNat (by omega) (by omega) h1 z
      have := bel_le T (by omega) ih
      rw [bel_step T hx, ih, decide_eq_true (by omega : k < x + 1)]
      simp
theorem bel_comp {ps : List Int} (T : TreeOk ps) {k m : Nat} (hkm : k ≤ m) : ∀ (n c : Nat), c ≤ n → c ≤ ps.length → below ps k c = true → below ps m c = true → below ps k m = true
  | _, 0, _, _, h1, h2 => by
    rw [below] at h1 h2
    have a := of_decide_eq_true h1
    have b := of_decide_eq_true h2
    rw [a, b]; exact bel_self ps 0
  | 0, c + 1, h, _, _, _ => by omega
  | n + 1, x + 1, hn, hx, h1, h2 => by
    have t1 := (T.2.2 x hx).2
    have t0 := (T.2.2 x hx).1
    rcases bel_or T hx h2 with z | ⟨zl, z⟩
    · rw [z]; exact h1
    · rcases bel_or T hx h1 with y | ⟨_, y⟩
      · omega
      · exact bel_comp T hkm n (ps.getD x 0).toNat (by omega) (by omega) y z
/-- a way with a tie at a place, and one at a lesser place, goes to that place's parent -/
theorem tie_back {ps : List Int} (T : TreeOk ps) {a b p q t s : Nat} (ha : a ≤ ps.length) (hb : b ≤ ps.length) (hp : p ≤ ps.length) (hq : q < p) (lt : t < ps.length) (ls : s < ps.length) (h1 : hereB ps (p : Nat) t = true) (h2 : hereB ps (q : Nat) s = true)
    (x1 : below ps (t + 1) a ≠ below ps (t + 1) b) (x2 : below ps (s + 1) a ≠ below ps (s + 1) b) : below ps p a ≠ below ps p b := fun e => by
  unfold hereB at h1 h2
  rw [Bool.or_eq_true, decide_eq_true_eq, decide_eq_true_eq] at h1 h2
  have up : ∀ c, c ≤ ps.length → below ps (t + 1) c = true → below ps p c = true := fun c hc h => by
    rcases h1 with z | z
    · rw [show p = t + 1 by omega]; exact h
    · have := child_up T lt c c (Nat.le_refl _) hc h
      rw [z] at this
      exact this
  cases ea : below ps p a with
  | false =>
    rw [ea] at e
    cases c1 : below ps (t + 1) a with
    | true => rw [up a ha c1] at ea; cases ea
    | false =>
      cases c2 : below ps (t + 1) b with
      | true => rw [up b hb c2] at e; cases e
      | false => exact x1 (by rw [c1, c2])
  | true =>
    rw [ea] at e
    have key : ∀ c d, c ≤ ps.length → d ≤ ps.length → below ps p c = true → below ps p d = true → below ps (s + 1) c = true → below ps (s + 1) d = false → False := fun c d hc hd pc pd sc sd => by
      by_cases z : s + 1 ≤ p
      · have := bel_comp T z c c (Nat.le_refl _) hc sc pc
        have := bel_trans T d d (Nat.le_refl _) hd this pd
        rw [this] at sd; cases sd
      · have := bel_comp T (show p ≤ s + 1 by omega) c c (Nat.le_refl _) hc pc sc
        rcases bel_or T ls this with y | ⟨_, y⟩
        · omega
        · have := bel_le T (by have := T.2.2 s ls; omega) y
          rcases h2 with w | w
          · omega
          · rw [w] at this
            omega
    cases c1 : below ps (s + 1) a with
    | true =>
      cases c2 : below ps (s + 1) b with
      | true => exact x2 (by rw [c1, c2])
      | false => exact key a b ha hb ea e.symm c1 c2
    | false =>
      cases c2 : below ps (s + 1) b with
      | true => exact key b a hb ha e.symm ea c2 c1
      | false => exact x2 (by rw [c1, c2])
/-- the ties of the ways at the places -/
def WA (ps : List Int) (ws : List (Int × Int)) (p i : Nat) : List Int := wayAt ps (p : Int) (ws.getD i (0, 0))
theorem at_of {ps : List Int} {q t : Int} {w : Int × Int} (h : t ∈ hereOf ps q) (ht : t ∈ treeTies ps w) : (((hereOf ps q).idxOf t : Nat) : Int) ∈ wayAt ps q w := by
  unfold wayAt someOf
  exact List.mem_map.mpr ⟨t, List.mem_filter.mpr ⟨ht, decide_eq_true h⟩, rfl⟩
theorem here_of {ps : List Int} {q : Int} {t : Nat} (lt : t < ps.length) (h : hereB ps q t = true) : (t : Int) ∈ hereOf ps q := by
  unfold hereOf
  exact List.mem_map.mpr ⟨t, List.mem_filter.mpr ⟨List.mem_range.mpr lt, h⟩, rfl⟩
theorem at_tie {ps : List Int} {q : Int} {w : Int × Int} (h : wayAt ps q w ≠ []) : ∃ t : Nat, t < ps.length ∧ hereB ps q t = true ∧ below ps (t + 1) w.1.toNat ≠ below ps (t + 1) w.2.toNat := by
  obtain ⟨x, hx⟩ := List.exists_mem_of_ne_nil _ h
  unfold wayAt someOf at hx
  obtain ⟨t, ht, _⟩ := List.mem_map.mp hx
  obtain ⟨h1, h2⟩ := List.mem_filter.mp ht
  obtain ⟨a1, a2, a3⟩ := here_mem (of_decide_eq_true h2)
  exact ⟨t.toNat, by omega, a3, (treeTies_mem.mp h1).2.2⟩
theorem tt_of {ps : List Int} {w : Int × Int} {t : Nat} (lt : t < ps.length) (h : below ps (t + 1) w.1.toNat ≠ below ps (t + 1) w.2.toNat) : (t : Int) ∈ treeTies ps w := treeTies_mem.mpr ⟨by omega, by omega, by rw [Int.toNat_natCast]; exact h⟩
theorem WA_back {ps : List Int} (T : TreeOk ps) {ws : List (Int × Int)} (hok : ∀ w ∈ ws, isWay (.tree ps) w.1 w.2) {p i j : Nat} (hp : p < ps.length + 1) (hi : i < ws.length) (hj : j < ws.length) (ai : WA ps ws p i ≠ []) (aj : WA ps ws p j ≠ []) (bi : ∃ q, q < p ∧ WA ps ws q i ≠ []) (bj : ∃ q, q < p ∧ WA ps ws q j ≠ []) : shareA (WA ps ws) p i j ∧ ∃ q, q < p ∧ shareA (WA ps ws) q i j := by
  obtain ⟨q1, hq1, bi⟩ := bi
  obtain ⟨q2, hq2, bj⟩ := bj
  have rng : ∀ {i}, i < ws.length → (ws.getD i (0, 0)).1.toNat ≤ ps.length ∧ (ws.getD i (0, 0)).2.toNat ≤ ps.length := fun {i} hi => by
    have m : ws.getD i (0, 0) ∈ ws := by rw [List.getD_eq_getElem?_getD, List.getElem?_eq_getElem hi]; exact List.getElem_mem hi
    obtain ⟨_, a0, b0, a1, b1⟩ := hok _ m
    have a1' : (ws.getD i (0, 0)).1 < ps.length + 1 := a1
    have b1' : (ws.getD i (0, 0)).2 < ps.length + 1 := b1
    omega
  have on : ∀ {i q}, i < ws.length → WA ps ws p i ≠ [] → q < p → WA ps ws q i ≠ [] → ((p - 1 : Nat) : Int) ∈ treeTies ps (ws.getD i (0, 0)) := fun {i q} hi h1 hq h2 => by
    obtain ⟨t, lt, ht, xt⟩ := at_tie h1
    obtain ⟨s, ls, hs, xs⟩ := at_tie h2
    obtain ⟨r1, r2⟩ := rng hi
    have := tie_back T r1 r2 (by omega) hq lt ls ht hs xt xs
    refine tt_of (by omega) ?_
    rw [show p - 1 + 1 = p by omega]
    exact this
  have oi := on hi ai hq1 bi
  have oj := on hj aj hq2 bj
  have lp : p - 1 < ps.length := by omega
  have par := T.2.2 (p - 1) lp
  have hp1 : ((p - 1 : Nat) : Int) ∈ hereOf ps (p : Int) := here_of lp (by unfold hereB; rw [decide_eq_true (by omega)]; rfl)
  have hp2 : ((p - 1 : Nat) : Int) ∈ hereOf ps (((ps.getD (p - 1) 0).toNat : Nat) : Int) := here_of lp (by
    unfold hereB
    rw [show (((ps.getD (p - 1) 0).toNat : Nat) : Int) = ps.getD (p - 1) 0 by omega, decide_eq_true (rfl : ps.getD (p - 1) 0 = ps.getD (p - 1) 0)]
    simp)
  exact ⟨⟨_, at_of hp1 oi, at_of hp1 oj⟩, (ps.getD (p - 1) 0).toNat, by omega, _, at_of hp2 oi, at_of hp2 oj⟩
/-- a common tie is shared at a place -/
theorem WA_share {ps : List Int} (T : TreeOk ps) {ws : List (Int × Int)} {i j : Nat} {t : Int} (h1 : t ∈ treeTies ps (ws.getD i (0, 0))) (h2 : t ∈ treeTies ps (ws.getD j (0, 0))) : ∃ q, q < ps.length + 1 ∧ shareA (WA ps ws) q i j := by
  have a := treeTies_mem.mp h1
  have a0 : 0 ≤ t := a.1
  have a1 : t < ps.length := a.2.1
  have hh : t ∈ hereOf ps ((t.toNat + 1 : Nat) : Int) := by
    have := here_of (ps := ps) (q := ((t.toNat + 1 : Nat) : Int)) (t := t.toNat) (by omega) (by unfold hereB; rw [decide_eq_true (by omega)]; rfl)
    rwa [Int.toNat_of_nonneg a0] at this
  exact ⟨t.toNat + 1, by omega, _, at_of hh h1, at_of hh h2⟩
/-- each way has a tie -/
theorem WA_some {ps : List Int} (T : TreeOk ps) {ws : List (Int × Int)} (hok : ∀ w ∈ ws, isWay (.tree ps) w.1 w.2) {i : Nat} (hi : i < ws.length) : ∃ q, q < ps.length + 1 ∧ WA ps ws q i ≠ [] := by
  have m : ws.getD i (0, 0) ∈ ws := by rw [List.getD_eq_getElem?_getD, List.getElem?_eq_getElem hi]; exact List.getElem_mem hi
  obtain ⟨ne, a0, b0, a1, b1⟩ := hok _ m
  have a1' : (ws.getD i (0, 0)).1 < ps.length + 1 := a1
  have b1' : (ws.getD i (0, 0)).2 < ps.length + 1 := b1
  have big : ∀ {c d : Nat}, c < d → d ≤ ps.length → below ps d c = false := fun {c d} h hd => by
    cases z : below ps d c with
    | false => rfl
    | true => have := bel_le T (by omega) z; omega
  have key : ∀ t : Nat, t < ps.length → below ps (t + 1) (ws.getD i (0, 0)).1.toNat ≠ below ps (t + 1) (ws.getD i (0, 0)).2.toNat → ∃ q, q < ps.length + 1 ∧ WA ps ws q i ≠ [] := fun t lt h => by
    have hh : (t : Int) ∈ hereOf ps ((t + 1 : Nat) : Int) := here_of lt (by unfold hereB; rw [decide_eq_true (by omega)]; rfl)
    exact ⟨t + 1, by omega, fun e => by
      have := at_of hh (tt_of lt h)
      unfold WA at e
      rw [e] at this
      cases this⟩
  by_cases c : (ws.getD i (0, 0)).1 < (ws.getD i (0, 0)).2
  · refine key ((ws.getD i (0, 0)).2.toNat - 1) (by omega) ?_
    rw [show (ws.getD i (0, 0)).2.toNat - 1 + 1 = (ws.getD i (0, 0)).2.toNat by omega, bel_self, big (by omega) (by omega)]
    decide
  · refine key ((ws.getD i (0, 0)).1.toNat - 1) (by omega) ?_
    rw [show (ws.getD i (0, 0)).1.toNat - 1 + 1 = (ws.getD i (0, 0)).1.toNat by omega, bel_self, big (by omega) (by omega)]
    decide
theorem WA_nums (ps : List Int) (ws : List (Int × Int)) (p : Nat) : crNums ps (p : Int) ws ws.length = (numsA (WA ps ws) ws.length p).map fun i : Nat => (i : Int) := by
  unfold crNums numsA
  congr 1
  refine List.filter_congr fun i hi => ?_
  have hi' := List.mem_range.mp hi
  have e : ws[i]? = some (ws.getD i (0, 0)) := by rw [List.getD_eq_getElem?_getD, List.getElem?_eq_getElem hi']; rfl
  rw [e]
  show (!decide (wayAt ps (p : Int) (ws.getD i (0, 0)) = [])) = !(wayAt ps (p : Int) (ws.getD i (0, 0))).isEmpty
  cases wayAt ps (p : Int) (ws.getD i (0, 0)) <;> simp
theorem WA_pairs (ps : List Int) (ws : List (Int × Int)) (p : Nat) : crPairs ps (p : Int) ws = (numsA (WA ps ws) ws.length p).map fun i => ends (WA ps ws p i) := by
  have key : ∀ n, n ≤ ws.length → crPairs ps (p : Int) (ws.take n) = (numsA (WA ps ws) n p).map fun i => ends (WA ps ws p i) := by
    intro n
    induction n with
    | zero => intro _; rfl
    | succ n ih =>
      intro h
      have e : ws[n]? = some (ws.getD n (0, 0)) := by rw [List.getD_eq_getElem?_getD, List.getElem?_eq_getElem (by omega)]; rfl
      rw [crPairs_succ e, ih (by omega)]
      unfold numsA
      rw [List.range_succ, List.filter_append, List.map_append]
      congr 1
      show (if wayAt ps (p : Int) (ws.getD n (0, 0)) = [] then [] else [ends (wayAt ps (p : Int) (ws.getD n (0, 0)))]) = _
      by_cases c : WA ps ws p n = []
      · have c' : wayAt ps (p : Int) (ws.getD n (0, 0)) = [] := c
        rw [if_pos c', List.filter_cons, if_neg (by rw [c]; decide)]
        rfl
      · have c' : ¬ wayAt ps (p : Int) (ws.getD n (0, 0)) = [] := c
        have b : (!(WA ps ws p n).isEmpty) = true := by
          cases z : WA ps ws p n with
          | nil => exact absurd z c
          | cons a r => rfl
        rw [if_neg c', List.filter_cons, if_pos b]
        rfl
  have := key ws.length (Nat.le_refl _)
  rwa [List.take_length] at this
theorem on_ends {l : List Int} (h : l.length ≤ 2) {x : Int} (hx : x ∈ l) : On (ends l) x := by
  match l, h with
  | [], _ => cases hx
  | [a], _ => rw [List.mem_singleton.mp hx]; exact .inl rfl
  | [a, b], _ =>
    rcases List.mem_cons.mp hx with rfl | hx
    · exact .inl rfl
    · rw [List.mem_singleton.mp hx]; exact .inr rfl
/-- what right lists of all places give -/
theorem WA_ok {ps : List Int} (T : TreeOk ps) {ws : List (Int × Int)} (hok : ∀ w ∈ ws, isWay (.tree ps) w.1 w.2) {lists : List (List Int)} {mx : Int} (hl : lists.length = ps.length + 1) (hr : ∀ p, p < ps.length + 1 → (lists.getD p []).length = (crPairs ps (p : Int) ws).length ∧ PrpL (crPairs ps (p : Int) ws) (lists.getD p []))
    (hb : ∀ p, p < ps.length + 1 → ∀ h ∈ lists.getD p [], 0 ≤ h ∧ h ≤ mx) (hmx : -1 ≤ mx) : TogOk (WA ps ws) ws.length (ps.length + 1) (min (mx + 1) ws.length).toNat fun p k => (lists.getD p []).getD k 0 := by
  have ln : ∀ p, p < ps.length + 1 → (lists.getD p []).length = (numsA (WA ps ws) ws.length p).length := fun p hp => by
    rw [(hr p hp).1, WA_pairs, List.length_map]
  refine ⟨fun p hp k j hk hj ne ⟨x, hx1, hx2⟩ e => ?_, fun p hp i j hi hj _ ai aj bi bj => WA_back T hok hp hi hj ai aj bi bj, fun p hp ks nd hks => ?_⟩
  · have pr := (hr p hp).2
    have lk := ln p hp
    have two : ∀ {k}, k < (numsA (WA ps ws) ws.length p).length → (WA ps ws p ((numsA (WA ps ws) ws.length p).getD k 0)).length ≤ 2 := fun {k} hk => by
      have h1 := (getD_nums hk).1
      exact wayAt_two T (by omega) (hok _ (by rw [List.getD_eq_getElem?_getD, List.getElem?_eq_getElem h1]; exact List.getElem_mem h1))
    have pj : ∀ {k}, k < (numsA (WA ps ws) ws.length p).length → Pj (crPairs ps (p : Int) ws) k = ends (WA ps ws p ((numsA (WA ps ws) ws.length p).getD k 0)) := fun {k} hk => by
      show (crPairs ps (p : Int) ws).getD k (0, 0) = _
      rw [WA_pairs, List.getD_eq_getElem?_getD, List.getElem?_map, List.getElem?_eq_getElem hk, List.getD_eq_getElem?_getD, List.getElem?_eq_getElem hk]
      rfl
    refine pr k j (by omega) (by omega) ne e x ?_ ?_
    · rw [pj hk]; exact on_ends (two hk) hx1
    · rw [pj hj]; exact on_ends (two hj) hx2
  · have lk := ln p hp
    have mem : ∀ h ∈ ks, h ∈ lists.getD p [] := fun h hh => by
      obtain ⟨j, hj, e⟩ := hks h hh
      rw [← e, List.getD_eq_getElem?_getD (l := lists.getD p []), List.getElem?_eq_getElem (show j < (lists.getD p []).length by omega)]
      exact List.getElem_mem _
    have l1 := ndl nd mem
    have l2 := nodup_below (mx + 1).toNat ks nd fun h hh => by
      have := hb p hp h (mem h hh)
      omega
    have l3 : (numsA (WA ps ws) ws.length p).length ≤ ws.length := by
      unfold numsA
      have := List.length_filter_le (fun i => !(WA ps ws p i).isEmpty) (List.range ws.length)
      rwa [List.length_range] at this
    omega
/-- the hues of the ways -/
def togH (ps : List Int) (ws : List (Int × Int)) (lists : List (List Int)) (mx : Int) : List Int := (List.range ws.length).map fun i => (togF (WA ps ws) ws.length (min (mx + 1) ws.length).toNat (fun p k => (lists.getD p []).getD k 0) (ps.length + 1) i).getD 0
theorem togH_right {ps : List Int} (T : TreeOk ps) {ws : List (Int × Int)} (hok : ∀ w ∈ ws, isWay (.tree ps) w.1 w.2) {lists : List (List Int)} {mx : Int} (hl : lists.length = ps.length + 1) (hr : ∀ p, p < ps.length + 1 → (lists.getD p []).length = (crPairs ps (p : Int) ws).length ∧ PrpL (crPairs ps (p : Int) ws) (lists.getD p []))
    (hb : ∀ p, p < ps.length + 1 → ∀ h ∈ lists.getD p [], 0 ≤ h ∧ h ≤ mx) (hmx : -1 ≤ mx) : (togH ps ws lists mx).length = ws.length ∧ (∀ h ∈ togH ps ws lists mx, 0 ≤ h ∧ h ≤ mx) ∧ ∀ i j, i < ws.length → j < ws.length → i ≠ j → (∃ t, t ∈ treeTies ps (ws.getD i (0, 0)) ∧ t ∈ treeTies ps (ws.getD j (0, 0))) → (togH ps ws lists mx).getD i 0 ≠ (togH ps ws lists mx).getD j 0 := by
  have I := tog_inv (WA_ok T hok hl hr hb hmx) (Nat.le_refl _)
  have all : ∀ i, i < ws.length → ∃ u, togF (WA ps ws) ws.length (min (mx + 1) ws.length).toNat (fun p k => (lists.getD p []).getD k 0) (ps.length + 1) i = some u := fun i hi => (I.dom i).mpr ⟨hi, WA_some T hok hi⟩
  have at' : ∀ i, i < ws.length → (togH ps ws lists mx).getD i 0 = (togF (WA ps ws) ws.length (min (mx + 1) ws.length).toNat (fun p k => (lists.getD p []).getD k 0) (ps.length + 1) i).getD 0 := fun i hi => by
    unfold togH
    rw [List.getD_eq_getElem?_getD, List.getElem?_map, List.getElem?_range hi]
    rfl
  refine ⟨by unfold togH; simp, fun h hh => ?_, fun i j hi hj ne ⟨t, h1, h2⟩ e => ?_⟩
  · unfold togH at hh
    obtain ⟨i, hi, rfl⟩ := List.mem_map.mp hh
    obtain ⟨u, hu⟩ := all i (List.mem_range.mp hi)
    rw [hu]
    have := I.rng i u hu
    show 0 ≤ u ∧ u ≤ mx
    omega
  · rw [at' i hi, at' j hj] at e
    obtain ⟨u, hu⟩ := all i hi
    obtain ⟨v, hv⟩ := all j hj
    obtain ⟨q, hq, sh⟩ := WA_share T h1 h2
    rw [hu, hv] at e
    exact I.ap i j ne q hq sh u v hu hv e


/-! ### the stars of a tree -/
theorem ends_memC {l : List Int} (h : l ≠ []) {v : Int} (o : On (ends l) v) : v ∈ l := by
  cases l with
  | nil => exact absurd rfl h
  | cons a r =>
    rcases o with o | o
    · rw [← o]; exact List.mem_cons_self
    · rw [← o]
      show (a :: r).getLastD 0 ∈ a :: r
      rw [List.getLastD_eq_getLast?, List.getLast?_cons]
      show r.getLast?.getD a ∈ a :: r
      cases z : r.getLast? with
      | none => exact List.mem_cons_self
      | some x => exact List.mem_cons_of_mem _ (List.mem_of_getLast? z)
theorem way_tieC {ps : List Int} {w u : Int × Int} {x : Int} {v : Int} (h1 : v ∈ wayAt ps x w) (h2 : v ∈ wayAt ps x u) : ∃ t, t ∈ treeTies ps w ∧ t ∈ treeTies ps u := by
  obtain ⟨t1, ht1, e1⟩ := List.mem_map.mp (show v ∈ (((treeTies ps w).filter fun t => decide (t ∈ hereOf ps x)).map fun t => (((hereOf ps x).idxOf t : Nat) : Int)) from h1)
  obtain ⟨t2, ht2, e2⟩ := List.mem_map.mp (show v ∈ (((treeTies ps u).filter fun t => decide (t ∈ hereOf ps x)).map fun t => (((hereOf ps x).idxOf t : Nat) : Int)) from h2)
  obtain ⟨m1, i1⟩ := List.mem_filter.mp ht1
  obtain ⟨m2, i2⟩ := List.mem_filter.mp ht2
  have l1 := List.idxOf_lt_length_of_mem (of_decide_eq_true i1)
  have l2 := List.idxOf_lt_length_of_mem (of_decide_eq_true i2)
  have g1 : (hereOf ps x)[(hereOf ps x).idxOf t1] = t1 := List.getElem_idxOf l1
  have g2 : (hereOf ps x)[(hereOf ps x).idxOf t2] = t2 := List.getElem_idxOf l2
  have ei : (hereOf ps x).idxOf t1 = (hereOf ps x).idxOf t2 := by omega
  have et : t1 = t2 := by
    rw [← g1, ← g2]
    simp only [ei]
  exact ⟨t1, m1, by rw [et]; exact m2⟩
def starN (k : Nat) : List Int := List.replicate k 0
def starW (p : Int × Int) : Int × Int := (p.1 + 1, if p.1 = p.2 then 0 else p.2 + 1)
theorem star_ok {k : Nat} (h1 : 1 ≤ k) (h2 : k < 60) : TreeOk (starN k) := by
  refine ⟨by unfold starN; simp; omega, by unfold starN; simp; omega, fun j hj => ?_⟩
  have : (starN k).getD j 0 = 0 := by
    unfold starN at hj ⊢
    rw [List.length_replicate] at hj
    rw [List.getD_eq_getElem?_getD, List.getElem?_replicate, if_pos hj]; rfl
  rw [this]; omega
theorem star_below {k c x : Nat} (h1 : 1 ≤ k) (h2 : k < 60) (hx : x ≤ k) : below (starN k) (c + 1) x = decide (x = c + 1) := by
  have T := star_ok h1 h2
  have lk : (starN k).length = k := by unfold starN; simp
  cases x with
  | zero => rw [below_lt 0 (by omega)]; rw [decide_eq_false (by omega)]
  | succ y =>
    by_cases e : c = y
    · subst e; rw [below_self, decide_eq_true rfl]
    · rw [below_step T (by omega) (by omega), decide_eq_false (by omega)]
      have : (starN k).getD y 0 = 0 := by
        unfold starN
        rw [List.getD_eq_getElem?_getD, List.getElem?_replicate, if_pos (by omega)]; rfl
      rw [this]
      exact below_lt 0 (by omega)
def PairOk (k : Nat) (p : Int × Int) : Prop := 0 ≤ p.1 ∧ p.1 ≤ p.2 ∧ p.2 < k
theorem star_way {k : Nat} (h1 : 1 ≤ k) {p : Int × Int} (h : PairOk k p) : isWay (.tree (starN k)) (starW p).1 (starW p).2 := by
  obtain ⟨a, b, c⟩ := h
  have pl : (Net.tree (starN k)).places = k + 1 := by show ((starN k).length : Int) + 1 = _; unfold starN; rw [List.length_replicate]
  unfold starW
  refine ⟨?_, ?_, ?_, ?_, ?_⟩
  · show p.1 + 1 ≠ (if p.1 = p.2 then 0 else p.2 + 1); split <;> omega
  · show 0 ≤ p.1 + 1; omega
  · show 0 ≤ (if p.1 = p.2 then 0 else p.2 + 1); split <;> omega
  · rw [pl]; show p.1 + 1 < _; omega
  · rw [pl]; show (if p.1 = p.2 then 0 else p.2 + 1) < _; split <;> omega
theorem star_on {k : Nat} (h1 : 1 ≤ k) (h2 : k < 60) {p : Int × Int} (h : PairOk k p) {v : Int} : OnTie (.tree (starN k)) (starW p).1 (starW p).2 v ↔ On p v := by
  obtain ⟨a, b, c⟩ := h
  have lk : (starN k).length = k := by unfold starN; simp
  by_cases r : 0 ≤ v ∧ v < k
  · obtain ⟨j, rfl⟩ : ∃ j : Nat, v = j := ⟨v.toNat, by omega⟩
    rw [tree_on (by omega)]
    unfold starW On
    have e1 : (p.1 + 1).toNat = p.1.toNat + 1 := by omega
    show below (starN k) (j + 1) (p.1 + 1).toNat ≠ below (starN k) (j + 1) (if p.1 = p.2 then 0 else p.2 + 1).toNat ↔ _
    rw [star_below h1 h2 (by omega), star_below h1 h2 (by split <;> omega)]
    by_cases e : p.1 = p.2
    · rw [if_pos e, decide_eq_false (show ¬ ((0 : Int).toNat = j + 1) by omega)]
      by_cases d : p.1 = j
      · rw [decide_eq_true (by omega)]
        simp [d]
      · rw [decide_eq_false (by omega)]
        simp; omega
    · rw [if_neg e]
      by_cases d : p.1 = j <;> by_cases f : p.2 = j
      · omega
      · rw [decide_eq_true (by omega), decide_eq_false (by omega)]; simp [d]
      · rw [decide_eq_false (by omega), decide_eq_true (by omega)]; simp [f]
      · rw [decide_eq_false (by omega), decide_eq_false (by omega)]; simp [d, f]
  · constructor
    · rintro ⟨x, y, _⟩
      rw [lk] at y
      exact absurd ⟨x, y⟩ r
    · intro o
      unfold On at o
      omega
theorem star_meet {k : Nat} (h1 : 1 ≤ k) (h2 : k < 60) {p q : Int × Int} (hp : PairOk k p) (hq : PairOk k q) : meetB (.tree (starN k)) (starW p) (starW q) = true ↔ ∃ v, On p v ∧ On q v := by
  rw [meet_iff (N := .tree (starN k)) (star_ok h1 h2) (star_way h1 hp) (star_way h1 hq)]
  constructor
  · rintro ⟨t, a, b⟩
    exact ⟨t, (star_on h1 h2 hp).mp a, (star_on h1 h2 hq).mp b⟩
  · rintro ⟨t, a, b⟩
    exact ⟨t, (star_on h1 h2 hp).mpr a, (star_on h1 h2 hq).mpr b⟩
section
variable {ps : List Int}
theorem here_pos (T : TreeOk ps) {x : Nat} (hx : x ≤ ps.length) : 1 ≤ (hereOf ps (x : Int)).length ∧ (hereOf ps (x : Int)).length < 60 := by
  have l := here_len ps (x : Int)
  have hT := T.2.1
  refine ⟨?_, by omega⟩
  have : ∃ t, t < ps.length ∧ hereB ps (x : Int) t = true := by
    cases x with
    | zero =>
      refine ⟨0, T.1, ?_⟩
      have := T.2.2 0 T.1
      unfold hereB
      rw [Bool.or_eq_true]
      exact .inr (decide_eq_true (by show ps.getD 0 0 = ((0 : Nat) : Int); omega))
    | succ y => exact ⟨y, by omega, by unfold hereB; rw [Bool.or_eq_true]; exact .inl (decide_eq_true (by omega))⟩
  obtain ⟨t, ht, hh⟩ := this
  exact List.length_pos_of_mem (here_of ht hh)
theorem cr_eq (ps : List Int) (x : Int) (ws : List (Int × Int)) : crPairs ps x ws = (ws.filter fun w => !(wayAt ps x w).isEmpty).map fun w => ends (wayAt ps x w) := by
  unfold crPairs
  induction ws with
  | nil => rfl
  | cons w r ih =>
    rw [List.filterMap_cons, List.filter_cons]
    by_cases c : wayAt ps x w = []
    · rw [if_pos c, c]; exact ih
    · rw [if_neg c]
      have : (!(wayAt ps x w).isEmpty) = true := by
        cases h : wayAt ps x w with
        | nil => exact absurd h c
        | cons _ _ => rfl
      simp only [this, if_true, List.map_cons, ih]
theorem cr_ok (T : TreeOk ps) {x : Nat} {ws : List (Int × Int)} (hz : ws.length ≤ 60) : ∀ p ∈ crPairs ps (x : Int) ws, PairOk (hereOf ps (x : Int)).length p := fun p hp => by
  have := (CrOk.tree (ps := ps) (x := (x : Int)) (ws := ws) (by have := T.2.1; omega) hz).2.2.2 p hp
  exact this
theorem star_of (T : TreeOk ps) {x : Nat} (hx : x ≤ ps.length) {ws : List (Int × Int)} (hz : ws.length ≤ 60) (hok : ∀ w ∈ ws, isWay (.tree ps) w.1 w.2) {h : Int} (c : Colr (.tree ps) ws h) : Colr (.tree (starN (hereOf ps (x : Int)).length)) ((crPairs ps (x : Int) ws).map starW) h := by
  obtain ⟨h1, h2⟩ := here_pos T hx
  have pk := cr_ok T (x := x) hz
  rw [cr_eq] at pk ⊢
  rw [List.map_map]
  refine (c.sub List.filter_sublist).mapw fun w hw v hv m => ?_
  obtain ⟨a1, a2⟩ := List.mem_filter.mp hw
  obtain ⟨b1, b2⟩ := List.mem_filter.mp hv
  have ne : ∀ {u : Int × Int}, (!(wayAt ps (x : Int) u).isEmpty) = true → wayAt ps (x : Int) u ≠ [] := fun {u} h z => by rw [z] at h; cases h
  obtain ⟨t, o1, o2⟩ := (star_meet h1 h2 (pk _ (List.mem_map.mpr ⟨w, hw, rfl⟩)) (pk _ (List.mem_map.mpr ⟨v, hv, rfl⟩))).mp m
  have m1 := ends_memC (ne a2) o1
  have m2 := ends_memC (ne b2) o2
  obtain ⟨t', t1, t2⟩ := way_tieC m1 m2
  exact (meet_iff (N := .tree ps) T (hok w a1) (hok v b1)).mpr ⟨t', treeTies_mem.mp t1, treeTies_mem.mp t2⟩
theorem star_hues {k : Nat} (h1 : 1 ≤ k) (h2 : k < 60) {prs : List (Int × Int)} (pk : ∀ p ∈ prs, PairOk k p) {h : Int} (c : Colr (.tree (starN k)) (prs.map starW) h) : ∃ hs : List Int, hs.length = prs.length ∧ PrpL prs hs ∧ ∀ x ∈ hs, 0 ≤ x ∧ x < h := by
  obtain ⟨L, e, rg, pw⟩ := c
  have ll : L.length = prs.length := by have := congrArg List.length e; rwa [List.length_map, List.length_map] at this
  refine ⟨L.map (·.2), by rw [List.length_map, ll], ?_, fun x hx => by
    obtain ⟨y, hy, rfl⟩ := List.mem_map.mp hx
    exact rg y hy⟩
  intro i j hi hj ne eq v o1 o2
  rw [List.length_map] at hi hj
  have f1 : ∀ {i} (hi : i < L.length), L[i].1 = starW prs[i] := fun {i} hi => by
    have := congrArg (fun l => l[i]?) e
    simp only [List.getElem?_map, List.getElem?_eq_getElem hi, List.getElem?_eq_getElem (show i < prs.length by omega), Option.map_some] at this
    exact Option.some.inj this
  have g1 : ∀ {i} (hi : i < L.length), (L.map (·.2)).getD i 0 = L[i].2 := fun {i} hi => by
    rw [List.getD_eq_getElem?_getD, List.getElem?_map, List.getElem?_eq_getElem hi]; rfl
  have p1 : ∀ {i} (hi : i < L.length), Pj prs i = prs[i] := fun {i} hi => getD_of (by omega)
  rw [p1 hi] at o1
  rw [p1 hj] at o2
  refine pair_apart pw hi hj ne ?_ (by rw [← g1 hi, ← g1 hj]; exact eq)
  rw [f1 hi, f1 hj]
  exact (star_meet h1 h2 (pk _ (List.getElem_mem _)) (pk _ (List.getElem_mem _))).mpr ⟨v, o1, o2⟩
/-- hues of all stars give hues of the tree -/
theorem stars_join (T : TreeOk ps) {ws : List (Int × Int)} (hz : ws.length ≤ 60) (hok : ∀ w ∈ ws, isWay (.tree ps) w.1 w.2) {h : Int} (h0 : 0 ≤ h) (c : ∀ x : Nat, x ≤ ps.length → Colr (.tree (starN (hereOf ps (x : Int)).length)) ((crPairs ps (x : Int) ws).map starW) h) : Colr (.tree ps) ws h := by
  have ex : ∀ x : Nat, ∃ hs : List Int, x ≤ ps.length → hs.length = (crPairs ps (x : Int) ws).length ∧ PrpL (crPairs ps (x : Int) ws) hs ∧ ∀ y ∈ hs, 0 ≤ y ∧ y < h := fun x => by
    by_cases hx : x ≤ ps.length
    · obtain ⟨h1, h2⟩ := here_pos T hx
      obtain ⟨hs, a⟩ := star_hues h1 h2 (cr_ok T hz) (c x hx)
      exact ⟨hs, fun _ => a⟩
    · exact ⟨[], fun z => absurd z hx⟩
  let F : Nat → List Int := fun x => Classical.choose (ex x)
  have hF : ∀ x, x ≤ ps.length → (F x).length = (crPairs ps (x : Int) ws).length ∧ PrpL (crPairs ps (x : Int) ws) (F x) ∧ ∀ y ∈ F x, 0 ≤ y ∧ y < h := fun x hx => Classical.choose_spec (ex x) hx
  have gl : ∀ x, x < ps.length + 1 → ((List.range (ps.length + 1)).map F).getD x [] = F x := fun x hx => by
    rw [List.getD_eq_getElem?_getD, List.getElem?_map, List.getElem?_range hx]; rfl
  obtain ⟨t1, t2, t3⟩ := togH_right T hok (lists := (List.range (ps.length + 1)).map F) (mx := h - 1) (by simp) (fun p hp => by
    rw [gl p hp]
    exact ⟨(hF p (by omega)).1, (hF p (by omega)).2.1⟩) (fun p hp y hy => by
    rw [gl p hp] at hy
    have := (hF p (by omega)).2.2 y hy
    omega) (by omega)
  have mem : ∀ {i}, i < ws.length → ws.getD i (0, 0) ∈ ws := fun {i} hi => by rw [getD_of hi]; exact List.getElem_mem hi
  refine part_all (f := fun i => (togH ps ws ((List.range (ps.length + 1)).map F) (h - 1)).getD i 0) fun i hi _ => ⟨?_, fun j hj ne _ m => ?_⟩
  · have := t2 ((togH ps ws ((List.range (ps.length + 1)).map F) (h - 1)).getD i 0) (by rw [getD_of (by omega)]; exact List.getElem_mem _)
    show 0 ≤ (togH ps ws ((List.range (ps.length + 1)).map F) (h - 1)).getD i 0 ∧ (togH ps ws ((List.range (ps.length + 1)).map F) (h - 1)).getD i 0 < h
    omega
  · obtain ⟨t, o1, o2⟩ := (meet_iff (N := .tree ps) T (hok _ (mem hi)) (hok _ (mem hj))).mp m
    exact t3 i j hi hj (fun z => ne z.symm) ⟨t, treeTies_mem.mpr o1, treeTies_mem.mpr o2⟩
theorem stars_least (T : TreeOk ps) {ws : List (Int × Int)} (hz : ws.length ≤ 60) (hok : ∀ w ∈ ws, isWay (.tree ps) w.1 w.2) {H M : Int} {n : Nat → Int} (l : Least (Colr (.tree ps) ws) H) (ln : ∀ x : Nat, x ≤ ps.length → Least (Colr (.tree (starN (hereOf ps (x : Int)).length)) ((crPairs ps (x : Int) ws).map starW)) (n x)) (at_ : ∃ x, x ≤ ps.length ∧ n x = M) (le : ∀ x, x ≤ ps.length → n x ≤ M) : M = H := by
  obtain ⟨x, hx, rfl⟩ := at_
  have a := (ln x hx).le l.1 (star_of T hx hz hok l.2.1)
  have b := l.le (ln x hx).1 (stars_join T hz hok (ln x hx).1 fun y hy => (ln y hy).2.1.mono (le y hy))
  omega
theorem halves_least (T : TreeOk ps) {k1 k2 : List Nat} {cut g1 g2 : Nat} {q1 q2 : List Int} (A : Half ps k1 cut g1 q1) (B : Half ps k2 cut g2 q2) (cp : ∀ x, x ≤ ps.length → (x ∈ k2 ↔ x ∉ k1)) {ws : List (Int × Int)} (hok : ∀ w ∈ ws, isWay (.tree ps) w.1 w.2) {H a b : Int} (l : Least (Colr (.tree ps) ws) H)
    (l1 : Least (Colr (.tree q1) ((ws.filter (keepB k1)).map (keepW k1))) a) (l2 : Least (Colr (.tree q2) ((ws.filter (keepB k2)).map (keepW k2))) b) : (if b > a then b else a) = H := by
  have e1 := l1.le l.1 (A.colr T hok l.2.1)
  have e2 := l2.le l.1 (B.colr T hok l.2.1)
  have c1 := l1.2.1.mono (k := if b > a then b else a) (by split <;> omega)
  have c2 := l2.2.1.mono (k := if b > a then b else a) (by split <;> omega)
  have e3 := l.le (k := if b > a then b else a) (by have := l1.1; have := l2.1; split <;> omega) (halves_join T A B cp hok c1 c2)
  split at e3 <;> split <;> omega
end


/-! ### a tree told from another place on -/
structure Root (ps : List Int) (od : List Nat) (qs : List Int) : Prop where
  nd : od.Nodup
  len : od.length = ps.length + 1
  le : ∀ x ∈ od, x ≤ ps.length
  ql : qs.length = ps.length
  tie : ∀ j, j < ps.length → ∃ u : Nat, u ≤ j ∧ qs.getD j 0 = (u : Int) ∧ ∃ t, t < ps.length ∧ ((od.getD (j + 1) 0 = t + 1 ∧ od.getD u 0 = (ps.getD t 0).toNat) ∨ (od.getD u 0 = t + 1 ∧ od.getD (j + 1) 0 = (ps.getD t 0).toNat))
theorem nd_idx {kp : List Nat} (s : kp.Nodup) {i : Nat} (hi : i < kp.length) : kp.idxOf (kp.getD i 0) = i := by
  rw [getD_of hi]
  have m : kp[i] ∈ kp := List.getElem_mem hi
  have l := List.idxOf_lt_length_of_mem m
  have g : kp[kp.idxOf kp[i]] = kp[i] := List.getElem_idxOf l
  rcases Nat.lt_trichotomy (kp.idxOf kp[i]) i with c | c | c
  · exact absurd g (List.pairwise_iff_getElem.mp (List.nodup_iff_pairwise_ne.mp s) _ _ l hi c)
  · exact c
  · exact absurd g.symm (List.pairwise_iff_getElem.mp (List.nodup_iff_pairwise_ne.mp s) _ _ hi l c)
theorem nd_len {n : Nat} {l : List Nat} (nd : l.Nodup) (h : ∀ x ∈ l, x < n) : l.length ≤ n := by
  have := nodup_below n (l.map fun x : Nat => (x : Int)) (by
    refine List.nodup_iff_pairwise_ne.mpr (List.pairwise_map.mpr ((List.nodup_iff_pairwise_ne.mp nd).imp ?_))
    intro a b ne z
    exact ne (by omega)) (fun x hx => by
    obtain ⟨y, hy, rfl⟩ := List.mem_map.mp hx
    have := h y hy
    omega)
  rwa [List.length_map] at this
/-- unlike ones below n, n of them: each one -/
theorem nd_all {n : Nat} {l : List Nat} (nd : l.Nodup) (h : ∀ x ∈ l, x < n) (hl : l.length = n) {z : Nat} (hz : z < n) : z ∈ l := by
  refine Classical.byContradiction fun m => ?_
  have := nd_len (n := n) (l := z :: l) (List.nodup_cons.mpr ⟨m, nd⟩) (fun x hx => by
    rcases List.mem_cons.mp hx with rfl | hx
    · exact hz
    · exact h x hx)
  rw [List.length_cons] at this
  omega
section
variable {ps : List Int} {od : List Nat} {qs : List Int}
theorem Root.ok (A : Root ps od qs) (T : TreeOk ps) : TreeOk qs := by
  refine ⟨by rw [A.ql]; exact T.1, by rw [A.ql]; exact T.2.1, fun k hk => ?_⟩
  rw [A.ql] at hk
  obtain ⟨u, u1, u2, _⟩ := A.tie k hk
  omega
theorem Root.all (A : Root ps od qs) {x : Nat} (hx : x ≤ ps.length) : x ∈ od := nd_all (n := ps.length + 1) A.nd (fun y hy => by have := A.le y hy; omega) A.len (by omega)
noncomputable def Root.u (A : Root ps od qs) (j : Nat) : Nat := (qs.getD j 0).toNat
open Classical in
noncomputable def rootT (ps : List Int) (od : List Nat) (qs : List Int) (j : Nat) : Nat := if h : ∃ t, t < ps.length ∧ ((od.getD (j + 1) 0 = t + 1 ∧ od.getD (qs.getD j 0).toNat 0 = (ps.getD t 0).toNat) ∨ (od.getD (qs.getD j 0).toNat 0 = t + 1 ∧ od.getD (j + 1) 0 = (ps.getD t 0).toNat)) then choose h else 0
theorem Root.spec (A : Root ps od qs) {j : Nat} (hj : j < ps.length) : (qs.getD j 0).toNat ≤ j ∧ rootT ps od qs j < ps.length ∧ ((od.getD (j + 1) 0 = rootT ps od qs j + 1 ∧ od.getD (qs.getD j 0).toNat 0 = (ps.getD (rootT ps od qs j) 0).toNat) ∨ (od.getD (qs.getD j 0).toNat 0 = rootT ps od qs j + 1 ∧ od.getD (j + 1) 0 = (ps.getD (rootT ps od qs j) 0).toNat)) := by
  obtain ⟨u, u1, u2, h⟩ := A.tie j hj
  have e : (qs.getD j 0).toNat = u := by omega
  rw [← e] at h
  have s := Classical.choose_spec h
  have d : rootT ps od qs j = Classical.choose h := dif_pos h
  rw [d]
  exact ⟨by omega, s⟩
theorem Root.inj (A : Root ps od qs) {i j : Nat} (hi : i < ps.length) (hj : j < ps.length) (e : rootT ps od qs i = rootT ps od qs j) : i = j := by
  obtain ⟨a1, _, a3⟩ := A.spec hi
  obtain ⟨b1, _, b3⟩ := A.spec hj
  rw [e] at a3
  have ln := A.len
  have inj : ∀ {x y}, x < od.length → y < od.length → od.getD x 0 = od.getD y 0 → x = y := fun {x y} hx hy z => by rw [← nd_idx A.nd hx, ← nd_idx A.nd hy, z]
  have big : ∀ t, t < ps.length → True := fun _ _ => trivial
  rcases a3 with ⟨p, q⟩ | ⟨p, q⟩ <;> rcases b3 with ⟨r, s⟩ | ⟨r, s⟩
  · have := inj (x := i + 1) (y := j + 1) (by omega) (by omega) (by rw [p, r]); omega
  · have h1 := inj (x := i + 1) (y := (qs.getD j 0).toNat) (by omega) (by omega) (by rw [p, r])
    have h2 := inj (x := (qs.getD i 0).toNat) (y := j + 1) (by omega) (by omega) (by rw [q, s])
    omega
  · have h1 := inj (x := (qs.getD i 0).toNat) (y := j + 1) (by omega) (by omega) (by rw [p, r])
    have h2 := inj (x := i + 1) (y := (qs.getD j 0).toNat) (by omega) (by omega) (by rw [q, s])
    omega
  · have := inj (x := i + 1) (y := j + 1) (by omega) (by omega) (by rw [q, s]); omega
theorem Root.perm (A : Root ps od qs) : ((List.range ps.length).map (rootT ps od qs)).Perm (List.range ps.length) := by
  have nd : ((List.range ps.length).map (rootT ps od qs)).Nodup := by
    refine List.nodup_iff_pairwise_ne.mpr (List.pairwise_map.mpr (List.Pairwise.imp_of_mem ?_ (List.nodup_iff_pairwise_ne.mp List.nodup_range)))
    intro i j hi hj ne z
    exact ne (A.inj (List.mem_range.mp hi) (List.mem_range.mp hj) z)
  refine (List.perm_ext_iff_of_nodup nd List.nodup_range).mpr fun z => ⟨fun h => ?_, fun h => ?_⟩
  · obtain ⟨i, hi, rfl⟩ := List.mem_map.mp h
    exact List.mem_range.mpr (A.spec (List.mem_range.mp hi)).2.1
  · refine nd_all nd (fun x hx => ?_) (by simp) (List.mem_range.mp h)
    obtain ⟨i, hi, rfl⟩ := List.mem_map.mp hx
    exact (A.spec (List.mem_range.mp hi)).2.1
theorem Root.on (A : Root ps od qs) (T : TreeOk ps) {j a b : Nat} (hj : j < ps.length) (ha : a ≤ ps.length) (hb : b ≤ ps.length) : below qs (j + 1) (od.idxOf a) ≠ below qs (j + 1) (od.idxOf b) ↔ below ps (rootT ps od qs j + 1) a ≠ below ps (rootT ps od qs j + 1) b := by
  have OK := A.ok T
  have ln := A.len
  obtain ⟨u1, t1, h⟩ := A.spec hj
  refine side_on (side := fun x => below qs (j + 1) (od.idxOf x)) T t1 (fun z hz nz => ?_) ?_ ha hb
  · show below qs (j + 1) (od.idxOf (z + 1)) = below qs (j + 1) (od.idxOf (ps.getD z 0).toNat)
    have mz : z ∈ (List.range ps.length).map (rootT ps od qs) := A.perm.mem_iff.mpr (List.mem_range.mpr hz)
    obtain ⟨i, hi, rfl⟩ := List.mem_map.mp mz
    have hi := List.mem_range.mp hi
    have nij : i ≠ j := fun z => nz (by rw [z])
    obtain ⟨v1, _, g⟩ := A.spec hi
    have st := below_step OK (k := j + 1) (x := i) (by rw [A.ql]; exact hi) (by omega)
    rcases g with ⟨p, q⟩ | ⟨p, q⟩
    · rw [← p, ← q, nd_idx A.nd (by omega), nd_idx A.nd (by omega)]
      exact st
    · rw [← p, ← q, nd_idx A.nd (by omega), nd_idx A.nd (by omega)]
      exact st.symm
  · show below qs (j + 1) (od.idxOf (rootT ps od qs j + 1)) ≠ below qs (j + 1) (od.idxOf (ps.getD (rootT ps od qs j) 0).toNat)
    rcases h with ⟨p, q⟩ | ⟨p, q⟩
    · rw [← p, ← q, nd_idx A.nd (by omega), nd_idx A.nd (by omega), below_self, below_lt _ (by omega)]; decide
    · rw [← p, ← q, nd_idx A.nd (by omega), nd_idx A.nd (by omega), below_self, below_lt _ (by omega)]; decide
theorem Root.onT (A : Root ps od qs) (T : TreeOk ps) {w : Int × Int} (hw : isWay (.tree ps) w.1 w.2) {j : Nat} (hj : j < ps.length) : OnTie (.tree qs) (keepW od w).1 (keepW od w).2 (j : Int) ↔ OnTie (.tree ps) w.1 w.2 ((rootT ps od qs j : Nat) : Int) := by
  obtain ⟨w1, w2, w3, w4, w5⟩ := hw
  have w4 : w.1 < ps.length + 1 := w4
  have w5 : w.2 < ps.length + 1 := w5
  rw [tree_on (by rw [A.ql]; exact hj), tree_on (A.spec hj).2.1]
  show below qs (j + 1) ((od.idxOf w.1.toNat : Nat) : Int).toNat ≠ below qs (j + 1) ((od.idxOf w.2.toNat : Nat) : Int).toNat ↔ _
  rw [Int.toNat_natCast, Int.toNat_natCast]
  exact A.on T hj (by omega) (by omega)
theorem Root.way (A : Root ps od qs) {w : Int × Int} (hw : isWay (.tree ps) w.1 w.2) : isWay (.tree qs) (keepW od w).1 (keepW od w).2 := by
  obtain ⟨w1, w2, w3, w4, w5⟩ := hw
  have w4 : w.1 < ps.length + 1 := w4
  have w5 : w.2 < ps.length + 1 := w5
  have pl : (Net.tree qs).places = ps.length + 1 := by show (qs.length : Int) + 1 = _; rw [A.ql]
  have ln := A.len
  have l1 := List.idxOf_lt_length_of_mem (A.all (x := w.1.toNat) (by omega))
  have l2 := List.idxOf_lt_length_of_mem (A.all (x := w.2.toNat) (by omega))
  refine ⟨fun z => ?_, ?_, ?_, ?_, ?_⟩
  · have z : ((od.idxOf w.1.toNat : Nat) : Int) = ((od.idxOf w.2.toNat : Nat) : Int) := z
    have z' : od.idxOf w.1.toNat = od.idxOf w.2.toNat := by omega
    have g1 : od[od.idxOf w.1.toNat] = w.1.toNat := List.getElem_idxOf l1
    have g2 : od[od.idxOf w.2.toNat] = w.2.toNat := List.getElem_idxOf l2
    have : w.1.toNat = w.2.toNat := by rw [← g1, ← g2]; simp only [z']
    omega
  · show (0 : Int) ≤ ((od.idxOf w.1.toNat : Nat) : Int); omega
  · show (0 : Int) ≤ ((od.idxOf w.2.toNat : Nat) : Int); omega
  · rw [pl]; show ((od.idxOf w.1.toNat : Nat) : Int) < _; omega
  · rw [pl]; show ((od.idxOf w.2.toNat : Nat) : Int) < _; omega
theorem Root.meet (A : Root ps od qs) (T : TreeOk ps) {w v : Int × Int} (hw : isWay (.tree ps) w.1 w.2) (hv : isWay (.tree ps) v.1 v.2) : meetB (.tree qs) (keepW od w) (keepW od v) = true ↔ meetB (.tree ps) w v = true := by
  rw [meet_iff (N := .tree qs) (A.ok T) (A.way hw) (A.way hv), meet_iff (N := .tree ps) T hw hv]
  constructor
  · rintro ⟨t, h1, h2⟩
    have r := h1
    obtain ⟨t0, t1, _⟩ := r
    obtain ⟨j, rfl⟩ : ∃ j : Nat, t = j := ⟨t.toNat, by omega⟩
    rw [A.ql] at t1
    exact ⟨_, (A.onT T hw (by omega)).mp h1, (A.onT T hv (by omega)).mp h2⟩
  · rintro ⟨t, h1, h2⟩
    have r := h1
    obtain ⟨t0, t1, _⟩ := r
    have m : t.toNat ∈ (List.range ps.length).map (rootT ps od qs) := A.perm.mem_iff.mpr (List.mem_range.mpr (by omega))
    obtain ⟨j, hj, e⟩ := List.mem_map.mp m
    have hj := List.mem_range.mp hj
    have e' : t = ((rootT ps od qs j : Nat) : Int) := by omega
    rw [e'] at h1 h2
    exact ⟨_, (A.onT T hw hj).mpr h1, (A.onT T hv hj).mpr h2⟩
theorem Root.colr (A : Root ps od qs) (T : TreeOk ps) {ws : List (Int × Int)} (hok : ∀ w ∈ ws, isWay (.tree ps) w.1 w.2) {h : Int} : Colr (.tree qs) (ws.map (keepW od)) h ↔ Colr (.tree ps) ws h := by
  constructor
  · intro c
    obtain ⟨f, pf⟩ := part_of (ws := ws) (P := fun _ => true) (φ := keepW od) (N' := .tree qs) (h := h) (by rw [List.filter_eq_self.mpr fun _ _ => rfl]; exact c)
    refine part_all (f := f) fun i hi _ => ⟨(pf i hi rfl).1, fun j hj ne _ m => (pf i hi rfl).2 j hj ne rfl ?_⟩
    have mem : ∀ {i}, i < ws.length → ws.getD i (0, 0) ∈ ws := fun {i} hi => by rw [getD_of hi]; exact List.getElem_mem hi
    exact (A.meet T (hok _ (mem hi)) (hok _ (mem hj))).mpr m
  · exact fun c => c.mapw fun w hw v hv m => (A.meet T (hok w hw) (hok v hv)).mp m
theorem Root.loads (A : Root ps od qs) (T : TreeOk ps) {ws : List (Int × Int)} (hok : ∀ w ∈ ws, isWay (.tree ps) w.1 w.2) : (loadsOf (.tree qs) (ws.map (keepW od))).Perm (loadsOf (.tree ps) ws) := by
  have e : loadsOf (.tree qs) (ws.map (keepW od)) = ((List.range ps.length).map (rootT ps od qs)).map fun t : Nat => (cnt (.tree ps) ws (t : Int) : Int) := by
    unfold loadsOf
    rw [List.map_map]
    show (List.range qs.length).map _ = _
    rw [A.ql]
    refine List.map_congr_left fun j hj => ?_
    have hj := List.mem_range.mp hj
    show (cnt (.tree qs) (ws.map (keepW od)) (j : Int) : Int) = (cnt (.tree ps) ws ((rootT ps od qs j : Nat) : Int) : Int)
    congr 1
    unfold cnt
    rw [List.filter_map, List.length_map]
    congr 1
    refine List.filter_congr fun w hw => ?_
    have := A.onT T (hok w hw) hj
    exact decide_eq_decide.mpr this
  rw [e]
  exact A.perm.map _
end


theorem missF : ∀ (n : Nat) (l : List Int), l.length < n → ∃ j : Nat, j < n ∧ (j : Int) ∉ l
  | 0, _, h => by omega
  | n + 1, l, h => by
    by_cases c : (n : Int) ∈ l
    · obtain ⟨j, h1, h2⟩ := missF n (l.erase n) (by rw [List.length_erase_of_mem c]; have := List.length_pos_of_mem c; omega)
      exact ⟨j, by omega, fun z => h2 ((List.mem_erase_of_ne (by omega)).mpr z)⟩
    · exact ⟨n, by omega, c⟩
/-! ### a line, and the same one as a tree -/
def pathP (n : Nat) : List Int := (List.range n).map fun i : Nat => (i : Int)
theorem path_get {n i : Nat} (h : i < n) : (pathP n).getD i 0 = (i : Int) := by
  unfold pathP
  rw [List.getD_eq_getElem?_getD, List.getElem?_map, List.getElem?_range h]; rfl
theorem path_len (n : Nat) : (pathP n).length = n := by unfold pathP; simp
theorem path_ok {n : Nat} (h1 : 1 ≤ n) (h2 : n < 60) : TreeOk (pathP n) := by
  refine ⟨by rw [path_len]; exact h1, by rw [path_len]; exact h2, fun k hk => ?_⟩
  rw [path_len] at hk
  rw [path_get hk]
  omega
theorem path_below {n : Nat} (h1 : 1 ≤ n) (h2 : n < 60) (c : Nat) : ∀ x, x ≤ n → below (pathP n) (c + 1) x = decide (c + 1 ≤ x)
  | 0, _ => by rw [below_lt 0 (by omega), decide_eq_false (by omega)]
  | x + 1, hx => by
    by_cases e : c = x
    · subst e; rw [below_self, decide_eq_true (Nat.le_refl _)]
    · rw [below_step (path_ok h1 h2) (by rw [path_len]; omega) (by omega), path_get (by omega), Int.toNat_natCast, path_below h1 h2 c x (by omega)]
      exact decide_eq_decide.mpr (by omega)
section
variable {n : Int} {m : Nat}
theorem path_on (hm : (m : Int) = n - 1) (h1 : 1 ≤ m) (h2 : m < 60) {w : Int × Int} (hw : isWay (.line n) w.1 w.2) {t : Int} : OnTie (.tree (pathP m)) w.1 w.2 t ↔ OnTie (.line n) w.1 w.2 t := by
  obtain ⟨w1, w2, w3, w4, w5⟩ := hw
  have w4 : w.1 < n := w4
  have w5 : w.2 < n := w5
  show (0 ≤ t ∧ t < ((pathP m).length : Nat) ∧ below (pathP m) (t.toNat + 1) w.1.toNat ≠ below (pathP m) (t.toNat + 1) w.2.toNat) ↔ min w.1 w.2 ≤ t ∧ t < max w.1 w.2
  rw [path_len, path_below h1 h2 _ _ (by omega), path_below h1 h2 _ _ (by omega)]
  by_cases a : t.toNat + 1 ≤ w.1.toNat <;> by_cases b : t.toNat + 1 ≤ w.2.toNat
  · rw [decide_eq_true a, decide_eq_true b]; constructor
    · rintro ⟨_, _, z⟩; exact absurd rfl z
    · omega
  · rw [decide_eq_true a, decide_eq_false b]; constructor
    · rintro ⟨_, _, _⟩; omega
    · intro z; exact ⟨by omega, by omega, by decide⟩
  · rw [decide_eq_false a, decide_eq_true b]; constructor
    · rintro ⟨_, _, _⟩; omega
    · intro z; exact ⟨by omega, by omega, by decide⟩
  · rw [decide_eq_false a, decide_eq_false b]; constructor
    · rintro ⟨_, _, z⟩; exact absurd rfl z
    · omega
theorem path_way (hm : (m : Int) = n - 1) {w : Int × Int} (hw : isWay (.line n) w.1 w.2) : isWay (.tree (pathP m)) w.1 w.2 := by
  obtain ⟨w1, w2, w3, w4, w5⟩ := hw
  have w4 : w.1 < n := w4
  have w5 : w.2 < n := w5
  have pl : (Net.tree (pathP m)).places = m + 1 := by show ((pathP m).length : Int) + 1 = _; rw [path_len]
  exact ⟨w1, w2, w3, by rw [pl]; omega, by rw [pl]; omega⟩
theorem path_cnt (hm : (m : Int) = n - 1) (h1 : 1 ≤ m) (h2 : m < 60) {ws : List (Int × Int)} (hok : ∀ w ∈ ws, isWay (.line n) w.1 w.2) (t : Int) : cnt (.tree (pathP m)) ws t = cnt (.line n) ws t := by
  unfold cnt
  congr 1
  exact List.filter_congr fun w hw => decide_eq_decide.mpr (path_on hm h1 h2 (hok w hw))
theorem path_loads (hm : (m : Int) = n - 1) (h1 : 1 ≤ m) (h2 : m < 60) {ws : List (Int × Int)} (hok : ∀ w ∈ ws, isWay (.line n) w.1 w.2) : loadsOf (.tree (pathP m)) ws = loadsOf (.line n) ws := by
  unfold loadsOf
  have e : (Net.tree (pathP m)).ties = (Net.line n).ties := by show (pathP m).length = (n - 1).toNat; rw [path_len]; omega
  rw [e]
  exact List.map_congr_left fun t _ => by rw [path_cnt hm h1 h2 hok]
theorem path_colr (hm : (m : Int) = n - 1) (h1 : 1 ≤ m) (h2 : m < 60) {ws : List (Int × Int)} (hok : ∀ w ∈ ws, isWay (.line n) w.1 w.2) {h : Int} : Colr (.tree (pathP m)) ws h ↔ Colr (.line n) ws h := by
  have okl : (Net.line n).ok := ⟨by omega, by omega⟩
  have mt : ∀ w ∈ ws, ∀ v ∈ ws, (meetB (.tree (pathP m)) w v = true ↔ meetB (.line n) w v = true) := fun w hw v hv => by
    rw [meet_iff (N := .tree (pathP m)) (path_ok h1 h2) (path_way hm (hok w hw)) (path_way hm (hok v hv)), meet_iff okl (hok w hw) (hok v hv)]
    exact ⟨fun ⟨t, a, b⟩ => ⟨t, (path_on hm h1 h2 (hok w hw)).mp a, (path_on hm h1 h2 (hok v hv)).mp b⟩, fun ⟨t, a, b⟩ => ⟨t, (path_on hm h1 h2 (hok w hw)).mpr a, (path_on hm h1 h2 (hok v hv)).mpr b⟩⟩
  constructor
  · intro c
    have := c.mapw (N' := .line n) (φ := id) (fun w hw v hv z => (mt w hw v hv).mpr z)
    rwa [List.map_id] at this
  · intro c
    have := c.mapw (N' := .tree (pathP m)) (φ := id) (fun w hw v hv z => (mt w hw v hv).mp z)
    rwa [List.map_id] at this
end
theorem max_ofL {f : Int × Int → Int} : ∀ {W : List (Int × Int)}, W ≠ [] → ∃ w ∈ W, ∀ v ∈ W, f v ≤ f w
  | [], h => absurd rfl h
  | x :: r, _ => by
    by_cases c : r = []
    · exact ⟨x, List.mem_cons_self, fun v hv => by rw [c] at hv; rw [List.mem_singleton.mp hv]; exact Int.le_refl _⟩
    · obtain ⟨w, hw, hm⟩ := max_ofL (f := f) c
      by_cases d : f x ≤ f w
      · exact ⟨w, List.mem_cons_of_mem _ hw, fun v hv => by
          rcases List.mem_cons.mp hv with rfl | hv
          · exact d
          · exact hm v hv⟩
      · exact ⟨x, List.mem_cons_self, fun v hv => by
          rcases List.mem_cons.mp hv with rfl | hv
          · exact Int.le_refl _
          · have := hm v hv; omega⟩
/-- on a line hues as many as the load do -/
theorem line_colr {n : Int} (ok : (Net.line n).ok) : ∀ (k : Nat) (W : List (Int × Int)) (m : Nat), W.length = k → (∀ w ∈ W, isWay (.line n) w.1 w.2) → LoadLe (.line n) W (m : Nat) → Colr (.line n) W (m : Nat)
  | 0, W, m, hk, _, _ => by
    rw [List.length_eq_zero_iff.mp hk]
    exact (Colr.all []).mono (by show ((0 : Nat) : Int) ≤ _; omega)
  | k + 1, W, m, hk, hok, ld => by
    obtain ⟨w, hw, hmax⟩ := max_ofL (f := fun v => min v.1 v.2) (W := W) (fun z => by rw [z] at hk; cases hk)
    have pw : W.Perm (w :: W.erase w) := List.perm_cons_erase hw
    have ls : (W.erase w).length = k := by rw [List.length_erase_of_mem hw]; omega
    have sub := List.erase_sublist (a := w) (l := W)
    obtain ⟨L, eL, rg, pL⟩ := line_colr ok k (W.erase w) m ls (fun v hv => hok v (sub.subset hv)) (fun s => by have := cnt_sub (N := .line n) sub s; have := ld s; omega)
    have wok := hok w hw
    have w1 : w.1 ≠ w.2 := wok.1
    have onw : OnTie (.line n) w.1 w.2 (min w.1 w.2) := ⟨by omega, by omega⟩
    have key : ∀ v ∈ W, meetB (.line n) w v = true → OnTie (.line n) v.1 v.2 (min w.1 w.2) := fun v hv hm => by
      obtain ⟨x, xw, xv⟩ := (meet_iff ok wok (hok v hv)).mp hm
      obtain ⟨a1, a2⟩ := xw
      obtain ⟨b1, b2⟩ := xv
      have := hmax v hv
      exact ⟨this, by omega⟩
    have c1 : cnt (.line n) W (min w.1 w.2) = 1 + cnt (.line n) (W.erase w) (min w.1 w.2) := by
      rw [cnt_perm pw]
      unfold cnt
      rw [List.filter_cons, if_pos (decide_eq_true onw), List.length_cons]
      omega
    have c2 : ((L.filter fun y => decide (OnTie (.line n) y.1.1 y.1.2 (min w.1 w.2))).map (·.2)).length = cnt (.line n) (W.erase w) (min w.1 w.2) := by
      unfold cnt
      rw [← eL, List.filter_map, List.length_map, List.length_map]
      rfl
    have hld := ld (min w.1 w.2)
    obtain ⟨j, hj, nj⟩ := missF m ((L.filter fun y => decide (OnTie (.line n) y.1.1 y.1.2 (min w.1 w.2))).map (·.2)) (by omega)
    have cw : Colr (.line n) (w :: W.erase w) (m : Nat) := by
      refine ⟨(w, (j : Int)) :: L, by rw [List.map_cons, eL], fun x hx => ?_, List.pairwise_cons.mpr ⟨fun y hy hm z => ?_, pL⟩⟩
      · rcases List.mem_cons.mp hx with rfl | hx
        · exact ⟨by show (0 : Int) ≤ (j : Int); omega, by show (j : Int) < m; omega⟩
        · exact rg x hx
      · have hy1 : y.1 ∈ W := sub.subset (by rw [← eL]; exact List.mem_map_of_mem hy)
        have := key y.1 hy1 hm
        exact nj (List.mem_map.mpr ⟨y, List.mem_filter.mpr ⟨hy, decide_eq_true this⟩, z.symm⟩)
    exact cw.perm pw.symm
theorem line_load {n : Int} (ok : (Net.line n).ok) {W : List (Int × Int)} (hok : ∀ w ∈ W, isWay (.line n) w.1 w.2) {h : Int} (l : Least (Colr (.line n) W) h) {m : Int} (m1 : m ∈ loadsOf (.line n) W) (m2 : ∀ y ∈ loadsOf (.line n) W, y ≤ m) : h = m := by
  unfold loadsOf at m1 m2
  obtain ⟨e, he, rfl⟩ := List.mem_map.mp m1
  have h0 := l.1
  have n2 : 2 ≤ n := ok.1
  have ld : LoadLe (.line n) W ((cnt (.line n) W (e : Nat) : Nat) : Int) := fun s => by
    by_cases c : 0 ≤ s ∧ s < n - 1
    · have := m2 ((cnt (.line n) W ((s.toNat : Nat) : Int) : Nat) : Int) (List.mem_map.mpr ⟨s.toNat, List.mem_range.mpr (by show s.toNat < (n - 1).toNat; omega), rfl⟩)
      rw [show ((s.toNat : Nat) : Int) = s by omega] at this
      exact this
    · have hz : cnt (.line n) W s = 0 := by
        unfold cnt
        rw [List.length_eq_zero_iff, List.filter_eq_nil_iff]
        intro w hw z
        obtain ⟨z1, z2⟩ := of_decide_eq_true z
        obtain ⟨_, w2, w3, w4, w5⟩ := hok w hw
        have w4 : w.1 < n := w4
        have w5 : w.2 < n := w5
        exact c ⟨by omega, by omega⟩
      omega
  have a := l.le (by omega) (line_colr ok W.length W _ rfl hok ld)
  have c := l.2.1
  obtain ⟨h, rfl⟩ : ∃ k : Nat, h = k := ⟨h.toNat, by omega⟩
  have b := c.load ok hok (e : Nat)
  omega


def pr_law_mix (K : PySem.W.Frag) (v0 v1 : V) (H : Hp) (Q : VK) (_ : XK) : Prop := ∃ x k : Int, v0 = .int x ∧ v1 = .int k ∧ 0 ≤ x ∧ x < 2147483629 ∧ 0 ≤ k ∧ k < 10000000 ∧ ∀ r, 0 ≤ r → r < 2147483587 → Q (.int r) H
def t_law_mix (K : PySem.W.Frag) : TS :=
  (tSeq (tAsg (tOp xMod (tOp xMul (tOp xAdd (tOp xAdd (tOp xMul (tVar 0) (tVar 0)) (tOp xMul (tVar 1) (tVar 0))) (tOp xMul (tOp xMul (tC (.int 7)) (tVar 1)) (tVar 1))) (tC (.int 1103515245))) (tC (.int 2147483629))) (gName 2))
    (tRet (tOp xMod (tOp xMul (tVar 2) (tVar 2)) (tC (.int 2147483587)))))
theorem pure_law_mix {v0 v1 : V} {H : Hp} {Q : VK} {E : XK} (h : pr_law_mix K v0 v1 H Q E) : t_law_mix K ⟨fun _ H' => Q .non H', Q, fun _ _ => False, fun _ _ => False⟩ [some v0, some v1, none] H := by
  obtain ⟨x, k, rfl, rfl, x0, x1, k0, k1, q⟩ := h
  unfold t_law_mix
  wtm_at "s"
  exact q _ (Int.emod_nonneg _ (by decide)) (Int.emod_lt_of_pos _ (by decide))
abbrev sp_law_mix (K : PySem.W.Frag) : Sp := fun vs H Q E => ∃ v0 v1, vs = [v0, v1] ∧ pr_law_mix K v0 v1 H Q E
theorem ok_law_mix (T : Txt K mg A) : FnOk P w K mg base CX0 1 A.a_law_mix A.d_law_mix ["_law_number", "_law_k"] (sp_law_mix K) := by
  refine T.F_law_mix.ok sc_law_mix (fun vs H Q E h => by obtain ⟨v0, v1, rfl, _⟩ := h; rfl) (fun cdv A0 outer s H vs Q E hr h => ?_)
  obtain ⟨v0, v1, rfl, h⟩ := h
  exact ⟨t_law_mix K, (pss_cons (ps_set (i := 2) sc_law_mix.nd rfl (Or.inl rfl) (pe_op op_mod (pe_op op_mul (pe_op op_add (pe_op op_add (pe_op op_mul (pv 0) (pv 0)) (pe_op op_mul (pv 1) (pv 0))) (pe_op op_mul (pe_op op_mul pe_int (pv 1)) (pv 1))) pe_int) pe_int))
      (pss_one (ps_ret (pe_op op_mod (pe_op op_mul (pv 2) (pv 2)) pe_int)))), pure_law_mix h⟩
def pr_law_left (K : PySem.W.Frag) (v0 : V) (H : Hp) (Q : VK) (_ : XK) : Prop := ∃ x : Int, v0 = .int x ∧ ∀ p H', H p = none → Same H H' → Le H' p 0 → Q (.ref p) H'
def t_law_left (K : PySem.W.Frag) : TS :=
  (tSeq (tIfS (tTest (tOp xLt (tVar 0) (tOp xPow (tC (.int 10)) (tC (.int 18))))) (tRet (tLst (tCons (tOp xMod (tVar 0) (tC (.int 2147483629))) (tCons (tC (.int 0)) (tCons (tC (.int 0)) tNil))))) tNext)
    (tRet (tLst (tCons (tOp xSub (tVar 0) (tOp xPow (tC (.int 10)) (tC (.int 18)))) (tCons (tC (.int 1)) (tCons (tC (.int 0)) tNil))))))
theorem pure_law_left {v0 : V} {H : Hp} {Q : VK} {E : XK} (h : pr_law_left K v0 H Q E) : t_law_left K ⟨fun _ H' => Q .non H', Q, fun _ _ => False, fun _ _ => False⟩ [some v0] H := by
  obtain ⟨x, rfl, q⟩ := h
  unfold t_law_left
  wtm_at "s"
  refine k_it (fun c => ?_) (fun c => ?_)
  · wtm_at "s"
    refine ⟨sz (by simp), fun p np => ?_⟩
    exact q p _ np (same_new np) ⟨⟨_, _, upd_same, fun _ => ⟨Int.emod_nonneg _ (by decide), Int.emod_lt_of_pos _ (by decide)⟩⟩, by decide⟩
  · wtm_at "s"
    refine ⟨sz (by simp), fun p np => ?_⟩
    exact q p _ np (same_new np) ⟨⟨_, _, upd_same, fun z => absurd z (by decide)⟩, by decide⟩
abbrev sp_law_left (K : PySem.W.Frag) : Sp := fun vs H Q E => ∃ v0, vs = [v0] ∧ pr_law_left K v0 H Q E
theorem ok_law_left (T : Txt K mg A) : FnOk P w K mg base CX0 1 A.a_law_left A.d_law_left ["_law_cell"] (sp_law_left K) := by
  refine T.F_law_left.ok sc_law_left (fun vs H Q E h => by obtain ⟨v0, rfl, _⟩ := h; rfl) (fun cdv A0 outer s H vs Q E hr h => ?_)
  obtain ⟨v0, rfl, h⟩ := h
  exact ⟨t_law_left K, (pss_cons (ps_if (pt_cmpR op_lt (pv 0) (pe_op op_pow pe_int pe_int) (nomark _)) (pss_one (ps_ret (pe_lst (pa_cons (pe_op op_mod (pv 0) pe_int) (pa_cons pe_int (pa_cons pe_int pa_nil)))))) pss_nil)
      (pss_one (ps_ret (pe_lst (pa_cons (pe_op op_sub (pv 0) (pe_op op_pow pe_int pe_int)) (pa_cons pe_int (pa_cons pe_int pa_nil))))))), pure_law_left h⟩
def pr_law_draw (K : PySem.W.Frag) (v0 v1 : V) (H : Hp) (Q : VK) (_ : XK) : Prop := ∃ (pu : Addr) (k m : Int), v0 = .ref pu ∧ v1 = .int m ∧ Le H pu k ∧ k < 1000000 ∧ 0 < m ∧ m < 2 ^ 200 ∧ ∀ r H', 0 ≤ r → r < m → Le H' pu (k + 1) → Same (hid [pu] H) (hid [pu] H') → Q (.int r) H'
def t_law_draw (K : PySem.W.Frag) : TS :=
  (tSeq (tAsg (tOp xAdd (tOp (rIxL K) (tVar 0) (tC (.int 2))) (tC (.int 1))) (gSub (tVar 0) (tC (.int 2)) rSetL))
    (tSeq (tIfS (tTest (tOp rEq (tOp (rIxL K) (tVar 0) (tC (.int 1))) (tC (.int 0)))) (tSeq (tAsg (tCall (sp_law_mix K) [] E0 (tCons (tOp (rIxL K) (tVar 0) (tC (.int 0))) (tCons (tOp (rIxL K) (tVar 0) (tC (.int 2))) tNil))) (gName 2))
    (tSeq (tIfS (tTest (tOp xGt (tVar 1) (tOp xPow (tC (.int 10)) (tC (.int 9))))) (tRet (tOp xMod (tOp xMul (tVar 2) (tOp xAdd (tOp xPow (tCall (sp_law_mix K) [] E0 (tCons (tOp (rIxL K) (tVar 0) (tC (.int 0))) (tCons (tOp xAdd (tOp (rIxL K) (tVar 0) (tC (.int 2))) (tC (.int 500))) tNil))) (tC (.int 3))) (tC (.int 1)))) (tVar 1))) tNext)
    (tRet (tOp xMod (tOp xMod (tOp xMul (tVar 2) (tOp xAdd (tVar 2) (tC (.int 2)))) (tC (.int 2147483579))) (tVar 1))))) tNext)
    (tSeq (tAsg (tOp xMod (tOp (rIxL K) (tVar 0) (tC (.int 0))) (tVar 1)) (gName 3))
    (tSeq (tAsg (tOp xDivW (tOp (rIxL K) (tVar 0) (tC (.int 0))) (tVar 1)) (gSub (tVar 0) (tC (.int 0)) rSetL))
    (tRet (tVar 3))))))
theorem pure_law_draw {v0 v1 : V} {H : Hp} {Q : VK} {E : XK} (h : pr_law_draw K v0 v1 H Q E) : t_law_draw K ⟨fun _ H' => Q .non H', Q, fun _ _ => False, fun _ _ => False⟩ [some v0, some v1, none, none] H := by
  obtain ⟨pu, k, m, rfl, rfl, hL, k1, m0, m1, q⟩ := h
  obtain ⟨⟨x, f, hp, hx⟩, k0⟩ := hL
  unfold t_law_draw
  wtm_at "s"
  refine k_ixL (sl hp) rfl ?_
  wtm_at "s"
  refine k_setL hp (j := 2) rfl ?_
  have e1 : upd H pu (.lst [.int x, .int f, .int (k + 1)]) pu = some (.lst [.int x, .int f, .int (k + 1)]) := upd_same
  have S1 : Same (hid [pu] H) (hid [pu] (upd H pu (.lst [.int x, .int f, .int (k + 1)]))) := same_hid_upd (Same.refl _) (by simp)
  rw [show [V.int x, V.int f, V.int k].set 2 (V.int (k + 1)) = [.int x, .int f, .int (k + 1)] from rfl]
  generalize upd H pu (.lst [.int x, .int f, .int (k + 1)]) = H1 at e1 S1 ⊢
  wtm_at "s"
  refine k_ixL (sl e1) rfl ?_
  wtm_at "s"
  refine k_it (fun c => ?_) (fun c => ?_)
  · obtain ⟨x0, x1⟩ := hx c
    have L1 : Le H1 pu (k + 1) := ⟨⟨x, f, e1, hx⟩, by omega⟩
    wtm_at "s"
    refine k_ixL (sl e1) rfl ?_
    wtm_at "s"
    refine k_ixL (sl e1) rfl ?_
    wtm_at "s"
    refine ⟨_, _, rfl, x, k + 1, rfl, rfl, x0, x1, by omega, by omega, fun r r0 r1 => ?_⟩
    wtm_at "s"
    refine k_it (fun c2 => ?_) (fun c2 => ?_)
    · wtm_at "s"
      refine k_ixL (sl e1) rfl ?_
      wtm_at "s"
      refine k_ixL (sl e1) rfl ?_
      wtm_at "s"
      refine ⟨_, _, rfl, x, k + 1 + 500, rfl, rfl, x0, x1, by omega, by omega, fun r2 r20 r21 => ?_⟩
      wtm_at "s"
      refine k_pow ⟨by decide, by decide, by omega⟩ ?_
      wtm_at "s"
      exact q _ _ (Int.emod_nonneg _ (by omega)) (Int.emod_lt_of_pos _ m0) L1 S1
    · wtm_at "s"
      exact q _ _ (Int.emod_nonneg _ (by omega)) (Int.emod_lt_of_pos _ m0) L1 S1
  · wtm_at "s"
    refine k_ixL (sl e1) rfl ?_
    wtm_at "s"
    refine k_ixL (sl e1) rfl ?_
    wtm_at "s"
    refine k_divW (wide_div m0 (b := 201) (by omega) (by decide) (by decide)) ?_
    wtm_at "s"
    refine k_setL e1 (j := 0) rfl ?_
    wtm_at "s"
    exact q _ _ (Int.emod_nonneg _ (by omega)) (Int.emod_lt_of_pos _ m0) ⟨⟨x / m, f, upd_same, fun z => absurd z c⟩, by omega⟩ (same_hid_upd S1 (by simp))
abbrev sp_law_draw (K : PySem.W.Frag) : Sp := fun vs H Q E => ∃ v0 v1, vs = [v0, v1] ∧ pr_law_draw K v0 v1 H Q E
theorem ok_law_draw (T : Txt K mg A) : FnOk P w K mg base CX0 2 A.a_law_draw A.d_law_draw ["_law_left_here", "_law_base"] (sp_law_draw K) := by
  refine T.F_law_draw.ok sc_law_draw (fun vs H Q E h => by obtain ⟨v0, v1, rfl, _⟩ := h; rfl) (fun cdv A0 outer s H vs Q E hr h => ?_)
  obtain ⟨v0, v1, rfl, h⟩ := h
  exact ⟨t_law_draw K, (pss_cons (ps_asg (pe_op op_add (pe_ix ix_list (pv 0) pe_int (fun _ _ => rfl)) pe_int) (pg_sub (pv 0) pe_int set_list))
      (pss_cons (ps_if (pt_cmpR op_eq (pe_ix ix_list (pv 0) pe_int (fun _ _ => rfl)) pe_int (nomark _)) (pss_cons (ps_set (i := 2) sc_law_draw.nd rfl (Or.inl rfl) (pe_call (ok_law_mix T) (hr.mono (by decide)) (by rfl) T.g_law_mix T.F_law_mix.kp T.b_law_mix .nil pass0 (pa_cons (pe_ix ix_list (pv 0) pe_int (fun _ _ => rfl)) (pa_cons (pe_ix ix_list (pv 0) pe_int (fun _ _ => rfl)) pa_nil))))
      (pss_cons (ps_if (pt_cmpR op_gt (pv 1) (pe_op op_pow pe_int pe_int) (nomark _)) (pss_one (ps_ret (pe_op op_mod (pe_op op_mul (pv 2) (pe_op op_add (pe_op op_pow (pe_call (ok_law_mix T) (hr.mono (by decide)) (by rfl) T.g_law_mix T.F_law_mix.kp T.b_law_mix .nil pass0 (pa_cons (pe_ix ix_list (pv 0) pe_int (fun _ _ => rfl)) (pa_cons (pe_op op_add (pe_ix ix_list (pv 0) pe_int (fun _ _ => rfl)) pe_int) pa_nil))) pe_int) pe_int)) (pv 1)))) pss_nil)
      (pss_one (ps_ret (pe_op op_mod (pe_op op_mod (pe_op op_mul (pv 2) (pe_op op_add (pv 2) pe_int)) pe_int) (pv 1)))))) pss_nil)
      (pss_cons (ps_set (i := 3) sc_law_draw.nd rfl (Or.inl rfl) (pe_op op_mod (pe_ix ix_list (pv 0) pe_int (fun _ _ => rfl)) (pv 1)))
      (pss_cons (ps_asg (pe_op op_fdivW (pe_ix ix_list (pv 0) pe_int (fun _ _ => rfl)) (pv 1)) (pg_sub (pv 0) pe_int set_list))
      (pss_one (ps_ret (pv 3))))))), pure_law_draw h⟩
def pr_law_way (K : PySem.W.Frag) (v0 v1 : V) (H : Hp) (Q : VK) (_ : XK) : Prop := ∃ (pu : Addr) (k m : Int), v0 = .ref pu ∧ v1 = .int m ∧ Le H pu k ∧ k < 900000 ∧ 2 ≤ m ∧ m < 2 ^ 100 ∧
  ∀ p a b H', H p = none → p ∉ [pu] → Le H' pu (k + 2) → Same (hid [pu] H) (hid [pu] H') → H' p = some (.tup [.int a, .int b]) → a ≠ b → 0 ≤ a → a < m → 0 ≤ b → b < m → Q (.ref p) H'
def t_law_way (K : PySem.W.Frag) : TS :=
  (tSeq (tAsg (tCall (sp_law_draw K) [] E0 (tCons (tVar 0) (tCons (tVar 1) tNil))) (gName 2))
    (tSeq (tAsg (tCall (sp_law_draw K) [] E0 (tCons (tVar 0) (tCons (tOp xSub (tVar 1) (tC (.int 1))) tNil))) (gName 3))
    (tRet (tTup (tCons (tVar 2) (tCons (tOp xAdd (tVar 3) (tCB rIntOf (tCons (tOp xGe (tVar 3) (tVar 2)) tNil))) tNil))))))
theorem pure_law_way {v0 v1 : V} {H : Hp} {Q : VK} {E : XK} (h : pr_law_way K v0 v1 H Q E) : t_law_way K ⟨fun _ H' => Q .non H', Q, fun _ _ => False, fun _ _ => False⟩ [some v0, some v1, none, none] H := by
  obtain ⟨pu, k, m, rfl, rfl, hL, k1, m0, m1, q⟩ := h
  unfold t_law_way
  wtm_at "s"
  refine ⟨_, _, rfl, pu, k, m, rfl, rfl, hL, by omega, by omega, by omega, fun r H1 r0 r1 L1 S1 => ?_⟩
  wtm_at "s"
  refine ⟨_, _, rfl, pu, k + 1, m - 1, rfl, rfl, L1, by omega, by omega, by omega, fun r2 H2 r20 r21 L2 S2 => ?_⟩
  wtm_at "s"
  refine ⟨sz (by simp), fun p np => ?_⟩
  have np' := L2.fresh np
  have S3 := S1.trans S2
  have e : (if decide (r ≤ r2) = true then (1 : Int) else 0) = if r ≤ r2 then 1 else 0 := by simp
  refine q p r _ _ (fresh_hid S3 np np') np' (show Le _ pu (k + 2) from (show k + 1 + 1 = k + 2 by omega) ▸ L2.upd np') (S3.trans (same_hid_new np)) upd_same ?_ r0 r1 ?_ ?_
  all_goals rw [e]; split <;> omega
abbrev sp_law_way (K : PySem.W.Frag) : Sp := fun vs H Q E => ∃ v0 v1, vs = [v0, v1] ∧ pr_law_way K v0 v1 H Q E
theorem ok_law_way (T : Txt K mg A) : FnOk P w K mg base CX0 3 A.a_law_way A.d_law_way ["_law_left_here", "_law_many"] (sp_law_way K) := by
  refine T.F_law_way.ok sc_law_way (fun vs H Q E h => by obtain ⟨v0, v1, rfl, _⟩ := h; rfl) (fun cdv A0 outer s H vs Q E hr h => ?_)
  obtain ⟨v0, v1, rfl, h⟩ := h
  exact ⟨t_law_way K, (pss_cons (ps_set (i := 2) sc_law_way.nd rfl (Or.inl rfl) (pe_call (ok_law_draw T) (hr.mono (by decide)) (by rfl) T.g_law_draw T.F_law_draw.kp T.b_law_draw .nil pass0 (pa_cons (pv 0) (pa_cons (pv 1) pa_nil))))
      (pss_cons (ps_set (i := 3) sc_law_way.nd rfl (Or.inl rfl) (pe_call (ok_law_draw T) (hr.mono (by decide)) (by rfl) T.g_law_draw T.F_law_draw.kp T.b_law_draw .nil pass0 (pa_cons (pv 0) (pa_cons (pe_op op_sub (pv 1) pe_int) pa_nil))))
      (pss_one (ps_ret (pe_tup (pa_cons (pv 2) (pa_cons (pe_op op_add (pv 3) (pe_callTy q_intB (by rfl) T.z_int (by decide +kernel) (pa_cons (pe_cmpR op_ge (pv 3) (pv 2) (nomark _)) pa_nil))) pa_nil))))))), pure_law_way h⟩


def WayIn (m : Int) (w : Int × Int) : Prop := w.1 ≠ w.2 ∧ 0 ≤ w.1 ∧ w.1 < m ∧ 0 ≤ w.2 ∧ w.2 < m
/-- a list of drawn ways -/
theorem lc_ways {σ : L2.St} {vs : List Nat} {i j l : Nat} {pu : Addr} {m kk lo : Int} {n : Nat} {H1 : Hp} {QD : Addr → Hp → Prop}
    (hi : ∀ x, ((wipe σ vs).set l (some x))[i]? = some (some (.ref pu))) (hj : ∀ x, ((wipe σ vs).set l (some x))[j]? = some (some (.int m))) (hwp : ∀ x, wipe ((wipe σ vs).set l (some x)) vs = wipe σ vs)
    (L : Le H1 pu kk) (hk : kk + 2 * n < 900000) (m0 : 2 ≤ m) (m1 : m < 2 ^ 100) (hn : n ≤ 10000)
    (h : ∀ D ys ws H', H1 D = none → D ∉ [pu] → Le H' pu (kk + 2 * n) → Same (hid [pu] H1) (hid [pu] H') → H' D = some (.lst ys) → DpAll K (hid [pu, D] H') ys (List.map dPair ws) → ws.length = n → (∀ w ∈ ws, WayIn m w) → QD D H') :
    ∀ D, H1 D = none → ∃ W : Nat → Nat → Hp → Prop, (∃ m, W 0 m (upd H1 D (.lst []))) ∧ ∀ t m' H, W t m' H →
      ((Itr lo n).stop t H ∧ QD D H) ∨ ((Itr lo n).go t H ∧ ∃ Nx : Hp → Prop, (∀ H', Nx H' → ∃ m'', m'' < m' ∧ W (t + 1) m'' H') ∧ ∀ x H', (Itr lo n).yld t H x H' → gName l x (wipe σ vs) H' fun σ2 H2 => wipe σ2 vs = wipe σ vs ∧ tYes σ2 H2 fun b H3 =>
        if b = true then tCall (sp_law_way K) [] E0 (tCons (tVar i) (tCons (tVar j) tNil)) σ2 H3 fun y H4 => ∃ acc, H4 D = some (.lst acc) ∧ acc.length < sizeLine ∧ Nx (upd H4 D (.lst (acc ++ [y]))) else Nx H3) := by
  intro D nD
  have nD' := L.fresh nD
  have fr : hid [pu] H1 D = none := by rw [hid_ne nD']; exact nD
  refine lc_range (fun t H => Le H pu (kk + 2 * t) ∧ Same (hid [pu] H1) (hid [pu] H) ∧ ∃ ys ws, H D = some (.lst ys) ∧ DpAll K (hid [pu, D] H) ys (List.map dPair ws) ∧ ws.length = t ∧ ∀ w ∈ ws, WayIn m w) ⟨by simpa using L.upd nD', same_hid_new nD, [], [], upd_same, .nil, rfl, fun _ z => by cases z⟩ ?_ ?_
  · rintro t H ht ⟨Lt, St, ys, ws, hD, hys, hl, hok⟩
    have ly := dpa_len hys
    rw [List.length_map] at ly
    refine ⟨hwp _, ?_⟩
    refine k_yes (iteT (k_call (k_cons (k_var (hi _) (k_cons (k_var (hj _) (k_nil ?_)))))))
    refine ⟨_, _, rfl, pu, kk + 2 * t, m, rfl, rfl, Lt, by omega, m0, m1, fun p a b H' np np' L' S' hp ne a0 a1 b0 b1 => ?_⟩
    have pd : p ≠ D := fun e => by rw [e, hD] at np; cases np
    refine ⟨ys, keeps S' hD nD', szl (by omega), ?_, ?_, ys ++ [.ref p], ws ++ [(a, b)], upd_same, ?_, by simp [hl], fun w hw => ?_⟩
    · have e : kk + 2 * ((t + 1 : Nat) : Int) = kk + 2 * t + 2 := by omega
      rw [e]; exact L'.upd nD'
    · exact same_hid_mut (St.trans S') fr
    · rw [hid_upd (by simp), List.map_append]
      refine dpa_app (dpa_same (hid_more S' (by simp)) hys) (.cons (dp_of_pair (stp ?_)) .nil)
      rw [hid_ne (not_in2 (fun e => np' (by rw [e]; simp)) pd)]; exact hp
    · rcases List.mem_append.mp hw with hw | hw
      · exact hok w hw
      · have e : w = (a, b) := by simpa using hw
        subst e
        exact ⟨ne, a0, a1, b0, b1⟩
  · rintro H ⟨Lt, St, ys, ws, hD, hys, hl, hok⟩
    exact h D ys ws H nD nD' Lt St hD hys hl hok
def pr_law_ways (K : PySem.W.Frag) (v0 v1 : V) (H : Hp) (Q : VK) (_ : XK) : Prop := ∃ (pu : Addr) (k m : Int), v0 = .ref pu ∧ v1 = .int m ∧ Le H pu k ∧ k < 100000 ∧ 2 ≤ m ∧ m < 1000 ∧ ∀ (p : Addr) (ys : List V) (ws : List (Int × Int)) (k' : Int) (H' : Hp), p ∉ [pu] → Le H' pu k' → k' ≤ k + 100 → Same (hid [pu] H) (hid [pu] H') → H' p = some (.lst ys) → DpAll K (hid [pu, p] H') ys (ws.map dPair) → ws.length ≤ 7 → (∀ w ∈ ws, WayIn m w) → Q (.ref p) H'
theorem dpa_set46 {K : PySem.W.Frag} {H : Hp} : ∀ {vs : List V} {ds : List PyData} {v : V} {d : PyData} (i : Nat), DpAll K H vs ds → Dp K H v d → DpAll K H (vs.set i v) (ds.set i d)
  | _, _, _, _, _, .nil, _ => .nil
  | _, _, _, _, 0, .cons _ r, h => .cons h r
  | _, _, _, _, i + 1, .cons a r, h => .cons a (dpa_set46 i r h)
def t_law_ways (K : PySem.W.Frag) : TS :=
  (tSeq (tAsg (tLc (iRng1 (tCons (tCall (sp_law_draw K) [] E0 (tCons (tVar 0) (tCons (tC (.int 8)) tNil))) tNil)) (gName 3) tYes (tCall (sp_law_way K) [] E0 (tCons (tVar 0) (tCons (tVar 1) tNil))) [3]) (gName 2))
    (tSeq (tIfS (tAnd (tTest (tOp xGt (tCB (rLenX K) (tCons (tVar 2) tNil)) (tC (.int 1)))) (tTest (tOp rEq (tCall (sp_law_draw K) [] E0 (tCons (tVar 0) (tCons (tC (.int 3)) tNil))) (tC (.int 0))))) (tAsg (tOp (rIxL K) (tVar 2) (tC (.int 0))) (gSub (tVar 2) (tC (.int 1)) rSetL)) tNext)
    (tRet (tVar 2))))
theorem pure_law_ways {v0 v1 : V} {H : Hp} {Q : VK} {E : XK} (hh : pr_law_ways K v0 v1 H Q E) : t_law_ways K ⟨fun _ H' => Q .non H', Q, fun _ _ => False, fun _ _ => False⟩ [some v0, some v1, none, none] H := by
  obtain ⟨pu, k, m, rfl, rfl, L, k1, m0, m1, q⟩ := hh
  unfold t_law_ways
  wtm_at "s"
  refine ⟨_, _, rfl, pu, k, 8, rfl, rfl, L, by omega, by decide, by decide, fun c H7 c0 c1 L7 S7 => ?_⟩
  wtm_at "s"
  refine lc_ways (fun x => rfl) (fun x => rfl) (fun x => rfl) L7 (by omega) (by omega) (by omega) (by omega) (fun wl ys ws H8 nwl nwl' L8 S8 e8 d8 lw hw => ?_)
  have fr : hid [pu] H7 wl = none := by rw [hid_ne nwl']; exact nwl
  have ly : ys.length = ws.length := by rw [dpa_len d8, List.length_map]
  have S78 := S7.trans S8
  wtm_at "s"
  refine k_it (fun c2 => ?_) (fun c2 => ?_)
  · wtm_at "s"
    refine ⟨_, _, rfl, pu, _, 3, rfl, rfl, L8, by omega, by decide, by decide, fun r H9 r0 r1 L9 S9 => ?_⟩
    have e9 := keeps S9 e8 nwl'
    have d9 := dpa_same (hid_more S9 (S' := [pu, wl]) (by simp)) d8
    wtm_at "s"
    refine k_it (fun c3 => ?_) (fun c3 => ?_)
    · obtain ⟨v, hv⟩ : ∃ v, ys[0]? = some v := ⟨ys[0]'(by omega), List.getElem?_eq_getElem (by omega)⟩
      obtain ⟨w, cw, hw1, rfl, hcw⟩ := dpairs_get d9 hv
      wtm_at "s"
      refine k_ixL (sl e9) (atI_nat (j := 0) hv) ?_
      wtm_at "s"
      refine k_setL e9 (j := 1) (by unfold ixN; rw [if_pos (by decide), if_pos (by omega)]; rfl) ?_
      wtm_at "s"
      refine q wl (ys.set 1 (.ref cw)) (ws.set 1 w) _ _ nwl' (L9.upd nwl') (by omega) (S7.trans (same_hid_mut (S8.trans S9) fr)) upd_same ?_ (by rw [List.length_set]; omega) (fun x hx => ?_)
      · rw [hid_upd (by simp), List.map_set]
        exact dpa_set46 1 d9 (dp_of_pair hcw)
      · rcases List.mem_or_eq_of_mem_set hx with hx | rfl
        · exact hw x hx
        · exact hw x (List.mem_of_getElem? hw1)
    · wtm_at "s"
      exact q wl ys ws _ _ nwl' L9 (by omega) (S78.trans S9) e9 d9 (by omega) hw
  · wtm_at "s"
    exact q wl ys ws _ _ nwl' L8 (by omega) S78 e8 d8 (by omega) hw
abbrev sp_law_ways (K : PySem.W.Frag) : Sp := fun vs H Q E => ∃ v0 v1, vs = [v0, v1] ∧ pr_law_ways K v0 v1 H Q E
theorem ok_law_ways (T : Txt K mg A) : FnOk P w K mg base CX0 4 A.a_law_ways A.d_law_ways ["_law_left_here", "_law_many"] (sp_law_ways K) := by
  refine T.F_law_ways.ok sc_law_ways (fun vs H Q E h => by obtain ⟨v0, v1, rfl, _⟩ := h; rfl) (fun cdv A0 outer s H vs Q E hr h => ?_)
  obtain ⟨v0, v1, rfl, h⟩ := h
  exact ⟨t_law_ways K, (pss_cons (ps_setLc (i := 2) (own := [("_law_k", 3)]) (by rfl) sc_law_ways.nd rfl rfl (sw_true rfl rfl rfl (by decide +kernel)) (pi_range1 (by rfl) T.z_range (pa_cons (pe_call (ok_law_draw T) (hr.mono (by decide)) (by rfl) T.g_law_draw T.F_law_draw.kp T.b_law_draw .nil pass0 (pa_cons (pv 0) (pa_cons pe_int pa_nil))) pa_nil)) (blkOk_by (own := [("_law_k", 3)]) (N := ["_law_left_here", "_law_many", "_law_ways_here", "_law_k"]) (sc := defScope s_law_ways) (by decide +kernel)) (fun _ _ _ _ _ => (pg_name (i := 3) sc_law_ways.nd rfl (Or.inl rfl))) (fun _ _ _ _ _ => pts_nil) (fun _ _ _ _ _ => (pe_call (ok_law_way T) (hr.mono (by decide)) (by rfl) T.g_law_way T.F_law_way.kp T.b_law_way .nil pass0 (pa_cons (pv 0) (pa_cons (pv 1) pa_nil)))))
      (pss_cons (ps_if (PW.pt (pw_and (pt_cmpR op_gt (pe_callB q_len (by rfl) T.z_len (by decide +kernel) (pa_cons (pv 2) pa_nil)) pe_int (nomark _)) (pw_and1 (pt_cmpR op_eq (pe_call (ok_law_draw T) (hr.mono (by decide)) (by rfl) T.g_law_draw T.F_law_draw.kp T.b_law_draw .nil pass0 (pa_cons (pv 0) (pa_cons pe_int pa_nil))) pe_int (nomark _))))) (pss_one (ps_asg (pe_ix ix_list (pv 2) pe_int (fun _ _ => rfl)) (pg_sub (pv 2) pe_int set_list))) pss_nil)
      (pss_one (ps_ret (pv 2))))), pure_law_ways h⟩


def pr_law_least (K : PySem.W.Frag) (v0 v1 : V) (H : Hp) (Q : VK) (_ : XK) : Prop := ∃ (N : Net) (ws : List (Int × Int)), Dp K H v0 N.d ∧ N.ok ∧ Dp K H v1 (dPairs ws) ∧ ws.length ≤ 12 ∧ (∀ w ∈ ws, isWay N w.1 w.2) ∧ ∀ (h : Int) H', Same H H' → Least (Colr N ws) h → Q (.int h) H'
def t_law_least (K : PySem.W.Frag) : TS :=
  (tSeq (tAsg (tCB (rListOf K) (tCons (tVar 1) tNil)) (gName 2))
    (tRet (tOp (rIxT K) (tCall (sp_fewest K) [] E0 (tCons (tVar 0) (tCons (tVar 2) tNil))) (tC (.int 0)))))
theorem pure_law_least {v0 v1 : V} {H : Hp} {Q : VK} {E : XK} (hh : pr_law_least K v0 v1 H Q E) : t_law_least K ⟨fun _ H' => Q .non H', Q, fun _ _ => False, fun _ _ => False⟩ [some v0, some v1, none] H := by
  obtain ⟨N, ws, d0, ok, d1, hz, hok, q⟩ := hh
  obtain ⟨b, ys, rfl, hb, dys⟩ := dp_list d1
  have ly : ys.length = ws.length := by rw [dpa_len dys, List.length_map]
  unfold t_law_least
  wtm_at "s"
  refine k_listN hb (fun c H1 nc s1 e1 => ?_)
  wtm_at "s"
  refine ⟨_, _, rfl, N, ws, dp_same s1 d0, ok, .lst (sl e1) (dpa_same s1 dys), hz, hok, fun p hl h hs pp pv L H2 fx s2 np ep _ _ _ _ _ _ => ?_⟩
  wtm_at "s"
  exact q (h : Nat) H2 (s1.trans s2) (few_least ok hok hz fx)
abbrev sp_law_least (K : PySem.W.Frag) : Sp := fun vs H Q E => ∃ v0 v1, vs = [v0, v1] ∧ pr_law_least K v0 v1 H Q E
theorem ok_law_least (T : Txt K mg A) : FnOk P w K mg base CX0 19 A.a_law_least A.d_law_least ["_law_net", "_law_ways_here"] (sp_law_least K) := by
  refine T.F_law_least.ok sc_law_least (fun vs H Q E h => by obtain ⟨v0, v1, rfl, _⟩ := h; rfl) (fun cdv A0 outer s H vs Q E hr h => ?_)
  obtain ⟨v0, v1, rfl, h⟩ := h
  exact ⟨t_law_least K, (pss_cons (ps_set (i := 2) sc_law_least.nd rfl (Or.inl rfl) (pe_callTy q_listOf (by rfl) T.z_list (by decide +kernel) (pa_cons (pv 1) pa_nil)))
      (pss_one (ps_ret (pe_ix ix_tup (pe_call (ok_fewest T) (hr.mono (by decide)) (by rfl) T.g_fewest T.F_fewest.kp T.b_fewest .nil pass0 (pa_cons (pv 0) (pa_cons (pv 2) pa_nil))) pe_int (fun _ _ => rfl))))), pure_law_least h⟩


structure Heads46 (N : Net) (ws : List (Int × Int)) (h l : Int) (ls : List Int) : Prop where
  few : Least (Colr N ws) h
  mem : l ∈ loadsOf N ws
  top : ∀ y ∈ loadsOf N ws, y ≤ l
  perm : ls.Perm (loadsOf N ws)
  srt : ls.Pairwise (· ≤ ·)
theorem srt_one : ∀ {l m : List Int}, l.Pairwise (· ≤ ·) → m.Pairwise (· ≤ ·) → l.Perm m → l = m
  | [], m, _, _, p => (List.Perm.nil_eq p)
  | a :: l, [], _, _, p => absurd p.length_eq (by simp)
  | a :: l, b :: m, s, t, p => by
    have s' := List.pairwise_cons.mp s
    have t' := List.pairwise_cons.mp t
    have h1 : b ≤ a := by
      rcases List.mem_cons.mp (p.mem_iff.mp (List.mem_cons_self (a := a) (l := l))) with e | e
      · omega
      · exact t'.1 a e
    have h2 : a ≤ b := by
      rcases List.mem_cons.mp (p.mem_iff.mpr (List.mem_cons_self (a := b) (l := m))) with e | e
      · omega
      · exact s'.1 b e
    obtain rfl : a = b := by omega
    rw [srt_one s'.2 t'.2 (List.Perm.cons_inv p)]
theorem Heads46.one {N N' : Net} {ws ws' : List (Int × Int)} {h l h' l' : Int} {ls ls' : List Int} (a : Heads46 N ws h l ls) (b : Heads46 N' ws' h' l' ls') (c : ∀ k, Colr N' ws' k ↔ Colr N ws k) (p : (loadsOf N' ws').Perm (loadsOf N ws)) : h' = h ∧ l' = l ∧ ls' = ls := by
  refine ⟨b.few.one (a.few.imp fun k => (c k).symm), ?_, srt_one b.srt a.srt (b.perm.trans (p.trans a.perm.symm))⟩
  have h1 := a.top l' (p.mem_iff.mp b.mem)
  have h2 := b.top l (p.mem_iff.mpr a.mem)
  omega
def pr_law_heads (K : PySem.W.Frag) (v0 v1 : V) (H : Hp) (Q : VK) (_ : XK) : Prop := ∃ (N : Net) (ws : List (Int × Int)), Dp K H v0 N.d ∧ N.ok ∧ Dp K H v1 (dPairs ws) ∧ ws.length ≤ 12 ∧ (∀ w ∈ ws, isWay N w.1 w.2) ∧ ∀ p a (h l : Int) (ls : List Int) H', H p = none → H a = none → p ≠ a → Same H H' → H' p = some (.tup [.int h, .int l, .ref a]) → H' a = some (.lst (ls.map V.int)) → Heads46 N ws h l ls → Q (.ref p) H'
def t_law_heads (K : PySem.W.Frag) : TS :=
  (tRet (tTup (tCons (tCall (sp_law_least K) [] E0 (tCons (tVar 0) (tCons (tVar 1) tNil))) (tCons (tCall (sp_load K) [] E0 (tCons (tVar 0) (tCons (tCB (rListOf K) (tCons (tVar 1) tNil)) tNil))) (tCons (tCB (rSortedI K) (tCons (tCall (sp_loads K) [] E0 (tCons (tVar 0) (tCons (tCB (rListOf K) (tCons (tVar 1) tNil)) tNil))) tNil)) tNil)))))
theorem pure_law_heads {v0 v1 : V} {H : Hp} {Q : VK} {E : XK} (hh : pr_law_heads K v0 v1 H Q E) : t_law_heads K ⟨fun _ H' => Q .non H', Q, fun _ _ => False, fun _ _ => False⟩ [some v0, some v1] H := by
  obtain ⟨N, ws, d0, ok, d1, hz, hok, q⟩ := hh
  obtain ⟨b, ys, rfl, hb, dys⟩ := dp_list d1
  have ly : ys.length = ws.length := by rw [dpa_len dys, List.length_map]
  unfold t_law_heads
  wtm_at "s"
  refine ⟨_, _, rfl, N, ws, d0, ok, d1, hz, hok, fun h H1 s1 lh => ?_⟩
  wtm_at "s"
  refine k_listN (s1.seq hb) (fun c H2 nc s2 e2 => ?_)
  have s02 := s1.trans s2
  wtm_at "s"
  refine ⟨_, _, rfl, N, ws, dp_same s02 d0, ok, .lst (sl e2) (dpa_same s02 dys), by omega, hok, fun l H3 s3 m1 m2 => ?_⟩
  have s03 := s02.trans s3
  wtm_at "s"
  refine k_listN (s03.seq hb) (fun c4 H4 nc4 s4 e4 => ?_)
  have s04 := s03.trans s4
  wtm_at "s"
  refine ⟨_, _, rfl, N, ws, dp_same s04 d0, ok, .lst (sl e4) (dpa_same s04 dys), by omega, hok, fun p5 H5 np5 s5 e5 => ?_⟩
  have s05 := s04.trans s5
  wtm_at "s"
  refine k_sortedN (sl e5) (fun ls a H6 pm st na s6 e6 => ?_)
  have s06 := s05.trans s6
  wtm_at "s"
  refine kT (by simp) (fun p H7 np s7 e7 => ?_)
  have na0 := s05.free na
  refine q p a h l ls H7 (s06.free np) na0 (fun z => by rw [z, e6] at np; cases np) (s06.trans s7) e7 (s7 _ _ e6) ⟨lh, m1, m2, pm, st⟩
abbrev sp_law_heads (K : PySem.W.Frag) : Sp := fun vs H Q E => ∃ v0 v1, vs = [v0, v1] ∧ pr_law_heads K v0 v1 H Q E
theorem ok_law_heads (T : Txt K mg A) : FnOk P w K mg base CX0 20 A.a_law_heads A.d_law_heads ["_law_net", "_law_ways_here"] (sp_law_heads K) := by
  refine T.F_law_heads.ok sc_law_heads (fun vs H Q E h => by obtain ⟨v0, v1, rfl, _⟩ := h; rfl) (fun cdv A0 outer s H vs Q E hr h => ?_)
  obtain ⟨v0, v1, rfl, h⟩ := h
  exact ⟨t_law_heads K, (pss_one (ps_ret (pe_tup (pa_cons (pe_call (ok_law_least T) (hr.mono (by decide)) (by rfl) T.g_law_least T.F_law_least.kp T.b_law_least .nil pass0 (pa_cons (pv 0) (pa_cons (pv 1) pa_nil))) (pa_cons (pe_call (ok_load T) (hr.mono (by decide)) (by rfl) T.g_load T.F_load.kp T.b_load .nil pass0 (pa_cons (pv 0) (pa_cons (pe_callTy q_listOf (by rfl) T.z_list (by decide +kernel) (pa_cons (pv 1) pa_nil)) pa_nil))) (pa_cons (pe_callB cr_sortedI (by rfl) T.z_sorted (by decide +kernel) (pa_cons (pe_call (ok_loads T) (hr.mono (by decide)) (by rfl) T.g_loads T.F_loads.kp T.b_loads .nil pass0 (pa_cons (pv 0) (pa_cons (pe_callTy q_listOf (by rfl) T.z_list (by decide +kernel) (pa_cons (pv 1) pa_nil)) pa_nil))) pa_nil)) pa_nil)))))), pure_law_heads h⟩


/-- the places that hang by cut -/
def withL (ps : List Int) (cut n : Nat) : List Nat := (List.range n).filter (below ps cut)
def outL (ps : List Int) (cut n : Nat) : List Nat := (List.range n).filter fun x => !below ps cut x
abbrev natI (l : List Nat) : List Int := l.map fun x : Nat => (x : Int)
theorem natI_mem {l : List Nat} {x : Int} (h : 0 ≤ x) : x ∈ natI l ↔ x.toNat ∈ l := by
  constructor
  · intro m
    obtain ⟨y, hy, e⟩ := List.mem_map.mp m
    rwa [show x.toNat = y by omega]
  · intro m
    exact List.mem_map.mpr ⟨x.toNat, m, by omega⟩
theorem withL_first (ps : List Int) (cut : Nat) : withL ps cut (cut + 1) = [cut] := by
  unfold withL
  rw [List.range_succ, List.filter_append, List.filter_eq_nil_iff.mpr (fun x hx => by rw [below_lt x (List.mem_range.mp hx)]; decide), List.filter_cons_of_pos (below_self cut)]
  rfl
theorem withL_succ (ps : List Int) (cut n : Nat) : withL ps cut (n + 1) = withL ps cut n ++ if below ps cut n = true then [n] else [] := by
  unfold withL
  rw [List.range_succ, List.filter_append]
  by_cases c : below ps cut n = true
  · rw [if_pos c, List.filter_cons_of_pos c]; rfl
  · rw [if_neg c, List.filter_cons_of_neg c]; rfl
theorem withL_mem {ps : List Int} {cut n x : Nat} : x ∈ withL ps cut n ↔ x < n ∧ below ps cut x = true := by
  unfold withL
  rw [List.mem_filter, List.mem_range]
theorem outL_mem {ps : List Int} {cut n x : Nat} : x ∈ outL ps cut n ↔ x < n ∧ below ps cut x = false := by
  unfold outL
  rw [List.mem_filter, List.mem_range]
  cases below ps cut x <;> simp
def pr_law_within (K : PySem.W.Frag) (v0 v1 : V) (H : Hp) (Q : VK) (_ : XK) : Prop := ∃ (ps : List Int) (cut : Nat), Dp K H v0 (dInts ps) ∧ TreeOk ps ∧ 1 ≤ cut ∧ cut ≤ ps.length ∧ v1 = .int (cut : Int) ∧ ∀ p H', H p = none → Same H H' → H' p = some (.lst ((natI (withL ps cut (ps.length + 1))).map V.int)) → Q (.ref p) H'
def t_law_within (K : PySem.W.Frag) : TS :=
  (tSeq (tAsg (tLst (tCons (tVar 1) tNil)) (gName 2))
    (tSeq (tFor (iRng2 (tCons (tOp xAdd (tVar 1) (tC (.int 1))) (tCons (tOp xAdd (tCB (rLenX K) (tCons (tVar 0) tNil)) (tC (.int 1))) tNil))) (gName 3)
      (tIfS (tTest (tOp (rIn K false) (tOp (rIxL K) (tVar 0) (tOp xSub (tVar 3) (tC (.int 1)))) (tVar 2))) (tDrop (tBM K "list" rAppend (tVar 2) (tCons (tVar 3) tNil))) tNext))
    (tRet (tVar 2))))
theorem pure_law_within {v0 v1 : V} {H : Hp} {Q : VK} {E : XK} (hh : pr_law_within K v0 v1 H Q E) : t_law_within K ⟨fun _ H' => Q .non H', Q, fun _ _ => False, fun _ _ => False⟩ [some v0, some v1, none, none] H := by
  obtain ⟨ps, cut, d0, T, c1, c2, rfl, q⟩ := hh
  obtain ⟨b, rfl, hb⟩ := dp_ints d0
  have l60 := T.2.1
  unfold t_law_within
  wtm_at "s"
  refine kL (by simp) (fun fo H1 nfo s1 e1 => ?_)
  wtm_at "s"
  refine forR (fun i σ' H' => Same H H' ∧ H' fo = some (.lst ((natI (withL ps cut (cut + 1 + i))).map V.int)) ∧ ∃ k3, σ' = [some (.ref b), some (.int cut), some (.ref fo), k3]) ⟨s1, by rw [e1, Nat.add_zero, withL_first]; rfl, _, rfl⟩ ?_ ?_
  · rintro i σ' H2 hi ⟨s2, e2, k3, rfl⟩
    have hi' : cut + i < ps.length := by omega
    have ex : (((cut : Int) + 1 + (i : Nat)) - 1) = ((cut + i : Nat) : Int) := by omega
    have r := T.2.2 (cut + i) hi'
    wtm_at "s"
    rw [ex]
    refine k_ixI (s2.seq hb) (by omega) (by omega) ?_
    wtm_at "s"
    have eb : decide (ps.getD ((cut + i : Nat) : Int).toNat 0 ∈ natI (withL ps cut (cut + 1 + i))) = below ps cut (cut + 1 + i) := by
      rw [Int.toNat_natCast, show cut + 1 + i = (cut + i) + 1 by omega, below_step T hi' (by omega)]
      cases z : below ps cut (ps.getD (cut + i) 0).toNat with
      | true => exact decide_eq_true ((natI_mem r.1).mpr (withL_mem.mpr ⟨by omega, z⟩))
      | false => exact decide_eq_false fun m => by rw [(withL_mem.mp ((natI_mem r.1).mp m)).2] at z; cases z
    rw [eb]
    wtm_at "s"
    have lw : (withL ps cut (cut + 1 + i)).length ≤ cut + 1 + i := by
      unfold withL
      have := List.length_filter_le (below ps cut) (List.range (cut + 1 + i))
      rwa [List.length_range] at this
    have su := withL_succ ps cut (cut + 1 + i)
    refine k_itb (fun c => ?_) (fun c => ?_)
    · wtm_at "s"
      refine k_tyL (sl e2) ?_
      wtm_at "s"
      refine k_append e2 (by simp; omega) ?_
      refine ⟨same_mut s2 nfo, ?_, _, rfl⟩
      rw [upd_same, show cut + 1 + (i + 1) = cut + 1 + i + 1 by omega, su, if_pos c]
      simp
    · wtm_at "s"
      refine ⟨s2, ?_, _, rfl⟩
      rw [show cut + 1 + (i + 1) = cut + 1 + i + 1 by omega, su, if_neg (by rw [c]; decide), List.append_nil]
      exact e2
  · rintro σ' H2 ⟨s2, e2, k3, rfl⟩
    wtm_at "s"
    refine q fo H2 nfo s2 ?_
    rw [show cut + 1 + ((ps.length : Int) + 1 - ((cut : Int) + 1)).toNat = ps.length + 1 by omega] at e2
    exact e2
abbrev sp_law_within (K : PySem.W.Frag) : Sp := fun vs H Q E => ∃ v0 v1, vs = [v0, v1] ∧ pr_law_within K v0 v1 H Q E
theorem ok_law_within (T : Txt K mg A) : FnOk P w K mg base CX0 1 A.a_law_within A.d_law_within ["_law_parents", "_law_cut"] (sp_law_within K) := by
  refine T.F_law_within.ok sc_law_within (fun vs H Q E h => by obtain ⟨v0, v1, rfl, _⟩ := h; rfl) (fun cdv A0 outer s H vs Q E hr h => ?_)
  obtain ⟨v0, v1, rfl, h⟩ := h
  exact ⟨t_law_within K, (pss_cons (ps_set (i := 2) sc_law_within.nd rfl (Or.inl rfl) (pe_lst (pa_cons (pv 1) pa_nil)))
      (pss_cons (ps_for PassesOwn.never rfl (pi_range2 (by rfl) T.z_range (pa_cons (pe_op op_add (pv 1) pe_int) (pa_cons (pe_op op_add (pe_callB q_len (by rfl) T.z_len (by decide +kernel) (pa_cons (pv 0) pa_nil)) pe_int) pa_nil))) (pg_name (i := 3) sc_law_within.nd rfl (Or.inl rfl))
      (pss_one (ps_if (pt_cmpR op_in_seq (pe_ix ix_list (pv 0) (pe_op op_sub (pv 3) pe_int) (fun _ _ => rfl)) (pv 2) (by rfl)) (pss_one (ps_expr (pe_bm PySem.F.plainAttrs_list PySem.F.slot_list_append PySem.F.type_list_append mt_append (pv 2) (pa_cons (pv 3) pa_nil)))) pss_nil)))
      (pss_one (ps_ret (pv 2))))), pure_law_within h⟩


def pr_law_star (K : PySem.W.Frag) (v0 v1 v2 : V) (H : Hp) (Q : VK) (_ : XK) : Prop := ∃ (ps : List Int) (ws : List (Int × Int)) (x : Nat), Dp K H v0 (Net.tree ps).d ∧ TreeOk ps ∧ Dp K H v1 (dPairs ws) ∧ ws.length ≤ 60 ∧ (∀ w ∈ ws, isWay (.tree ps) w.1 w.2) ∧ x ≤ ps.length ∧ v2 = .int (x : Int) ∧ ∀ p H', H p = none → Same H H' → (∀ S : List Addr, (∀ b ∈ S, H b ≠ none) → Dp K (hid S H') (.ref p) (.tuple [(Net.tree (starN (hereOf ps (x : Int)).length)).d, dPairs ((crPairs ps (x : Int) ws).map starW)])) → Q (.ref p) H'
def t_law_star (K : PySem.W.Frag) : TS :=
  (tSeq (tAsg (tCall (sp_crossing_at K) [] E0 (tCons (tVar 0) (tCons (tCB (rListOf K) (tCons (tVar 1) tNil)) (tCons (tVar 2) tNil)))) (gTup K 2 (gCons (gName 3) (gCons (gName 4) gNil))))
    (tSeq (tAsg (tLst tNil) (gName 5))
    (tSeq (tFor (iList K (tOp (rIxT K) (tVar 3) (tC (.int 1)))) (gTup K 2 (gCons (gName 6) (gCons (gName 7) gNil)))
      (tDrop (tBM K "list" rAppend (tVar 5) (tCons (tTup (tCons (tOp xAdd (tVar 6) (tC (.int 1))) (tCons (tOp (rIxL K) (tLst (tCons (tOp xAdd (tVar 7) (tC (.int 1))) (tCons (tC (.int 0)) tNil))) (tCB rIntOf (tCons (tOp rEq (tVar 6) (tVar 7)) tNil))) tNil))) tNil))))
    (tRet (tTup (tCons (tTup (tCons (tC (.str (Str.ofString "tree"))) (tCons (tOp rRep (tLst (tCons (tC (.int 0)) tNil)) (tOp (rIxT K) (tVar 3) (tC (.int 0)))) tNil))) (tCons (tVar 5) tNil)))))))
theorem pure_law_star {v0 v1 v2 : V} {H : Hp} {Q : VK} {E : XK} (hh : pr_law_star K v0 v1 v2 H Q E) : t_law_star K ⟨fun _ H' => Q .non H', Q, fun _ _ => False, fun _ _ => False⟩ [some v0, some v1, some v2, none, none, none, none, none] H := by
  obtain ⟨ps, ws, x, d0, T, d1, hz, hok, hx, rfl, q⟩ := hh
  obtain ⟨b, ys, rfl, hb, dys⟩ := dp_list d1
  have ly : ys.length = ws.length := by rw [dpa_len dys, List.length_map]
  obtain ⟨h1, h2⟩ := here_pos T hx
  unfold t_law_star
  wtm_at "s"
  refine k_listN hb (fun c H1 nc s1 e1 => ?_)
  wtm_at "s"
  refine ⟨_, _, _, rfl, ps, ws, (x : Int), rfl, dp_same s1 d0, T, .lst (sl e1) (dpa_same s1 dys), by omega, hok, by omega, by omega, fun cp H2 cn => ?_⟩
  obtain ⟨qa, pl, nl, zs, n1, n2, n3, n4, n5, f1, f2, f3, f4, f5⟩ := cn.ex
  have s2 := cn.same
  have dzs : DpAll K H2 zs ((crPairs ps (x : Int) ws).map dPair) := dpa_same (hid_same _ _) (f4 [] (by simp))
  clear cn f4
  wtm_at "s"
  refine kL (by simp) (fun so H3 nso s3 e3 => ?_)
  wtm_at "s"
  have s13 := s1.trans (s2.trans s3)
  have s02 := s1.trans s2
  have nso0 : H so = none := s02.free nso
  have lz : zs.length = (crPairs ps (x : Int) ws).length := by rw [dpa_len dzs, List.length_map]
  have lc : (crPairs ps (x : Int) ws).length ≤ 60 := Nat.le_trans (List.length_filterMap_le _ _) hz
  refine forL (sl (s3 _ _ f3)) (fun i σ' H' => Same H2 H' ∧ ∃ us k6 k7, H' so = some (.lst us) ∧ us.length = i ∧ (∀ S : List Addr, (∀ b ∈ S, H2 b ≠ none) → DpAll K (hid (so :: S) H') us (((crPairs ps (x : Int) ws).take i).map fun w => dPair (starW w))) ∧ σ' = [some v0, some (.ref b), some (.int x), some (.ref qa), some (.ref nl), some (.ref so), k6, k7]) ⟨s3, [], _, _, e3, rfl, fun _ _ => .nil, rfl⟩ (fun i σ' H' _ z => z.1.seq (sl f3)) ?_ ?_
  · rintro i y σ' H4 hy ⟨s4, us, k6, k7, e4, lu, dus, rfl⟩
    have hi : i < zs.length := (List.getElem?_eq_some_iff.mp hy).1
    obtain ⟨w, cc, hw, rfl, hc⟩ := dpairs_get (dpa_same s4 dzs) hy
    wtm_at "s"
    refine k_tyL (sl e4) ?_
    wtm_at "s"
    refine kL (by simp) (fun l5 H5 nl5 s5 e5 => ?_)
    wtm_at "s"
    obtain ⟨v, hv, hat⟩ : ∃ v : Int, v = (starW w).2 ∧ atI [V.int (w.2 + 1), .int 0] (if decide (w.1 = w.2) = true then 1 else 0) = some (.int v) := by
      unfold starW
      by_cases c : w.1 = w.2
      · exact ⟨0, by rw [if_pos c], by rw [decide_eq_true c]; rfl⟩
      · exact ⟨w.2 + 1, by rw [if_neg c], by rw [decide_eq_false c]; rfl⟩
    refine k_ixL (sl e5) hat ?_
    wtm_at "s"
    refine kT (by simp) (fun p H6 np s6 e6 => ?_)
    wtm_at "s"
    refine k_append ((s5.trans s6) _ _ e4) (by omega) ?_
    have pso : p ≠ so := fun z => by rw [z, s5 _ _ e4] at np; cases np
    refine ⟨same_mut (s4.trans (s5.trans s6)) nso, us ++ [.ref p], _, _, upd_same, by simp [lu], fun S hS => ?_, rfl⟩
    rw [hid_upd (by simp), List.take_add_one, hw]
    simp only [Option.toList, List.map_append, List.map_cons, List.map_nil]
    have npS : p ∉ so :: S := fun z => by
      rcases List.mem_cons.mp z with z | z
      · exact pso z
      · have := hS p z
        cases h : H2 p with
        | none => exact this h
        | some o => rw [(s4.trans s5) _ _ h] at np; cases np
    exact dpa_app (dpa_same (hid_mono (s5.trans s6)) (dus S hS)) (.cons (dp_of_pair (x := (starW w).1) (y := (starW w).2) (stp (by rw [hid_ne npS, ← hv]; exact e6))) .nil)
  · rintro σ' H4 ⟨s4, us, k6, k7, e4, lu, dus, rfl⟩
    rw [lz, List.take_length] at dus
    wtm_at "s"
    refine kL (by simp) (fun l5 H5 nl5 s5 e5 => ?_)
    wtm_at "s"
    refine k_repN e5 (by omega) (by omega) (by simp; omega) (fun l6 H6 nl6 s6 e6 => ?_)
    wtm_at "s"
    refine kT (by simp) (fun t7 H7 nt7 s7 e7 => ?_)
    wtm_at "s"
    refine kT (by simp) (fun p H8 np s8 e8 => ?_)
    have e6' : H6 l6 = some (.lst ((starN (hereOf ps (x : Int)).length).map V.int)) := by
      rw [e6, Int.toNat_natCast]
      unfold starN
      congr 2
      rw [List.map_replicate]
      induction (hereOf ps (x : Int)).length with
      | zero => rfl
      | succ n ih => rw [List.replicate_succ, List.flatten_cons, ih, List.replicate_succ]; rfl
    have s04 := s02.trans s4
    have s48 := s5.trans (s6.trans (s7.trans s8))
    refine q p H8 ((s04.trans (s5.trans (s6.trans s7))).free np) (s04.trans s48) (fun S hS => ?_)
    have out : ∀ {u : Addr} {o : HO}, H u = none → H8 u = some o → hid S H8 u = some o := fun {u o} n e => by
      rw [hid_ne (fun z => hS u z n)]; exact e
    have hS2 : ∀ b ∈ S, H2 b ≠ none := fun b hb z => hS b hb (s02.free z)
    refine .tup (stp (out ((s04.trans (s5.trans (s6.trans s7))).free np) e8)) (.cons (.tup (stp (out ((s04.trans (s5.trans s6)).free nt7) (s8 _ _ e7))) (.cons (.str _) (.cons (dp_of_ints (sl (out ((s04.trans s5).free nl6) ((s7.trans s8) _ _ e6')))) .nil))) (.cons (.lst (sl (out nso0 (s48 _ _ e4))) ?_) .nil))
    rw [List.map_map]
    exact dpa_same ((hid_sub fun a ha => List.mem_cons_of_mem _ ha).trans (hid_mono s48)) (dus S hS2)
abbrev sp_law_star (K : PySem.W.Frag) : Sp := fun vs H Q E => ∃ v0 v1 v2, vs = [v0, v1, v2] ∧ pr_law_star K v0 v1 v2 H Q E
theorem ok_law_star (T : Txt K mg A) : FnOk P w K mg base CX0 5 A.a_law_star A.d_law_star ["_law_net", "_law_ways_here", "_law_place"] (sp_law_star K) := by
  refine T.F_law_star.ok sc_law_star (fun vs H Q E h => by obtain ⟨v0, v1, v2, rfl, _⟩ := h; rfl) (fun cdv A0 outer s H vs Q E hr h => ?_)
  obtain ⟨v0, v1, v2, rfl, h⟩ := h
  exact ⟨t_law_star K, (pss_cons (ps_asg (pe_call (ok_crossing_at T) (hr.mono (by decide)) (by rfl) T.g_crossing_at T.F_crossing_at.kp T.b_crossing_at .nil pass0 (pa_cons (pv 0) (pa_cons (pe_callTy q_listOf (by rfl) T.z_list (by decide +kernel) (pa_cons (pv 1) pa_nil)) (pa_cons (pv 2) pa_nil)))) (pg_tup (by rfl) (pgs_cons (pg_name (i := 3) sc_law_star.nd rfl (Or.inl rfl)) (pgs_cons (pg_name (i := 4) sc_law_star.nd rfl (Or.inl rfl)) pgs_nil))))
      (pss_cons (ps_set (i := 5) sc_law_star.nd rfl (Or.inl rfl) (pe_lst pa_nil))
      (pss_cons (ps_for PassesOwn.never rfl (pi_list (pe_ix ix_tup (pv 3) pe_int (fun _ _ => rfl))) (pg_tup (by rfl) (pgs_cons (pg_name (i := 6) sc_law_star.nd rfl (Or.inl rfl)) (pgs_cons (pg_name (i := 7) sc_law_star.nd rfl (Or.inl rfl)) pgs_nil)))
      (pss_one (ps_expr (pe_bm PySem.F.plainAttrs_list PySem.F.slot_list_append PySem.F.type_list_append mt_append (pv 5) (pa_cons (pe_tup (pa_cons (pe_op op_add (pv 6) pe_int) (pa_cons (pe_ix ix_list (pe_lst (pa_cons (pe_op op_add (pv 7) pe_int) (pa_cons pe_int pa_nil))) (pe_callTy q_intB (by rfl) T.z_int (by decide +kernel) (pa_cons (pe_cmpR op_eq (pv 6) (pv 7) (nomark _)) pa_nil)) (fun _ _ => rfl)) pa_nil))) pa_nil)))))
      (pss_one (ps_ret (pe_tup (pa_cons (pe_tup (pa_cons pe_str (pa_cons (pe_op op_rep (pe_lst (pa_cons pe_int pa_nil)) (pe_ix ix_tup (pv 3) pe_int (fun _ _ => rfl))) pa_nil))) (pa_cons (pv 5) pa_nil)))))))), pure_law_star h⟩


/-- a half of a tree, the places kept told -/
structure Half0 (ps : List Int) (kp : List Nat) (cut hang : Nat) : Prop where
  srt : kp.Pairwise (· < ·)
  ne : 0 < kp.length
  lt : kp.length < 60
  le : ∀ x ∈ kp, x ≤ ps.length
  edge : ∀ z, z < ps.length → z + 1 ≠ cut → (z + 1 ∈ kp ↔ (ps.getD z 0).toNat ∈ kp)
  c1 : 1 ≤ cut
  c2 : cut ≤ ps.length
  ct : (cut ∈ kp ∧ hang = cut ∧ (ps.getD (cut - 1) 0).toNat ∉ kp) ∨ (cut ∉ kp ∧ hang = (ps.getD (cut - 1) 0).toNat ∧ hang ∈ kp)
  first : ∀ j, j + 1 < kp.length → kp.getD (j + 1) 0 ≠ cut
def qsOf (ps : List Int) (kp : List Nat) (hang : Nat) : List Int := ((kp.drop 1).map fun k => ((kp.idxOf (ps.getD (k - 1) 0).toNat : Nat) : Int)) ++ [((kp.idxOf hang : Nat) : Int)]
theorem qs_len {ps : List Int} {kp : List Nat} {hang : Nat} (h : 0 < kp.length) : (qsOf ps kp hang).length = kp.length := by
  unfold qsOf
  rw [List.length_append, List.length_map, List.length_drop, List.length_singleton]; omega
theorem Half0.mk' {ps : List Int} {kp : List Nat} {cut hang : Nat} (A : Half0 ps kp cut hang) : Half ps kp cut hang (qsOf ps kp hang) := by
  refine ⟨A.srt, A.ne, A.lt, A.le, A.edge, A.c1, A.c2, A.ct, A.first, qs_len A.ne, fun j hj => ?_, ?_⟩
  · unfold qsOf
    rw [List.getD_eq_getElem?_getD, List.getElem?_append_left (by rw [List.length_map, List.length_drop]; omega), List.getElem?_map, List.getElem?_drop, Nat.add_comm 1 j, List.getElem?_eq_getElem hj, getD_of hj]
    rfl
  · unfold qsOf
    rw [List.getD_eq_getElem?_getD, List.getElem?_append_right (by rw [List.length_map, List.length_drop]; exact Nat.le_refl _), List.length_map, List.length_drop, Nat.sub_self]
    rfl
def nmS (kp : List Nat) (i : Nat) : List (Int × Int) := (List.range i).map fun j => (((kp.getD j 0 : Nat) : Int), ((j : Nat) : Int))
theorem nmS_succ (kp : List Nat) (i : Nat) : nmS kp (i + 1) = nmS kp i ++ [(((kp.getD i 0 : Nat) : Int), ((i : Nat) : Int))] := by
  unfold nmS
  rw [List.range_succ, List.map_append]; rfl
theorem nmS_len (kp : List Nat) (i : Nat) : (nmS kp i).length = i := by unfold nmS; simp
theorem nmS_look {kp : List Nat} (s : kp.Pairwise (· < ·)) : ∀ {i}, i ≤ kp.length → ∀ x : Int, 0 ≤ x → lookS (nmS kp i) x = if kp.idxOf x.toNat < i then some ((kp.idxOf x.toNat : Nat) : Int) else none
  | 0, _, x, _ => by rw [if_neg (by omega)]; rfl
  | i + 1, hi, x, x0 => by
    have ih := nmS_look s (i := i) (by omega)
    have no : lookS (nmS kp i) ((kp.getD i 0 : Nat) : Int) = none := by
      rw [ih _ (by omega), Int.toNat_natCast, getD_of (by omega), idx_at s (by omega), if_neg (by omega)]
    rw [nmS_succ, look_add no, ih x x0]
    by_cases c : x = ((kp.getD i 0 : Nat) : Int)
    · rw [if_pos c, c, Int.toNat_natCast, getD_of (by omega), idx_at s (by omega), if_pos (by omega)]
    · rw [if_neg c]
      have : kp.idxOf x.toNat ≠ i := fun z => c (by
        have l : kp.idxOf x.toNat < kp.length := by omega
        have g : kp[kp.idxOf x.toNat] = x.toNat := List.getElem_idxOf l
        rw [getD_of (by omega)]
        simp only [z] at g
        omega)
      by_cases d : kp.idxOf x.toNat < i
      · rw [if_pos d, if_pos (by omega)]
      · rw [if_neg d, if_neg (by omega)]
def pr_law_side (K : PySem.W.Frag) (v0 v1 v2 v3 : V) (H : Hp) (Q : VK) (_ : XK) : Prop := ∃ (ps : List Int) (ws : List (Int × Int)) (kp : List Nat) (cut hang : Nat), Dp K H v0 (dInts ps) ∧ TreeOk ps ∧ Dp K H v1 (dPairs ws) ∧ ws.length ≤ 60 ∧ (∀ w ∈ ws, isWay (.tree ps) w.1 w.2) ∧ Dp K H v2 (dInts (natI kp)) ∧ Half0 ps kp cut hang ∧ v3 = .int (hang : Int) ∧ ∀ p H', Same H H' → Dp K H' (.ref p) (.tuple [(Net.tree (qsOf ps kp hang)).d, dPairs ((ws.filter (keepB kp)).map (keepW kp))]) → Q (.ref p) H'
def t_law_side (K : PySem.W.Frag) : TS :=
  (tSeq (tAsg tDNewK (gName 4))
    (tSeq (tFor (iList K (tVar 2)) (gName 5)
      (sDPut (tVar 4) (tVar 5) (tCB rLenD (tCons (tVar 4) tNil))))
    (tSeq (tAsg (tCB (rLenX K) (tCons (tVar 2) tNil)) (gName 6))
    (tSeq (tAsg (tOp rCat (tLc (iList K (tSl (rSlL K) (tVar 2) (tPart (tC (.int 1))) tNoPart)) (gName 5) tYes (tDGet (tVar 4) (tOp (rIxL K) (tVar 0) (tOp xSub (tVar 5) (tC (.int 1))))) [5]) (tLst (tCons (tDGet (tVar 4) (tVar 3)) tNil))) (gName 7))
    (tSeq (tAsg (tLst tNil) (gName 8))
    (tSeq (tFor (iList K (tVar 1)) (gTup K 2 (gCons (gName 9) (gCons (gName 10) gNil)))
      (tIfS (tOr (tB (tDIn (tVar 9) (tVar 4))) (tB (tDIn (tVar 10) (tVar 4)))) (tDrop (tBM K "list" rAppend (tVar 8) (tCons (tTup (tCons (tDGet2 (tVar 4) (tVar 9) (tVar 6)) (tCons (tDGet2 (tVar 4) (tVar 10) (tVar 6)) tNil))) tNil))) tNext))
    (tRet (tTup (tCons (tTup (tCons (tC (.str (Str.ofString "tree"))) (tCons (tVar 7) tNil))) (tCons (tVar 8) tNil))))))))))
theorem pure_law_side {v0 v1 v2 v3 : V} {H : Hp} {Q : VK} {E : XK} (hh : pr_law_side K v0 v1 v2 v3 H Q E) : t_law_side K ⟨fun _ H' => Q .non H', Q, fun _ _ => False, fun _ _ => False⟩ [some v0, some v1, some v2, some v3, none, none, none, none, none, none, none] H := by
  obtain ⟨ps, ws, kp, cut, hang, d0, T, d1, hz, hok, d2, A, rfl, q⟩ := hh
  obtain ⟨pb, rfl, hpb⟩ := dp_ints d0
  obtain ⟨b, ys, rfl, hb, dys⟩ := dp_list d1
  have ly : ys.length = ws.length := by rw [dpa_len dys, List.length_map]
  obtain ⟨kb, rfl, hkb⟩ := dp_ints d2
  have B := A.mk'
  have h60 := A.lt
  have hne := A.ne
  have lkp : (natI kp).length = kp.length := by simp
  have at_ : ∀ {i}, i < kp.length → (natI kp).getD i 0 = ((kp.getD i 0 : Nat) : Int) := fun {i} hi => by
    rw [List.getD_eq_getElem?_getD, List.getElem?_map, List.getElem?_eq_getElem hi, getD_of hi]; rfl
  unfold t_law_side
  wtm_at "s"
  refine kD (fun nd H1 nnd s1 e1 => ?_)
  wtm_at "s"
  refine forL (s1.seq hkb) (fun i σ' H' => Same H H' ∧ H' nd = some (.dK (dS (nmS kp i))) ∧ ∃ k5, σ' = [some (.ref pb), some (.ref b), some (.ref kb), some (.int hang), some (.ref nd), k5, none, none, none, none, none]) ⟨s1, e1, _, rfl⟩ (fun i σ' H' _ z => z.1.seq hkb) ?_ ?_
  · rintro i x σ' H2 hx ⟨s2, e2, k5, rfl⟩
    have hi : i < kp.length := by
      have := (List.getElem?_eq_some_iff.mp hx).1
      rw [List.length_map, lkp] at this
      exact this
    obtain rfl : x = .int ((kp.getD i 0 : Nat) : Int) := by
      rw [List.getElem?_map, List.getElem?_map, List.getElem?_eq_getElem hi] at hx
      injection hx with hx
      rw [getD_of hi, ← hx]
    wtm_at "s"
    refine k_lenD e2 ?_
    wtm_at "s"
    have no : lookS (nmS kp i) ((kp.getD i 0 : Nat) : Int) = none := by
      rw [nmS_look A.srt (by omega) _ (by omega), Int.toNat_natCast, getD_of hi, idx_at A.srt hi, if_neg (by omega)]
    refine k_pD e2 (by rw [dS_len, nmS_len]; omega) ?_
    rw [dS_len, nmS_len, dS_put no, ← nmS_succ]
    exact ⟨same_mut s2 nnd, upd_same, _, rfl⟩
  rintro σ' H2 ⟨s2, e2, k5, rfl⟩
  rw [List.length_map, lkp] at e2
  have lk : ∀ x : Int, 0 ≤ x → lookS (nmS kp kp.length) x = if kp.idxOf x.toNat < kp.length then some ((kp.idxOf x.toNat : Nat) : Int) else none := fun x x0 => nmS_look A.srt (Nat.le_refl _) x x0
  wtm_at "s"
  refine k_slL (s2.seq hkb) (fun c3 H3 nc3 s3 e3 => ?_)
  rw [show (1 : Int) = ((1 : Nat) : Int) from rfl, cut_from, ← List.map_drop] at e3
  replace e3 : H3 c3 = some (.lst ((kp.drop 1).map fun k : Nat => V.int (k : Int))) := by
    rw [e3, show natI kp = kp.map (fun x : Nat => (x : Int)) from rfl, ← List.map_drop, List.map_map]; rfl
  wtm_at "s"
  refine lc_pure (sl e3) (kp.drop 1) (by rw [List.length_map]) (by rw [List.length_drop]; omega) (fun k => some (V.int ((kp.idxOf (ps.getD (k - 1) 0).toNat : Nat) : Int))) ?_ (fun D4 H4 nD4 s4 e4 => ?_)
  · intro i x k H' hx hk sm R R0 g1 g2
    rw [List.getElem?_map, hk] at hx
    injection hx with hx
    subst hx
    have hk' : kp[i + 1]? = some k := by rw [List.getElem?_drop, Nat.add_comm 1 i] at hk; exact hk
    have hj : i + 1 < kp.length := (List.getElem?_eq_some_iff.mp hk').1
    have gk : kp.getD (i + 1) 0 = k := by rw [List.getD_eq_getElem?_getD, hk']; rfl
    obtain ⟨n1, n2, n3, n4, n5⟩ := B.next T hj
    rw [gk] at n1 n2 n3 n4 n5
    have r := T.2.2 (k - 1) (by omega)
    wtm_at "s"
    refine k_ixI ((s2.trans (s3.trans sm)).seq hpb) (by omega) (by omega) ?_
    rw [show ((k : Int) - 1).toNat = k - 1 by omega]
    refine k_gD1 (.inl ((s3.trans sm) _ _ e2)) (v := .int ((kp.idxOf (ps.getD (k - 1) 0).toNat : Nat) : Int)) (by rw [dS_val, lk _ r.1, if_pos (List.idxOf_lt_length_of_mem n4)]; rfl) ?_
    exact g1 _ rfl
  have e2' := (s3.trans s4) _ _ e2
  wtm_at "s"
  refine k_gD1 (.inl e2') (v := .int ((kp.idxOf hang : Nat) : Int)) (by rw [dS_val, lk _ (by omega), Int.toNat_natCast, if_pos (List.idxOf_lt_length_of_mem B.hang_in)]; rfl) ?_
  wtm_at "s"
  refine kL (by simp) (fun l5 H5 nl5 s5 e5 => ?_)
  wtm_at "s"
  refine k_catN (s5 _ _ e4) e5 (by
    have := List.length_filterMap_le (fun k => some (V.int ((kp.idxOf (ps.getD (k - 1) 0).toNat : Nat) : Int))) (kp.drop 1)
    rw [List.length_drop] at this
    simp only [List.length_cons, List.length_nil]
    omega) (fun fo H6 nfo s6 e6 => ?_)
  have e6' : H6 fo = some (.lst ((qsOf ps kp hang).map V.int)) := by
    rw [e6]
    unfold qsOf
    rw [List.map_append, List.map_map, ← List.filterMap_eq_map]
    rfl
  wtm_at "s"
  refine kL (by simp) (fun so H7 nso s7 e7 => ?_)
  have s26 := s3.trans (s4.trans (s5.trans s6))
  have s06 := s2.trans s26
  have e26 := s26 _ _ e2
  wtm_at "s"
  refine forL ((s06.trans s7).seq hb) (fun i σ' H' => Same H6 H' ∧ ∃ us k9 k10, H' so = some (.lst us) ∧ us.length ≤ i ∧ DpAll K (hid [so] H') us ((((ws.take i).filter (keepB kp)).map (keepW kp)).map dPair) ∧ σ' = [some (.ref pb), some (.ref b), some (.ref kb), some (.int hang), some (.ref nd), k5, some (.int (kp.length : Nat)), some (.ref fo), some (.ref so), k9, k10]) ⟨s7, [], _, _, e7, Nat.le_refl _, .nil, by rw [lkp]⟩ (fun i σ' H' _ z => (s06.trans z.1).seq hb) ?_ ?_
  · rintro i y σ' H8 hy ⟨s8, us, k9, k10, e8, lu, dus, rfl⟩
    have hi : i < ys.length := (List.getElem?_eq_some_iff.mp hy).1
    obtain ⟨w, cc, hw, rfl, hc⟩ := dpairs_get (dpa_same (s06.trans s8) dys) hy
    obtain ⟨w1, w2, w3, w4, w5⟩ := hok w (List.mem_of_getElem? hw)
    have e28 := s8 _ _ e26
    have in_ : ∀ x : Int, 0 ≤ x → ((valV (dS (nmS kp kp.length)) (.inl x)).isSome = decide (x.toNat ∈ kp)) := fun x x0 => by
      rw [dS_val, lk x x0]
      by_cases m : x.toNat ∈ kp
      · rw [if_pos (List.idxOf_lt_length_of_mem m), decide_eq_true m]; rfl
      · rw [if_neg (by rw [idx_out m]; omega), decide_eq_false m]; rfl
    have gt : ∀ x : Int, 0 ≤ x → (valV (dS (nmS kp kp.length)) (.inl x)).getD (.int (kp.length : Nat)) = .int ((kp.idxOf x.toNat : Nat) : Int) := fun x x0 => by
      rw [dS_val, lk x x0]
      by_cases m : x.toNat ∈ kp
      · rw [if_pos (List.idxOf_lt_length_of_mem m)]; rfl
      · rw [if_neg (by rw [idx_out m]; omega), idx_out m]; rfl
    have step : ((((ws.take (i + 1)).filter (keepB kp)).map (keepW kp)).map dPair) = ((((ws.take i).filter (keepB kp)).map (keepW kp)).map dPair) ++ if keepB kp w = true then [dPair (keepW kp w)] else [] := by
      rw [List.take_add_one, hw, List.filter_append, List.map_append, List.map_append]
      congr 1
      show (([w].filter (keepB kp)).map (keepW kp)).map dPair = _
      by_cases c : keepB kp w = true
      · rw [if_pos c, List.filter_cons_of_pos c]; rfl
      · rw [if_neg c, List.filter_cons_of_neg c]; rfl
    wtm_at "s"
    refine k_iD e28 ?_
    rw [if_neg (by decide), in_ _ w2]
    cases m1 : decide (w.1.toNat ∈ kp)
    · wtm_at "s"
      refine k_iD e28 ?_
      rw [if_neg (by decide), in_ _ w3]
      cases m2 : decide (w.2.toNat ∈ kp)
      · wtm_at "s"
        exact ⟨s8, us, _, _, e8, by omega, by rw [step, if_neg (by unfold keepB; rw [m1, m2]; decide), List.append_nil]; exact dus, rfl⟩
      · wtm_at "s"
        have kt : keepB kp w = true := by unfold keepB; rw [m1, m2]; rfl
        refine k_tyL (sl e8) ?_
        wtm_at "s"
        refine k_aD e28 ?_
        wtm_at "s"
        refine k_gD2 e28 ?_
        rw [gt _ w2]
        wtm_at "s"
        refine k_aD e28 ?_
        wtm_at "s"
        refine k_gD2 e28 ?_
        rw [gt _ w3]
        wtm_at "s"
        refine kT (by simp) (fun p H9 np s9 e9 => ?_)
        wtm_at "s"
        refine k_append (s9 _ _ e8) (by omega) ?_
        refine ⟨same_mut (s8.trans s9) nso, us ++ [.ref p], _, _, upd_same, by simp; omega, ?_, rfl⟩
        rw [hid_upd (by simp), step, if_pos kt]
        exact dpa_app (dpa_same (hid_mono s9) dus) (.cons (dp_of_pair (x := (keepW kp w).1) (y := (keepW kp w).2) (stp (by rw [hid_ne (fun z => by rw [List.mem_singleton.mp z, e8] at np; cases np)]; exact e9))) .nil)
    · wtm_at "s"
      have kt : keepB kp w = true := by unfold keepB; rw [m1]; rfl
      refine k_tyL (sl e8) ?_
      wtm_at "s"
      refine k_aD e28 ?_
      wtm_at "s"
      refine k_gD2 e28 ?_
      rw [gt _ w2]
      wtm_at "s"
      refine k_aD e28 ?_
      wtm_at "s"
      refine k_gD2 e28 ?_
      rw [gt _ w3]
      wtm_at "s"
      refine kT (by simp) (fun p H9 np s9 e9 => ?_)
      wtm_at "s"
      refine k_append (s9 _ _ e8) (by omega) ?_
      refine ⟨same_mut (s8.trans s9) nso, us ++ [.ref p], _, _, upd_same, by simp; omega, ?_, rfl⟩
      rw [hid_upd (by simp), step, if_pos kt]
      exact dpa_app (dpa_same (hid_mono s9) dus) (.cons (dp_of_pair (x := (keepW kp w).1) (y := (keepW kp w).2) (stp (by rw [hid_ne (fun z => by rw [List.mem_singleton.mp z, e8] at np; cases np)]; exact e9))) .nil)
  · rintro σ' H8 ⟨s8, us, k9, k10, e8, lu, dus, rfl⟩
    rw [List.take_of_length_le (by omega)] at dus
    wtm_at "s"
    refine kT (by simp) (fun t9 H9 nt9 s9 e9 => ?_)
    wtm_at "s"
    refine kT (by simp) (fun p HA np sA eA => ?_)
    have s8A := s9.trans sA
    refine q p HA (s06.trans (s8.trans s8A)) (.tup (stp eA) (.cons (.tup (stp (sA _ _ e9)) (.cons (.str _) (.cons (dp_of_ints (sl ((s8.trans s8A) _ _ e6'))) .nil))) (.cons (.lst (sl (s8A _ _ e8)) (dpa_same ((hid_same _ _).trans s8A) dus)) .nil)))
abbrev sp_law_side (K : PySem.W.Frag) : Sp := fun vs H Q E => ∃ v0 v1 v2 v3, vs = [v0, v1, v2, v3] ∧ pr_law_side K v0 v1 v2 v3 H Q E
theorem ok_law_side (T : Txt K mg A) : FnOk P w K mg base CX0 1 A.a_law_side A.d_law_side ["_law_parents", "_law_ways_here", "_law_keep", "_law_hang"] (sp_law_side K) := by
  refine T.F_law_side.ok sc_law_side (fun vs H Q E h => by obtain ⟨v0, v1, v2, v3, rfl, _⟩ := h; rfl) (fun cdv A0 outer s H vs Q E hr h => ?_)
  obtain ⟨v0, v1, v2, v3, rfl, h⟩ := h
  exact ⟨t_law_side K, (pss_cons (ps_set (i := 4) sc_law_side.nd rfl (Or.inr rfl) pe_dnewK)
      (pss_cons (ps_for PassesOwn.never rfl (pi_list (pv 2)) (pg_name (i := 5) sc_law_side.nd rfl (Or.inl rfl))
      (pss_one (ps_dput (Nat.lt_of_le_of_lt (Nat.add_le_add_left (by decide) _) hr.units) (pv 4) (pv 5) (pe_callB q_lenD (by rfl) T.z_len (by decide +kernel) (pa_cons (pv 4) pa_nil)) (by rfl))))
      (pss_cons (ps_set (i := 6) sc_law_side.nd rfl (Or.inl rfl) (pe_callB q_len (by rfl) T.z_len (by decide +kernel) (pa_cons (pv 2) pa_nil)))
      (pss_cons (ps_set (i := 7) sc_law_side.nd rfl (Or.inl rfl) (pe_op op_cat (pe_lc (own := [("_law_place", 5)]) (by rfl) sc_law_side.nd (pi_list (pe_slice sl_list (pv 2) (po_some pe_int) po_none)) (blkOk_by (own := [("_law_place", 5)]) (N := ["_law_parents", "_law_ways_here", "_law_keep", "_law_hang", "_law_names", "_law_place", "_law_far", "_law_found", "_law_some", "_law_a", "_law_b"]) (sc := defScope s_law_side) (by decide +kernel)) (fun _ _ _ _ _ => (pg_name (i := 5) sc_law_side.nd rfl (Or.inl rfl))) (fun _ _ _ _ _ => pts_nil) (fun _ _ _ _ _ => (pe_dget (Nat.lt_of_le_of_lt (Nat.add_le_add_left (by decide) _) hr.units) (pv 4) (pe_ix ix_list (pv 0) (pe_op op_sub (pv 5) pe_int) (fun _ _ => rfl)) (fun _ _ => rfl)))) (pe_lst (pa_cons (pe_dget (Nat.lt_of_le_of_lt (Nat.add_le_add_left (by decide) _) hr.units) (pv 4) (pv 3) (fun _ _ => rfl)) pa_nil))))
      (pss_cons (ps_set (i := 8) sc_law_side.nd rfl (Or.inl rfl) (pe_lst pa_nil))
      (pss_cons (ps_for PassesOwn.never rfl (pi_list (pv 1)) (pg_tup (by rfl) (pgs_cons (pg_name (i := 9) sc_law_side.nd rfl (Or.inl rfl)) (pgs_cons (pg_name (i := 10) sc_law_side.nd rfl (Or.inl rfl)) pgs_nil)))
      (pss_one (ps_if (PW.pt (pw_or (pt_cmp (pc_din (Nat.lt_of_le_of_lt (Nat.add_le_add_left (by decide) _) hr.units) (pv 9) (pv 4)) (by rfl)) (pw_or1 (pt_cmp (pc_din (Nat.lt_of_le_of_lt (Nat.add_le_add_left (by decide) _) hr.units) (pv 10) (pv 4)) (by rfl))))) (pss_one (ps_expr (pe_bm PySem.F.plainAttrs_list PySem.F.slot_list_append PySem.F.type_list_append mt_append (pv 8) (pa_cons (pe_tup (pa_cons (pe_dget2 (Nat.lt_of_le_of_lt (Nat.add_le_add_left (by decide) _) hr.units) (pv 4) (pv 9) (pv 6) ⟨rfl, rfl, rfl, rfl⟩) (pa_cons (pe_dget2 (Nat.lt_of_le_of_lt (Nat.add_le_add_left (by decide) _) hr.units) (pv 4) (pv 10) (pv 6) ⟨rfl, rfl, rfl, rfl⟩) pa_nil))) pa_nil)))) pss_nil)))
      (pss_one (ps_ret (pe_tup (pa_cons (pe_tup (pa_cons pe_str (pa_cons (pv 7) pa_nil))) (pa_cons (pv 8) pa_nil))))))))))), pure_law_side h⟩


theorem half_in {ps : List Int} (T : TreeOk ps) {cut : Nat} (c1 : 1 ≤ cut) (c2 : cut ≤ ps.length) : Half0 ps (withL ps cut (ps.length + 1)) cut cut := by
  have l60 := T.2.1
  have cin : cut ∈ withL ps cut (ps.length + 1) := withL_mem.mpr ⟨by omega, below_self cut⟩
  have srt : (withL ps cut (ps.length + 1)).Pairwise (· < ·) := List.pairwise_lt_range.filter _
  have r := T.2.2 (cut - 1) (by omega)
  have ge : ∀ x ∈ withL ps cut (ps.length + 1), cut ≤ x := fun x hx => by
    refine Classical.byContradiction fun z => ?_
    have := (withL_mem.mp hx).2
    rw [below_lt x (by omega)] at this
    cases this
  refine ⟨srt, List.length_pos_of_mem cin, ?_, fun x hx => by have := (withL_mem.mp hx).1; omega, fun z hz ne => ?_, c1, c2, .inl ⟨cin, rfl, fun m => ?_⟩, fun j hj e => ?_⟩
  · refine Nat.lt_of_le_of_lt (m := ps.length) ?_ l60
    have h : ((withL ps cut (ps.length + 1)).map fun x => x - 1).Nodup := by
      refine List.nodup_iff_pairwise_ne.mpr (List.pairwise_map.mpr (List.Pairwise.imp_of_mem ?_ srt))
      intro a b ha hb hab z
      have := ge a ha
      have := ge b hb
      omega
    have := nd_len (n := ps.length) h (fun x hx => by
      obtain ⟨y, hy, rfl⟩ := List.mem_map.mp hx
      have := (withL_mem.mp hy).1
      have := ge y hy
      omega)
    rwa [List.length_map] at this
  · have rz := T.2.2 z hz
    rw [withL_mem, withL_mem, below_step T hz (fun y => ne y.symm)]
    constructor
    · exact fun h => ⟨by omega, h.2⟩
    · exact fun h => ⟨by omega, h.2⟩
  · have := ge _ m
    omega
  · have h0 : (withL ps cut (ps.length + 1))[0]'(by omega) < (withL ps cut (ps.length + 1))[j + 1] := List.pairwise_iff_getElem.mp srt 0 (j + 1) (by omega) hj (by omega)
    rw [getD_of hj] at e
    have := ge _ (List.getElem_mem (show 0 < (withL ps cut (ps.length + 1)).length by omega))
    omega
theorem half_out {ps : List Int} (T : TreeOk ps) {cut : Nat} (c1 : 1 ≤ cut) (c2 : cut ≤ ps.length) : Half0 ps (outL ps cut (ps.length + 1)) cut (ps.getD (cut - 1) 0).toNat := by
  have l60 := T.2.1
  have r := T.2.2 (cut - 1) (by omega)
  have pin : (ps.getD (cut - 1) 0).toNat ∈ outL ps cut (ps.length + 1) := outL_mem.mpr ⟨by omega, below_lt _ (by omega)⟩
  have cout : cut ∉ outL ps cut (ps.length + 1) := fun m => by
    have := (outL_mem.mp m).2
    rw [below_self] at this
    cases this
  have srt : (outL ps cut (ps.length + 1)).Pairwise (· < ·) := List.pairwise_lt_range.filter _
  refine ⟨srt, List.length_pos_of_mem pin, ?_, fun x hx => by have := (outL_mem.mp hx).1; omega, fun z hz ne => ?_, c1, c2, .inr ⟨cout, rfl, pin⟩, fun j hj e => ?_⟩
  · refine Nat.lt_of_le_of_lt (m := ps.length) ?_ l60
    have h : (cut :: outL ps cut (ps.length + 1)).Nodup := List.nodup_cons.mpr ⟨cout, List.nodup_iff_pairwise_ne.mpr (srt.imp fun h => by omega)⟩
    have := nd_len (n := ps.length + 1) h (fun x hx => by
      rcases List.mem_cons.mp hx with rfl | hx
      · omega
      · exact (outL_mem.mp hx).1)
    rw [List.length_cons] at this
    omega
  · have rz := T.2.2 z hz
    rw [outL_mem, outL_mem, below_step T hz (fun y => ne y.symm)]
    constructor
    · exact fun h => ⟨by omega, h.2⟩
    · exact fun h => ⟨by omega, h.2⟩
  · rw [getD_of hj] at e
    have m := List.getElem_mem hj
    rw [e] at m
    exact cout m
def pr_law_of_halves (K : PySem.W.Frag) (v0 v1 v2 : V) (H : Hp) (Q : VK) (_ : XK) : Prop := ∃ (ps : List Int) (ws : List (Int × Int)) (cut : Nat) (h0 : Int), Dp K H v0 (dInts ps) ∧ TreeOk ps ∧ Dp K H v1 (dPairs ws) ∧ ws.length ≤ 12 ∧ (∀ w ∈ ws, isWay (.tree ps) w.1 w.2) ∧ 1 ≤ cut ∧ cut ≤ ps.length ∧ v2 = .int (cut : Int) ∧ Least (Colr (.tree ps) ws) h0 ∧ ∀ H', Same H H' → Q (.int h0) H'
def t_law_of_halves (K : PySem.W.Frag) : TS :=
  (tSeq (tAsg (tCall (sp_law_within K) [] E0 (tCons (tVar 0) (tCons (tVar 2) tNil))) (gName 3))
    (tSeq (tAsg (tLc (iRng1 (tCons (tOp xAdd (tCB (rLenX K) (tCons (tVar 0) tNil)) (tC (.int 1))) tNil)) (gName 9) (tTest (tOp (rIn K true) (tVar 9) (tVar 3))) (tVar 9) [9]) (gName 4))
    (tSeq (tAsg (tCall (sp_law_side K) [] E0 (tCons (tVar 0) (tCons (tVar 1) (tCons (tVar 4) (tCons (tOp (rIxL K) (tVar 0) (tOp xSub (tVar 2) (tC (.int 1)))) tNil))))) (gTup K 2 (gCons (gName 5) (gCons (gName 6) gNil))))
    (tSeq (tAsg (tCall (sp_law_side K) [] E0 (tCons (tVar 0) (tCons (tVar 1) (tCons (tVar 3) (tCons (tVar 2) tNil))))) (gTup K 2 (gCons (gName 7) (gCons (gName 8) gNil))))
    (tRet (tCB rMax2 (tCons (tCall (sp_law_least K) [] E0 (tCons (tVar 5) (tCons (tVar 6) tNil))) (tCons (tCall (sp_law_least K) [] E0 (tCons (tVar 7) (tCons (tVar 8) tNil))) tNil))))))))
theorem pure_law_of_halves {v0 v1 v2 : V} {H : Hp} {Q : VK} {E : XK} (hh : pr_law_of_halves K v0 v1 v2 H Q E) : t_law_of_halves K ⟨fun _ H' => Q .non H', Q, fun _ _ => False, fun _ _ => False⟩ [some v0, some v1, some v2, none, none, none, none, none, none, none] H := by
  obtain ⟨ps, ws, cut, h0, d0, T, d1, hz, hok, c1, c2, rfl, l0, q⟩ := hh
  have dP := d0
  obtain ⟨pb, rfl, hpb⟩ := dp_ints d0
  have l60 := T.2.1
  have r := T.2.2 (cut - 1) (by omega)
  have A := half_out T c1 c2
  have B := half_in T c1 c2
  have cp : ∀ x, x ≤ ps.length → (x ∈ withL ps cut (ps.length + 1) ↔ x ∉ outL ps cut (ps.length + 1)) := fun x hx => by
    rw [withL_mem, outL_mem]
    cases below ps cut x <;> simp <;> omega
  have lf : ∀ P : Int × Int → Bool, (ws.filter P).length ≤ 12 := fun P => Nat.le_trans (List.length_filter_le _ _) hz
  unfold t_law_of_halves
  wtm_at "s"
  refine ⟨_, _, rfl, ps, cut, dP, T, c1, c2, rfl, fun wl H1 nwl s1 e1 => ?_⟩
  wtm_at "s"
  refine lc_pureR (by omega) (fun i => if (fun x : Nat => !below ps cut x) i = true then some (V.int (0 + (i : Nat))) else none) ?_ (fun ol H2 nol s2 e2 => ?_)
  · intro i H' hi sm R R0 g1 g2
    have hi' : i < ps.length + 1 := by omega
    wtm_at "s"
    have eb : (!decide ((0 : Int) + (i : Nat) ∈ natI (withL ps cut (ps.length + 1)))) = !below ps cut i := by
      cases z : below ps cut i with
      | true => rw [decide_eq_true ((natI_mem (by omega)).mpr (withL_mem.mpr ⟨by omega, by rw [show ((0 : Int) + (i : Nat)).toNat = i by omega]; exact z⟩))]
      | false => rw [decide_eq_false fun m => by
          have m := (withL_mem.mp ((natI_mem (by omega)).mp m)).2
          rw [show ((0 : Int) + (i : Nat)).toNat = i by omega, z] at m
          cases m]
    rw [eb]
    refine k_itb (fun c => ?_) (fun c => ?_)
    · wtm_at "s"
      exact g1 _ (if_pos c)
    · exact g2 (if_neg (fun z => by have z : (!below ps cut i) = true := z; rw [c] at z; cases z))
  rw [show ((ps.length : Int) + 1).toNat = ps.length + 1 by omega, keepI_fm] at e2
  replace e2 : H2 ol = some (.lst ((natI (outL ps cut (ps.length + 1))).map V.int)) := e2
  have s02 := s1.trans s2
  wtm_at "s"
  refine k_ixI (s02.seq hpb) (by omega) (by omega) ?_
  rw [show ((cut : Int) - 1).toNat = cut - 1 by omega]
  refine ⟨_, _, _, _, rfl, ps, ws, _, cut, (ps.getD (cut - 1) 0).toNat, dp_same s02 dP, T, dp_same s02 d1, by omega, hok, dp_of_ints (sl e2), A, by rw [Int.toNat_of_nonneg r.1], fun p3 H3 s3 d3 => ?_⟩
  obtain ⟨pa, x1, x2, e, hp3, dx1, dx2⟩ := dp_tup2 d3
  cases e
  have s03 := s02.trans s3
  wtm_at "s"
  refine ⟨_, _, _, _, rfl, ps, ws, _, cut, cut, dp_same s03 dP, T, dp_same s03 d1, by omega, hok, dp_of_ints (sl ((s2.trans s3) _ _ e1)), B, rfl, fun p4 H4 s4 d4 => ?_⟩
  obtain ⟨pc, x3, x4, e, hp4, dx3, dx4⟩ := dp_tup2 d4
  cases e
  wtm_at "s"
  refine ⟨_, _, rfl, .tree _, _, dp_same s4 dx1, A.mk'.ok T, dp_same s4 dx2, by rw [List.length_map]; exact lf _, fun w hw => by
    obtain ⟨v, hv, rfl⟩ := List.mem_map.mp hw
    obtain ⟨hv1, hv2⟩ := List.mem_filter.mp hv
    exact A.mk'.way (hok v hv1) hv2, fun a H5 s5 la => ?_⟩
  wtm_at "s"
  refine ⟨_, _, rfl, .tree _, _, dp_same s5 dx3, B.mk'.ok T, dp_same s5 dx4, by rw [List.length_map]; exact lf _, fun w hw => by
    obtain ⟨v, hv, rfl⟩ := List.mem_map.mp hw
    obtain ⟨hv1, hv2⟩ := List.mem_filter.mp hv
    exact B.mk'.way (hok v hv1) hv2, fun b H6 s6 lb => ?_⟩
  wtm_at "s"
  rw [halves_least T A.mk' B.mk' cp hok l0 la lb]
  exact q H6 (s03.trans (s4.trans (s5.trans s6)))
abbrev sp_law_of_halves (K : PySem.W.Frag) : Sp := fun vs H Q E => ∃ v0 v1 v2, vs = [v0, v1, v2] ∧ pr_law_of_halves K v0 v1 v2 H Q E
theorem ok_law_of_halves (T : Txt K mg A) : FnOk P w K mg base CX0 20 A.a_law_of_halves A.d_law_of_halves ["_law_parents", "_law_ways_here", "_law_cut"] (sp_law_of_halves K) := by
  refine T.F_law_of_halves.ok sc_law_of_halves (fun vs H Q E h => by obtain ⟨v0, v1, v2, rfl, _⟩ := h; rfl) (fun cdv A0 outer s H vs Q E hr h => ?_)
  obtain ⟨v0, v1, v2, rfl, h⟩ := h
  exact ⟨t_law_of_halves K, (pss_cons (ps_set (i := 3) sc_law_of_halves.nd rfl (Or.inr rfl) (pe_call (ok_law_within T) (hr.mono (by decide)) (by rfl) T.g_law_within T.F_law_within.kp T.b_law_within .nil pass0 (pa_cons (pv 0) (pa_cons (pv 2) pa_nil))))
      (pss_cons (ps_setLc (i := 4) (own := [("_law_place", 9)]) (by rfl) sc_law_of_halves.nd rfl rfl (sw_true rfl rfl rfl (by decide +kernel)) (pi_range1 (by rfl) T.z_range (pa_cons (pe_op op_add (pe_callB q_len (by rfl) T.z_len (by decide +kernel) (pa_cons (pv 0) pa_nil)) pe_int) pa_nil)) (blkOk_by (own := [("_law_place", 9)]) (N := ["_law_parents", "_law_ways_here", "_law_cut", "_law_within_here", "_law_outside", "_law_one", "_law_some", "_law_other", "_law_more", "_law_place"]) (sc := defScope s_law_of_halves) (by decide +kernel)) (fun _ _ _ _ _ => (pg_name (i := 9) sc_law_of_halves.nd rfl (Or.inl rfl))) (fun _ _ _ _ _ => (pts_one (pt_cmpR op_notIn_seq (pv 9) (pv 3) (by rfl)))) (fun _ _ _ _ _ => (pv 9)))
      (pss_cons (ps_asg (pe_call (ok_law_side T) (hr.mono (by decide)) (by rfl) T.g_law_side T.F_law_side.kp T.b_law_side .nil pass0 (pa_cons (pv 0) (pa_cons (pv 1) (pa_cons (pv 4) (pa_cons (pe_ix ix_list (pv 0) (pe_op op_sub (pv 2) pe_int) (fun _ _ => rfl)) pa_nil))))) (pg_tup (by rfl) (pgs_cons (pg_name (i := 5) sc_law_of_halves.nd rfl (Or.inl rfl)) (pgs_cons (pg_name (i := 6) sc_law_of_halves.nd rfl (Or.inl rfl)) pgs_nil))))
      (pss_cons (ps_asg (pe_call (ok_law_side T) (hr.mono (by decide)) (by rfl) T.g_law_side T.F_law_side.kp T.b_law_side .nil pass0 (pa_cons (pv 0) (pa_cons (pv 1) (pa_cons (pv 3) (pa_cons (pv 2) pa_nil))))) (pg_tup (by rfl) (pgs_cons (pg_name (i := 7) sc_law_of_halves.nd rfl (Or.inl rfl)) (pgs_cons (pg_name (i := 8) sc_law_of_halves.nd rfl (Or.inl rfl)) pgs_nil))))
      (pss_one (ps_ret (pe_callB (q_max2 (by rfl)) (by rfl) T.z_max (by decide +kernel) (pa_cons (pe_call (ok_law_least T) (hr.mono (by decide)) (by rfl) T.g_law_least T.F_law_least.kp T.b_law_least .nil pass0 (pa_cons (pv 5) (pa_cons (pv 6) pa_nil))) (pa_cons (pe_call (ok_law_least T) (hr.mono (by decide)) (by rfl) T.g_law_least T.F_law_least.kp T.b_law_least .nil pass0 (pa_cons (pv 7) (pa_cons (pv 8) pa_nil))) pa_nil))))))))), pure_law_of_halves h⟩


/-- next to each other in a tree -/
def NextTo (ps : List Int) (x y : Nat) : Prop := ∃ t, t < ps.length ∧ ((x = t + 1 ∧ y = (ps.getD t 0).toNat) ∨ (y = t + 1 ∧ x = (ps.getD t 0).toNat))
structure Bfs (ps : List Int) (od : List Nat) (qs : List Int) : Prop where
  nd : od.Nodup
  le : ∀ x ∈ od, x ≤ ps.length
  ql : qs.length + 1 = od.length
  tie : ∀ j, j < qs.length → ∃ u : Nat, u ≤ j ∧ qs.getD j 0 = (u : Int) ∧ NextTo ps (od.getD (j + 1) 0) (od.getD u 0)
theorem NextTo.le {ps : List Int} (T : TreeOk ps) {x y : Nat} (h : NextTo ps x y) : x ≤ ps.length ∧ y ≤ ps.length := by
  obtain ⟨t, ht, h⟩ := h
  have := T.2.2 t ht
  rcases h with ⟨a, b⟩ | ⟨a, b⟩ <;> omega
theorem NextTo.symm {ps : List Int} {x y : Nat} (h : NextTo ps x y) : NextTo ps y x := by
  obtain ⟨t, ht, h⟩ := h
  exact ⟨t, ht, h.symm⟩
theorem Bfs.more {ps : List Int} (T : TreeOk ps) {od : List Nat} {qs : List Int} (B : Bfs ps od qs) {y u : Nat} (hu : u < od.length) (hy : y ∉ od) (n : NextTo ps y (od.getD u 0)) : Bfs ps (od ++ [y]) (qs ++ [(u : Int)]) := by
  have ql := B.ql
  refine ⟨?_, fun x hx => ?_, by simp; omega, fun j hj => ?_⟩
  · refine List.nodup_append.mpr ⟨B.nd, List.nodup_cons.mpr ⟨List.not_mem_nil, List.nodup_nil⟩, fun a ha b hb => ?_⟩
    rw [List.mem_singleton.mp hb]
    exact fun z => hy (by rw [← z]; exact ha)
  · rcases List.mem_append.mp hx with hx | hx
    · exact B.le x hx
    · rw [List.mem_singleton.mp hx]; exact (n.le T).1
  · have gd : ∀ {i}, i < od.length → (od ++ [y]).getD i 0 = od.getD i 0 := fun {i} hi => by rw [List.getD_eq_getElem?_getD, List.getElem?_append_left hi, List.getD_eq_getElem?_getD]
    by_cases c : j < qs.length
    · obtain ⟨v, v1, v2, v3⟩ := B.tie j c
      refine ⟨v, v1, ?_, ?_⟩
      · rw [List.getD_eq_getElem?_getD, List.getElem?_append_left c, ← List.getD_eq_getElem?_getD]; exact v2
      · rw [gd (by omega), gd (by omega)]; exact v3
    · obtain rfl : j = qs.length := by simp at hj; omega
      refine ⟨u, by omega, ?_, ?_⟩
      · rw [List.getD_eq_getElem?_getD, List.getElem?_append_right (Nat.le_refl _), Nat.sub_self]; rfl
      · rw [gd hu]
        have : (od ++ [y]).getD (qs.length + 1) 0 = y := by
          rw [List.getD_eq_getElem?_getD, List.getElem?_append_right (by omega), show qs.length + 1 - od.length = 0 by omega]; rfl
        rw [this]; exact n
/-- all places are told -/
theorem Bfs.root {ps : List Int} (T : TreeOk ps) {od : List Nat} {qs : List Int} (B : Bfs ps od qs) (cl : ∀ x ∈ od, ∀ y, NextTo ps x y → y ∈ od) : Root ps od qs := by
  have ql := B.ql
  have up : ∀ n x, x ≤ n → x ∈ od → 0 ∈ od := by
    intro n
    induction n with
    | zero => intro x hx m; obtain rfl : x = 0 := by omega
              exact m
    | succ n ih =>
      intro x hx m
      cases x with
      | zero => exact m
      | succ t =>
        have ht : t < ps.length := by have := B.le _ m; omega
        have r := T.2.2 t ht
        exact ih (ps.getD t 0).toNat (by omega) (cl _ m _ ⟨t, ht, .inl ⟨rfl, rfl⟩⟩)
  have z0 : 0 ∈ od := by
    have h : 0 < od.length := by omega
    exact up _ (od[0]) (Nat.le_refl _) (List.getElem_mem h)
  have down : ∀ n x, x ≤ n → x ≤ ps.length → x ∈ od := by
    intro n
    induction n with
    | zero => intro x hx _; obtain rfl : x = 0 := by omega
              exact z0
    | succ n ih =>
      intro x hx hl
      cases x with
      | zero => exact z0
      | succ t =>
        have ht : t < ps.length := by omega
        have r := T.2.2 t ht
        exact cl _ (ih (ps.getD t 0).toNat (by omega) (by omega)) _ ⟨t, ht, .inr ⟨rfl, rfl⟩⟩
  have len : od.length = ps.length + 1 := by
    have h1 := nd_len (n := ps.length + 1) B.nd (fun x hx => by have := B.le x hx; omega)
    have h2 := ndl (l := natI (List.range (ps.length + 1))) (m := natI od) (by
      refine List.nodup_iff_pairwise_ne.mpr (List.pairwise_map.mpr ((List.nodup_iff_pairwise_ne.mp List.nodup_range).imp fun ne z => ne (by omega)))) (fun x hx => by
      obtain ⟨y, hy, rfl⟩ := List.mem_map.mp hx
      have := List.mem_range.mp hy
      exact List.mem_map.mpr ⟨y, down _ y (Nat.le_refl _) (by omega), rfl⟩)
    rw [List.length_map, List.length_map, List.length_range] at h2
    omega
  exact ⟨B.nd, len, B.le, by omega, fun j hj => B.tie j (by omega)⟩
/-- the places next to x as the law lists them -/
def nearL (ps : List Int) (x : Nat) : List Nat := ((List.range ps.length).filter fun t => decide (ps.getD t 0 = (x : Int))).map (· + 1)
theorem near_mem {ps : List Int} (T : TreeOk ps) {x y : Nat} (hx : x ≤ ps.length) : NextTo ps x y ↔ y ∈ nearL ps x ++ (if 0 < x then [(ps.getD (x - 1) 0).toNat] else []) := by
  constructor
  · rintro ⟨t, ht, h⟩
    have r := T.2.2 t ht
    rcases h with ⟨a, b⟩ | ⟨a, b⟩
    · refine List.mem_append.mpr (.inr ?_)
      rw [if_pos (by omega), a, show t + 1 - 1 = t by omega, b]
      exact List.mem_singleton.mpr rfl
    · refine List.mem_append.mpr (.inl (List.mem_map.mpr ⟨t, List.mem_filter.mpr ⟨List.mem_range.mpr ht, decide_eq_true (by omega)⟩, a.symm⟩))
  · intro m
    rcases List.mem_append.mp m with m | m
    · obtain ⟨t, ht, rfl⟩ := List.mem_map.mp m
      obtain ⟨h1, h2⟩ := List.mem_filter.mp ht
      have h2 := of_decide_eq_true h2
      exact ⟨t, List.mem_range.mp h1, .inr ⟨rfl, by omega⟩⟩
    · by_cases c : 0 < x
      · rw [if_pos c] at m
        exact ⟨x - 1, by omega, .inl ⟨by omega, List.mem_singleton.mp m⟩⟩
      · rw [if_neg c] at m; cases m
theorem natI_app (a b : List Nat) : natI (a ++ b) = natI a ++ natI b := List.map_append
theorem natI_idx : ∀ (l : List Nat) {x : Int}, 0 ≤ x → (natI l).idxOf x = l.idxOf x.toNat
  | [], _, _ => rfl
  | a :: r, x, h => by
    have ih := natI_idx r h
    show ((a : Int) :: natI r).idxOf x = (a :: r).idxOf x.toNat
    rw [List.idxOf_cons, List.idxOf_cons, ih]
    rw [show ((a : Int) == x) = (a == x.toNat) by rw [Bool.eq_iff_iff]; simp only [beq_iff_eq]; omega]
theorem g2_mono46 {K : PySem.W.Frag} {i j : Nat} : ∀ (x : V) (σ' : L2.St) (H : Hp) (q q' : L2.St → Hp → Prop), (∀ s H, q s H → q' s H) → gTup K 2 (gCons (gName i) (gCons (gName j) gNil)) x σ' H q → gTup K 2 (gCons (gName i) (gCons (gName j) gNil)) x σ' H q' := fun x σ' H q q' h hh => by
  obtain ⟨a, xs, e1, e2, e3, v, r, e4, v', r', e5, e6, z⟩ := hh
  exact ⟨a, xs, e1, e2, e3, v, r, e4, v', r', e5, e6, h _ _ z⟩
def pr_law_from (K : PySem.W.Frag) (v0 v1 v2 : V) (H : Hp) (Q : VK) (_ : XK) : Prop := ∃ (ps : List Int) (ws : List (Int × Int)) (x : Nat), Dp K H v0 (dInts ps) ∧ TreeOk ps ∧ Dp K H v1 (dPairs ws) ∧ ws.length ≤ 60 ∧ (∀ w ∈ ws, isWay (.tree ps) w.1 w.2) ∧ x ≤ ps.length ∧ v2 = .int (x : Int) ∧ ∀ p od qs H', Same H H' → Root ps od qs → Dp K H' (.ref p) (.tuple [(Net.tree qs).d, dPairs (ws.map (keepW od))]) → Q (.ref p) H'
def t_law_from (K : PySem.W.Frag) : TS :=
  (tSeq (tAsg (tLst (tCons (tVar 2) tNil)) (gName 3))
    (tSeq (tAsg (tLst tNil) (gName 4))
    (tSeq (tAsg (tC (.int 0)) (gName 5))
    (tSeq (tWhile (tTest (tOp xLt (tVar 5) (tCB (rLenX K) (tCons (tVar 3) tNil))))
      (tSeq (tAsg (tOp (rIxL K) (tVar 3) (tVar 5)) (gName 6))
    (tSeq (tAsg (tLc (iRng2 (tCons (tC (.int 1)) (tCons (tOp xAdd (tCB (rLenX K) (tCons (tVar 0) tNil)) (tC (.int 1))) tNil))) (gName 9) (tTest (tOp rEq (tOp (rIxL K) (tVar 0) (tOp xSub (tVar 9) (tC (.int 1)))) (tVar 6))) (tVar 9) [9]) (gName 7))
    (tSeq (tIfS (tTest (tOp xGt (tVar 6) (tC (.int 0)))) (tDrop (tBM K "list" rAppend (tVar 7) (tCons (tOp (rIxL K) (tVar 0) (tOp xSub (tVar 6) (tC (.int 1)))) tNil))) tNext)
    (tSeq (tFor (iList K (tVar 7)) (gName 8)
      (tIfS (tTest (tOp (rIn K true) (tVar 8) (tVar 3))) (tSeq (tDrop (tBM K "list" rAppend (tVar 3) (tCons (tVar 8) tNil)))
    (tDrop (tBM K "list" rAppend (tVar 4) (tCons (tVar 5) tNil)))) tNext))
    (tAsg (tOp xAdd (tVar 5) (tC (.int 1))) (gName 5)))))))
    (tRet (tTup (tCons (tTup (tCons (tC (.str (Str.ofString "tree"))) (tCons (tVar 4) tNil))) (tCons (tLc (iList K (tVar 1)) (gTup K 2 (gCons (gName 10) (gCons (gName 11) gNil))) tYes (tTup (tCons (tBM K "list" (rIndex K) (tVar 3) (tCons (tVar 10) tNil)) (tCons (tBM K "list" (rIndex K) (tVar 3) (tCons (tVar 11) tNil)) tNil))) [10, 11]) tNil))))))))
theorem pure_law_from {v0 v1 v2 : V} {H : Hp} {Q : VK} {E : XK} (hh : pr_law_from K v0 v1 v2 H Q E) : t_law_from K ⟨fun _ H' => Q .non H', Q, fun _ _ => False, fun _ _ => False⟩ [some v0, some v1, some v2, none, none, none, none, none, none, none, none, none] H := by
  obtain ⟨ps, ws, x, d0, T, d1, hz, hok, hx, rfl, q⟩ := hh
  obtain ⟨pb, rfl, hpb⟩ := dp_ints d0
  obtain ⟨b, ys, rfl, hb, dys⟩ := dp_list d1
  have ly : ys.length = ws.length := by rw [dpa_len dys, List.length_map]
  have l60 := T.2.1
  unfold t_law_from
  wtm_at "s"
  refine kL (by simp) (fun oa H1 noa s1 e1 => ?_)
  wtm_at "s"
  refine kL (by simp) (fun ha H2 nha s2 e2 => ?_)
  wtm_at "s"
  have noa0 := noa
  have nha0 : H ha = none := s1.free nha
  have neq : oa ≠ ha := fun z => by rw [← z, e1] at nha; cases nha
  refine k_while ⟨fun k σ' H' => Same H H' ∧ ∃ (od : List Nat) (qs : List Int) (i : Nat) (k6 k7 k8 : Option V), H' oa = some (.lst ((natI od).map V.int)) ∧ H' ha = some (.lst (qs.map V.int)) ∧ Bfs ps od qs ∧ i ≤ od.length ∧ k + i = ps.length + 1 ∧ (∀ j, j < i → ∀ y, NextTo ps (od.getD j 0) y → y ∈ od) ∧ σ' = [some (.ref pb), some (.ref b), some (.int x), some (.ref oa), some (.ref ha), some (.int (i : Nat)), k6, k7, k8, none, none, none], ⟨ps.length + 1, s1.trans s2, [x], [], 0, _, _, _, s2 _ _ e1, e2, ⟨by simp, fun y hy => by rw [List.mem_singleton.mp hy]; exact hx, rfl, fun j hj => by simp at hj⟩, by simp, by omega, fun j hj => by omega, rfl⟩, ?_⟩
  clear e1 e2 s1 s2 noa nha
  rintro k σ' H3 ⟨s3, od, qs, i, k6, k7, k8, e3, f3, B, hi, hk, cl, rfl⟩
  have lod : od.length ≤ ps.length + 1 := nd_len B.nd fun y hy => by have := B.le y hy; omega
  wtm_at "s"
  have lN : (natI od).length = od.length := by simp
  rw [lN]
  refine k_it (fun c => ?_) (fun c => ?_)
  · have hi' : i < od.length := by omega
    refine ⟨_, fun σ' H' w => w, ?_⟩
    wtm_at "s"
    refine k_ixI (sl e3) (by omega) (by rw [lN]; omega) ?_
    have ev : (natI od).getD ((i : Nat) : Int).toNat 0 = ((od.getD i 0 : Nat) : Int) := by
      rw [Int.toNat_natCast, List.getD_eq_getElem?_getD, List.getElem?_map, List.getElem?_eq_getElem hi', getD_of hi']; rfl
    rw [ev]
    obtain ⟨pl, epl⟩ : ∃ pl, od.getD i 0 = pl := ⟨_, rfl⟩
    have hpl : pl ≤ ps.length := B.le _ (by rw [← epl, getD_of hi']; exact List.getElem_mem hi')
    rw [epl]
    wtm_at "s"
    refine lc_pureR (by omega) (fun t => if ps.getD t 0 = (pl : Int) then some (V.int (1 + (t : Nat))) else none) ?_ (fun nr H4 nnr s4 e4 => ?_)
    · intro t H' ht sm R R0 g1 g2
      wtm_at "s"
      refine k_ixI ((s3.trans sm).seq hpb) (by omega) (by omega) ?_
      rw [show ((1 : Int) + (t : Nat) - 1).toNat = t by omega]
      wtm_at "s"
      refine k_it (fun c1 => ?_) (fun c1 => ?_)
      · wtm_at "s"
        exact g1 _ (if_pos c1)
      · exact g2 (if_neg c1)
    have e4' : H4 nr = some (.lst ((natI (nearL ps pl)).map V.int)) := by
      rw [e4, show ((ps.length : Int) + 1 - 1).toNat = ps.length by omega]
      unfold nearL natI
      rw [List.map_map, List.map_map]
      congr 2
      generalize List.range ps.length = l
      induction l with
      | nil => rfl
      | cons t r ih =>
        by_cases c1 : ps.getD t 0 = (pl : Int)
        · have hd : decide (ps.getD t 0 = (pl : Int)) = true := decide_eq_true c1
          rw [List.filterMap_cons, if_pos c1]
          simp only [List.filter_cons, hd, if_true, List.map_cons]
          rw [← ih]
          show V.int (1 + (t : Int)) :: _ = V.int ((t + 1 : Nat) : Int) :: _
          rw [show (1 : Int) + (t : Int) = ((t + 1 : Nat) : Int) by omega]
        · have hd : decide (ps.getD t 0 = (pl : Int)) = false := decide_eq_false c1
          rw [List.filterMap_cons, if_neg c1]
          simp only [List.filter_cons, hd]
          exact ih
    have lnl : (nearL ps pl).length ≤ ps.length := by
      unfold nearL
      rw [List.length_map]
      have := List.length_filter_le (fun t => decide (ps.getD t 0 = (pl : Int))) (List.range ps.length)
      rwa [List.length_range] at this
    refine k_gname (seqO (fun σ' H' => Same H3 H' ∧ H' nr = some (.lst ((natI (nearL ps pl ++ (if 0 < pl then [(ps.getD (pl - 1) 0).toNat] else []))).map V.int)) ∧ σ' = [some (.ref pb), some (.ref b), some (.int x), some (.ref oa), some (.ref ha), some (.int (i : Nat)), some (.int (pl : Nat)), some (.ref nr), k8, none, none, none]) ?_ (fun nx1 go1 => ?_))
    rotate_left
    · wtm_at "s"
      refine k_it (fun c1 => ?_) (fun c1 => ?_)
      · have r := T.2.2 (pl - 1) (by omega)
        wtm_at "s"
        refine k_tyL (sl e4') ?_
        wtm_at "s"
        refine k_ixI ((s3.trans s4).seq hpb) (by omega) (by omega) ?_
        rw [show ((pl : Int) - 1).toNat = pl - 1 by omega]
        wtm_at "s"
        refine k_append e4' (by simp; omega) ?_
        refine go1 _ _ ⟨same_mut s4 nnr, ?_, rfl⟩
        rw [upd_same, if_pos (by omega), natI_app, List.map_append]
        show some (HO.lst (_ ++ [V.int (ps.getD (pl - 1) 0)])) = some (HO.lst (_ ++ [V.int (((ps.getD (pl - 1) 0).toNat : Nat) : Int)]))
        rw [Int.toNat_of_nonneg r.1]
      · wtm_at "s"
        refine go1 _ _ ⟨s4, ?_, rfl⟩
        rw [if_neg (by omega), List.append_nil]
        exact e4'
    clear e4 e4' s4 H4
    rintro σ' H4 ⟨s4, e4, rfl⟩
    have nm : ∀ y, NextTo ps pl y ↔ y ∈ nearL ps pl ++ (if 0 < pl then [(ps.getD (pl - 1) 0).toNat] else []) := fun y => near_mem T hpl
    generalize nearL ps pl ++ (if 0 < pl then [(ps.getD (pl - 1) 0).toNat] else []) = nl at e4 nm
    have nro : nr ≠ oa := fun z => by rw [z, e3] at nnr; cases nnr
    have nrh : nr ≠ ha := fun z => by rw [z, f3] at nnr; cases nnr
    wtm_at "s"
    refine forL (sl e4) (fun t σ' H' => Same H H' ∧ H' nr = some (.lst ((natI nl).map V.int)) ∧ ∃ (od' : List Nat) (qs' : List Int) (rr : List Nat) (k8 : Option V), od' = od ++ rr ∧ H' oa = some (.lst ((natI od').map V.int)) ∧ H' ha = some (.lst (qs'.map V.int)) ∧ Bfs ps od' qs' ∧ (∀ j, j < t → j < nl.length → nl.getD j 0 ∈ od') ∧ σ' = [some (.ref pb), some (.ref b), some (.int x), some (.ref oa), some (.ref ha), some (.int (i : Nat)), some (.int (pl : Nat)), some (.ref nr), k8, none, none, none]) ⟨s3.trans s4, e4, od, qs, [], _, by simp, s4 _ _ e3, s4 _ _ f3, B, fun j hj => by omega, rfl⟩ (fun t σ' H' _ z => sl z.2.1) ?_ ?_
    · rintro t y σ' H5 hy ⟨s5, e5, od', qs', rr, k8', eod, e5o, e5h, B', dn, rfl⟩
      have ht : t < nl.length := by
        have := (List.getElem?_eq_some_iff.mp hy).1
        rw [List.length_map, List.length_map] at this
        exact this
      obtain rfl : y = .int ((nl.getD t 0 : Nat) : Int) := by
        rw [List.getElem?_map, List.getElem?_map, List.getElem?_eq_getElem ht] at hy
        injection hy with hy
        rw [getD_of ht, ← hy]
      have hn : NextTo ps pl (nl.getD t 0) := (nm _).mpr (by rw [getD_of ht]; exact List.getElem_mem ht)
      have lod' : od'.length ≤ ps.length + 1 := nd_len B'.nd fun y hy => by have := B'.le y hy; omega
      have lq' := B'.ql
      wtm_at "s"
      have eb : (!decide (((nl.getD t 0 : Nat) : Int) ∈ natI od')) = !decide (nl.getD t 0 ∈ od') := by
        congr 1
        exact decide_eq_decide.mpr (by rw [natI_mem (by omega), Int.toNat_natCast])
      rw [eb]
      cases hd : decide (nl.getD t 0 ∈ od') with
      | true =>
        have hd := of_decide_eq_true hd
        wtm_at "s"
        refine ⟨s5, e5, od', qs', rr, _, eod, e5o, e5h, B', fun j hj hl => ?_, rfl⟩
        by_cases cj : j = t
        · rw [cj]; exact hd
        · exact dn j (by omega) hl
      | false =>
        have hd := of_decide_eq_false hd
        wtm_at "s"
        refine k_tyL (sl e5o) ?_
        wtm_at "s"
        refine k_append e5o (by simp; omega) ?_
        wtm_at "s"
        have e6h : upd H5 oa (.lst ((natI od').map V.int ++ [V.int ((nl.getD t 0 : Nat) : Int)])) ha = some (.lst (qs'.map V.int)) := by rw [upd_ne (Ne.symm neq)]; exact e5h
        have e6o : upd H5 oa (.lst ((natI od').map V.int ++ [V.int ((nl.getD t 0 : Nat) : Int)])) oa = some (.lst ((natI (od' ++ [nl.getD t 0])).map V.int)) := by rw [upd_same, natI_app, List.map_append]; rfl
        have e6r : upd H5 oa (.lst ((natI od').map V.int ++ [V.int ((nl.getD t 0 : Nat) : Int)])) nr = some (.lst ((natI nl).map V.int)) := by rw [upd_ne nro]; exact e5
        have s6 : Same H (upd H5 oa (.lst ((natI od').map V.int ++ [V.int ((nl.getD t 0 : Nat) : Int)]))) := same_mut s5 noa0
        generalize upd H5 oa (.lst ((natI od').map V.int ++ [V.int ((nl.getD t 0 : Nat) : Int)])) = H6 at e6h e6o e6r s6 ⊢
        refine k_tyL (sl e6h) ?_
        wtm_at "s"
        refine k_append e6h (by simp; omega) ?_
        have iu : i < od'.length := by rw [eod, List.length_append]; omega
        have gi : od'.getD i 0 = pl := by rw [← epl, eod, List.getD_eq_getElem?_getD, List.getElem?_append_left hi', List.getD_eq_getElem?_getD]
        refine ⟨same_mut s6 nha0, by rw [upd_ne nrh]; exact e6r, od' ++ [nl.getD t 0], qs' ++ [((i : Nat) : Int)], rr ++ [nl.getD t 0], _, by rw [eod, List.append_assoc], by rw [upd_ne neq]; exact e6o, by rw [upd_same, List.map_append]; rfl, B'.more T iu hd (by rw [gi]; exact hn.symm), fun j hj hl => ?_, rfl⟩
        by_cases cj : j = t
        · rw [cj]; simp
        · exact List.mem_append.mpr (.inl (dn j (by omega) hl))
    · rintro σ' H5 ⟨s5, e5, od', qs', rr, k8', eod, e5o, e5h, B', dn, rfl⟩
      rw [List.length_map, List.length_map] at dn
      wtm_at "s"
      refine ⟨k - 1, by omega, s5, od', qs', i + 1, _, _, _, e5o, e5h, B', by rw [eod, List.length_append]; omega, by omega, fun j hj y hy => ?_, rfl⟩
      by_cases cj : j = i
      · subst cj
        rw [eod, List.getD_eq_getElem?_getD, List.getElem?_append_left hi', ← List.getD_eq_getElem?_getD, epl] at hy
        obtain ⟨t, ht, e⟩ := List.getElem_of_mem ((nm y).mp hy)
        have := dn t ht ht
        rw [getD_of ht, e] at this
        exact this
      · have hj' : j < i := by omega
        rw [eod, List.getD_eq_getElem?_getD, List.getElem?_append_left (by omega), ← List.getD_eq_getElem?_getD] at hy
        rw [eod]
        exact List.mem_append.mpr (.inl (cl j hj' y hy))
  · have hi' : i = od.length := by omega
    have R0' : Root ps od qs := B.root T (fun y hy z n => by
      obtain ⟨j, hj, e⟩ := List.getElem_of_mem hy
      exact cl j (by omega) z (by rw [getD_of hj, e]; exact n))
    wtm_at "s"
    refine kT (by simp) (fun tn H4 ntn s4 e4 => ?_)
    wtm_at "s"
    have s04 := s3.trans s4
    refine lc_dp [] (fun x hx => nomatch hx) (s04.seq hb) ws ly (by omega) (fun w => dPair (keepW od w)) ?_ (fun D zs H5 nD s5 eD dz => ?_) g2_mono46
    · intro j y w H' hy hw sm R g
      obtain ⟨w', cc, hw', rfl, hc⟩ := dpairs_get (dpa_same (s04.trans sm) dys) hy
      rw [hw] at hw'
      cases hw'
      obtain ⟨w1, w2, w3, w4, w5⟩ := hok w (List.mem_of_getElem? hw)
      have w4 : w.1 < ps.length + 1 := w4
      have w5 : w.2 < ps.length + 1 := w5
      have e3' := (s4.trans sm) _ _ e3
      have m1 : w.1 ∈ natI od := (natI_mem w2).mpr (R0'.all (by omega))
      have m2 : w.2 ∈ natI od := (natI_mem w3).mpr (R0'.all (by omega))
      wtm_at "s"
      refine k_tyL (sl e3') ?_
      wtm_at "s"
      refine k_indexI (sl e3') m1 ?_
      wtm_at "s"
      refine k_tyL (sl e3') ?_
      wtm_at "s"
      refine k_indexI (sl e3') m2 ?_
      wtm_at "s"
      rw [natI_idx _ w2, natI_idx _ w3]
      refine kT (by simp) (fun p H2 np s2 e2 => ?_)
      refine g _ H2 s2 (fun S' hS' => ?_)
      exact dp_of_pair (x := (keepW od w).1) (y := (keepW od w).2) (stp (by rw [hid_ne (fun z => hS' p z np)]; exact e2))
    · wtm_at "s"
      refine kT (by simp) (fun p H6 np s6 e6 => ?_)
      refine q p od qs H6 (s04.trans (s5.trans s6)) R0' (.tup (stp e6) (.cons (.tup (stp ((s5.trans s6) _ _ e4)) (.cons (.str _) (.cons (dp_of_ints (sl ((s4.trans (s5.trans s6)) _ _ f3))) .nil))) (.cons (.lst (sl (s6 _ _ eD)) ?_) .nil)))
      have := dpa_same ((hid_same [D] _).trans s6) dz
      rw [List.map_map]
      exact this
abbrev sp_law_from (K : PySem.W.Frag) : Sp := fun vs H Q E => ∃ v0 v1 v2, vs = [v0, v1, v2] ∧ pr_law_from K v0 v1 v2 H Q E
theorem ok_law_from (T : Txt K mg A) : FnOk P w K mg base CX0 1 A.a_law_from A.d_law_from ["_law_parents", "_law_ways_here", "_law_first"] (sp_law_from K) := by
  refine T.F_law_from.ok sc_law_from (fun vs H Q E h => by obtain ⟨v0, v1, v2, rfl, _⟩ := h; rfl) (fun cdv A0 outer s H vs Q E hr h => ?_)
  obtain ⟨v0, v1, v2, rfl, h⟩ := h
  exact ⟨t_law_from K, (pss_cons (ps_set (i := 3) sc_law_from.nd rfl (Or.inr rfl) (pe_lst (pa_cons (pv 2) pa_nil)))
      (pss_cons (ps_set (i := 4) sc_law_from.nd rfl (Or.inl rfl) (pe_lst pa_nil))
      (pss_cons (ps_set (i := 5) sc_law_from.nd rfl (Or.inl rfl) pe_int)
      (pss_cons (ps_while PassesOwn.never (pt_cmpR op_lt (pv 5) (pe_callB q_len (by rfl) T.z_len (by decide +kernel) (pa_cons (pv 3) pa_nil)) (nomark _))
      (pss_cons (ps_set (i := 6) sc_law_from.nd rfl (Or.inr rfl) (pe_ix ix_list (pv 3) (pv 5) (fun _ _ => rfl)))
      (pss_cons (ps_setLc (i := 7) (own := [("_law_k", 9)]) (by rfl) sc_law_from.nd rfl rfl (sw_true rfl rfl rfl (by decide +kernel)) (pi_range2 (by rfl) T.z_range (pa_cons pe_int (pa_cons (pe_op op_add (pe_callB q_len (by rfl) T.z_len (by decide +kernel) (pa_cons (pv 0) pa_nil)) pe_int) pa_nil))) (blkOk_by (own := [("_law_k", 9)]) (N := ["_law_parents", "_law_ways_here", "_law_first", "_law_order", "_law_hung", "_law_at", "_law_place", "_law_near", "_law_other", "_law_k", "_law_a", "_law_b"]) (sc := defScope s_law_from) (by decide +kernel)) (fun _ _ _ _ _ => (pg_name (i := 9) sc_law_from.nd rfl (Or.inl rfl))) (fun _ _ _ _ _ => (pts_one (pt_cmpR op_eq (pe_ix ix_list (pv 0) (pe_op op_sub (pv 9) pe_int) (fun _ _ => rfl)) (pv 6) (nomark _)))) (fun _ _ _ _ _ => (pv 9)))
      (pss_cons (ps_if (pt_cmpR op_gt (pv 6) pe_int (nomark _)) (pss_one (ps_expr (pe_bm PySem.F.plainAttrs_list PySem.F.slot_list_append PySem.F.type_list_append mt_append (pv 7) (pa_cons (pe_ix ix_list (pv 0) (pe_op op_sub (pv 6) pe_int) (fun _ _ => rfl)) pa_nil)))) pss_nil)
      (pss_cons (ps_for PassesOwn.never rfl (pi_list (pv 7)) (pg_name (i := 8) sc_law_from.nd rfl (Or.inl rfl))
      (pss_one (ps_if (pt_cmpR op_notIn_seq (pv 8) (pv 3) (by rfl)) (pss_cons (ps_expr (pe_bm PySem.F.plainAttrs_list PySem.F.slot_list_append PySem.F.type_list_append mt_append (pv 3) (pa_cons (pv 8) pa_nil)))
      (pss_one (ps_expr (pe_bm PySem.F.plainAttrs_list PySem.F.slot_list_append PySem.F.type_list_append mt_append (pv 4) (pa_cons (pv 5) pa_nil))))) pss_nil)))
      (pss_one (ps_set (i := 5) sc_law_from.nd rfl (Or.inl rfl) (pe_op op_add (pv 5) pe_int))))))))
      (pss_one (ps_ret (pe_tup (pa_cons (pe_tup (pa_cons pe_str (pa_cons (pv 4) pa_nil))) (pa_cons (pe_lc (own := [("_law_a", 10), ("_law_b", 11)]) (by rfl) sc_law_from.nd (pi_list (pv 1)) (blkOk_by (own := [("_law_a", 10), ("_law_b", 11)]) (N := ["_law_parents", "_law_ways_here", "_law_first", "_law_order", "_law_hung", "_law_at", "_law_place", "_law_near", "_law_other", "_law_k", "_law_a", "_law_b"]) (sc := defScope s_law_from) (by decide +kernel)) (fun _ _ _ _ _ => (pg_tup (by rfl) (pgs_cons (pg_name (i := 10) sc_law_from.nd rfl (Or.inl rfl)) (pgs_cons (pg_name (i := 11) sc_law_from.nd rfl (Or.inl rfl)) pgs_nil)))) (fun _ _ _ _ _ => pts_nil) (fun _ _ _ _ _ => (pe_tup (pa_cons (pe_bm PySem.F.plainAttrs_list PySem.F.slot_list_index PySem.F.type_list_index mt_index (pv 3) (pa_cons (pv 10) pa_nil)) (pa_cons (pe_bm PySem.F.plainAttrs_list PySem.F.slot_list_index PySem.F.type_list_index mt_index (pv 3) (pa_cons (pv 11) pa_nil)) pa_nil))))) pa_nil))))))))), pure_law_from h⟩


def pr_law_line (K : PySem.W.Frag) (v0 : V) (H : Hp) (Q : VK) (_ : XK) : Prop := ∃ (pu : Addr) (k : Int), v0 = .ref pu ∧ Le H pu k ∧ k < 90000 ∧ ∀ H', Same (hid [pu] H) (hid [pu] H') → Q (.bl true) H'
def t_law_line (K : PySem.W.Frag) : TS :=
  (tSeq (tAsg (tOp xAdd (tC (.int 2)) (tCall (sp_law_draw K) [] E0 (tCons (tVar 0) (tCons (tC (.int 8)) tNil)))) (gName 1))
    (tSeq (tAsg (tCall (sp_law_ways K) [] E0 (tCons (tVar 0) (tCons (tVar 1) tNil))) (gName 2))
    (tSeq (tAsg (tTup (tCons (tC (.str (Str.ofString "line"))) (tCons (tVar 1) tNil))) (gName 3))
    (tSeq (tAsg (tTup (tCons (tC (.str (Str.ofString "tree"))) (tCons (tLstRg (tRg1 (tOp xSub (tVar 1) (tC (.int 1))))) tNil))) (gName 4))
    (tSeq (tIfS (tTest (tOp (rNeD K) (tCall (sp_loads K) [] E0 (tCons (tVar 3) (tCons (tCB (rListOf K) (tCons (tVar 2) tNil)) tNil))) (tCall (sp_loads K) [] E0 (tCons (tVar 4) (tCons (tCB (rListOf K) (tCons (tVar 2) tNil)) tNil))))) (tRet (tC (.bl false))) tNext)
    (tRet (tAndV (tOp rEq (tCall (sp_law_least K) [] E0 (tCons (tVar 3) (tCons (tVar 2) tNil))) (tCall (sp_load K) [] E0 (tCons (tVar 4) (tCons (tCB (rListOf K) (tCons (tVar 2) tNil)) tNil)))) (tOp rEq (tCall (sp_law_least K) [] E0 (tCons (tVar 4) (tCons (tVar 2) tNil))) (tCall (sp_load K) [] E0 (tCons (tVar 3) (tCons (tCB (rListOf K) (tCons (tVar 2) tNil)) tNil)))))))))))
theorem pure_law_line {v0 : V} {H : Hp} {Q : VK} {E : XK} (hh : pr_law_line K v0 H Q E) : t_law_line K ⟨fun _ H' => Q .non H', Q, fun _ _ => False, fun _ _ => False⟩ [some v0, none, none, none, none] H := by
  obtain ⟨pu, k, rfl, L, k1, q⟩ := hh
  unfold t_law_line
  wtm_at "s"
  refine ⟨_, _, rfl, pu, k, 8, rfl, rfl, L, by omega, by decide, by decide, fun d H1 d0 d1 L1 S1 => ?_⟩
  wtm_at "s"
  obtain ⟨n, hn, n2, n9⟩ : ∃ n, 2 + d = n ∧ 2 ≤ n ∧ n ≤ 9 := ⟨_, rfl, by omega, by omega⟩
  rw [hn]
  refine ⟨_, _, rfl, pu, _, n, rfl, rfl, L1, by omega, n2, by omega, fun wl ys ws k' H2 nwl' L2 hk S2 e2 d2 lw hw => ?_⟩
  have ly : ys.length = ws.length := by rw [dpa_len d2, List.length_map]
  have hok : ∀ w ∈ ws, isWay (.line n) w.1 w.2 := fun w hx => by
    obtain ⟨a1, a2, a3, a4, a5⟩ := hw w hx
    exact ⟨a1, a2, a4, a3, a5⟩
  have dW : DpAll K H2 ys (ws.map dPair) := dpa_same (hid_same _ _) d2
  have okl : (Net.line n).ok := ⟨n2, by show n ≤ 60; omega⟩
  obtain ⟨m, hm⟩ : ∃ m : Nat, (m : Int) = n - 1 := ⟨(n - 1).toNat, by omega⟩
  have m1 : 1 ≤ m := by omega
  have m2 : m < 60 := by omega
  have okt : TreeOk (pathP m) := path_ok m1 m2
  have hokt : ∀ w ∈ ws, isWay (.tree (pathP m)) w.1 w.2 := fun w hx => path_way hm (hok w hx)
  have ql := path_loads hm m1 m2 hok
  have S02 := S1.trans S2
  wtm_at "s"
  refine kT (by simp) (fun ln H3 nln s3 e3 => ?_)
  wtm_at "s"
  refine kR (by unfold RgOk; omega) (fun rl H4 nrl s4 e4 => ?_)
  wtm_at "s"
  refine kT (by simp) (fun tn H5 ntn s5 e5 => ?_)
  have erg : rgV 0 (n - 1) = (pathP m).map V.int := by
    unfold rgV pathP
    rw [List.map_map, show (n - 1 - 0).toNat = m by omega]
    exact List.map_congr_left fun i _ => by show V.int (0 + (i : Int)) = V.int (i : Int); rw [Int.zero_add]
  rw [erg] at e4
  have s25 := s3.trans (s4.trans s5)
  have dL : Dp K H5 (.ref ln) (Net.line n).d := .tup (stp ((s4.trans s5) _ _ e3)) (.cons (.str _) (.cons (.int _) .nil))
  have dT : Dp K H5 (.ref tn) (Net.tree (pathP m)).d := .tup (stp e5) (.cons (.str _) (.cons (dp_of_ints (sl (s5 _ _ e4))) .nil))
  have dW5 := dpa_same s25 dW
  have e5w := s25 _ _ e2
  have S05 : Same (hid [pu] H) (hid [pu] H5) := S02.trans (hid_mono s25)
  clear S02 S2 S1 L L1 L2 e2 d2 dW e3 e4 e5 s3 s4 s5 s25
  wtm_at "s"
  refine k_listN (sl e5w) (fun c6 H6 nc6 s6 e6 => ?_)
  wtm_at "s"
  refine ⟨_, _, rfl, .line n, ws, dp_same s6 dL, okl, .lst (sl e6) (dpa_same s6 dW5), by omega, hok, fun p7 H7 np7 s7 e7 => ?_⟩
  have s57 := s6.trans s7
  wtm_at "s"
  refine k_listN (sl (s57 _ _ e5w)) (fun c8 H8 nc8 s8 e8 => ?_)
  have s58 := s57.trans s8
  wtm_at "s"
  refine ⟨_, _, rfl, .tree (pathP m), ws, dp_same s58 dT, okt, .lst (sl e8) (dpa_same s58 dW5), by omega, hokt, fun p9 H9 np9 s9 e9 => ?_⟩
  have s59 := s58.trans s9
  rw [ql] at e9
  refine k_neD0 (n := 1) (dp_of_ints (sl ((s8.trans s9) _ _ e7))) (dp_of_ints (sl e9)) (sh_ints _) (by decide) ?_
  wtm_at "s"
  refine ⟨_, _, rfl, .line n, ws, dp_same s59 dL, okl, .lst (sl (s59 _ _ e5w)) (dpa_same s59 dW5), by omega, hok, fun h1 HA sA l1 => ?_⟩
  have s5A := s59.trans sA
  wtm_at "s"
  refine k_listN (sl (s5A _ _ e5w)) (fun cB HB ncB sB eB => ?_)
  have s5B := s5A.trans sB
  wtm_at "s"
  refine ⟨_, _, rfl, .tree (pathP m), ws, dp_same s5B dT, okt, .lst (sl eB) (dpa_same s5B dW5), by omega, hokt, fun m3 HC sC a1 a2 => ?_⟩
  have s5C := s5B.trans sC
  rw [ql] at a1 a2
  have q1 := line_load okl hok l1 a1 a2
  wtm_at "s"
  refine ⟨_, _, rfl, .tree (pathP m), ws, dp_same s5C dT, okt, .lst (sl (s5C _ _ e5w)) (dpa_same s5C dW5), by omega, hokt, fun h2 HD sD l2 => ?_⟩
  have s5D := s5C.trans sD
  have q2 := l2.one (l1.imp fun k => (path_colr hm m1 m2 hok).symm)
  wtm_at "s"
  refine k_listN (sl (s5D _ _ e5w)) (fun cE HE ncE sE eE => ?_)
  have s5E := s5D.trans sE
  wtm_at "s"
  refine ⟨_, _, rfl, .line n, ws, dp_same s5E dL, okl, .lst (sl eE) (dpa_same s5E dW5), by omega, hok, fun m4 HF sF b1 b2 => ?_⟩
  have q3 := line_load okl hok l1 b1 b2
  wtm_at "s"
  rw [decide_eq_true (by omega)]
  exact q HF (S05.trans (hid_mono (s5E.trans sF)))
abbrev sp_law_line (K : PySem.W.Frag) : Sp := fun vs H Q E => ∃ v0, vs = [v0] ∧ pr_law_line K v0 H Q E
theorem ok_law_line (T : Txt K mg A) : FnOk P w K mg base CX0 20 A.a_law_line A.d_law_line ["_law_left_here"] (sp_law_line K) := by
  refine T.F_law_line.ok sc_law_line (fun vs H Q E h => by obtain ⟨v0, rfl, _⟩ := h; rfl) (fun cdv A0 outer s H vs Q E hr h => ?_)
  obtain ⟨v0, rfl, h⟩ := h
  exact ⟨t_law_line K, (pss_cons (ps_set (i := 1) sc_law_line.nd rfl (Or.inl rfl) (pe_op op_add pe_int (pe_call (ok_law_draw T) (hr.mono (by decide)) (by rfl) T.g_law_draw T.F_law_draw.kp T.b_law_draw .nil pass0 (pa_cons (pv 0) (pa_cons pe_int pa_nil)))))
      (pss_cons (ps_set (i := 2) sc_law_line.nd rfl (Or.inl rfl) (pe_call (ok_law_ways T) (hr.mono (by decide)) (by rfl) T.g_law_ways T.F_law_ways.kp T.b_law_ways .nil pass0 (pa_cons (pv 0) (pa_cons (pv 1) pa_nil))))
      (pss_cons (ps_set (i := 3) sc_law_line.nd rfl (Or.inl rfl) (pe_tup (pa_cons pe_str (pa_cons (pv 1) pa_nil))))
      (pss_cons (ps_set (i := 4) sc_law_line.nd rfl (Or.inl rfl) (pe_tup (pa_cons pe_str (pa_cons (pe_listRg (by rfl) (by rfl) T.z_list (prg_1 (by rfl) T.z_range (pe_op op_sub (pv 1) pe_int))) pa_nil))))
      (pss_cons (ps_if (pt_cmpR (op_neD hr.units) (pe_call (ok_loads T) (hr.mono (by decide)) (by rfl) T.g_loads T.F_loads.kp T.b_loads .nil pass0 (pa_cons (pv 3) (pa_cons (pe_callTy q_listOf (by rfl) T.z_list (by decide +kernel) (pa_cons (pv 2) pa_nil)) pa_nil))) (pe_call (ok_loads T) (hr.mono (by decide)) (by rfl) T.g_loads T.F_loads.kp T.b_loads .nil pass0 (pa_cons (pv 4) (pa_cons (pe_callTy q_listOf (by rfl) T.z_list (by decide +kernel) (pa_cons (pv 2) pa_nil)) pa_nil))) (nomark _)) (pss_one (ps_ret pe_bl)) pss_nil)
      (pss_one (ps_ret (pe_and (pe_cmpR op_eq (pe_call (ok_law_least T) (hr.mono (by decide)) (by rfl) T.g_law_least T.F_law_least.kp T.b_law_least .nil pass0 (pa_cons (pv 3) (pa_cons (pv 2) pa_nil))) (pe_call (ok_load T) (hr.mono (by decide)) (by rfl) T.g_load T.F_load.kp T.b_load .nil pass0 (pa_cons (pv 4) (pa_cons (pe_callTy q_listOf (by rfl) T.z_list (by decide +kernel) (pa_cons (pv 2) pa_nil)) pa_nil))) (nomark _)) (pe_one (pe_cmpR op_eq (pe_call (ok_law_least T) (hr.mono (by decide)) (by rfl) T.g_law_least T.F_law_least.kp T.b_law_least .nil pass0 (pa_cons (pv 4) (pa_cons (pv 2) pa_nil))) (pe_call (ok_load T) (hr.mono (by decide)) (by rfl) T.g_load T.F_load.kp T.b_load .nil pass0 (pa_cons (pv 3) (pa_cons (pe_callTy q_listOf (by rfl) T.z_list (by decide +kernel) (pa_cons (pv 2) pa_nil)) pa_nil))) (nomark _))))))))))), pure_law_line h⟩


/-- a comprehension over a range whose items are new things, of which F tells the data -/
theorem lc_dpR {K : PySem.W.Frag} {σ : L2.St} {vs : List Nat} {g : TG} {te : TE} {H1 : Hp} {QD : Addr → Hp → Prop} {lo : Int} {n : Nat} (S0 : List Addr) (hS : ∀ b ∈ S0, H1 b ≠ none) (hz : n ≤ 50000) (F : Nat → PyData)
    (step : ∀ (i : Nat) H', i < n → Same H1 H' → ∀ (S : List Addr) (R : V → Hp → Prop), (∀ b ∈ S, H' b ≠ none) → (∀ y H'', Same H' H'' → Dp K (hid S H'') y (F i) → R y H'') →
      g (.int (lo + (i : Nat))) (wipe σ vs) H' fun σ2 H2 => wipe σ2 vs = wipe σ vs ∧ te σ2 H2 R)
    (h : ∀ D ys H', H1 D = none → Same H1 H' → H' D = some (.lst ys) → DpAll K (hid (D :: S0) H') ys ((List.range n).map F) → QD D H') (hg : ∀ x σ' H (q q' : L2.St → Hp → Prop), (∀ s H, q s H → q' s H) → g x σ' H q → g x σ' H q') :
    ∀ D, H1 D = none → ∃ W : Nat → Nat → Hp → Prop, (∃ m, W 0 m (upd H1 D (.lst []))) ∧ ∀ i m H, W i m H →
      ((Itr lo n).stop i H ∧ QD D H) ∨ ((Itr lo n).go i H ∧ ∃ Nx : Hp → Prop, (∀ H', Nx H' → ∃ m', m' < m ∧ W (i + 1) m' H') ∧ ∀ x H', (Itr lo n).yld i H x H' → g x (wipe σ vs) H' fun σ2 H2 => wipe σ2 vs = wipe σ vs ∧ tYes σ2 H2 fun b H3 =>
        if b = true then te σ2 H3 fun y H4 => ∃ acc, H4 D = some (.lst acc) ∧ acc.length < sizeLine ∧ Nx (upd H4 D (.lst (acc ++ [y]))) else Nx H3) := by
  refine fun D nD => lc_range (fun i H => Same H1 H ∧ ∃ ys, H D = some (.lst ys) ∧ ys.length = i ∧ DpAll K (hid (D :: S0) H) ys (((List.range n).take i).map F)) ⟨same_new nD, [], upd_same, rfl, by simpa using DpAll.nil⟩ ?_ ?_
  · rintro i H hi ⟨sm, ys, hD, hly, hys⟩
    refine hg _ _ _ _ _ (fun s2 H2 hh => ⟨hh.1, k_yes (iteT hh.2)⟩) (step i H hi sm (D :: S0) _ (fun b hb => ?_) (fun y H'' s2 dy => ⟨ys, s2 _ _ hD, szl (by omega), same_mut (sm.trans s2) nD, ys ++ [y], upd_same, by simp [hly], ?_⟩))
    · rcases List.mem_cons.mp hb with e | hb
      · rw [e, hD]; exact fun z => nomatch z
      · intro z
        exact hS b hb (sm.free z)
    · rw [hid_upd (by simp), List.take_add_one, List.getElem?_range hi, List.map_append]
      exact dpa_app (dpa_same (hid_mono s2) hys) (.cons dy .nil)
  · rintro H ⟨sm, ys, hD, hly, hys⟩
    rw [List.take_of_length_le (by simp)] at hys
    exact h D ys H nD sm hD hys
/-- the law's outer loop: over [c] + script[:z] -/
theorem law_frameN {BODY : TS} {c z : Int} {N : Nat} {m : Nat} {a : Addr} {ns : List Int} {H : Hp} {Q : VK} {n0 : L2.St → Hp → Prop} {bk ct : L2.St → Hp → Prop} (hz : z = N) (hn : ns.length ≤ 63) (ha : SqL K H a (ns.map V.int)) (q : ∀ H', Q (.bl true) H')
    (body : ∀ (cell : Int) (l : List (Option V)) (H3 H4 : Hp) (nx : L2.St → Hp → Prop), l.length = m → Same H3 H4 →
      BODY ⟨fun σ' H' => Same H3 H' ∧ ∃ l' : List (Option V), l'.length = m + 1 ∧ σ' = some (.ref a) :: l', Q, nx, fun σ' H' => Same H3 H' ∧ ∃ l' : List (Option V), l'.length = m + 1 ∧ σ' = some (.ref a) :: l'⟩ (some (.ref a) :: some (.int cell) :: l) H4) :
    tSeq (tFor (iList K (tOp rCat (tLst (tCons (tC (.int c)) tNil)) (tSl (rSlL K) (tVar 0) tNoPart (tPart (tC (.int z)))))) (gName 1) BODY) (tRet (tC (.bl true))) ⟨n0, Q, bk, ct⟩ (some (.ref a) :: List.replicate (m + 1) none) H := by
  wtm_at "s"
  refine ⟨sz (by simp), fun l1 n1 => ?_⟩
  have s1 := same_new (o := .lst [.int c]) n1
  have e1 := upd_same (H := H) (a := l1) (o := .lst [.int c])
  generalize upd H l1 (.lst [.int c]) = H1 at s1 e1 ⊢
  wtm_at "s"
  refine ⟨a, _, rfl, s1.seq ha, fun l2 n2 => ?_⟩
  rw [hz, cutTo N]
  have s2 := same_new (o := .lst ((ns.take N).map V.int)) n2
  have e2 := upd_same (H := H1) (a := l2) (o := .lst ((ns.take N).map V.int))
  generalize upd H1 l2 (.lst ((ns.take N).map V.int)) = H2 at s2 e2 ⊢
  refine k_cat (s2 _ _ e1) e2 (by simp; omega) (fun l3 n3 => ?_)
  have e3 : upd H2 l3 (.lst ([.int c] ++ (ns.take N).map V.int)) l3 = some (.lst ((c :: ns.take N).map V.int)) := upd_same
  generalize upd H2 l3 (.lst ([.int c] ++ (ns.take N).map V.int)) = H3 at e3 ⊢
  wtm_at "s"
  refine forL (sl e3) (fun i σ' H' => Same H3 H' ∧ ∃ l' : List (Option V), l'.length = m + 1 ∧ σ' = some (.ref a) :: l') ⟨Same.refl _, List.replicate (m + 1) none, by simp, rfl⟩ (fun i σ' H' _ e => e.1.seq (sl e3)) ?_ ?_
  · rintro i x σ' H4 hx ⟨sm, l', hl', rfl⟩
    rw [List.getElem?_map] at hx
    obtain ⟨cell, _, rfl⟩ := Option.map_eq_some_iff.mp hx
    cases l' with
    | nil => simp at hl'
    | cons y l => exact body cell l H3 H4 _ (by simpa using hl') sm
  · rintro σ' H' ⟨sm, l', hl', rfl⟩
    wtm_at "s"
    exact q _


theorem tree_more46 {us : List Int} {i : Nat} {r : Int} (h : ∀ j : Nat, j < us.length → 0 ≤ us.getD j 0 ∧ us.getD j 0 ≤ j) (hl : us.length = i) (r0 : 0 ≤ r) (r1 : r < i + 1) : ∀ j : Nat, j < (us ++ [r]).length → 0 ≤ (us ++ [r]).getD j 0 ∧ (us ++ [r]).getD j 0 ≤ j := by
  intro j hj
  by_cases c : j < us.length
  · have e : (us ++ [r]).getD j 0 = us.getD j 0 := by rw [List.getD_eq_getElem?_getD, List.getD_eq_getElem?_getD, List.getElem?_append_left c]
    rw [e]; exact h j c
  · have hj' : j = us.length := by simp at hj; omega
    subst hj'
    have e : (us ++ [r]).getD us.length 0 = r := by rw [List.getD_eq_getElem?_getD, List.getElem?_append_right (Nat.le_refl _)]; simp
    rw [e]; omega
def starD (ps : List Int) (ws : List (Int × Int)) (i : Nat) : PyData := .tuple [(Net.tree (starN (hereOf ps (i : Int)).length)).d, dPairs ((crPairs ps (i : Int) ws).map starW)]
def sp_law (K : PySem.W.Frag) : Sp := fun vs H Q _ => ∃ (a : Addr) (ns : List Int), vs = [.ref a] ∧ SqL K H a (ns.map V.int) ∧ ns.length ≤ 63 ∧ ∀ H', Q (.bl true) H'
def t_law (K : PySem.W.Frag) : TS :=
  (tSeq (tFor (iList K (tOp rCat (tLst (tCons (tC (.int 23)) tNil)) (tSl (rSlL K) (tVar 0) tNoPart (tPart (tC (.int 5)))))) (gName 1)
      (tSeq (tAsg (tCall (sp_law_left K) [] E0 (tCons (tVar 1) tNil)) (gName 2))
    (tSeq (tAsg (tLc (iRng1 (tCons (tOp xAdd (tC (.int 1)) (tCall (sp_law_draw K) [] E0 (tCons (tVar 2) (tCons (tC (.int 8)) tNil)))) tNil)) (gName 10) tYes (tCall (sp_law_draw K) [] E0 (tCons (tVar 2) (tCons (tOp xAdd (tVar 10) (tC (.int 1))) tNil))) [10]) (gName 3))
    (tSeq (tAsg (tTup (tCons (tC (.str (Str.ofString "tree"))) (tCons (tCB (rListOf K) (tCons (tVar 3) tNil)) tNil))) (gName 4))
    (tSeq (tAsg (tCall (sp_law_ways K) [] E0 (tCons (tVar 2) (tCons (tOp xAdd (tCB (rLenX K) (tCons (tVar 3) tNil)) (tC (.int 1))) tNil))) (gName 5))
    (tSeq (tAsg (tCall (sp_law_heads K) [] E0 (tCons (tVar 4) (tCons (tVar 5) tNil))) (gName 6))
    (tSeq (tIfS (tTest (tOp rNe (tCall (sp_law_of_halves K) [] E0 (tCons (tVar 3) (tCons (tVar 5) (tCons (tOp xAdd (tC (.int 1)) (tCall (sp_law_draw K) [] E0 (tCons (tVar 2) (tCons (tCB (rLenX K) (tCons (tVar 3) tNil)) tNil)))) tNil)))) (tOp (rIxT K) (tVar 6) (tC (.int 0))))) (tRet (tC (.bl false))) tNext)
    (tSeq (tAsg (tLc (iRng1 (tCons (tOp xAdd (tCB (rLenX K) (tCons (tVar 3) tNil)) (tC (.int 1))) tNil)) (gName 11) tYes (tCall (sp_law_star K) [] E0 (tCons (tVar 4) (tCons (tVar 5) (tCons (tVar 11) tNil)))) [11]) (gName 7))
    (tSeq (tIfS (tTest (tOp rNe (tCB (rMax K) (tCons (tLc (iList K (tVar 7)) (gTup K 2 (gCons (gName 12) (gCons (gName 13) gNil))) tYes (tCall (sp_law_least K) [] E0 (tCons (tVar 12) (tCons (tVar 13) tNil))) [12, 13]) tNil)) (tOp (rIxT K) (tVar 6) (tC (.int 0))))) (tRet (tC (.bl false))) tNext)
    (tSeq (tAsg (tCall (sp_law_from K) [] E0 (tCons (tVar 3) (tCons (tVar 5) (tCons (tCall (sp_law_draw K) [] E0 (tCons (tVar 2) (tCons (tOp xAdd (tCB (rLenX K) (tCons (tVar 3) tNil)) (tC (.int 1))) tNil))) tNil)))) (gTup K 2 (gCons (gName 8) (gCons (gName 9) gNil))))
    (tIfS (tOr (tTest (tOp (rNeD K) (tCall (sp_law_heads K) [] E0 (tCons (tVar 8) (tCons (tVar 9) tNil))) (tVar 6))) (tOr (tTest (tOp (rNeD K) (tVar 4) (tTup (tCons (tC (.str (Str.ofString "tree"))) (tCons (tVar 3) tNil))))) (tNot (tB (tCall (sp_law_line K) [] E0 (tCons (tVar 2) tNil)))))) (tRet (tC (.bl false))) tNext)))))))))))
    (tRet (tC (.bl true))))
theorem pure_law {v0 : V} {H : Hp} {Q : VK} (h : ∃ (a : Addr) (ns : List Int), v0 = .ref a ∧ SqL K H a (ns.map V.int) ∧ ns.length ≤ 63 ∧ ∀ H', Q (.bl true) H') : t_law K ⟨fun _ H' => Q .non H', Q, fun _ _ => False, fun _ _ => False⟩ [some v0, none, none, none, none, none, none, none, none, none, none, none, none, none] H := by
  obtain ⟨a, ns, rfl, ha, hz, q⟩ := h
  unfold t_law
  refine law_frameN (m := 12) (N := 5) rfl hz ha q ?_
  clear ha hz q H ns
  intro cell l H3 H4 nx hl sm
  match l, hl with
  | [k2, k3, k4, k5, k6, k7, k8, k9, k10, k11, k12, k13], _ =>
  wtm_at "s"
  refine ⟨_, rfl, cell, rfl, fun pu H5 npu s5 L5 => ?_⟩
  have npu3 : H3 pu = none := sm.free npu
  have s35 := sm.trans s5
  clear sm s5 npu H4
  wtm_at "s"
  refine ⟨_, _, rfl, pu, 0, 8, rfl, rfl, L5, by omega, by decide, by decide, fun d H6 d0 d1 L6 S6 => ?_⟩
  have s36 := same_of_hid s35 (free1 npu3) S6
  clear S6 s35 L5 H5
  wtm_at "s"
  intro D nD
  have nD' := L6.fresh nD
  have fr : hid [pu] H6 D = none := by rw [hid_ne nD']; exact nD
  refine lc_range (fun t H => Le H pu (1 + t) ∧ Same (hid [pu] H6) (hid [pu] H) ∧ ∃ us, H D = some (.lst (List.map V.int us)) ∧ us.length = t ∧ ∀ j : Nat, j < us.length → 0 ≤ us.getD j 0 ∧ us.getD j 0 ≤ j) ⟨by
      have := L6.upd (o := .lst []) nD'
      rw [show (1 : Int) + ((0 : Nat) : Int) = 0 + 1 by omega]; exact this, same_hid_new nD, [], upd_same, rfl, fun j hj => by simp at hj⟩ ?_ ?_
  · rintro t H7 ht ⟨Lt, St, us, hD, hl, hok⟩
    wtm_at "s"
    refine ⟨_, _, rfl, pu, 1 + t, 0 + (t : Int) + 1, rfl, rfl, Lt, by omega, by omega, by omega, fun r H8 r0 r1 L8 S8 => ?_⟩
    refine ⟨_, keeps S8 hD nD', szl (by rw [List.length_map]; omega), ?_, ?_, us ++ [r], ?_, by simp [hl], tree_more46 hok hl r0 (by omega)⟩
    · rw [show (1 : Int) + ((t + 1 : Nat) : Int) = 1 + t + 1 by omega]; exact L8.upd nD'
    · exact same_hid_mut (St.trans S8) fr
    · rw [upd_same, List.map_append]; rfl
  rintro H7 ⟨L7, S7, ps, eD, lps, hps⟩
  have s37 := same_of_hid s36 (free1 npu3) S7
  have T : TreeOk ps := ⟨by omega, by omega, hps⟩
  have l8 : ps.length ≤ 8 := by omega
  clear S7 s36 L6 nD fr H6
  wtm_at "s"
  refine k_listN (sl eD) (fun pl H8 npl s8 e8 => ?_)
  wtm_at "s"
  refine kT (by simp) (fun nt H9 nnt s9 e9 => ?_)
  have s79 := s8.trans s9
  have L9 := L7.same s79
  have npl' := L7.fresh npl
  have nnt' := (L7.same s8).fresh nnt
  have eD9 := s79 _ _ eD
  have e89 := s9 _ _ e8
  have s39 := s37.trans s79
  have dN : Dp K (hid [pu] H9) (.ref nt) (Net.tree ps).d := .tup (stp (by rw [hid_ne nnt']; exact e9)) (.cons (.str _) (.cons (dp_of_ints (sl (by rw [hid_ne npl']; exact e89))) .nil))
  have dP : Dp K (hid [pu] H9) (.ref D) (dInts ps) := dp_of_ints (sl (by rw [hid_ne nD']; exact eD9))
  clear s37 s8 s9 s79 eD e8 L7 npl nnt e9 e89 H7 H8
  wtm_at "s"
  refine ⟨_, _, rfl, pu, _, (ps.length : Int) + 1, rfl, by simp, L9, by omega, by omega, by omega, fun wl ys ws kk HA nwl' LA hkA SA eA dA lw hw => ?_⟩
  have ly : ys.length = ws.length := by rw [dpa_len dA, List.length_map]
  have hok : ∀ w ∈ ws, isWay (.tree ps) w.1 w.2 := fun w hx => by
    obtain ⟨a1, a2, a3, a4, a5⟩ := hw w hx
    exact ⟨a1, a2, a4, a3, a5⟩
  have s3A := same_of_hid s39 (free1 npu3) SA
  have dNA := dp_same SA dN
  have dPA := dp_same SA dP
  have eDA := keeps SA eD9 nD'
  have dWA : Dp K (hid [pu] HA) (.ref wl) (dPairs ws) := .lst (sl (by rw [hid_ne nwl']; exact eA)) (dpa_same (hid_sub (by simp)) dA)
  clear s39 SA dN dP eD9 L9 dA H9 eA
  wtm_at "s"
  have vA := hid_same [pu] HA
  refine ⟨_, _, rfl, .tree ps, ws, dp_same vA dNA, T, dp_same vA dWA, by omega, hok, fun hp ha h l ls HB nhp nha neh sB eB fB hd => ?_⟩
  have nhp' := LA.fresh nhp
  have nha' := LA.fresh nha
  have LB := LA.same sB
  have vB : Same (hid [pu] HA) (hid [pu] HB) := hid_mono sB
  have eDB := sB _ _ eDA
  wtm_at "s"
  refine ⟨_, _, rfl, pu, _, (ps.length : Int), rfl, rfl, LB, by omega, by have := T.1; omega, by omega, fun c HC c0 c1 LC SC => ?_⟩
  wtm_at "s"
  have vC := vB.trans SC
  have vCs := hid_same [pu] HC
  have eC := keeps SC eB nhp'
  have fC := keeps SC fB nha'
  have eDC := keeps SC eDB nD'
  refine ⟨_, _, _, rfl, ps, ws, (1 + c).toNat, h, dp_same (vC.trans vCs) dPA, T, dp_same (vC.trans vCs) dWA, by omega, hok, by omega, by omega, by rw [Int.toNat_of_nonneg (by omega)], hd.few, fun HE sE => ?_⟩
  have eE := sE _ _ eC
  have fE := sE _ _ fC
  have eDE := sE _ _ eDC
  have LE := LC.same sE
  have vE : Same (hid [pu] HA) (hid [pu] HE) := vC.trans (hid_mono sE)
  have vEs := vE.trans (hid_same [pu] HE)
  clear eC fC eDC LC vC vCs LB vB eDB eB fB SC sE sB nhp nha
  wtm_at "s"
  refine lc_dpR (K := K) [pu] (fun x hx z => by
    obtain ⟨_, _, e, _⟩ := LE.hp
    rw [List.mem_singleton.mp hx, e] at z; cases z) (by simp; omega) (starD ps ws) ?_ (fun DS zs HF nDS sF eF dF => ?_) (fun _ _ _ _ _ h hh => h _ _ hh)
  · intro i H' hi sm S R hS g
    have hi' : i ≤ ps.length := by simp at hi; omega
    wtm_at "s"
    refine ⟨_, _, _, rfl, ps, ws, i, dp_same (vEs.trans sm) dNA, T, dp_same (vEs.trans sm) dWA, by omega, hok, hi', by rw [Int.zero_add], fun p H2 np s2 dp => ?_⟩
    exact g _ _ s2 (dp S hS)
  have cnt_ : ((ps.length : Int) + 1).toNat = ps.length + 1 := by omega
  have dF' : DpAll K HF zs ((List.range (ps.length + 1)).map (starD ps ws)) := by
    have := dpa_same (hid_same _ _) dF
    simp only [List.length_map, cnt_] at this
    exact this
  have lz : zs.length = ps.length + 1 := by rw [dpa_len dF']; simp
  clear dF
  wtm_at "s"
  refine ⟨DS, rfl, ⟨zs, sl eF⟩, fun DM nDM => ?_⟩
  refine lc_list (xs := zs) (fun t H => Same HF H ∧ ∃ us : List Int, H DM = some (.lst (us.map V.int)) ∧ us.length = t ∧ ∀ j, j < t → Least (Colr (.tree (starN (hereOf ps (j : Int)).length)) ((crPairs ps (j : Int) ws).map starW)) (us.getD j 0)) ⟨same_new nDM, [], upd_same, rfl, fun j hj => by omega⟩ (fun t H _ e => e.1.seq (sl eF)) ?_ ?_
  · rintro t y HG hy ⟨sG, us, eG, lu, hu⟩
    have ht : t < zs.length := (List.getElem?_eq_some_iff.mp hy).1
    obtain ⟨dd, hdd, dy⟩ := dpa_get (dpa_same sG dF') hy
    rw [List.getElem?_map, List.getElem?_range (by omega)] at hdd
    injection hdd with hdd
    subst hdd
    obtain ⟨cc, x1, x2, rfl, hc, dx1, dx2⟩ := dp_tup2 dy
    obtain ⟨h1, h2⟩ := here_pos T (x := t) (by omega)
    wtm_at "s"
    refine ⟨_, _, rfl, .tree _, _, dx1, star_ok h1 h2, dx2, by
      rw [List.length_map]
      exact Nat.le_trans (List.length_filterMap_le _ _) (by omega), fun w hx => by
      obtain ⟨v, hv, rfl⟩ := List.mem_map.mp hx
      exact star_way h1 (cr_ok T (by omega) v hv), fun n HH sH ln => ?_⟩
    refine ⟨_, sH _ _ eG, szl (by rw [List.length_map]; omega), same_mut (sG.trans sH) nDM, us ++ [n], by rw [upd_same, List.map_append]; rfl, by simp [lu], fun j hj => ?_⟩
    by_cases cj : j = t
    · subst cj
      have : (us ++ [n]).getD j 0 = n := by rw [List.getD_eq_getElem?_getD, List.getElem?_append_right (by omega), lu, Nat.sub_self]; rfl
      rw [this]; exact ln
    · rw [List.getD_eq_getElem?_getD, List.getElem?_append_left (by omega), ← List.getD_eq_getElem?_getD]
      exact hu j (by omega)
  rintro HG ⟨sG, us, eG, lu, hu⟩
  rw [lz] at lu hu
  have sEG := sF.trans sG
  have eGh := sEG _ _ eE
  have fG := sEG _ _ fE
  have eDG := sEG _ _ eDE
  have LG := LE.same sEG
  have vG : Same (hid [pu] HA) (hid [pu] HG) := vE.trans (hid_mono sEG)
  clear sF sG sEG eF dF' eE fE eDE LE vE vEs nDS nDM
  wtm_at "s"
  refine k_max (sl eG) (by omega) (fun M m1 m2 => ?_)
  have eM : M = h := by
    obtain ⟨j, hj, e⟩ := List.getElem_of_mem m1
    refine stars_least T (by omega) hok hd.few (n := fun j => us.getD j 0) (fun x hx => hu x (by omega)) ⟨j, by omega, by show us.getD j 0 = M; rw [getD_of hj, e]⟩ (fun x hx => ?_)
    exact m2 _ (by rw [getD_of (by omega)]; exact List.getElem_mem _)
  subst eM
  wtm_at "s"
  refine ⟨_, _, rfl, pu, _, (ps.length : Int) + 1, rfl, by simp, LG, by omega, by omega, by omega, fun f HI f0 f1 LI SI => ?_⟩
  have vI := vG.trans SI
  have vIs := vI.trans (hid_same [pu] HI)
  have eI := keeps SI eGh nhp'
  have fI := keeps SI fG nha'
  have eDI := keeps SI eDG nD'
  clear eG eGh fG eDG LG vG SI m1 m2 hu
  wtm_at "s"
  refine ⟨_, _, _, rfl, ps, ws, f.toNat, dp_same vIs dPA, T, dp_same vIs dWA, by omega, hok, by omega, by rw [Int.toNat_of_nonneg f0], fun fp od qs HJ sJ rt dJ => ?_⟩
  obtain ⟨fa, x1, x2, e, hfa, dx1, dx2⟩ := dp_tup2 dJ
  cases e
  have eJ := sJ _ _ eI
  have fJ := sJ _ _ fI
  have eDJ := sJ _ _ eDI
  wtm_at "s"
  refine ⟨_, _, rfl, .tree qs, ws.map (keepW od), dx1, rt.ok T, dx2, by rw [List.length_map]; omega, fun w hx => by
    obtain ⟨v, hv, rfl⟩ := List.mem_map.mp hx
    exact rt.way (hok v hv), fun hp2 ha2 h2 l2 ls2 HK nhp2 nha2 ne2 sK eK fK hd2 => ?_⟩
  obtain ⟨q1, q2, q3⟩ := hd.one hd2 (fun k => rt.colr T hok) (rt.loads T hok)
  subst q1 q2 q3
  have eK' := sK _ _ eJ
  have fK' := sK _ _ fJ
  have LK := (LI.same sJ).same sK
  have vK : Same (hid [pu] HA) (hid [pu] HK) := vI.trans (hid_mono (sJ.trans sK))
  have vKs := vK.trans (hid_same [pu] HK)
  have eDK := sK _ _ eDJ
  wtm_at "s"
  refine k_neD0 (c := .tuple [.int h2, .int l2, dInts ls2]) (n := 3) (.tup (stp eK) (.cons (.int _) (.cons (.int _) (.cons (dp_of_ints (sl fK)) .nil)))) (.tup (stp eK') (.cons (.int _) (.cons (.int _) (.cons (dp_of_ints (sl fK')) .nil)))) (sh_tup fun d hd => by
    simp only [List.mem_cons, List.not_mem_nil, or_false] at hd
    rcases hd with rfl | rfl | rfl
    · exact sh_int
    · exact sh_int
    · exact sh_ints _) (by decide) ?_
  wtm_at "s"
  refine kT (by simp) (fun t9 HL nt9 sL eL => ?_)
  have LL := LK.same sL
  wtm_at "s"
  refine k_neD0 (c := (Net.tree ps).d) (n := 3) (dp_same (vKs.trans sL) dNA) (.tup (stp eL) (.cons (.str _) (.cons (dp_of_ints (sl (sL _ _ eDK))) .nil))) (sh_tup fun d hd => by
    simp only [List.mem_cons, List.not_mem_nil, or_false] at hd
    rcases hd with rfl | rfl
    · exact ⟨by show (PyData.str (Str.ofString "tree")).canLay0 = true; decide +kernel, Nat.zero_le _⟩
    · exact sh_ints _) (by decide) ?_
  wtm_at "s"
  refine ⟨_, rfl, pu, _, rfl, LL, by omega, fun HM SM => ?_⟩
  wtm_at "s"
  exact ⟨same_of_hid s3A (free1 npu3) (vK.trans ((hid_mono sL).trans SM)), _, rfl, rfl⟩
theorem ok_law (T : Txt K mg A) : FnOk P w K mg base CX0 21 A.a_law A.d_law ["_law_script"] (sp_law K) := by
  refine T.F_law.ok sc_law (fun vs H Q E h => by obtain ⟨a, ns, rfl, _⟩ := h; rfl) (fun cdv A0 outer s H vs Q E hr h => ?_)
  obtain ⟨a, ns, rfl, h⟩ := h
  exact ⟨t_law K, (pss_cons (ps_for PassesOwn.never rfl (pi_list (pe_op op_cat (pe_lst (pa_cons pe_int pa_nil)) (pe_slice sl_list (pv 0) po_none (po_some pe_int)))) (pg_name (i := 1) sc_law.nd rfl (Or.inl rfl))
      (pss_cons (ps_set (i := 2) sc_law.nd rfl (Or.inr rfl) (pe_call (ok_law_left T) (hr.mono (by decide)) (by rfl) T.g_law_left T.F_law_left.kp T.b_law_left .nil pass0 (pa_cons (pv 1) pa_nil)))
      (pss_cons (ps_setLc (i := 3) (own := [("_law_k", 10)]) (by rfl) sc_law.nd rfl rfl (sw_true rfl rfl rfl (by decide +kernel)) (pi_range1 (by rfl) T.z_range (pa_cons (pe_op op_add pe_int (pe_call (ok_law_draw T) (hr.mono (by decide)) (by rfl) T.g_law_draw T.F_law_draw.kp T.b_law_draw .nil pass0 (pa_cons (pv 2) (pa_cons pe_int pa_nil)))) pa_nil)) (blkOk_by (own := [("_law_k", 10)]) (N := ["_law_script", "_law_cell", "_law_left_here", "_law_parents", "_law_net", "_law_ways_here", "_law_heads_here", "_law_stars", "_law_other", "_law_others", "_law_k", "_law_place", "_law_star_here", "_law_some"]) (sc := defScope s_law) (by decide +kernel)) (fun _ _ _ _ _ => (pg_name (i := 10) sc_law.nd rfl (Or.inl rfl))) (fun _ _ _ _ _ => pts_nil) (fun _ _ _ _ _ => (pe_call (ok_law_draw T) (hr.mono (by decide)) (by rfl) T.g_law_draw T.F_law_draw.kp T.b_law_draw .nil pass0 (pa_cons (pv 2) (pa_cons (pe_op op_add (pv 10) pe_int) pa_nil)))))
      (pss_cons (ps_set (i := 4) sc_law.nd rfl (Or.inr rfl) (pe_tup (pa_cons pe_str (pa_cons (pe_callTy q_listOf (by rfl) T.z_list (by decide +kernel) (pa_cons (pv 3) pa_nil)) pa_nil))))
      (pss_cons (ps_set (i := 5) sc_law.nd rfl (Or.inr rfl) (pe_call (ok_law_ways T) (hr.mono (by decide)) (by rfl) T.g_law_ways T.F_law_ways.kp T.b_law_ways .nil pass0 (pa_cons (pv 2) (pa_cons (pe_op op_add (pe_callB q_len (by rfl) T.z_len (by decide +kernel) (pa_cons (pv 3) pa_nil)) pe_int) pa_nil))))
      (pss_cons (ps_set (i := 6) sc_law.nd rfl (Or.inl rfl) (pe_call (ok_law_heads T) (hr.mono (by decide)) (by rfl) T.g_law_heads T.F_law_heads.kp T.b_law_heads .nil pass0 (pa_cons (pv 4) (pa_cons (pv 5) pa_nil))))
      (pss_cons (ps_if (pt_cmpR op_ne (pe_call (ok_law_of_halves T) (hr.mono (by decide)) (by rfl) T.g_law_of_halves T.F_law_of_halves.kp T.b_law_of_halves .nil pass0 (pa_cons (pv 3) (pa_cons (pv 5) (pa_cons (pe_op op_add pe_int (pe_call (ok_law_draw T) (hr.mono (by decide)) (by rfl) T.g_law_draw T.F_law_draw.kp T.b_law_draw .nil pass0 (pa_cons (pv 2) (pa_cons (pe_callB q_len (by rfl) T.z_len (by decide +kernel) (pa_cons (pv 3) pa_nil)) pa_nil)))) pa_nil)))) (pe_ix ix_tup (pv 6) pe_int (fun _ _ => rfl)) (nomark _)) (pss_one (ps_ret pe_bl)) pss_nil)
      (pss_cons (ps_setLc (i := 7) (own := [("_law_place", 11)]) (by rfl) sc_law.nd rfl rfl (sw_true rfl rfl rfl (by decide +kernel)) (pi_range1 (by rfl) T.z_range (pa_cons (pe_op op_add (pe_callB q_len (by rfl) T.z_len (by decide +kernel) (pa_cons (pv 3) pa_nil)) pe_int) pa_nil)) (blkOk_by (own := [("_law_place", 11)]) (N := ["_law_script", "_law_cell", "_law_left_here", "_law_parents", "_law_net", "_law_ways_here", "_law_heads_here", "_law_stars", "_law_other", "_law_others", "_law_k", "_law_place", "_law_star_here", "_law_some"]) (sc := defScope s_law) (by decide +kernel)) (fun _ _ _ _ _ => (pg_name (i := 11) sc_law.nd rfl (Or.inl rfl))) (fun _ _ _ _ _ => pts_nil) (fun _ _ _ _ _ => (pe_call (ok_law_star T) (hr.mono (by decide)) (by rfl) T.g_law_star T.F_law_star.kp T.b_law_star .nil pass0 (pa_cons (pv 4) (pa_cons (pv 5) (pa_cons (pv 11) pa_nil))))))
      (pss_cons (ps_if (pt_cmpR op_ne (pe_callB (cr_max (by rfl)) (by rfl) T.z_max (by decide +kernel) (pa_cons (pe_lc (own := [("_law_star_here", 12), ("_law_some", 13)]) (by rfl) sc_law.nd (pi_list (pv 7)) (blkOk_by (own := [("_law_star_here", 12), ("_law_some", 13)]) (N := ["_law_script", "_law_cell", "_law_left_here", "_law_parents", "_law_net", "_law_ways_here", "_law_heads_here", "_law_stars", "_law_other", "_law_others", "_law_k", "_law_place", "_law_star_here", "_law_some"]) (sc := defScope s_law) (by decide +kernel)) (fun _ _ _ _ _ => (pg_tup (by rfl) (pgs_cons (pg_name (i := 12) sc_law.nd rfl (Or.inl rfl)) (pgs_cons (pg_name (i := 13) sc_law.nd rfl (Or.inl rfl)) pgs_nil)))) (fun _ _ _ _ _ => pts_nil) (fun _ _ _ _ _ => (pe_call (ok_law_least T) (hr.mono (by decide)) (by rfl) T.g_law_least T.F_law_least.kp T.b_law_least .nil pass0 (pa_cons (pv 12) (pa_cons (pv 13) pa_nil))))) pa_nil)) (pe_ix ix_tup (pv 6) pe_int (fun _ _ => rfl)) (nomark _)) (pss_one (ps_ret pe_bl)) pss_nil)
      (pss_cons (ps_asg (pe_call (ok_law_from T) (hr.mono (by decide)) (by rfl) T.g_law_from T.F_law_from.kp T.b_law_from .nil pass0 (pa_cons (pv 3) (pa_cons (pv 5) (pa_cons (pe_call (ok_law_draw T) (hr.mono (by decide)) (by rfl) T.g_law_draw T.F_law_draw.kp T.b_law_draw .nil pass0 (pa_cons (pv 2) (pa_cons (pe_op op_add (pe_callB q_len (by rfl) T.z_len (by decide +kernel) (pa_cons (pv 3) pa_nil)) pe_int) pa_nil))) pa_nil)))) (pg_tup (by rfl) (pgs_cons (pg_name (i := 8) sc_law.nd rfl (Or.inl rfl)) (pgs_cons (pg_name (i := 9) sc_law.nd rfl (Or.inl rfl)) pgs_nil))))
      (pss_one (ps_if (PW.pt (pw_or (pt_cmpR (op_neD hr.units) (pe_call (ok_law_heads T) (hr.mono (by decide)) (by rfl) T.g_law_heads T.F_law_heads.kp T.b_law_heads .nil pass0 (pa_cons (pv 8) (pa_cons (pv 9) pa_nil))) (pv 6) (nomark _)) (pw_or (pt_cmpR (op_neD hr.units) (pv 4) (pe_tup (pa_cons pe_str (pa_cons (pv 3) pa_nil))) (nomark _)) (pw_or1 (pt_not (pt_val (pe_call (ok_law_line T) (hr.mono (by decide)) (by rfl) T.g_law_line T.F_law_line.kp T.b_law_line .nil pass0 (pa_cons (pv 2) pa_nil)))))))) (pss_one (ps_ret pe_bl)) pss_nil))))))))))))
      (pss_one (ps_ret pe_bl))), pure_law ⟨a, ns, rfl, h⟩⟩

theorem all_mk {l : PySem.W.OpenLaw} {w : World} {K : PySem.W.Frag} {h : Heap} {mg : Str → Option Value} {fa : Addr} {f0 f1 f2 f3 f4 f5 f6 f7 f8 f9 f10 f11 f12 f13 f14 f15 f16 f17 f18 f19 f20 f21 f22 f23 f24 f25 f26 f27 f28 f29 f30 f31 f32 f33 f34 f35 f36 f37 f38 f39 f40 f41 f42 f43 f44 : Addr} (X : K.In h) (G : h.Ns mainGlobals mg) (hfa : mg "law" = some (.ref fa))
    {od0 an0 od1 an1 od2 an2 od3 an3 od4 an4 od5 an5 od6 an6 od7 an7 od8 an8 od9 an9 od10 an10 od11 an11 od12 an12 od13 an13 od14 an14 od15 an15 od16 an16 od17 an17 od18 an18 od19 an19 od20 an20 od21 an21 od22 an22 od23 an23 od24 an24 od25 an25 od26 an26 od27 an27 od28 an28 od29 an29 od30 an30 od31 an31 od32 an32 od33 an33 od34 an34 od35 an35 od36 an36 od37 an37 od38 an38 od39 an39 od40 an40 od41 an41 od42 an42 od43 an43 od44 an44 : Option Addr} {sl0 sl1 sl2 sl3 sl4 sl5 sl6 sl7 sl8 sl9 sl10 sl11 sl12 sl13 sl14 sl15 sl16 sl17 sl18 sl19 sl20 sl21 sl22 sl23 sl24 sl25 sl26 sl27 sl28 sl29 sl30 sl31 sl32 sl33 sl34 sl35 sl36 sl37 sl38 sl39 sl40 sl41 sl42 sl43 sl44 : Array (Option Value)} {oc0 kV0 dc0 pm0 cd0 ct0 oc1 kV1 dc1 pm1 cd1 ct1 oc2 kV2 dc2 pm2 cd2 ct2 oc3 kV3 dc3 pm3 cd3 ct3 oc4 kV4 dc4 pm4 cd4 ct4 oc5 kV5 dc5 pm5 cd5 ct5 oc6 kV6 dc6 pm6 cd6 ct6 oc7 kV7 dc7 pm7 cd7 ct7 oc8 kV8 dc8 pm8 cd8 ct8 oc9 kV9 dc9 pm9 cd9 ct9 oc10 kV10 dc10 pm10 cd10 ct10 oc11 kV11 dc11 pm11 cd11 ct11 oc12 kV12 dc12 pm12 cd12 ct12 oc13 kV13 dc13 pm13 cd13 ct13 oc14 kV14 dc14 pm14 cd14 ct14 oc15 kV15 dc15 pm15 cd15 ct15 oc16 kV16 dc16 pm16 cd16 ct16 oc17 kV17 dc17 pm17 cd17 ct17 oc18 kV18 dc18 pm18 cd18 ct18 oc19 kV19 dc19 pm19 cd19 ct19 oc20 kV20 dc20 pm20 cd20 ct20 oc21 kV21 dc21 pm21 cd21 ct21 oc22 kV22 dc22 pm22 cd22 ct22 oc23 kV23 dc23 pm23 cd23 ct23 oc24 kV24 dc24 pm24 cd24 ct24 oc25 kV25 dc25 pm25 cd25 ct25 oc26 kV26 dc26 pm26 cd26 ct26 oc27 kV27 dc27 pm27 cd27 ct27 oc28 kV28 dc28 pm28 cd28 ct28 oc29 kV29 dc29 pm29 cd29 ct29 oc30 kV30 dc30 pm30 cd30 ct30 oc31 kV31 dc31 pm31 cd31 ct31 oc32 kV32 dc32 pm32 cd32 ct32 oc33 kV33 dc33 pm33 cd33 ct33 oc34 kV34 dc34 pm34 cd34 ct34 oc35 kV35 dc35 pm35 cd35 ct35 oc36 kV36 dc36 pm36 cd36 ct36 oc37 kV37 dc37 pm37 cd37 ct37 oc38 kV38 dc38 pm38 cd38 ct38 oc39 kV39 dc39 pm39 cd39 ct39 oc40 kV40 dc40 pm40 cd40 ct40 oc41 kV41 dc41 pm41 cd41 ct41 oc42 kV42 dc42 pm42 cd42 ct42 oc43 kV43 dc43 pm43 cd43 ct43 oc44 kV44 dc44 pm44 cd44 ct44 : Value}
    {tk0 tk1 tk2 tk3 tk4 : Tok}
    (a0 : PySem.W.nsIn K mainGlobals "is_tree" = some (some (.ref f0))) (l0 : K.lookup f0 = some ⟨oc0, od0, .func (PySem.W.fnOf "is_tree" "is_tree" (defArgs s_is_tree) (defBody s_is_tree) (defScope s_is_tree) .none kV0 dc0 pm0 an0 cd0 ct0), sl0⟩) (c0 : PySem.W.codeIn K cd0 "is_tree" = true) (k0 : PySem.W.keepIn K (.ref f0) = true)
    (a1 : PySem.W.nsIn K mainGlobals "look_net" = some (some (.ref f1))) (l1 : K.lookup f1 = some ⟨oc1, od1, .func (PySem.W.fnOf "look_net" "look_net" (defArgs s_look_net) (defBody s_look_net) (defScope s_look_net) .none kV1 dc1 pm1 an1 cd1 ct1), sl1⟩) (c1 : PySem.W.codeIn K cd1 "look_net" = true) (k1 : PySem.W.keepIn K (.ref f1) = true)
    (a2 : PySem.W.nsIn K mainGlobals "must_be_kind" = some (some (.ref f2))) (l2 : K.lookup f2 = some ⟨oc2, od2, .func (PySem.W.fnOf "must_be_kind" "must_be_kind" (defArgs s_must_be_kind) (defBody s_must_be_kind) (defScope s_must_be_kind) .none kV2 dc2 pm2 an2 cd2 ct2), sl2⟩) (c2 : PySem.W.codeIn K cd2 "must_be_kind" = true) (k2 : PySem.W.keepIn K (.ref f2) = true)
    (a3 : PySem.W.nsIn K mainGlobals "places_of" = some (some (.ref f3))) (l3 : K.lookup f3 = some ⟨oc3, od3, .func (PySem.W.fnOf "places_of" "places_of" (defArgs s_places_of) (defBody s_places_of) (defScope s_places_of) .none kV3 dc3 pm3 an3 cd3 ct3), sl3⟩) (c3 : PySem.W.codeIn K cd3 "places_of" = true) (k3 : PySem.W.keepIn K (.ref f3) = true)
    (a4 : PySem.W.nsIn K mainGlobals "ties_many" = some (some (.ref f4))) (l4 : K.lookup f4 = some ⟨oc4, od4, .func (PySem.W.fnOf "ties_many" "ties_many" (defArgs s_ties_many) (defBody s_ties_many) (defScope s_ties_many) .none kV4 dc4 pm4 an4 cd4 ct4), sl4⟩) (c4 : PySem.W.codeIn K cd4 "ties_many" = true) (k4 : PySem.W.keepIn K (.ref f4) = true)
    (a5 : PySem.W.nsIn K mainGlobals "is_way" = some (some (.ref f5))) (l5 : K.lookup f5 = some ⟨oc5, od5, .func (PySem.W.fnOf "is_way" "is_way" (defArgs s_is_way) (defBody s_is_way) (defScope s_is_way) .none kV5 dc5 pm5 an5 cd5 ct5), sl5⟩) (c5 : PySem.W.codeIn K cd5 "is_way" = true) (k5 : PySem.W.keepIn K (.ref f5) = true)
    (a6 : PySem.W.nsIn K mainGlobals "ties_on" = some (some (.ref f6))) (l6 : K.lookup f6 = some ⟨oc6, od6, .func (PySem.W.fnOf "ties_on" "ties_on" (defArgs s_ties_on) (defBody s_ties_on) (defScope s_ties_on) .none kV6 dc6 pm6 an6 cd6 ct6), sl6⟩) (c6 : PySem.W.codeIn K cd6 "ties_on" = true) (k6 : PySem.W.keepIn K (.ref f6) = true)
    (a7 : PySem.W.nsIn K mainGlobals "must_be_ways" = some (some (.ref f7))) (l7 : K.lookup f7 = some ⟨oc7, od7, .func (PySem.W.fnOf "must_be_ways" "must_be_ways" (defArgs s_must_be_ways) (defBody s_must_be_ways) (defScope s_must_be_ways) .none kV7 dc7 pm7 an7 cd7 ct7), sl7⟩) (c7 : PySem.W.codeIn K cd7 "must_be_ways" = true) (k7 : PySem.W.keepIn K (.ref f7) = true)
    (a8 : PySem.W.nsIn K mainGlobals "look_ways" = some (some (.ref f8))) (l8 : K.lookup f8 = some ⟨oc8, od8, .func (PySem.W.fnOf "look_ways" "look_ways" (defArgs s_look_ways) (defBody s_look_ways) (defScope s_look_ways) .none kV8 dc8 pm8 an8 cd8 ct8), sl8⟩) (c8 : PySem.W.codeIn K cd8 "look_ways" = true) (k8 : PySem.W.keepIn K (.ref f8) = true)
    (a9 : PySem.W.nsIn K mainGlobals "counted" = some (some (.ref f9))) (l9 : K.lookup f9 = some ⟨oc9, od9, .func (PySem.W.fnOf "counted" "counted" (defArgs s_counted) (defBody s_counted) (defScope s_counted) .none kV9 dc9 pm9 an9 cd9 ct9), sl9⟩) (c9 : PySem.W.codeIn K cd9 "counted" = true) (k9 : PySem.W.keepIn K (.ref f9) = true)
    (a10 : PySem.W.nsIn K mainGlobals "loads" = some (some (.ref f10))) (l10 : K.lookup f10 = some ⟨oc10, od10, .func (PySem.W.fnOf "loads" "loads" (defArgs s_loads) (defBody s_loads) (defScope s_loads) .none kV10 dc10 pm10 an10 cd10 ct10), sl10⟩) (c10 : PySem.W.codeIn K cd10 "loads" = true) (k10 : PySem.W.keepIn K (.ref f10) = true)
    (a11 : PySem.W.nsIn K mainGlobals "load" = some (some (.ref f11))) (l11 : K.lookup f11 = some ⟨oc11, od11, .func (PySem.W.fnOf "load" "load" (defArgs s_load) (defBody s_load) (defScope s_load) .none kV11 dc11 pm11 an11 cd11 ct11), sl11⟩) (c11 : PySem.W.codeIn K cd11 "load" = true) (k11 : PySem.W.keepIn K (.ref f11) = true)
    (a12 : PySem.W.nsIn K mainGlobals "have_common" = some (some (.ref f12))) (l12 : K.lookup f12 = some ⟨oc12, od12, .func (PySem.W.fnOf "have_common" "have_common" (defArgs s_have_common) (defBody s_have_common) (defScope s_have_common) .none kV12 dc12 pm12 an12 cd12 ct12), sl12⟩) (c12 : PySem.W.codeIn K cd12 "have_common" = true) (k12 : PySem.W.keepIn K (.ref f12) = true)
    (a13 : PySem.W.nsIn K mainGlobals "meetings" = some (some (.ref f13))) (l13 : K.lookup f13 = some ⟨oc13, od13, .func (PySem.W.fnOf "meetings" "meetings" (defArgs s_meetings) (defBody s_meetings) (defScope s_meetings) .none kV13 dc13 pm13 an13 cd13 ct13), sl13⟩) (c13 : PySem.W.codeIn K cd13 "meetings" = true) (k13 : PySem.W.keepIn K (.ref f13) = true)
    (a14 : PySem.W.nsIn K mainGlobals "look_few" = some (some (.ref f14))) (l14 : K.lookup f14 = some ⟨oc14, od14, .func (PySem.W.fnOf "look_few" "look_few" (defArgs s_look_few) (defBody s_look_few) (defScope s_look_few) .none kV14 dc14 pm14 an14 cd14 ct14), sl14⟩) (c14 : PySem.W.codeIn K cd14 "look_few" = true) (k14 : PySem.W.keepIn K (.ref f14) = true)
    (a15 : PySem.W.nsIn K mainGlobals "options" = some (some (.ref f15))) (l15 : K.lookup f15 = some ⟨oc15, od15, .func (PySem.W.fnOf "options" "options" (defArgs s_options) (defBody s_options) (defScope s_options) .none kV15 dc15 pm15 an15 cd15 ct15), sl15⟩) (c15 : PySem.W.codeIn K cd15 "options" = true) (k15 : PySem.W.keepIn K (.ref f15) = true)
    (a16 : PySem.W.nsIn K mainGlobals "is_stuck" = some (some (.ref f16))) (l16 : K.lookup f16 = some ⟨oc16, od16, .func (PySem.W.fnOf "is_stuck" "is_stuck" (defArgs s_is_stuck) (defBody s_is_stuck) (defScope s_is_stuck) .none kV16 dc16 pm16 an16 cd16 ct16), sl16⟩) (c16 : PySem.W.codeIn K cd16 "is_stuck" = true) (k16 : PySem.W.keepIn K (.ref f16) = true)
    (a17 : PySem.W.nsIn K mainGlobals "with_hue" = some (some (.ref f17))) (l17 : K.lookup f17 = some ⟨oc17, od17, .func (PySem.W.fnOf "with_hue" "with_hue" (defArgs s_with_hue) (defBody s_with_hue) (defScope s_with_hue) .none kV17 dc17 pm17 an17 cd17 ct17), sl17⟩) (c17 : PySem.W.codeIn K cd17 "with_hue" = true) (k17 : PySem.W.keepIn K (.ref f17) = true)
    (a18 : PySem.W.nsIn K mainGlobals "hardest_way" = some (some (.ref f18))) (l18 : K.lookup f18 = some ⟨oc18, od18, .func (PySem.W.fnOf "hardest_way" "hardest_way" (defArgs s_hardest_way) (defBody s_hardest_way) (defScope s_hardest_way) .none kV18 dc18 pm18 an18 cd18 ct18), sl18⟩) (c18 : PySem.W.codeIn K cd18 "hardest_way" = true) (k18 : PySem.W.keepIn K (.ref f18) = true)
    (a19 : PySem.W.nsIn K mainGlobals "gone_into" = some (some (.ref f19))) (l19 : K.lookup f19 = some ⟨oc19, od19, .func (PySem.W.fnOf "gone_into" "gone_into" (defArgs s_gone_into) (defBody s_gone_into) (defScope s_gone_into) .none kV19 dc19 pm19 an19 cd19 ct19), sl19⟩) (c19 : PySem.W.codeIn K cd19 "gone_into" = true) (k19 : PySem.W.keepIn K (.ref f19) = true)
    (a20 : PySem.W.nsIn K mainGlobals "must_be_crossing" = some (some (.ref f20))) (l20 : K.lookup f20 = some ⟨oc20, od20, .func (PySem.W.fnOf "must_be_crossing" "must_be_crossing" (defArgs s_must_be_crossing) (defBody s_must_be_crossing) (defScope s_must_be_crossing) .none kV20 dc20 pm20 an20 cd20 ct20), sl20⟩) (c20 : PySem.W.codeIn K cd20 "must_be_crossing" = true) (k20 : PySem.W.keepIn K (.ref f20) = true)
    (a21 : PySem.W.nsIn K mainGlobals "load_at" = some (some (.ref f21))) (l21 : K.lookup f21 = some ⟨oc21, od21, .func (PySem.W.fnOf "load_at" "load_at" (defArgs s_load_at) (defBody s_load_at) (defScope s_load_at) .none kV21 dc21 pm21 an21 cd21 ct21), sl21⟩) (c21 : PySem.W.codeIn K cd21 "load_at" = true) (k21 : PySem.W.keepIn K (.ref f21) = true)
    (a22 : PySem.W.nsIn K mainGlobals "bound_of" = some (some (.ref f22))) (l22 : K.lookup f22 = some ⟨oc22, od22, .func (PySem.W.fnOf "bound_of" "bound_of" (defArgs s_bound_of) (defBody s_bound_of) (defScope s_bound_of) .none kV22 dc22 pm22 an22 cd22 ct22), sl22⟩) (c22 : PySem.W.codeIn K cd22 "bound_of" = true) (k22 : PySem.W.keepIn K (.ref f22) = true)
    (a23 : PySem.W.nsIn K mainGlobals "lots_of" = some (some (.ref f23))) (l23 : K.lookup f23 = some ⟨oc23, od23, .func (PySem.W.fnOf "lots_of" "lots_of" (defArgs s_lots_of) (defBody s_lots_of) (defScope s_lots_of) .none kV23 dc23 pm23 an23 cd23 ct23), sl23⟩) (c23 : PySem.W.codeIn K cd23 "lots_of" = true) (k23 : PySem.W.keepIn K (.ref f23) = true)
    (a24 : PySem.W.nsIn K mainGlobals "best_lot" = some (some (.ref f24))) (l24 : K.lookup f24 = some ⟨oc24, od24, .func (PySem.W.fnOf "best_lot" "best_lot" (defArgs s_best_lot) (defBody s_best_lot) (defScope s_best_lot) .none kV24 dc24 pm24 an24 cd24 ct24), sl24⟩) (c24 : PySem.W.codeIn K cd24 "best_lot" = true) (k24 : PySem.W.keepIn K (.ref f24) = true)
    (a25 : PySem.W.nsIn K mainGlobals "ties_at" = some (some (.ref f25))) (l25 : K.lookup f25 = some ⟨oc25, od25, .func (PySem.W.fnOf "ties_at" "ties_at" (defArgs s_ties_at) (defBody s_ties_at) (defScope s_ties_at) .none kV25 dc25 pm25 an25 cd25 ct25), sl25⟩) (c25 : PySem.W.codeIn K cd25 "ties_at" = true) (k25 : PySem.W.keepIn K (.ref f25) = true)
    (a26 : PySem.W.nsIn K mainGlobals "crossing_of" = some (some (.ref f26))) (l26 : K.lookup f26 = some ⟨oc26, od26, .func (PySem.W.fnOf "crossing_of" "crossing_of" (defArgs s_crossing_of) (defBody s_crossing_of) (defScope s_crossing_of) .none kV26 dc26 pm26 an26 cd26 ct26), sl26⟩) (c26 : PySem.W.codeIn K cd26 "crossing_of" = true) (k26 : PySem.W.keepIn K (.ref f26) = true)
    (a27 : PySem.W.nsIn K mainGlobals "crossing_at" = some (some (.ref f27))) (l27 : K.lookup f27 = some ⟨oc27, od27, .func (PySem.W.fnOf "crossing_at" "crossing_at" (defArgs s_crossing_at) (defBody s_crossing_at) (defScope s_crossing_at) .none kV27 dc27 pm27 an27 cd27 ct27), sl27⟩) (c27 : PySem.W.codeIn K cd27 "crossing_at" = true) (k27 : PySem.W.keepIn K (.ref f27) = true)
    (a28 : PySem.W.nsIn K mainGlobals "lot_paper" = some (some (.ref f28))) (l28 : K.lookup f28 = some ⟨oc28, od28, .func (PySem.W.fnOf "lot_paper" "lot_paper" (defArgs s_lot_paper) (defBody s_lot_paper) (defScope s_lot_paper) .none kV28 dc28 pm28 an28 cd28 ct28), sl28⟩) (c28 : PySem.W.codeIn K cd28 "lot_paper" = true) (k28 : PySem.W.keepIn K (.ref f28) = true)
    (a29 : PySem.W.nsIn K mainGlobals "paper_of" = some (some (.ref f29))) (l29 : K.lookup f29 = some ⟨oc29, od29, .func (PySem.W.fnOf "paper_of" "paper_of" (defArgs s_paper_of) (defBody s_paper_of) (defScope s_paper_of) .none kV29 dc29 pm29 an29 cd29 ct29), sl29⟩) (c29 : PySem.W.codeIn K cd29 "paper_of" = true) (k29 : PySem.W.keepIn K (.ref f29) = true)
    (a30 : PySem.W.nsIn K mainGlobals "fewest" = some (some (.ref f30))) (l30 : K.lookup f30 = some ⟨oc30, od30, .func (PySem.W.fnOf "fewest" "fewest" (defArgs s_fewest) (defBody s_fewest) (defScope s_fewest) .none kV30 dc30 pm30 an30 cd30 ct30), sl30⟩) (c30 : PySem.W.codeIn K cd30 "fewest" = true) (k30 : PySem.W.keepIn K (.ref f30) = true)
    (a31 : PySem.W.nsIn K mainGlobals "_law_mix" = some (some (.ref f31))) (l31 : K.lookup f31 = some ⟨oc31, od31, .func (PySem.W.fnOf "_law_mix" "_law_mix" (defArgs s_law_mix) (defBody s_law_mix) (defScope s_law_mix) .none kV31 dc31 pm31 an31 cd31 ct31), sl31⟩) (c31 : PySem.W.codeIn K cd31 "_law_mix" = true) (k31 : PySem.W.keepIn K (.ref f31) = true)
    (a32 : PySem.W.nsIn K mainGlobals "_law_left" = some (some (.ref f32))) (l32 : K.lookup f32 = some ⟨oc32, od32, .func (PySem.W.fnOf "_law_left" "_law_left" (defArgs s_law_left) (defBody s_law_left) (defScope s_law_left) .none kV32 dc32 pm32 an32 cd32 ct32), sl32⟩) (c32 : PySem.W.codeIn K cd32 "_law_left" = true) (k32 : PySem.W.keepIn K (.ref f32) = true)
    (a33 : PySem.W.nsIn K mainGlobals "_law_draw" = some (some (.ref f33))) (l33 : K.lookup f33 = some ⟨oc33, od33, .func (PySem.W.fnOf "_law_draw" "_law_draw" (defArgs s_law_draw) (defBody s_law_draw) (defScope s_law_draw) .none kV33 dc33 pm33 an33 cd33 ct33), sl33⟩) (c33 : PySem.W.codeIn K cd33 "_law_draw" = true) (k33 : PySem.W.keepIn K (.ref f33) = true)
    (a34 : PySem.W.nsIn K mainGlobals "_law_way" = some (some (.ref f34))) (l34 : K.lookup f34 = some ⟨oc34, od34, .func (PySem.W.fnOf "_law_way" "_law_way" (defArgs s_law_way) (defBody s_law_way) (defScope s_law_way) .none kV34 dc34 pm34 an34 cd34 ct34), sl34⟩) (c34 : PySem.W.codeIn K cd34 "_law_way" = true) (k34 : PySem.W.keepIn K (.ref f34) = true)
    (a35 : PySem.W.nsIn K mainGlobals "_law_ways" = some (some (.ref f35))) (l35 : K.lookup f35 = some ⟨oc35, od35, .func (PySem.W.fnOf "_law_ways" "_law_ways" (defArgs s_law_ways) (defBody s_law_ways) (defScope s_law_ways) .none kV35 dc35 pm35 an35 cd35 ct35), sl35⟩) (c35 : PySem.W.codeIn K cd35 "_law_ways" = true) (k35 : PySem.W.keepIn K (.ref f35) = true)
    (a36 : PySem.W.nsIn K mainGlobals "_law_least" = some (some (.ref f36))) (l36 : K.lookup f36 = some ⟨oc36, od36, .func (PySem.W.fnOf "_law_least" "_law_least" (defArgs s_law_least) (defBody s_law_least) (defScope s_law_least) .none kV36 dc36 pm36 an36 cd36 ct36), sl36⟩) (c36 : PySem.W.codeIn K cd36 "_law_least" = true) (k36 : PySem.W.keepIn K (.ref f36) = true)
    (a37 : PySem.W.nsIn K mainGlobals "_law_side" = some (some (.ref f37))) (l37 : K.lookup f37 = some ⟨oc37, od37, .func (PySem.W.fnOf "_law_side" "_law_side" (defArgs s_law_side) (defBody s_law_side) (defScope s_law_side) .none kV37 dc37 pm37 an37 cd37 ct37), sl37⟩) (c37 : PySem.W.codeIn K cd37 "_law_side" = true) (k37 : PySem.W.keepIn K (.ref f37) = true)
    (a38 : PySem.W.nsIn K mainGlobals "_law_within" = some (some (.ref f38))) (l38 : K.lookup f38 = some ⟨oc38, od38, .func (PySem.W.fnOf "_law_within" "_law_within" (defArgs s_law_within) (defBody s_law_within) (defScope s_law_within) .none kV38 dc38 pm38 an38 cd38 ct38), sl38⟩) (c38 : PySem.W.codeIn K cd38 "_law_within" = true) (k38 : PySem.W.keepIn K (.ref f38) = true)
    (a39 : PySem.W.nsIn K mainGlobals "_law_of_halves" = some (some (.ref f39))) (l39 : K.lookup f39 = some ⟨oc39, od39, .func (PySem.W.fnOf "_law_of_halves" "_law_of_halves" (defArgs s_law_of_halves) (defBody s_law_of_halves) (defScope s_law_of_halves) .none kV39 dc39 pm39 an39 cd39 ct39), sl39⟩) (c39 : PySem.W.codeIn K cd39 "_law_of_halves" = true) (k39 : PySem.W.keepIn K (.ref f39) = true)
    (a40 : PySem.W.nsIn K mainGlobals "_law_star" = some (some (.ref f40))) (l40 : K.lookup f40 = some ⟨oc40, od40, .func (PySem.W.fnOf "_law_star" "_law_star" (defArgs s_law_star) (defBody s_law_star) (defScope s_law_star) .none kV40 dc40 pm40 an40 cd40 ct40), sl40⟩) (c40 : PySem.W.codeIn K cd40 "_law_star" = true) (k40 : PySem.W.keepIn K (.ref f40) = true)
    (a41 : PySem.W.nsIn K mainGlobals "_law_from" = some (some (.ref f41))) (l41 : K.lookup f41 = some ⟨oc41, od41, .func (PySem.W.fnOf "_law_from" "_law_from" (defArgs s_law_from) (defBody s_law_from) (defScope s_law_from) .none kV41 dc41 pm41 an41 cd41 ct41), sl41⟩) (c41 : PySem.W.codeIn K cd41 "_law_from" = true) (k41 : PySem.W.keepIn K (.ref f41) = true)
    (a42 : PySem.W.nsIn K mainGlobals "_law_heads" = some (some (.ref f42))) (l42 : K.lookup f42 = some ⟨oc42, od42, .func (PySem.W.fnOf "_law_heads" "_law_heads" (defArgs s_law_heads) (defBody s_law_heads) (defScope s_law_heads) .none kV42 dc42 pm42 an42 cd42 ct42), sl42⟩) (c42 : PySem.W.codeIn K cd42 "_law_heads" = true) (k42 : PySem.W.keepIn K (.ref f42) = true)
    (a43 : PySem.W.nsIn K mainGlobals "_law_line" = some (some (.ref f43))) (l43 : K.lookup f43 = some ⟨oc43, od43, .func (PySem.W.fnOf "_law_line" "_law_line" (defArgs s_law_line) (defBody s_law_line) (defScope s_law_line) .none kV43 dc43 pm43 an43 cd43 ct43), sl43⟩) (c43 : PySem.W.codeIn K cd43 "_law_line" = true) (k43 : PySem.W.keepIn K (.ref f43) = true)
    (a44 : PySem.W.nsIn K mainGlobals "law" = some (some (.ref f44))) (l44 : K.lookup f44 = some ⟨oc44, od44, .func (PySem.W.fnOf "law" "law" (defArgs s_law) (defBody s_law) (defScope s_law) .none kV44 dc44 pm44 an44 cd44 ct44), sl44⟩) (c44 : PySem.W.codeIn K cd44 "law" = true) (k44 : PySem.W.keepIn K (.ref f44) = true)
    (e0 : PySem.W.nsIn K mainGlobals "MOST_PLACES" = some (some (.int 60 tk0)))
    (e1 : PySem.W.nsIn K mainGlobals "MOST_TIES" = some (some (.int 60 tk1)))
    (e2 : PySem.W.nsIn K mainGlobals "MOST_PAIRS" = some (some (.int 60 tk2)))
    (e3 : PySem.W.nsIn K mainGlobals "MOST_LOTS" = some (some (.int 12 tk3)))
    (e4 : PySem.W.nsIn K mainGlobals "MOST" = some (some (.int 12 tk4)))
    (z0 : PySem.W.nsIn K mainGlobals "dict" = some none)
    (z1 : PySem.W.nsIn K mainGlobals "int" = some none)
    (z2 : PySem.W.nsIn K mainGlobals "isinstance" = some none)
    (z3 : PySem.W.nsIn K mainGlobals "len" = some none)
    (z4 : PySem.W.nsIn K mainGlobals "list" = some none)
    (z5 : PySem.W.nsIn K mainGlobals "max" = some none)
    (z6 : PySem.W.nsIn K mainGlobals "min" = some none)
    (z7 : PySem.W.nsIn K mainGlobals "range" = some none)
    (z8 : PySem.W.nsIn K mainGlobals "set" = some none)
    (z9 : PySem.W.nsIn K mainGlobals "sorted" = some none)
    : ∃ fd : FuncData, (∀ (s : Shared) (v : Value), BindsTo s fd ⟨[v], []⟩ [("_law_script", v)]) ∧ ∀ base : Heap, K.In base → base.Ns mainGlobals mg → FnOk l.prog w K mg base CX0 21 fa fd ["_law_script"] (sp_law K) := by
  have e := hfa.symm.trans (PySem.W.mg_of X G a44)
  cases e
  have F0 := fun_mk (st := s_is_tree) l0 c0 k0
  have b0 := F0.binds (ps := ["parents"]) fun _ _ _ _ _ _ us hl => match us, hl with | [_], _ => rfl
  have F1 := fun_mk (st := s_look_net) l1 c1 k1
  have b1 := F1.binds (ps := ["net"]) fun _ _ _ _ _ _ us hl => match us, hl with | [_], _ => rfl
  have F2 := fun_mk (st := s_must_be_kind) l2 c2 k2
  have b2 := F2.binds (ps := ["net", "kind"]) fun _ _ _ _ _ _ us hl => match us, hl with | [_, _], _ => rfl
  have F3 := fun_mk (st := s_places_of) l3 c3 k3
  have b3 := F3.binds (ps := ["net"]) fun _ _ _ _ _ _ us hl => match us, hl with | [_], _ => rfl
  have F4 := fun_mk (st := s_ties_many) l4 c4 k4
  have b4 := F4.binds (ps := ["net"]) fun _ _ _ _ _ _ us hl => match us, hl with | [_], _ => rfl
  have F5 := fun_mk (st := s_is_way) l5 c5 k5
  have b5 := F5.binds (ps := ["net", "way"]) fun _ _ _ _ _ _ us hl => match us, hl with | [_, _], _ => rfl
  have F6 := fun_mk (st := s_ties_on) l6 c6 k6
  have b6 := F6.binds (ps := ["net", "way"]) fun _ _ _ _ _ _ us hl => match us, hl with | [_, _], _ => rfl
  have F7 := fun_mk (st := s_must_be_ways) l7 c7 k7
  have b7 := F7.binds (ps := ["net", "ways"]) fun _ _ _ _ _ _ us hl => match us, hl with | [_, _], _ => rfl
  have F8 := fun_mk (st := s_look_ways) l8 c8 k8
  have b8 := F8.binds (ps := ["net", "ways"]) fun _ _ _ _ _ _ us hl => match us, hl with | [_, _], _ => rfl
  have F9 := fun_mk (st := s_counted) l9 c9 k9
  have b9 := F9.binds (ps := ["net", "ways"]) fun _ _ _ _ _ _ us hl => match us, hl with | [_, _], _ => rfl
  have F10 := fun_mk (st := s_loads) l10 c10 k10
  have b10 := F10.binds (ps := ["net", "ways"]) fun _ _ _ _ _ _ us hl => match us, hl with | [_, _], _ => rfl
  have F11 := fun_mk (st := s_load) l11 c11 k11
  have b11 := F11.binds (ps := ["net", "ways"]) fun _ _ _ _ _ _ us hl => match us, hl with | [_, _], _ => rfl
  have F12 := fun_mk (st := s_have_common) l12 c12 k12
  have b12 := F12.binds (ps := ["one", "other"]) fun _ _ _ _ _ _ us hl => match us, hl with | [_, _], _ => rfl
  have F13 := fun_mk (st := s_meetings) l13 c13 k13
  have b13 := F13.binds (ps := ["net", "ways"]) fun _ _ _ _ _ _ us hl => match us, hl with | [_, _], _ => rfl
  have F14 := fun_mk (st := s_look_few) l14 c14 k14
  have b14 := F14.binds (ps := ["net", "ways", "most"]) fun _ _ _ _ _ _ us hl => match us, hl with | [_, _, _], _ => rfl
  have F15 := fun_mk (st := s_options) l15 c15 k15
  have b15 := F15.binds (ps := ["h", "given"]) fun _ _ _ _ _ _ us hl => match us, hl with | [_, _], _ => rfl
  have F16 := fun_mk (st := s_is_stuck) l16 c16 k16
  have b16 := F16.binds (ps := ["meets", "given", "k", "hue"]) fun _ _ _ _ _ _ us hl => match us, hl with | [_, _, _, _], _ => rfl
  have F17 := fun_mk (st := s_with_hue) l17 c17 k17
  have b17 := F17.binds (ps := ["given", "k", "hue"]) fun _ _ _ _ _ _ us hl => match us, hl with | [_, _, _], _ => rfl
  have F18 := fun_mk (st := s_hardest_way) l18 c18 k18
  have b18 := F18.binds (ps := ["meets", "given"]) fun _ _ _ _ _ _ us hl => match us, hl with | [_, _], _ => rfl
  have F19 := fun_mk (st := s_gone_into) l19 c19 k19
  have b19 := F19.binds (ps := ["meets", "h", "given"]) fun _ _ _ _ _ _ us hl => match us, hl with | [_, _, _], _ => rfl
  have F20 := fun_mk (st := s_must_be_crossing) l20 c20 k20
  have b20 := F20.binds (ps := ["crossing"]) fun _ _ _ _ _ _ us hl => match us, hl with | [_], _ => rfl
  have F21 := fun_mk (st := s_load_at) l21 c21 k21
  have b21 := F21.binds (ps := ["crossing"]) fun _ _ _ _ _ _ us hl => match us, hl with | [_], _ => rfl
  have F22 := fun_mk (st := s_bound_of) l22 c22 k22
  have b22 := F22.binds (ps := ["crossing", "lot"]) fun _ _ _ _ _ _ us hl => match us, hl with | [_, _], _ => rfl
  have F23 := fun_mk (st := s_lots_of) l23 c23 k23
  have b23 := F23.binds (ps := ["many", "size", "least"]) fun _ _ _ _ _ _ us hl => match us, hl with | [_, _, _], _ => rfl
  have F24 := fun_mk (st := s_best_lot) l24 c24 k24
  have b24 := F24.binds (ps := ["crossing"]) fun _ _ _ _ _ _ us hl => match us, hl with | [_], _ => rfl
  have F25 := fun_mk (st := s_ties_at) l25 c25 k25
  have b25 := F25.binds (ps := ["net", "place"]) fun _ _ _ _ _ _ us hl => match us, hl with | [_, _], _ => rfl
  have F26 := fun_mk (st := s_crossing_of) l26 c26 k26
  have b26 := F26.binds (ps := ["net", "ways", "place"]) fun _ _ _ _ _ _ us hl => match us, hl with | [_, _, _], _ => rfl
  have F27 := fun_mk (st := s_crossing_at) l27 c27 k27
  have b27 := F27.binds (ps := ["net", "ways", "place"]) fun _ _ _ _ _ _ us hl => match us, hl with | [_, _, _], _ => rfl
  have F28 := fun_mk (st := s_lot_paper) l28 c28 k28
  have b28 := F28.binds (ps := ["net", "ways", "h"]) fun _ _ _ _ _ _ us hl => match us, hl with | [_, _, _], _ => rfl
  have F29 := fun_mk (st := s_paper_of) l29 c29 k29
  have b29 := F29.binds (ps := ["net", "ways", "h", "case"]) fun _ _ _ _ _ _ us hl => match us, hl with | [_, _, _, _], _ => rfl
  have F30 := fun_mk (st := s_fewest) l30 c30 k30
  have b30 := F30.binds (ps := ["net", "ways"]) fun _ _ _ _ _ _ us hl => match us, hl with | [_, _], _ => rfl
  have F31 := fun_mk (st := s_law_mix) l31 c31 k31
  have b31 := F31.binds (ps := ["_law_number", "_law_k"]) fun _ _ _ _ _ _ us hl => match us, hl with | [_, _], _ => rfl
  have F32 := fun_mk (st := s_law_left) l32 c32 k32
  have b32 := F32.binds (ps := ["_law_cell"]) fun _ _ _ _ _ _ us hl => match us, hl with | [_], _ => rfl
  have F33 := fun_mk (st := s_law_draw) l33 c33 k33
  have b33 := F33.binds (ps := ["_law_left_here", "_law_base"]) fun _ _ _ _ _ _ us hl => match us, hl with | [_, _], _ => rfl
  have F34 := fun_mk (st := s_law_way) l34 c34 k34
  have b34 := F34.binds (ps := ["_law_left_here", "_law_many"]) fun _ _ _ _ _ _ us hl => match us, hl with | [_, _], _ => rfl
  have F35 := fun_mk (st := s_law_ways) l35 c35 k35
  have b35 := F35.binds (ps := ["_law_left_here", "_law_many"]) fun _ _ _ _ _ _ us hl => match us, hl with | [_, _], _ => rfl
  have F36 := fun_mk (st := s_law_least) l36 c36 k36
  have b36 := F36.binds (ps := ["_law_net", "_law_ways_here"]) fun _ _ _ _ _ _ us hl => match us, hl with | [_, _], _ => rfl
  have F37 := fun_mk (st := s_law_side) l37 c37 k37
  have b37 := F37.binds (ps := ["_law_parents", "_law_ways_here", "_law_keep", "_law_hang"]) fun _ _ _ _ _ _ us hl => match us, hl with | [_, _, _, _], _ => rfl
  have F38 := fun_mk (st := s_law_within) l38 c38 k38
  have b38 := F38.binds (ps := ["_law_parents", "_law_cut"]) fun _ _ _ _ _ _ us hl => match us, hl with | [_, _], _ => rfl
  have F39 := fun_mk (st := s_law_of_halves) l39 c39 k39
  have b39 := F39.binds (ps := ["_law_parents", "_law_ways_here", "_law_cut"]) fun _ _ _ _ _ _ us hl => match us, hl with | [_, _, _], _ => rfl
  have F40 := fun_mk (st := s_law_star) l40 c40 k40
  have b40 := F40.binds (ps := ["_law_net", "_law_ways_here", "_law_place"]) fun _ _ _ _ _ _ us hl => match us, hl with | [_, _, _], _ => rfl
  have F41 := fun_mk (st := s_law_from) l41 c41 k41
  have b41 := F41.binds (ps := ["_law_parents", "_law_ways_here", "_law_first"]) fun _ _ _ _ _ _ us hl => match us, hl with | [_, _, _], _ => rfl
  have F42 := fun_mk (st := s_law_heads) l42 c42 k42
  have b42 := F42.binds (ps := ["_law_net", "_law_ways_here"]) fun _ _ _ _ _ _ us hl => match us, hl with | [_, _], _ => rfl
  have F43 := fun_mk (st := s_law_line) l43 c43 k43
  have b43 := F43.binds (ps := ["_law_left_here"]) fun _ _ _ _ _ _ us hl => match us, hl with | [_], _ => rfl
  have F44 := fun_mk (st := s_law) l44 c44 k44
  have b44 := F44.binds (ps := ["_law_script"]) fun _ _ _ _ _ _ us hl => match us, hl with | [_], _ => rfl
  have T : Txt K mg ⟨f0, _, f1, _, f2, _, f3, _, f4, _, f5, _, f6, _, f7, _, f8, _, f9, _, f10, _, f11, _, f12, _, f13, _, f14, _, f15, _, f16, _, f17, _, f18, _, f19, _, f20, _, f21, _, f22, _, f23, _, f24, _, f25, _, f26, _, f27, _, f28, _, f29, _, f30, _, f31, _, f32, _, f33, _, f34, _, f35, _, f36, _, f37, _, f38, _, f39, _, f40, _, f41, _, f42, _, f43, _, fa, _⟩ :=
    ⟨PySem.W.mg_of X G a0, F0, b0, PySem.W.mg_of X G a1, F1, b1, PySem.W.mg_of X G a2, F2, b2, PySem.W.mg_of X G a3, F3, b3, PySem.W.mg_of X G a4, F4, b4, PySem.W.mg_of X G a5, F5, b5, PySem.W.mg_of X G a6, F6, b6, PySem.W.mg_of X G a7, F7, b7, PySem.W.mg_of X G a8, F8, b8, PySem.W.mg_of X G a9, F9, b9, PySem.W.mg_of X G a10, F10, b10, PySem.W.mg_of X G a11, F11, b11, PySem.W.mg_of X G a12, F12, b12, PySem.W.mg_of X G a13, F13, b13, PySem.W.mg_of X G a14, F14, b14, PySem.W.mg_of X G a15, F15, b15, PySem.W.mg_of X G a16, F16, b16, PySem.W.mg_of X G a17, F17, b17, PySem.W.mg_of X G a18, F18, b18, PySem.W.mg_of X G a19, F19, b19, PySem.W.mg_of X G a20, F20, b20, PySem.W.mg_of X G a21, F21, b21, PySem.W.mg_of X G a22, F22, b22, PySem.W.mg_of X G a23, F23, b23, PySem.W.mg_of X G a24, F24, b24, PySem.W.mg_of X G a25, F25, b25, PySem.W.mg_of X G a26, F26, b26, PySem.W.mg_of X G a27, F27, b27, PySem.W.mg_of X G a28, F28, b28, PySem.W.mg_of X G a29, F29, b29, PySem.W.mg_of X G a30, F30, b30, PySem.W.mg_of X G a31, F31, b31, PySem.W.mg_of X G a32, F32, b32, PySem.W.mg_of X G a33, F33, b33, PySem.W.mg_of X G a34, F34, b34, PySem.W.mg_of X G a35, F35, b35, PySem.W.mg_of X G a36, F36, b36, PySem.W.mg_of X G a37, F37, b37, PySem.W.mg_of X G a38, F38, b38, PySem.W.mg_of X G a39, F39, b39, PySem.W.mg_of X G a40, F40, b40, PySem.W.mg_of X G a41, F41, b41, PySem.W.mg_of X G a42, F42, b42, PySem.W.mg_of X G a43, F43, b43, PySem.W.mg_of X G a44, F44, b44, tok_mk (PySem.W.mg_of X G e0), tok_mk (PySem.W.mg_of X G e1), tok_mk (PySem.W.mg_of X G e2), tok_mk (PySem.W.mg_of X G e3), tok_mk (PySem.W.mg_of X G e4), PySem.W.mg_none_of X G z0, PySem.W.mg_none_of X G z1, PySem.W.mg_none_of X G z2, PySem.W.mg_none_of X G z3, PySem.W.mg_none_of X G z4, PySem.W.mg_none_of X G z5, PySem.W.mg_none_of X G z6, PySem.W.mg_none_of X G z7, PySem.W.mg_none_of X G z8, PySem.W.mg_none_of X G z9⟩
  exact ⟨_, fun s v => .of_eq rfl, fun base _ _ => ok_law T⟩
end Pf
open PySem PySem.W PyProof.Rows
set_option maxHeartbeats 0 in
theorem PySem.Challenge.cw_tiehues_k46_whole_trees_cut_and_starred_holds : PySem.Challenge.rw_tiehues_k46_whole_trees_cut_and_starred.Holds := by
  w_on; o_law; k_head; (case hw => w_witness2)
  k_fill
  refine L2.walk_ofK (l := PySem.Challenge.rw_tiehues_k46_whole_trees_cut_and_starred) (n := 63) (k := 21) (x := "_law_script") (CX := L2.CX0) (sp := Pf.sp_law) rfl (by decide) rfl ⟨rfl, by decide, by decide⟩ (fun w h Y => PySem.W.kIn_of Y) ?F (fun _ _ a ns hl _ hS => ⟨a, ns, rfl, hS, hl, fun _ => rfl⟩) (fun _ _ _ _ h => h)
  case F =>
    intro w mg fa h KX G hmg
    refine' Pf.all_mk KX G hmg ?a0 ?l0 ?c0 ?k0 ?a1 ?l1 ?c1 ?k1 ?a2 ?l2 ?c2 ?k2 ?a3 ?l3 ?c3 ?k3 ?a4 ?l4 ?c4 ?k4 ?a5 ?l5 ?c5 ?k5 ?a6 ?l6 ?c6 ?k6 ?a7 ?l7 ?c7 ?k7 ?a8 ?l8 ?c8 ?k8 ?a9 ?l9 ?c9 ?k9 ?a10 ?l10 ?c10 ?k10 ?a11 ?l11 ?c11 ?k11 ?a12 ?l12 ?c12 ?k12 ?a13 ?l13 ?c13 ?k13 ?a14 ?l14 ?c14 ?k14 ?a15 ?l15 ?c15 ?k15 ?a16 ?l16 ?c16 ?k16 ?a17 ?l17 ?c17 ?k17 ?a18 ?l18 ?c18 ?k18 ?a19 ?l19 ?c19 ?k19 ?a20 ?l20 ?c20 ?k20 ?a21 ?l21 ?c21 ?k21 ?a22 ?l22 ?c22 ?k22 ?a23 ?l23 ?c23 ?k23 ?a24 ?l24 ?c24 ?k24 ?a25 ?l25 ?c25 ?k25 ?a26 ?l26 ?c26 ?k26 ?a27 ?l27 ?c27 ?k27 ?a28 ?l28 ?c28 ?k28 ?a29 ?l29 ?c29 ?k29 ?a30 ?l30 ?c30 ?k30 ?a31 ?l31 ?c31 ?k31 ?a32 ?l32 ?c32 ?k32 ?a33 ?l33 ?c33 ?k33 ?a34 ?l34 ?c34 ?k34 ?a35 ?l35 ?c35 ?k35 ?a36 ?l36 ?c36 ?k36 ?a37 ?l37 ?c37 ?k37 ?a38 ?l38 ?c38 ?k38 ?a39 ?l39 ?c39 ?k39 ?a40 ?l40 ?c40 ?k40 ?a41 ?l41 ?c41 ?k41 ?a42 ?l42 ?c42 ?k42 ?a43 ?l43 ?c43 ?k43 ?a44 ?l44 ?c44 ?k44 ?e0 ?e1 ?e2 ?e3 ?e4 ?z0 ?z1 ?z2 ?z3 ?z4 ?z5 ?z6 ?z7 ?z8 ?z9
    (case a0 => k_is); (case l0 => k_is); (case c0 => k_is); (case k0 => k_is); (case a1 => k_is); (case l1 => k_is); (case c1 => k_is); (case k1 => k_is); (case a2 => k_is); (case l2 => k_is); (case c2 => k_is); (case k2 => k_is); (case a3 => k_is); (case l3 => k_is); (case c3 => k_is); (case k3 => k_is); (case a4 => k_is); (case l4 => k_is); (case c4 => k_is); (case k4 => k_is); (case a5 => k_is); (case l5 => k_is); (case c5 => k_is); (case k5 => k_is); (case a6 => k_is); (case l6 => k_is); (case c6 => k_is); (case k6 => k_is); (case a7 => k_is); (case l7 => k_is); (case c7 => k_is); (case k7 => k_is); (case a8 => k_is); (case l8 => k_is); (case c8 => k_is); (case k8 => k_is); (case a9 => k_is); (case l9 => k_is); (case c9 => k_is); (case k9 => k_is); (case a10 => k_is); (case l10 => k_is); (case c10 => k_is); (case k10 => k_is); (case a11 => k_is); (case l11 => k_is); (case c11 => k_is); (case k11 => k_is); (case a12 => k_is); (case l12 => k_is); (case c12 => k_is); (case k12 => k_is); (case a13 => k_is); (case l13 => k_is); (case c13 => k_is); (case k13 => k_is); (case a14 => k_is); (case l14 => k_is); (case c14 => k_is); (case k14 => k_is); (case a15 => k_is); (case l15 => k_is); (case c15 => k_is); (case k15 => k_is); (case a16 => k_is); (case l16 => k_is); (case c16 => k_is); (case k16 => k_is); (case a17 => k_is); (case l17 => k_is); (case c17 => k_is); (case k17 => k_is); (case a18 => k_is); (case l18 => k_is); (case c18 => k_is); (case k18 => k_is); (case a19 => k_is); (case l19 => k_is); (case c19 => k_is); (case k19 => k_is); (case a20 => k_is); (case l20 => k_is); (case c20 => k_is); (case k20 => k_is); (case a21 => k_is); (case l21 => k_is); (case c21 => k_is); (case k21 => k_is); (case a22 => k_is); (case l22 => k_is); (case c22 => k_is); (case k22 => k_is); (case a23 => k_is); (case l23 => k_is); (case c23 => k_is); (case k23 => k_is); (case a24 => k_is); (case l24 => k_is); (case c24 => k_is); (case k24 => k_is); (case a25 => k_is); (case l25 => k_is); (case c25 => k_is); (case k25 => k_is); (case a26 => k_is); (case l26 => k_is); (case c26 => k_is); (case k26 => k_is); (case a27 => k_is); (case l27 => k_is); (case c27 => k_is); (case k27 => k_is); (case a28 => k_is); (case l28 => k_is); (case c28 => k_is); (case k28 => k_is); (case a29 => k_is); (case l29 => k_is); (case c29 => k_is); (case k29 => k_is); (case a30 => k_is); (case l30 => k_is); (case c30 => k_is); (case k30 => k_is); (case a31 => k_is); (case l31 => k_is); (case c31 => k_is); (case k31 => k_is); (case a32 => k_is); (case l32 => k_is); (case c32 => k_is); (case k32 => k_is); (case a33 => k_is); (case l33 => k_is); (case c33 => k_is); (case k33 => k_is); (case a34 => k_is); (case l34 => k_is); (case c34 => k_is); (case k34 => k_is); (case a35 => k_is); (case l35 => k_is); (case c35 => k_is); (case k35 => k_is); (case a36 => k_is); (case l36 => k_is); (case c36 => k_is); (case k36 => k_is); (case a37 => k_is); (case l37 => k_is); (case c37 => k_is); (case k37 => k_is); (case a38 => k_is); (case l38 => k_is); (case c38 => k_is); (case k38 => k_is); (case a39 => k_is); (case l39 => k_is); (case c39 => k_is); (case k39 => k_is); (case a40 => k_is); (case l40 => k_is); (case c40 => k_is); (case k40 => k_is); (case a41 => k_is); (case l41 => k_is); (case c41 => k_is); (case k41 => k_is); (case a42 => k_is); (case l42 => k_is); (case c42 => k_is); (case k42 => k_is); (case a43 => k_is); (case l43 => k_is); (case c43 => k_is); (case k43 => k_is); (case a44 => k_is); (case l44 => k_is); (case c44 => k_is); (case k44 => k_is); (case e0 => k_is); (case e1 => k_is); (case e2 => k_is); (case e3 => k_is); (case e4 => k_is); (case z0 => k_is); (case z1 => k_is); (case z2 => k_is); (case z3 => k_is); (case z4 => k_is); (case z5 => k_is); (case z6 => k_is); (case z7 => k_is); (case z8 => k_is); (case z9 => k_is)
